import PyProof.Rows.All
import Wide.All
import OpenK.AllK
import Wide.FinOn
import HandS.ForMost
import HandS.Walk
import HandS.Zip
import HandS.IsInst
import KE.GoesEnum
import HandS.DictComp
import HandS.Evl
import KE.DatumOrd
import HandS.Flow
import HandS.More
import HandS.Style
import HandS.Sort
import HandS.SortRule
import HandS.Conv
import HandS.Codes
import HandS.TupSets
import HandS.SetKeys
import HandS.Property
import PySem.Challenge.RW_leastjoined_k60_whole_far_losses
import KE.KStateDown
import HandS.Ends
import HandS.Defaults
import HandS.Head0
import HandS.Head1
import HandS.Head2
import HandS.HeadEnd
import HandS.HeadHook1
import HandS.HeadHook2
set_option Elab.async false
set_option linter.all false
set_option maxRecDepth 100000
set_option maxHeartbeats 2000000
/-! Rules of my own over the hand layer. -/
namespace LJ
open PySem PySem.Spec PyProof.Rows L2
/-- an expression that the proof never comes to -/
def tNeverE : TE := fun _ _ _ => False
theorem pe_never {X : Cx} {e : Expr} : PE X e tNeverE := ⟨fun _ _ _ _ _ _ h => h.elim⟩
/-! the same rules, the written part told (within a comprehension's block) -/
section
variable {X : Cx} {K : PySem.W.Frag} {e : Expr} {pos : Pos} {ta : TE}
theorem pe_fldK {f : Str} (hK : X.K = K) (he : PE X e ta) (hb : attributeBase e f X.env (eval e X.env) = eval e X.env) : PE X (.Attribute e f pos) (tFld K ta f) := by
  subst hK
  exact pe_fld he hb
theorem ix_listK (hK : X.K = K) : IxR X (rIxL K) := by
  subst hK
  exact ix_list
theorem ix_tupK (hK : X.K = K) : IxR X (rIxT K) := by
  subst hK
  exact ix_tup
theorem call_isiK1 (hK : X.K = K) : CallR X (.builtin "isinstance") (rIsi K) := by
  subst hK
  exact call_isi
theorem op_in_seqK (hK : X.K = K) : OpR X (compareOp .In) (rIn K false) := by
  subst hK
  exact op_in_seq
theorem pi_listK {tg l : Expr} {tl : TE} (hK : X.K = K) (h : PE X l tl) : PI X tg l (iList K tl) := by
  subst hK
  exact pi_list h
theorem pi_tupK {tg l : Expr} {tl : TE} (hK : X.K = K) (h : PE X l tl) : PI X tg l (iTup K tl) := by
  subst hK
  exact pi_tup h
def rTupOf (K : PySem.W.Frag) : List V → Hp → VK → Prop := fun xs H Q => ∃ p ys, xs = [.ref p] ∧ ((SqL K H p ys ∧ ∀ l, H l = none → Q (.ref l) (upd H l (.tup ys))) ∨ (SqT K H p ys ∧ Q (.ref p) H))
theorem call_tuple_ofK (hK : X.K = K) : CallR X (.type "tuple") (rTupOf K) := by
  subst hK
  exact call_tuple_of
theorem pg_tupK {es : List Expr} {k : Nat} {t : TGs} {n : Nat} (hK : X.K = K) (hc : X.calm = true) (h : PGs X es t)
    (hn : (assignEach es X.env).length = n := by rfl) (hst : (assignEach es X.env).findIdx? (·.1) = none := by rfl) : PG X (.Tuple es k pos) (gTup K n t) := by
  subst hK
  exact pg_tup hc h hn hst
def tTruth (K : PySem.W.Frag) (ta : TE) : TT := fun σ H Q => ta σ H fun x H' => ∃ k, TruV K x H' k ∧ Q k H'
theorem pt_truthK (hK : X.K = K) (ha : PE X e ta) (he : ∀ whole, isTrue e X.env whole = (do let v ← whole; standAt e.pos; holding [v] (truthy v))) : PT X e (tTruth K ta) := by
  subst hK
  exact pt_truth ha he
end
end LJ

set_option maxHeartbeats 4000000
/-! enumerate of a tuple, zip of a list with a tuple, max of a tuple, a name bound to a dict comprehension. -/
namespace LJ
open PySem PySem.Spec PyProof.Rows L2
open AutoSeq1 (wpAny_loadPart')
theorem meets_enumT (l : Addr) (vs : Array Value) (k : Nat) (dd : Option Addr) (sq : Array (Option Value)) :
    Meets (Builtin.«enumerate.__new__» ⟨[.type "enumerate", .ref l], []⟩) (fun _ R s => s.heap.get? l = some { cls := .type "tuple", dict := dd, data := .seq vs k, slots := sq } ∧
      R (.ok (.ret (.ref (s.heap.push { cls := .type "tuple_iterator", data := .fields #[.ref l, .int 0 0] }).objs.size)))
        { s with heap := (s.heap.push { cls := .type "tuple_iterator", data := .fields #[.ref l, .int 0 0] }).push { cls := .type "enumerate", data := .fields #[.none, .bool false, .ref s.heap.objs.size, rawInt 0, .none, .none] } }) :=
  .of_wp fun prog w A R s h => by
    obtain ⟨hq, gq, dq, tq, oq⟩ := s
    obtain ⟨el, h⟩ := h
    have sub := sub_enumerate
    have tT : Heap.IsTuple (Shared.heap ⟨hq, gq, dq, tq, oq⟩) l vs := ⟨_, el, rfl, k, rfl⟩
    wp_walk using wpAny_loadPart' el
    refine wpAny_stack_any fun st => wpAny_pure ?_
    split
    · rename_i c _ _ _ _ _
      cases (c == Value.type "enumerate")
      · wp_walk using wpAny_loadPart' el, wpAny_pyIter_tuple tT
        exact ⟨_, rfl, h⟩
      · wp_walk using wpAny_loadPart' el, wpAny_pyIter_tuple tT
        exact ⟨_, rfl, h⟩
    · wp_walk using wpAny_loadPart' el, wpAny_pyIter_tuple tT
      exact ⟨_, rfl, h⟩
section
variable {prog : Program} {w : World} {A : Around} {E : Value → Shared → Prop} {s : Shared}
theorem call_enumT {l : Addr} {vs : Array Value} {Q : Value → Shared → Prop} (hT : s.heap.IsTuple l vs)
    (h : ∀ h', IsEnum h' (s.heap.objs.size + 1) s.heap.objs.size 0 .none → h'.IsTupleIter s.heap.objs.size l 0 →
      (∀ b o, s.heap.get? b = some o → h'.get? b = some o) → Q (.ref (s.heap.objs.size + 1)) { s with heap := h' }) :
    wpAny (model prog w) A (call (.type "enumerate") [.ref l]) Q E s := by
  obtain ⟨⟨c, dd, dt, sq⟩, el, hc, k, hd⟩ := hT
  replace hc : c = .type "tuple" := hc
  replace hd : dt = .seq vs k := hd
  subst hc hd
  refine callType_new F.called_enumerate (by decide) (F.typeCall_enumerate_1 _) (F.newCall_enumerate_1 _) (fun ob => F.args_object_init_2 ob _) F.entry_enumerate_new
    (meets_enumT l vs k dd sq) ⟨el, ?_⟩
  have z1 : (s.heap.push { cls := .type "tuple_iterator", data := .fields #[.ref l, .int 0 0] }).objs.size = s.heap.objs.size + 1 := Heap.size_push ..
  show _ ∧ _
  rw [z1]
  have e1 := Heap.get?_push_size (s.heap.push { cls := .type "tuple_iterator", data := .fields #[.ref l, .int 0 0] })
    (o := { cls := .type "enumerate", data := .fields #[.none, .bool false, .ref s.heap.objs.size, rawInt 0, .none, .none] }) rfl
  rw [z1] at e1
  exact ⟨⟨_, e1, rfl⟩, h _ e1 ⟨_, Heap.get?_push_of_some _ (Heap.get?_push_size _ rfl), rfl, rfl⟩ fun b o x => Heap.get?_push_of_some _ (Heap.get?_push_of_some _ x)⟩
end
/-! ### enumerate(tuple) -/
def IteT (K : PySem.W.Frag) (a : Addr) : It :=
  ⟨fun i H => ∃ (xs : List V) (x : V), SqT K H a xs ∧ xs[i]? = some x,
   fun i H v H' => ∃ T x, v = .ref T ∧ H T = none ∧ H' = upd H T (.tup [.int (i : Nat), x]) ∧ ∀ xs, SqT K H a xs → xs[i]? = some x,
   fun i H => ∃ xs : List V, SqT K H a xs ∧ i = xs.length⟩
theorem turn_enumT {P : Program} {w : World} {K : PySem.W.Frag} {elts : List Expr} {kk : Nat} {tpos : Pos} (a e it : Addr) :
    Turn P w K (.Tuple elts kk tpos) (IteT K a) [e, it] e (fun i h => (∃ old, IsEnum h e it ((i : Nat) : Int) old) ∧ h.IsTupleIter it a i ∧ e ≠ it ∧ e ≠ a ∧ a ≠ it) where
  mem := by simp
  obj := fun i h st b hb => by
    obtain ⟨⟨old, he⟩, ⟨o, ho, hc, hd⟩, _⟩ := st
    have cs : b = e ∨ b = it := by simpa using hb
    rcases cs with z | z
    · rw [z]
      exact ⟨_, he, fun v q => nomatch q⟩
    · rw [z]
      exact ⟨o, ho, fun v q => by rw [hd] at q; cases q⟩
  keep := fun i h h' st k => by
    obtain ⟨⟨old, he⟩, ⟨o, ho, r⟩, n3⟩ := st
    exact ⟨⟨old, k e (by simp) _ he⟩, ⟨o, k it (by simp) _ ho, r⟩, n3⟩
  item := by
    intro X hP hw hK hc i pins s σ H E I hf st hg
    subst hP hw hK
    obtain ⟨⟨old, he⟩, hit, n1, n2, n3⟩ := st
    obtain ⟨xs, x, hq, hx⟩ := hg
    obtain ⟨its, rv, p, _⟩ := I.tuple hq
    obtain ⟨u, hu, ru⟩ := rv.get hx
    have lte : e < s.heap.objs.size := Heap.lt_size he
    have lti : it < s.heap.objs.size := by
      obtain ⟨_, q, _⟩ := hit
      exact Heap.lt_size q
    have hlt : i < its.toArray.size := by
      have q := (List.getElem?_eq_some_iff.mp hu).1
      simpa using q
    have Dr : Draws X.prog X.w X.A.in1 it [it, a] its.toArray.size (fun i v => its.toArray[i]? = some v) (fun i h => h.IsTupleIter it a i ∧ h.IsTuple a its.toArray) := Draws.tuple (A := X.A.in1) (show X.A.in1.handled = none from I.ok.hd hc) it a n3 its.toArray
    refine wpAny_pyNext_enum_itemD (old := old) Dr he ⟨hit, p⟩ hlt n1 (by simp [n1, n2]) fun x' h' tk hP ho st' hT hsz hk => ?_
    have ex : x' = u := by
      have q1 : its[i]? = some x' := by simpa using hP
      rw [hu] at q1
      exact (Option.some.inj q1).symm
    subst ex
    refine ⟨_, rfl, wpAny_letOwnedTupleGo_enum (s := { s with heap := h', toks := tk + 1 }) ho fun h'' he' sb => ?_⟩
    have hT2 : h''.get? s.heap.objs.size = some { cls := .type "tuple", data := .seq #[.int i tk, x'] } := (sb.2 _ (Nat.ne_of_gt lte)).trans hT
    have nw : ObjOk X.prog X.w (upd H s.heap.objs.size (.tup [.int (i : Nat), x])) h'' s.heap.objs.size (.tup [.int (i : Nat), x]) :=
      ⟨by show 2 ≤ sizeLine; decide, [.int i tk, x'], .cons ⟨_, rfl⟩ (.cons ru .nil), ⟨_, hT2, rfl, _, rfl⟩⟩
    have I1 : Inv X pins σ (upd H s.heap.objs.size (.tup [.int (i : Nat), x])) { s with heap := h'', toks := tk + 1 } :=
      I.turnedNew (ch := [e, it]) (fun b ob hb q => (sb.2 b (fun z => hb (by simp [z]))).trans (hk b ob (fun z => hb (by simp [z])) (fun z => hb (by simp [z])) q)) hf (Nat.le_refl _) nw
    refine ⟨.ref s.heap.objs.size, _, I1, rfl, ⟨_, x, rfl, I.hok.fresh (Nat.le_refl _), rfl, fun ys hy => by rw [I.tuple_inj hy hq]; exact hx⟩, ⟨⟨x', ?_⟩, ?_, n1, n2, n3⟩, fun b hb => ?_⟩
    · have e1 : ((i + 1 : Nat) : Int) = (i : Int) + 1 := by omega
      rw [e1]
      exact he'
    · obtain ⟨o, e1, r⟩ := st'.1
      exact ⟨o, (sb.2 it (Ne.symm n1)).trans e1, r⟩
    · have ltb : b < s.heap.objs.size := by
        have cs : b = e ∨ b = it := by simpa using hb
        rcases cs with z | z
        · rw [z]; exact lte
        · rw [z]; exact lti
      rw [upd_ne (Nat.ne_of_lt ltb)]
      exact (hf b hb).1
  done := by
    intro X hP hw hK hc i pins s σ H E I hf st hg
    subst hP hw hK
    obtain ⟨⟨old, he⟩, hit, n1, n2, n3⟩ := st
    obtain ⟨xs, hq, hx⟩ := hg
    obtain ⟨its, rv, p, _⟩ := I.tuple hq
    obtain ⟨f0, f1, f2, f3, f4, f5⟩ := hf it (by simp)
    have hl := rv.length
    have ei : i = its.toArray.size := by rw [hx, hl]; simp
    have Dr : Draws X.prog X.w X.A.in1 it [it, a] its.toArray.size (fun i v => its.toArray[i]? = some v) (fun i h => h.IsTupleIter it a i ∧ h.IsTuple a its.toArray) := Draws.tuple (A := X.A.in1) (show X.A.in1.handled = none from I.ok.hd hc) it a n3 its.toArray
    rw [ei] at hit
    exact wpAny_pyNext_enum_endD Dr he ⟨hit, p⟩ fun h' eb => ⟨rfl, I.turned (t' := s.toks) (fun b o hb q => eb b o hb q) f0 f1 f3 f4 f5⟩
  self := fun A i s Q E st h => by
    obtain ⟨⟨_, he⟩, _⟩ := st
    exact wpAny_pyIter_enum he h
def iEnumT (K : PySem.W.Frag) (ta : TA) : TI := fun σ H R => ta σ H fun vs H1 => ∃ a xs, vs = [.ref a] ∧ SqT K H1 a xs ∧ R (IteT K a) H1
theorem pi_enumT {X : Cx} {e : Expr} {ta : TA} {p pos tpos : Pos} {elts : List Expr} {kk : Nat} (hg : Gl X "enumerate") (hm : X.mg "enumerate" = none) (ha : PA X [e] ta) (hs : starEach [e] X.env = [(false, eval e X.env)] := by rfl) :
    PI X (.Tuple elts kk tpos) (.Call (.Name "enumerate" p) [e] [] pos) (iEnumT X.K ta) := by
  refine ⟨fun pins s σ H R I h => ?_⟩
  refine Call_ (ld_blt I hg hm boot_enumerate (PyProof.Rows.callWith_type1 (thn (ha.run pos pins s σ H _ I h) fun us s1 ⟨vs, H1, I1, r1, q1⟩ => ?_) hs rfl))
  obtain ⟨a, xs, ex, hq, q⟩ := q1
  subst ex
  cases r1 with
  | cons r rr =>
    cases rr
    cases r
    obtain ⟨its, rv, p', _⟩ := I1.tuple hq
    have la : a < s1.heap.objs.size := p'.lt
    refine call_enumT p' fun h' he hit hk => wpAny_pyIter_enum he ?_
    have I2 : Inv X pins σ H1 { s1 with heap := h' } := I1.kept (t' := s1.toks) hk
    refine ⟨s1.heap.objs.size + 1, [s1.heap.objs.size + 1, s1.heap.objs.size], _, _, H1, rfl, I2, turn_enumT a (s1.heap.objs.size + 1) s1.heap.objs.size,
      ⟨⟨.none, he⟩, hit, Nat.succ_ne_self _, Nat.ne_of_gt (Nat.lt_succ_of_lt la), Nat.ne_of_lt la⟩, fun b hb => ?_, q⟩
    have cs : b = s1.heap.objs.size + 1 ∨ b = s1.heap.objs.size := by simpa using hb
    have ge : s1.heap.objs.size ≤ b := by
      rcases cs with z | z
      · rw [z]; exact Nat.le_add_right _ _
      · rw [z]; exact Nat.le_refl _
    exact I1.fpOk ge (I1.hok.fresh ge)
theorem walk_enumT {K : PySem.W.Frag} {a : Addr} {xs : List V} : Walk (IteT K a) xs.length (fun H => SqT K H a xs) (YPair (fun i => some (.int (i : Nat))) (fun i => xs[i]?)) := by
  refine ⟨fun i _ hi q => ⟨xs, xs[i], q, by simp [hi]⟩, fun _ q => ⟨xs, q, rfl⟩, fun i H v H' _ q y => ?_⟩
  obtain ⟨T, x, h1, h2, h3, h4⟩ := y
  exact ⟨T, .int (i : Nat), x, h1, h2, h3, rfl, h4 xs q⟩
/-! ### zip(list, tuple) -/
def ItzL (K : PySem.W.Frag) (a b : Addr) : It :=
  ⟨fun i H => ∃ (xs ys : List V) (x y : V), SqL K H a xs ∧ SqT K H b ys ∧ xs[i]? = some x ∧ ys[i]? = some y,
    fun i H v H' => ∃ T x y, v = .ref T ∧ H T = none ∧ H' = upd H T (.tup [x, y]) ∧ (∀ xs, SqL K H a xs → xs[i]? = some x) ∧ ∀ ys, SqT K H b ys → ys[i]? = some y,
    fun i H => ∃ xs ys : List V, SqL K H a xs ∧ SqT K H b ys ∧ i = xs.length ∧ i = ys.length⟩
theorem turn_zipL {P : Program} {w : World} {K : PySem.W.Frag} {elts : List Expr} {kk : Nat} {tpos : Pos} {a b z TI TO i1 i2 : Addr} (D : ZipSep2 z TI TO i1 i2 [i1, a] [i2, b]) (na : a ≠ i1) (nb : b ≠ i2) :
    Turn P w K (.Tuple elts kk tpos) (ItzL K a b) [z, TI, TO, i1, i2] z (fun i h => IsZip h z TI TO .none ∧ IsTupOf2 h TI (.ref i1) (.ref i2) ∧ (∃ x y, IsTupOf2 h TO x y) ∧ h.IsListIter i1 a i ∧ h.IsTupleIter i2 b i) where
  mem := by simp
  obj := fun i h st c hc => by
    obtain ⟨hz, hTI, ⟨x, y, hTO⟩, ⟨o1, e1, _, d1⟩, ⟨o2, e2, _, d2⟩⟩ := st
    have cs : c = z ∨ c = TI ∨ c = TO ∨ c = i1 ∨ c = i2 := by simpa using hc
    rcases cs with q | q | q | q | q
    · rw [q]
      exact ⟨_, hz, fun v q => nomatch q⟩
    · rw [q]
      exact ⟨_, hTI, fun v q => nomatch q⟩
    · rw [q]
      exact ⟨_, hTO, fun v q => nomatch q⟩
    · rw [q]
      exact ⟨o1, e1, fun v q => by rw [d1] at q; cases q⟩
    · rw [q]
      exact ⟨o2, e2, fun v q => by rw [d2] at q; cases q⟩
  keep := fun i h h' st k => by
    obtain ⟨hz, hTI, ⟨x, y, hTO⟩, ⟨o1, e1, r1⟩, ⟨o2, e2, r2⟩⟩ := st
    exact ⟨k z (by simp) _ hz, k TI (by simp) _ hTI, ⟨x, y, k TO (by simp) _ hTO⟩, ⟨o1, k i1 (by simp) _ e1, r1⟩, ⟨o2, k i2 (by simp) _ e2, r2⟩⟩
  item := by
    intro X hP hw hK hc i pins s σ H E I hf st hg
    subst hP hw hK
    obtain ⟨hz, hTI, ⟨x0, y0, hTO⟩, h1, h2⟩ := st
    obtain ⟨xs, ys, x, y, hqx, hqy, hx, hy⟩ := hg
    obtain ⟨its, rv, p, _⟩ := I.list hqx
    obtain ⟨its2, rv2, p2, _⟩ := I.tuple hqy
    obtain ⟨u, hu, ru⟩ := rv.get hx
    obtain ⟨u2, hu2, ru2⟩ := rv2.get hy
    have ltz : z < s.heap.objs.size := Heap.lt_size hz
    have lt1 : i < its.toArray.size := by simpa using (List.getElem?_eq_some_iff.mp hu).1
    have lt2 : i < its2.toArray.size := by simpa using (List.getElem?_eq_some_iff.mp hu2).1
    have D1 : Draws X.prog X.w X.A.in1 i1 [i1, a] its.toArray.size (fun i v => its.toArray[i]? = some v) (fun i h => h.IsListIter i1 a i ∧ h.IsList a its.toArray) := Draws.list (A := X.A.in1) (show X.A.in1.handled = none from I.ok.hd hc) i1 a na its.toArray
    have D2 : Draws X.prog X.w X.A.in1 i2 [i2, b] its2.toArray.size (fun i v => its2.toArray[i]? = some v) (fun i h => h.IsTupleIter i2 b i ∧ h.IsTuple b its2.toArray) := Draws.tuple (A := X.A.in1) (show X.A.in1.handled = none from I.ok.hd hc) i2 b nb its2.toArray
    refine wpAny_pyNext_zipD2_item D D1 D2 hz hTI hTO ⟨h1, p.isList⟩ ⟨h2, p2⟩ lt1 lt2 fun v1 v2 h' tk P1 P2 z' TO' s1' s2' hT hsz hk => ?_
    have ev1 : v1 = u := by
      have q1 : its[i]? = some v1 := by simpa using P1
      rw [hu] at q1
      exact (Option.some.inj q1).symm
    have ev2 : v2 = u2 := by
      have q1 : its2[i]? = some v2 := by simpa using P2
      rw [hu2] at q1
      exact (Option.some.inj q1).symm
    subst ev1 ev2
    refine ⟨_, rfl, wpAny_letOwnedTupleGo_zip (s := { s with heap := h', toks := tk }) z' fun h'' z'' sb => ?_⟩
    have hT2 : h''.get? s.heap.objs.size = some { cls := .type "tuple", data := .seq #[v1, v2] } := (sb.2 _ (Nat.ne_of_gt ltz)).trans hT
    have nw : ObjOk X.prog X.w (upd H s.heap.objs.size (.tup [x, y])) h'' s.heap.objs.size (.tup [x, y]) :=
      ⟨by show 2 ≤ sizeLine; decide, [v1, v2], .cons ru (.cons ru2 .nil), ⟨_, hT2, rfl, _, rfl⟩⟩
    have I1 : Inv X pins σ (upd H s.heap.objs.size (.tup [x, y])) { s with heap := h'', toks := tk } :=
      I.turnedNew (t' := tk) (ch := [z, TI, TO, i1, i2]) (fun c o hb q => (sb.2 c (fun q' => hb (by simp [q']))).trans (hk c o (fun q' => hb (by simp [q'])) (fun q' => hb (by simp [q'])) (fun q' => hb (by simp [q'])) (fun q' => hb (by simp [q'])) q)) hf (Nat.le_refl _) nw
    refine ⟨.ref s.heap.objs.size, _, I1, rfl, ⟨_, x, y, rfl, I.hok.fresh (Nat.le_refl _), rfl, fun l hl => by rw [I.list_inj hl hqx]; exact hx, fun l hl => by rw [I.tuple_inj hl hqy]; exact hy⟩, ⟨z'', ?_, ⟨v1, v2, ?_⟩, ?_, ?_⟩, fun c hcm => ?_⟩
    · exact (sb.2 _ D.TIz).trans (hk _ _ D.TIz D.TITO D.TIi1 D.TIi2 hTI)
    · exact (sb.2 _ D.TOz).trans TO'
    · obtain ⟨o, e1, r⟩ := s1'.1
      exact ⟨o, (sb.2 _ (Ne.symm D.zi1)).trans e1, r⟩
    · obtain ⟨o, e1, r⟩ := s2'.1
      exact ⟨o, (sb.2 _ (Ne.symm D.zi2)).trans e1, r⟩
    · have ltc : c < s.heap.objs.size := by
        have cs : c = z ∨ c = TI ∨ c = TO ∨ c = i1 ∨ c = i2 := by simpa using hcm
        rcases cs with q | q | q | q | q
        · rw [q]; exact ltz
        · rw [q]; exact Heap.lt_size hTI
        · rw [q]; exact Heap.lt_size hTO
        · rw [q]; obtain ⟨_, e1, _⟩ := h1; exact Heap.lt_size e1
        · rw [q]; obtain ⟨_, e2, _⟩ := h2; exact Heap.lt_size e2
      rw [upd_ne (Nat.ne_of_lt ltc)]
      exact (hf c hcm).1
  done := by
    intro X hP hw hK hc i pins s σ H E I hf st hg
    subst hP hw hK
    obtain ⟨hz, hTI, ⟨x0, y0, hTO⟩, h1, h2⟩ := st
    obtain ⟨xs, ys, hqx, hqy, e1, e2⟩ := hg
    obtain ⟨its, rv, p, _⟩ := I.list hqx
    obtain ⟨its2, rv2, p2, _⟩ := I.tuple hqy
    have l1 := rv.length
    have l2 := rv2.length
    have D1 : Draws X.prog X.w X.A.in1 i1 [i1, a] its.toArray.size (fun i v => its.toArray[i]? = some v) (fun i h => h.IsListIter i1 a i ∧ h.IsList a its.toArray) := Draws.list (A := X.A.in1) (show X.A.in1.handled = none from I.ok.hd hc) i1 a na its.toArray
    have D2 : Draws X.prog X.w X.A.in1 i2 [i2, b] its2.toArray.size (fun i v => its2.toArray[i]? = some v) (fun i h => h.IsTupleIter i2 b i ∧ h.IsTuple b its2.toArray) := Draws.tuple (A := X.A.in1) (show X.A.in1.handled = none from I.ok.hd hc) i2 b nb its2.toArray
    exact wpAny_pyNext_zipD2_end D D1 D2 hz hTI hTO ⟨h1, p.isList⟩ ⟨h2, p2⟩ (by simp; omega) (by simp; omega) (.inl (by simp; omega)) fun h' tk hk => ⟨rfl, I.turnedL (t' := tk) (ch := [z, TI, TO, i1, i2]) (fun c o hb q =>
      hk c o (fun q' => hb (by simp [q'])) (fun q' => hb (by simp [q'])) (fun q' => hb (by simp [q'])) (fun q' => hb (by simp [q'])) q) hf⟩
  self := fun A i s Q E st h => wpAny_pyIter_zip st.1 h
def iZipL (K : PySem.W.Frag) (ta : TA) : TI := fun σ H R => ta σ H fun vs H1 => ∃ a b xs ys, vs = [.ref a, .ref b] ∧ SqL K H1 a xs ∧ SqT K H1 b ys ∧ R (ItzL K a b) H1
theorem pi_zipLT {X : Cx} {e e2 : Expr} {ta : TA} {p pos tpos : Pos} {elts : List Expr} {kk : Nat} (hg : Gl X "zip") (hm : X.mg "zip" = none) (ha : PA X [e, e2] ta)
    (st : starEach [e, e2] X.env = (false, eval e X.env) :: starEach [e2] X.env := by rfl) (pl : (backTo pos (starEach [e2] X.env)).any (·.1) = false := by rfl) :
    PI X (.Tuple elts kk tpos) (.Call (.Name "zip" p) [e, e2] [] pos) (iZipL X.K ta) := by
  refine ⟨fun pins s σ H R I h => ?_⟩
  refine Call_ (ld_blt I hg hm PyProof.Rows.boot_zip (PyProof.Rows.callWith_type1 (thn (ha.run pos pins s σ H _ I h) fun us s1 ⟨vs, H1, I1, r1, q1⟩ => ?_) st pl))
  obtain ⟨a, b, xs, ys, ex, hqx, hqy, q⟩ := q1
  subst ex
  obtain ⟨u1, u2, rfl, ra, rb⟩ := vals2 r1
  cases ra
  cases rb
  obtain ⟨its, rv, p1, _⟩ := I1.list hqx
  obtain ⟨its2, rv2, p2, _⟩ := I1.tuple hqy
  have la : a < s1.heap.objs.size := p1.lt
  have lb : b < s1.heap.objs.size := p2.lt
  refine zip_begins2 (begins_list a its.toArray) (begins_tuple b its2.toArray) p1.isList p2 fun h' hz hTI hTO h1 h2 hsz hk => wpAny_pyIter_zip hz ?_
  have I2 : Inv X pins σ H1 { s1 with heap := h' } := I1.kept (t' := s1.toks) hk
  have D : ZipSep2 (s1.heap.objs.size + 4) (s1.heap.objs.size + 2) (s1.heap.objs.size + 3) s1.heap.objs.size (s1.heap.objs.size + 1) [s1.heap.objs.size, a] [s1.heap.objs.size + 1, b] :=
    zip_sep2 (fp1 := [a]) (fp2 := [b]) (fun c hc => by rw [List.mem_singleton.mp hc]; exact la) (fun c hc => by rw [List.mem_singleton.mp hc]; exact lb)
  refine ⟨s1.heap.objs.size + 4, [s1.heap.objs.size + 4, s1.heap.objs.size + 2, s1.heap.objs.size + 3, s1.heap.objs.size, s1.heap.objs.size + 1], _, _, H1, rfl, I2,
    turn_zipL D (Nat.ne_of_lt la) (Nat.ne_of_lt (Nat.lt_succ_of_lt lb)), ⟨hz, hTI, ⟨_, _, hTO⟩, ⟨_, h1, rfl, rfl⟩, ⟨_, h2, rfl, rfl⟩⟩, fun c hcm => ?_, q⟩
  have ge : s1.heap.objs.size ≤ c := by
    have cs : c = s1.heap.objs.size + 4 ∨ c = s1.heap.objs.size + 2 ∨ c = s1.heap.objs.size + 3 ∨ c = s1.heap.objs.size ∨ c = s1.heap.objs.size + 1 := by simpa using hcm
    rcases cs with z | z | z | z | z
    · rw [z]; exact Nat.le_add_right _ _
    · rw [z]; exact Nat.le_add_right _ _
    · rw [z]; exact Nat.le_add_right _ _
    · rw [z]; exact Nat.le_refl _
    · rw [z]; exact Nat.le_add_right _ _
  exact I1.fpOk ge (I1.hok.fresh ge)
theorem walk_zipL {K : PySem.W.Frag} {a b : Addr} {xs ys : List V} (hn : xs.length = ys.length) : Walk (ItzL K a b) xs.length (fun H => SqL K H a xs ∧ SqT K H b ys) (YPair (fun i => xs[i]?) (fun i => ys[i]?)) := by
  refine ⟨fun i _ hi q => ⟨xs, ys, xs[i], ys[i]'(by omega), q.1, q.2, by simp [hi], by simp [show i < ys.length by omega]⟩, fun _ q => ⟨xs, ys, q.1, q.2, rfl, hn⟩, fun i H v H' _ q y => ?_⟩
  obtain ⟨T, x, z, h1, h2, h3, h4, h5⟩ := y
  exact ⟨T, x, z, h1, h2, h3, h4 xs q.1, h5 ys q.2⟩
/-! ### max of a tuple of ints -/
theorem reads_ints {h : Heap} : ∀ {ns : List Int} {us : List Value}, Vals (ns.map V.int) us → PySem.W.HoldAll (α := Int) h us ns
  | [], _, r => by
    cases r
    exact ⟨[], .nil⟩
  | n :: ns, _, r => by
    cases r with
    | cons r1 r2 =>
      obtain ⟨t, rfl⟩ := r1
      obtain ⟨as, q⟩ := reads_ints (h := h) r2
      exact ⟨[] ++ as, .cons (.int n t) q⟩
def rMaxT (K : PySem.W.Frag) : List V → Hp → VK → Prop := fun vs H Q => ∃ (a : Addr) (n : Int) (ns : List Int), vs = [V.ref a] ∧ SqT K H a ((n :: ns).map V.int) ∧ Q (.int (PySem.W.maxOf n ns)) H
theorem cr_maxT {X : Cx} (hc : X.calm = true) (hu : X.A.units + 64 < cLine) : CallR X (.builtin "max") (rMaxT X.K) := by
  intro pins s σ H vs us Q I r h
  obtain ⟨a, n, ns, rfl, hs, q⟩ := h
  obtain ⟨its, rv, hl, _⟩ := I.tuple hs
  rw [Vals.ref1 r]
  refine PySem.W.max_tuple_datum (α := Int) (x := n) (xs := ns) (vs := its.toArray) (I.ok.hd hc) hl (reads_ints rv) (Nat.lt_of_le_of_lt (by show X.A.units + 1 + 0 ≤ X.A.units + 64; omega) hu) fun i v h' tk hv hh hk => ?_
  have e1 : its[i]? = some v := by simpa using hv
  have lt1 : i < (n :: ns).length := by
    have q1 := (List.getElem?_eq_some_iff.mp e1).1
    have q2 := rv.length
    rw [List.length_map] at q2
    omega
  obtain ⟨u, hu2, ru⟩ := rv.get (x := V.int ((n :: ns)[i])) (i := i) (by rw [List.getElem?_map, List.getElem?_eq_getElem lt1]; rfl)
  rw [e1] at hu2
  cases hu2
  obtain ⟨t, rfl⟩ := ru
  obtain ⟨as, rd⟩ := hh
  have rd2 : Reads h' (.int ((n :: ns)[i]) t) (.int (PySem.W.maxOf n ns)) as := rd
  have key : ∀ k m : Int, Reads h' (.int k t) (.int m) as → k = m := fun k m r => by
    cases r
    rfl
  have em : (n :: ns)[i] = PySem.W.maxOf n ns := key _ _ rd2
  exact ⟨.int (PySem.W.maxOf n ns), H, I.kept hk, ⟨t, by rw [em]⟩, q⟩
/-! ### name = {k: v for ..} on one line, the name a local -/
theorem ps_setDc {X : Cx} {i : Nat} {y : Str} {py : Pos} {kx vx tg iter : Expr} {ifs : List Expr} {scope : Scope} {own : List (Str × Nat)} {pos spos : Pos} {wi : TI} {g : TG} {tt : TT} {tk tv : TE} (hc : X.calm = true) (hN : X.N.Nodup) (hy : X.N[i]? = some y)
    (yl : X.env.scope.names.lookup y = some .local) (sw : swapsWith (.DictComp kx vx [⟨tg, iter, ifs, 0⟩] scope pos) (some (.Name y py)) spos.line X.env = pure true) (hi : PI X tg iter wi) (ok : BlkOk X.N X.env.scope scope own)
    (pg : ∀ (s : Shared) (H : Hp) (C : Addr) (cl : List (Str × Addr)) (fp : List Addr), PG (X.blk s H scope (compEnvC scope cl C X.env) fp) tg g)
    (pt : ∀ (s : Shared) (H : Hp) (C : Addr) (cl : List (Str × Addr)) (fp : List Addr), PTs (X.blk s H scope (compEnvC scope cl C X.env) fp) ifs tt)
    (pk : ∀ (s : Shared) (H : Hp) (C : Addr) (cl : List (Str × Addr)) (fp : List Addr), PE (X.blk s H scope (compEnvC scope cl C X.env) fp) kx tk)
    (pv' : ∀ (s : Shared) (H : Hp) (C : Addr) (cl : List (Str × Addr)) (fp : List Addr), PE (X.blk s H scope (compEnvC scope cl C X.env) fp) vx tv) (fs : ∀ x, foldedSetIterable iter X.env x = pure x := by intro _; rfl) :
    PS X (.Assign [.Name y py] (.DictComp kx vx [⟨tg, iter, ifs, 0⟩] scope pos) spos) (tAsg (tDc wi g tt tk tv (own.map (·.2))) (gName i)) := by
  refine ⟨fun pins s σ H D I h => ?_⟩
  rw [exec_Assign_Name_used _ _ _ _ sw]
  refine wpAny_bind (wpAny_standAt (wpAny_bind ?_))
  show wpAny _ X.A (do let _ ← comprehension (.DictComp kx vx [⟨tg, iter, ifs, 0⟩] scope pos) scope X.env (firstIterPos [⟨tg, iter, ifs, 0⟩] pos) newDict false (eval iter X.env) (some (assign (.Name y py) X.env))) _ _ s
  have h2 : tDc wi g tt tk tv (own.map (·.2)) σ H (fun x H1 => gName i x σ H1 D.nx) := h
  refine wpAny_bind (thn (dc_core (Qf := fun _ s' => SP X pins D .next s') hc hN I hi ok pg pt pk pv' fs h2 fun L C s' m H' I' q hn f => ?_) fun _ s' hq => wpAny_pure (wpAny_pure hq))
  show wpAny _ _ (assign (.Name y py) X.env (.ref L)) _ _ _
  refine wpAny_assign_Name (store_ok2 (v := V.ref L) I' hN hy (.inl yl) rfl (fun s2 I2 ⟨a, sb, ha⟩ => ?_) (.inr yl))
  obtain ⟨f0, f1, f2, f3, f4, f5⟩ := f
  have hCa : C ≠ a := by
    rcases ha with z | z
    · rw [z]
      exact f1
    · exact fun e => f4 y a z e.symm
  refine ⟨m, hn.sameBut sb hCa, fun h3 sb3 => ?_⟩
  exact ⟨_, H', I2.turned (t' := s2.toks) (fun b o hb e => (sb3.2 b hb).trans e) f0 f1 f3 f4 f5, q⟩
theorem sw_trueD {kx vx : Expr} {gs : List Comprehension} {scope : Scope} {pos py : Pos} {y : Str} {l : Nat} {env : Env} (hk : env.scope.kind = .function) (hy : env.scope.names.lookup y = some .local) (hl : (py.line == pos.line) = true)
    (ha : (scope.names.any fun (n, k) => n == y && (k == .local || k == .cell)) = false) : swapsWith (.DictComp kx vx gs scope pos) (some (.Name y py)) l env = pure true := by
  have ky : env.kindOf y = some .local := hy
  have hb : env.blockKind = .function := by
    unfold Env.blockKind
    rw [hk]
    rfl
  unfold swapsWith
  simp only [hb, ky, ha, Expr.pos, hl]
  rfl
end LJ

/-! The text by places, its scopes, what the top leaves. -/
namespace LJ
open PySem PySem.Spec PyProof.Rows L2
def top (i : Nat) : Stmt := PySem.Challenge.pw_leastjoined_k60_whole_far_losses.main.body.getD i (.Pass ⟨0, 0, 0, 0⟩)
abbrev s_is_whole_codes : Stmt := top 19
theorem sc_is_whole_codes : FnScope ["value", "least"] ["value", "least"] (C8.fnScope s_is_whole_codes) := C8.fnScope_by (by decide +kernel)
abbrev s_two_to : Stmt := top 21
theorem sc_two_to : FnScope ["many", "found", "turn"] ["many"] (C8.fnScope s_two_to) := C8.fnScope_by (by decide +kernel)
abbrev s_check_signs : Stmt := top 22
theorem sc_check_signs : FnScope ["many"] ["many"] (C8.fnScope s_check_signs) := C8.fnScope_by (by decide +kernel)
abbrev s_check_counts : Stmt := top 23
theorem sc_check_counts : FnScope ["counts", "index", "count"] ["counts"] (C8.fnScope s_check_counts) := C8.fnScope_by (by decide +kernel)
abbrev s_bits_of : Stmt := top 24
theorem sc_bits_of : FnScope ["number", "size", "found", "turn"] ["number", "size"] (C8.fnScope s_bits_of) := C8.fnScope_by (by decide +kernel)
abbrev s_canonical : Stmt := top 25
theorem sc_canonical : FnScope ["lengths", "found", "number", "size", "length", "sign"] ["lengths"] (C8.fnScope s_canonical) := C8.fnScope_by (by decide +kernel)
abbrev s_Code_init : Stmt := inClass (top 28) 0
theorem sc_Code_init : FnScope ["self", "lengths", "words", "index", "length"] ["self", "lengths", "words"] (C8.fnScope s_Code_init) := C8.fnScope_by (by decide +kernel)
abbrev s_check_pair : Stmt := top 29
theorem sc_check_pair : FnScope ["code", "counts"] ["code", "counts"] (C8.fnScope s_check_pair) := C8.fnScope_by (by decide +kernel)
abbrev s_cost : Stmt := top 30
theorem sc_cost : FnScope ["code", "counts", "count", "length"] ["code", "counts"] (C8.fnScope s_cost) := C8.fnScope_by (by decide +kernel)
abbrev s_cost_of : Stmt := top 32
theorem sc_cost_of : FnScope ["counts", "signs", "made", "total", "at", "first", "turn", "weight", "part"] ["counts"] (C8.fnScope s_cost_of) := C8.fnScope_by (by decide +kernel)
abbrev s_check_code : Stmt := top 34
theorem sc_check_code : FnScope ["code", "counts"] ["code", "counts"] (C8.fnScope s_check_code) := C8.fnScope_by (by decide +kernel)
abbrev s_level_of : Stmt := top 35
theorem sc_level_of : FnScope ["code", "signs", "width", "level", "sign"] ["code", "signs"] (C8.fnScope s_level_of) := C8.fnScope_by (by decide +kernel)
abbrev s_is_whole_common : Stmt := top 37
theorem sc_is_whole_common : FnScope ["value", "least", "most"] ["value", "least", "most"] (C8.fnScope s_is_whole_common) := C8.fnScope_by (by decide +kernel)
abbrev s_is_name : Stmt := top 47
theorem sc_is_name : FnScope ["value", "sign"] ["value"] (C8.fnScope s_is_name) := C8.fnScope_by (by decide +kernel)
abbrev s_is_part : Stmt := top 48
theorem sc_is_part : FnScope ["signs", "rules", "value"] ["signs", "rules", "value"] (C8.fnScope s_is_part) := C8.fnScope_by (by decide +kernel)
abbrev s_is_rule : Stmt := top 49
theorem sc_is_rule : FnScope ["signs", "rules", "value", "part"] ["signs", "rules", "value"] (C8.fnScope s_is_rule) := C8.fnScope_by (by decide +kernel)
abbrev s_names_below : Stmt := top 50
theorem sc_names_below : FnScope ["rules", "name", "found", "waiting", "part"] ["rules", "name"] (C8.fnScope s_names_below) := C8.fnScope_by (by decide +kernel)
abbrev s_from_below : Stmt := top 51
theorem sc_from_below : FnScope ["rules", "found", "root", "waiting", "name", "lacking", "part"] ["rules"] (C8.fnScope s_from_below) := C8.fnScope_by (by decide +kernel)
abbrev s_Text_init : Stmt := inClass (top 52) 0
theorem sc_Text_init : FnScope ["self", "signs", "rules", "root", "name", "told", "part"] ["self", "signs", "rules", "root"] (C8.fnScope s_Text_init) := C8.fnScope_by (by decide +kernel)
abbrev s_Text_rules : Stmt := inClass (top 52) 1
theorem sc_Text_rules : FnScope ["self"] ["self"] (C8.fnScope s_Text_rules) := C8.fnScope_by (by decide +kernel)
abbrev s_Text_counts_of : Stmt := inClass (top 52) 3
theorem sc_Text_counts_of : FnScope ["self", "part", "sign"] ["self", "part"] (C8.fnScope s_Text_counts_of) := C8.fnScope_by (by decide +kernel)
abbrev s_Text_summed : Stmt := inClass (top 52) 4
theorem sc_Text_summed : FnScope ["self", "parts", "found", "part", "many", "one", "other"] ["self", "parts"] (C8.fnScope s_Text_summed) := C8.fnScope_by (by decide +kernel)
abbrev s_Text_size_of : Stmt := inClass (top 52) 5
theorem sc_Text_size_of : FnScope ["self", "part"] ["self", "part"] (C8.fnScope s_Text_size_of) := C8.fnScope_by (by decide +kernel)
abbrev s_rows_of : Stmt := top 53
theorem sc_rows_of : FnScope ["code", "bunches", "number", "signs", "level", "found", "light", "heavy", "sign"] ["code"] (C8.fnScope s_rows_of) := C8.fnScope_by (by decide +kernel)
abbrev s_RowWalk_init : Stmt := inClass (top 54) 0
theorem sc_RowWalk_init : FnScope ["self", "text", "light", "heavy", "name"] ["self", "text", "light", "heavy"] (C8.fnScope s_RowWalk_init) := C8.fnScope_by (by decide +kernel)
abbrev s_RowWalk_change_of : Stmt := inClass (top 54) 1
theorem sc_RowWalk_change_of : FnScope ["self", "part", "change"] ["self", "part"] (C8.fnScope s_RowWalk_change_of) := C8.fnScope_by (by decide +kernel)
abbrev s_RowWalk_walked : Stmt := inClass (top 54) 2
theorem sc_RowWalk_walked : FnScope ["self", "parts", "total", "least", "part", "many", "change", "low"] ["self", "parts"] (C8.fnScope s_RowWalk_walked) := C8.fnScope_by (by decide +kernel)
abbrev s_RowWalk_first_below : Stmt := inClass (top 54) 3
theorem sc_RowWalk_first_below : FnScope ["self", "start", "part", "size", "more"] ["self", "start"] (C8.fnScope s_RowWalk_first_below) := C8.fnScope_by (by decide +kernel)
abbrev s_RowWalk_entered : Stmt := inClass (top 54) 4
theorem sc_RowWalk_entered : FnScope ["self", "name", "start", "size", "part", "many", "change", "low", "turns"] ["self", "name", "start"] (C8.fnScope s_RowWalk_entered) := C8.fnScope_by (by decide +kernel)
abbrev s_first_lost : Stmt := top 55
theorem sc_first_lost : FnScope ["code", "counts", "text", "found", "light", "heavy", "start", "size", "sign"] ["code", "counts", "text"] (C8.fnScope s_first_lost) := C8.fnScope_by (by decide +kernel)
abbrev s_law_pen : Stmt := top 57
theorem sc_law_pen : FnScope ["_law_script"] ["_law_script"] (C8.fnScope s_law_pen) := C8.fnScope_by (by decide +kernel)
abbrev s_law_draw : Stmt := top 58
theorem sc_law_draw : FnScope ["_law_pen_here", "_law_many", "_law_digit", "_law_at", "_law_cell", "_law_blend"] ["_law_pen_here", "_law_many"] (C8.fnScope s_law_draw) := C8.fnScope_by (by decide +kernel)
abbrev s_law_pick : Stmt := top 59
theorem sc_law_pick : FnScope ["_law_pen_here", "_law_items"] ["_law_pen_here", "_law_items"] (C8.fnScope s_law_pick) := C8.fnScope_by (by decide +kernel)
abbrev s_law_passed : Stmt := top 60
theorem sc_law_passed : FnScope ["_law_lead", "_law_signs", "_law_head", "_law_other", "_law_rounds", "_law_now", "_law_walk", "_law_sign", "_law_begin", "_law_spots", "_law_at", "_law_step"] ["_law_lead", "_law_signs", "_law_head", "_law_other", "_law_rounds"] (C8.fnScope s_law_passed) := C8.fnScope_by (by decide +kernel)
abbrev s_law : Stmt := top 61
theorem sc_law : FnScope ["_law_script", "_law_pen_here", "_law_turn", "_law_head", "_law_signs", "_law_rounds", "_law_base", "_law_text", "_law_others", "_law_found", "_law_code", "_law_k", "_law_sign", "_law_size"] ["_law_script"] (C8.fnScope s_law) := C8.fnScope_by (by decide +kernel)
/-- the scope of a name's dict comprehension -/
def dcScope (s : Stmt) : Scope := match s with
  | .Assign _ (.DictComp _ _ _ sc _) _ => sc
  | _ => { kind := .function, names := [], isGenerator := false, isCoroutine := false }
/-- .. as it stands within the def: what the def holds in a cell is a cell there -/
def inDef (sc out : Scope) : Scope := { sc with names := sc.names.map fun (n, k) => if (k == NameKind.free && out.names.lookup n == some .cell) = true then (n, NameKind.cell) else (n, k) }
abbrev sc_dc : Scope := inDef (dcScope ((C8.fnBody s_Text_init).getD 3 (.Pass ⟨0, 0, 0, 0⟩))) (C8.fnScope s_Text_init)
/-- what the top leaves: built-in names free, constants, the three classes at CC, CT, CR -/
structure Txt (K : PySem.W.Frag) (mg : Str → Option Value) (CC CT CR : Addr) : Prop where
  f_len : mg "len" = none
  f_isinstance : mg "isinstance" = none
  f_min : mg "min" = none
  f_max : mg "max" = none
  f_sum : mg "sum" = none
  f_sorted : mg "sorted" = none
  f_list : mg "list" = none
  f_tuple : mg "tuple" = none
  f_dict : mg "dict" = none
  f_int : mg "int" = none
  f_str : mg "str" = none
  f_bool : mg "bool" = none
  f_abs : mg "abs" = none
  f_all : mg "all" = none
  f_any : mg "any" = none
  f_range : mg "range" = none
  f_enumerate : mg "enumerate" = none
  f_zip : mg "zip" = none
  c_MOST_SIGNS_codes : ∃ u, mg "MOST_SIGNS_codes" = some u ∧ RelV (.int 26) u
  c_MOST_LENGTH : ∃ u, mg "MOST_LENGTH" = some u ∧ RelV (.int 25) u
  c_CAPITALS : ∃ u, mg "CAPITALS" = some u ∧ RelV (.str "ABCDEFGHIJKLMNOPQRSTUVWXYZ") u
  c_MOST_SIGNS_grown : ∃ u, mg "MOST_SIGNS_grown" = some u ∧ RelV (.int 26) u
  c_MOST_RULES : ∃ u, mg "MOST_RULES" = some u ∧ RelV (.int 300) u
  c_MOST_PARTS : ∃ u, mg "MOST_PARTS" = some u ∧ RelV (.int 40) u
  c_MOST_NAME : ∃ u, mg "MOST_NAME" = some u ∧ RelV (.int 8) u
  c_MOST_FOR_ROWS : ∃ u, mg "MOST_FOR_ROWS" = some u ∧ RelV (.int 8) u
  clC : Cls K CC
  clT : Cls K CT
  clR : Cls K CR
  nC_lengths : NoAttr K CC "lengths"
  nC_words : NoAttr K CC "words"
  nC_size : NoAttr K CC "size"
  nC_longest : NoAttr K CC "longest"
  nT_signs : NoAttr K CT "signs"
  nT_root : NoAttr K CT "root"
  nT_own_rules : NoAttr K CT "own_rules"
  nT_own_counts : NoAttr K CT "own_counts"
  nT_size : NoAttr K CT "size"
  nR_text : NoAttr K CR "text"
  nR_told_rules : NoAttr K CR "told_rules"
  nR_light : NoAttr K CR "light"
  nR_heavy : NoAttr K CR "heavy"
  nR_changes : NoAttr K CR "changes"
end LJ

set_option maxHeartbeats 4000000
/-! Defs, methods and classes of the text as they are used here; what stands in the heap. -/
namespace LJ
open PySem PySem.Spec PyProof.Rows L2 Evl
/-- a def of the text under a name of the module -/
structure Df (K : PySem.W.Frag) (mg : Str → Option Value) (al x : Str) (st : Stmt) (ps : List Str) : Prop where
  ex : ∃ f fd, C8.Fun K x x st f fd ∧ mg al = some (.ref f) ∧ PySem.W.keepIn K (.ref f) = true ∧ Binds K fd ps []
/-- a method -/
structure Dm (K : PySem.W.Frag) (C : Addr) (m qual : Str) (st : Stmt) (ps : List Str) : Prop where
  ex : ∃ f fd, Cls K C ∧ Meth K C m f ∧ C8.Fun K m qual st f fd ∧ Binds K fd ps []
/-- a class by its __init__ -/
structure Dk (K : PySem.W.Frag) (mg : Str → Option Value) (x : Str) (C : Addr) (qual : Str) (st : Stmt) (ps : List Str) (dvs : List V) : Prop where
  ex : ∃ f fd ds, Mk K C f ∧ mg x = some (.ref C) ∧ C8.Fun K "__init__" qual st f fd ∧ Binds K fd ps ds ∧ Vals dvs ds
section
variable {P : Program} {w : World} {K : PySem.W.Frag} {mg : Str → Option Value} {base : Heap}
theorem Df.cal {al x : Str} {st : Stmt} {N ps : List Str} {k : Nat} {sp : Sp} (D : Df K mg al x st ps) (S : FnScope N ps (C8.fnScope st)) (len : ∀ vs H Q E, sp vs H Q E → vs.length = ps.length)
    (body : ∀ (f : Addr) (cdv : Value) (A : Around) (outer : List Env) (s : Shared) (H : Hp) (vs : List V) (Q : VK) (E : XK), Room k (A.deeper (envOfC x (C8.fnScope st) s.heap.objs.size f cdv)) → sp vs H Q E →
      ∃ t, PSs (cxOf C8.CX0 P w K mg base N x (C8.fnScope st) f cdv A outer s H E).nox (C8.fnBody st) t ∧ t { nx := fun _ H' => Q .non H', rt := Q } (start N vs) H) : C8.Cal P w K mg base (k + 1) al sp [] := by
  obtain ⟨f, fd, F, hm, kp, b⟩ := D.ex
  exact ⟨f, fd, ps, [], C8.fn0 F S len (body f), hm, kp, b, .nil⟩
theorem Dm.met {C : Addr} {m qual : Str} {st : Stmt} {N ps : List Str} {k : Nat} {sp : Sp} (D : Dm K C m qual st ps) (S : FnScope N ps (C8.fnScope st)) (len : ∀ vs H Q E, sp vs H Q E → vs.length = ps.length)
    (body : ∀ (f : Addr) (cdv : Value) (A : Around) (outer : List Env) (s : Shared) (H : Hp) (vs : List V) (Q : VK) (E : XK), Room k (A.deeper (envOfC qual (C8.fnScope st) s.heap.objs.size f cdv)) → sp vs H Q E →
      ∃ t, PSs (cxOf C8.CX0 P w K mg base N qual (C8.fnScope st) f cdv A outer s H E).nox (C8.fnBody st) t ∧ t { nx := fun _ H' => Q .non H', rt := Q } (start N vs) H) : C8.Met P w K mg base (k + 1) C m sp [] := by
  obtain ⟨f, fd, c, me, F, b⟩ := D.ex
  exact ⟨f, fd, ps, [], c, me, C8.fn0 F S len (body f), b, .nil⟩
theorem Dk.mak {x : Str} {C : Addr} {qual : Str} {st : Stmt} {N ps : List Str} {dvs : List V} {k : Nat} {sp : Sp} (D : Dk K mg x C qual st ps dvs) (S : FnScope N ps (C8.fnScope st)) (len : ∀ vs H Q E, sp vs H Q E → vs.length = ps.length)
    (body : ∀ (f : Addr) (cdv : Value) (A : Around) (outer : List Env) (s : Shared) (H : Hp) (vs : List V) (Q : VK) (E : XK), Room k (A.deeper (envOfC qual (C8.fnScope st) s.heap.objs.size f cdv)) → sp vs H Q E →
      ∃ t, PSs (cxOf C8.CX0 P w K mg base N qual (C8.fnScope st) f cdv A outer s H E).nox (C8.fnBody st) t ∧ t { nx := fun _ H' => Q .non H', rt := Q } (start N vs) H) : C8.Mak P w K mg base (k + 1) x C sp dvs := by
  obtain ⟨f, fd, ds, M, hm, F, b, d⟩ := D.ex
  exact ⟨f, fd, ps, ds, M, C8.fn0 F S len (body f), hm, b, d⟩
theorem kit_int_int : PySem.W.kitOne K (.type "int") (.type "int") = some true := kit_ty (by decide +kernel)
theorem kit_int_bool : PySem.W.kitOne K (.type "int") (.type "bool") = some false := kit_ty (by decide +kernel)
theorem kit_int_str : PySem.W.kitOne K (.type "int") (.type "str") = some false := kit_ty (by decide +kernel)
theorem kit_str_str : PySem.W.kitOne K (.type "str") (.type "str") = some true := kit_ty (by decide +kernel)
theorem kit_str_int : PySem.W.kitOne K (.type "str") (.type "int") = some false := kit_ty (by decide +kernel)
theorem kit_str_bool : PySem.W.kitOne K (.type "str") (.type "bool") = some false := kit_ty (by decide +kernel)
theorem kit_tuple_tl : PySem.W.kitAny K (.type "tuple") [.type "tuple", .type "list"] = some true := kitAny_cons (kit_ty (b := "tuple") (r := true) (by decide +kernel)) (fun h => by cases h) (fun _ => rfl)
theorem kit_list_tl : PySem.W.kitAny K (.type "list") [.type "tuple", .type "list"] = some true :=
  kitAny_cons (kit_ty (b := "tuple") (r := false) (by decide +kernel)) (fun _ => kitAny_cons (kit_ty (b := "list") (r := true) (by decide +kernel)) (fun h => by cases h) (fun _ => rfl)) (fun h => by cases h)
end
/-! ### the heap -/
theorem _root_.Evl.Ex.of_new {H H' : Hp} {p : Addr} {o : HO} (e : Ex H H') (h : H' p = none) : Ex H (upd H' p o) := e.trans (Ex.new h)
theorem sqL {K : PySem.W.Frag} {H : Hp} {a : Addr} {xs : List V} (h : H a = some (.lst xs)) : SqL K H a xs := Or.inl (Or.inl h)
theorem sqT {K : PySem.W.Frag} {H : Hp} {a : Addr} {xs : List V} (h : H a = some (.tup xs)) : SqT K H a xs := Or.inl (Or.inl h)
/-- what is known of new pairs at a turn -/
theorem ypair_new {H H' : Hp} {f g : Nat → Option V} {i : Nat} {x : V} (y : YPair f g i H x H') : ∃ T a b, x = .ref T ∧ H T = none ∧ H' = upd H T (.tup [a, b]) ∧ Ex H H' ∧ f i = some a ∧ g i = some b := by
  obtain ⟨T, a, b, h1, h2, h3, h4, h5⟩ := y
  exact ⟨T, a, b, h1, h2, h3, by rw [h3]; exact Ex.new h2, h4, h5⟩
theorem get_int {ns : List Int} {i : Nat} {x : V} (h : (ns.map V.int)[i]? = some x) : ∃ n, ns[i]? = some n ∧ x = .int n := by
  rw [List.getElem?_map] at h
  cases e : ns[i]? with
  | none =>
    rw [e] at h
    cases h
  | some n =>
    rw [e] at h
    exact ⟨n, rfl, (Option.some.inj h).symm⟩
theorem get_ref {ns : List Addr} {i : Nat} {x : V} (h : (ns.map V.ref)[i]? = some x) : ∃ n, ns[i]? = some n ∧ x = .ref n := by
  rw [List.getElem?_map] at h
  cases e : ns[i]? with
  | none =>
    rw [e] at h
    cases h
  | some n =>
    rw [e] at h
    exact ⟨n, rfl, (Option.some.inj h).symm⟩
/-- a tuple of pairs (value, count) -/
def PartsIn (H : Hp) (ps : List Addr) (l : List (V × Int)) : Prop := ps.length = l.length ∧ ∀ (i : Nat) (p : Addr) (v : V) (n : Int), ps[i]? = some p → l[i]? = some (v, n) → H p = some (.tup [v, .int n])
def PartsT (H : Hp) (a : Addr) (l : List (V × Int)) : Prop := ∃ ps : List Addr, H a = some (.tup (ps.map V.ref)) ∧ PartsIn H ps l
theorem PartsIn.mono {H H' : Hp} {ps : List Addr} {l : List (V × Int)} (e : Ex H H') (h : PartsIn H ps l) : PartsIn H' ps l := ⟨h.1, fun i p v n a b => e _ _ (h.2 i p v n a b)⟩
theorem PartsT.mono {H H' : Hp} {a : Addr} {l : List (V × Int)} (e : Ex H H') (h : PartsT H a l) : PartsT H' a l := by
  obtain ⟨ps, h1, h2⟩ := h
  exact ⟨ps, e _ _ h1, h2.mono e⟩
/-- the two rules of a text -/
abbrev kL : Key := .inr ("LOOP" : Str)
abbrev kT : Key := .inr ("TOP" : Str)
def loopP (ss : List Int) : List (V × Int) := ss.map fun s => (V.int s, 1)
def topP (R : Int) : List (V × Int) := [(V.str "LOOP", R)]
abbrev two (a b : Addr) : List (Key × V) := [(kL, .ref a), (kT, .ref b)]
theorem lt_ne : ¬ (("LOOP" : Str) = "TOP") := by decide +kernel
theorem tl_ne : ¬ (("TOP" : Str) = "LOOP") := by decide +kernel
theorem two_L (a b : Addr) : valV (two a b) kL = some (.ref a) := valV_pos rfl
theorem two_T (a b : Addr) : valV (two a b) kT = some (.ref b) := by
  rw [two, valV_neg (fun e => lt_ne (Sum.inr.inj e))]
  exact valV_pos rfl
/-- the parts of both rules -/
structure RulesC (H : Hp) (tl tt : Addr) (ss : List Int) (R : Int) : Prop where
  loop : PartsT H tl (loopP ss)
  top : PartsT H tt (topP R)
theorem RulesC.mono {H H' : Hp} {tl tt : Addr} {ss : List Int} {R : Int} (e : Ex H H') (h : RulesC H tl tt ss R) : RulesC H' tl tt ss R := ⟨h.loop.mono e, h.top.mono e⟩
/-- the fields of a Code -/
def cf (lt wt : Addr) (n m : Int) : List (Str × V) := putF "longest" (.int m) (putF "size" (.int n) (putF "words" (.ref wt) (putF "lengths" (.ref lt) [])))
theorem cf_lengths (lt wt : Addr) (n m : Int) : (cf lt wt n m).lookup ("lengths" : Str) = some (.ref lt) := by
  unfold cf
  rw [lookup_putF, if_neg (by decide +kernel), lookup_putF, if_neg (by decide +kernel), lookup_putF, if_neg (by decide +kernel), lookup_putF, if_pos rfl]
theorem cf_size (lt wt : Addr) (n m : Int) : (cf lt wt n m).lookup ("size" : Str) = some (.int n) := by
  unfold cf
  rw [lookup_putF, if_neg (by decide +kernel), lookup_putF, if_pos rfl]
theorem cf_longest (lt wt : Addr) (n m : Int) : (cf lt wt n m).lookup ("longest" : Str) = some (.int m) := by
  unfold cf
  rw [lookup_putF, if_pos rfl]
/-- the lengths of the code whose short sign is h -/
def lens (h : Int) : List Int := [if 0 = h then 1 else 2, if 1 = h then 1 else 2, if 2 = h then 1 else 2]
structure CodeAt (CC : Addr) (H : Hp) (c : Addr) (h : Int) : Prop where
  ex : ∃ dx lt wt, H c = some (.ins CC dx (cf lt wt 3 2)) ∧ H lt = some (.tup ((lens h).map V.int))
  h3 : h = 0 ∨ h = 1 ∨ h = 2
theorem CodeAt.mono {CC c : Addr} {H H' : Hp} {h : Int} (e : Ex H H') (q : CodeAt CC H c h) : CodeAt CC H' c h := by
  obtain ⟨⟨dx, lt, wt, h1, h2⟩, h3⟩ := q
  exact ⟨⟨dx, lt, wt, e _ _ h1, e _ _ h2⟩, h3⟩
end LJ

set_option maxHeartbeats 4000000
/-! Comprehensions by what their turns give. -/
namespace LJ
open PySem PySem.Spec PyProof.Rows L2 Evl
theorem take_snoc {α : Type} {l : List α} {i : Nat} {x : α} (h : l[i]? = some x) : l.take (i + 1) = l.take i ++ [x] := by
  rw [List.take_add_one, h]
  rfl
/-- a comprehension over a walk: L i is what stands in the new list ahead of turn i -/
theorem lc_ev {J : It} {n : Nat} {G : Hp → Prop} {Y : Nat → Hp → V → Hp → Prop} (wk : Walk J n G Y) {g : TG} {tt : TT} {te : TE} {vs : List Nat} {σ : L2.St} {H1 : Hp} {D : Addr} {Qd : Hp → Prop} (hD : H1 D = none) (hG : ∀ H', Ex H1 H' → G H')
    (L : Nat → List V) (L0 : L 0 = []) (hl : ∀ i, i ≤ n → (L i).length < 100000)
    (hs : ∀ i x H2 H3, i < n → Ex H1 H2 → Y i H2 x H3 → Ex H2 H3 ∧ ∃ (σ2 : L2.St) (b : Bool), (∀ Qs : L2.St → Hp → Prop, Qs σ2 H3 → g x (wipe σ vs) H3 Qs) ∧ wipe σ2 vs = wipe σ vs ∧ EvT tt σ2 H3 b ∧
      (b = true → ∃ v, Ev te σ2 H3 v ∧ L (i + 1) = L i ++ [v]) ∧ (b = false → L (i + 1) = L i))
    (hd : ∀ H', Ex H1 H' → H' D = some (.lst (L n)) → Qd H') :
    ∃ W : Nat → Nat → Hp → Prop, (∃ m, W 0 m (upd H1 D (.lst []))) ∧ ∀ i m H, W i m H →
      (J.stop i H ∧ Qd H) ∨ (J.go i H ∧ ∃ Nx : Hp → Prop, (∀ H', Nx H' → ∃ m', m' < m ∧ W (i + 1) m' H') ∧ ∀ x H', J.yld i H x H' → g x (wipe σ vs) H' fun σ2 H2 => wipe σ2 vs = wipe σ vs ∧ tt σ2 H2 fun b H3 =>
        if b = true then te σ2 H3 fun y H4 => ∃ acc, H4 D = some (.lst acc) ∧ acc.length < sizeLine ∧ Nx (upd H4 D (.lst (acc ++ [y]))) else Nx H3) := by
  refine lc_it wk (fun i H' => Ex H1 H' ∧ H' D = some (.lst (L i))) ⟨Ex.new hD, by rw [L0]; exact upd_same⟩ (fun i H' _ ⟨e, _⟩ => hG H' e) ?_ (fun H' ⟨e, h⟩ => hd H' e h)
  rintro i x H2 H3 hi ⟨e2, hL⟩ y
  obtain ⟨e3, σ2, b, hg, hw, ht, hy, hn⟩ := hs i x H2 H3 hi e2 y
  refine hg _ ⟨hw, ht H3 (Ex.refl H3) _ fun H4 e4 => ?_⟩
  cases b with
  | true =>
    obtain ⟨v, hv, eL⟩ := hy rfl
    refine hv H4 e4 _ fun H5 e5 => ?_
    have e15 : Ex H2 H5 := (e3.trans e4).trans e5
    refine ⟨L i, e15 D _ hL, sz_lt (hl i (by omega)), (e2.trans e15).mut hD, ?_⟩
    rw [upd_same, eL]
  | false =>
    refine ⟨e2.trans (e3.trans e4), ?_⟩
    rw [hn rfl]
    exact (e3.trans e4) D _ hL
/-- over a list of ints, each one kept: the values f s -/
theorem lc_ints {K : PySem.W.Frag} {a : Addr} {ns : List Int} {j : Nat} {te : TE} {vs : List Nat} {σ : L2.St} {H1 : Hp} {D : Addr} {Qd : Hp → Prop} (hD : H1 D = none) (hx : SqL K H1 a (ns.map V.int)) (f : Int → V) (hz : ns.length < 100000)
    (hw : ∀ x, wipe ((wipe σ vs).set j (some x)) vs = wipe σ vs) (he : ∀ s H2, s ∈ ns → Ex H1 H2 → Ev te ((wipe σ vs).set j (some (.int s))) H2 (f s)) (hd : ∀ H', Ex H1 H' → H' D = some (.lst (ns.map f)) → Qd H') :
    ∃ W : Nat → Nat → Hp → Prop, (∃ m, W 0 m (upd H1 D (.lst []))) ∧ ∀ i m H, W i m H →
      ((Itl K a).stop i H ∧ Qd H) ∨ ((Itl K a).go i H ∧ ∃ Nx : Hp → Prop, (∀ H', Nx H' → ∃ m', m' < m ∧ W (i + 1) m' H') ∧ ∀ x H', (Itl K a).yld i H x H' → gName j x (wipe σ vs) H' fun σ2 H2 => wipe σ2 vs = wipe σ vs ∧ tYes σ2 H2 fun b H3 =>
        if b = true then te σ2 H3 fun y H4 => ∃ acc, H4 D = some (.lst acc) ∧ acc.length < sizeLine ∧ Nx (upd H4 D (.lst (acc ++ [y]))) else Nx H3) := by
  refine lc_ev (walk_list (xs := ns.map V.int)) hD (fun H' e => ex_l e hx) (fun i => (ns.take i).map f) rfl (fun i _ => by rw [List.length_map, List.length_take]; omega) ?_ ?_
  · rintro i x H2 H3 hi e2 ⟨rfl, hx⟩
    obtain ⟨s, hs, rfl⟩ := get_int hx
    refine ⟨Ex.refl _, _, true, fun Qs q => q, hw _, fun H4 e4 Q q => q H4 (Ex.refl H4), fun _ => ⟨f s, he s H3 (List.mem_of_getElem? hs) e2, ?_⟩, fun h => by cases h⟩
    rw [take_snoc hs, List.map_append]
    rfl
  · intro H' e h
    refine hd H' e ?_
    rw [h, List.take_of_length_le (by rw [List.length_map]; exact Nat.le_refl _)]
/-- over range(n): the values f i -/
theorem lc_rng {n : Nat} {j : Nat} {te : TE} {vs : List Nat} {σ : L2.St} {H1 : Hp} {D : Addr} {Qd : Hp → Prop} (hD : H1 D = none) (f : Nat → V) (hz : n < 100000)
    (hw : ∀ x, wipe ((wipe σ vs).set j (some x)) vs = wipe σ vs) (he : ∀ (i : Nat) H2, i < n → Ex H1 H2 → Ev te ((wipe σ vs).set j (some (.int (i : Int)))) H2 (f i)) (hd : ∀ H', Ex H1 H' → H' D = some (.lst ((List.range n).map f)) → Qd H') :
    ∃ W : Nat → Nat → Hp → Prop, (∃ m, W 0 m (upd H1 D (.lst []))) ∧ ∀ i m H, W i m H →
      ((Itr 0 n).stop i H ∧ Qd H) ∨ ((Itr 0 n).go i H ∧ ∃ Nx : Hp → Prop, (∀ H', Nx H' → ∃ m', m' < m ∧ W (i + 1) m' H') ∧ ∀ x H', (Itr 0 n).yld i H x H' → gName j x (wipe σ vs) H' fun σ2 H2 => wipe σ2 vs = wipe σ vs ∧ tYes σ2 H2 fun b H3 =>
        if b = true then te σ2 H3 fun y H4 => ∃ acc, H4 D = some (.lst acc) ∧ acc.length < sizeLine ∧ Nx (upd H4 D (.lst (acc ++ [y]))) else Nx H3) := by
  refine lc_ev (walk_range (lo := 0) (n := n)) hD (fun H' e => trivial) (fun i => (List.range i).map f) rfl (fun i hi => by rw [List.length_map, List.length_range]; omega) ?_ hd
  rintro i x H2 H3 hi e2 ⟨rfl, rfl⟩
  have e0 : (0 : Int) + (i : Int) = (i : Int) := Int.zero_add _
  refine ⟨Ex.refl _, (wipe σ vs).set j (some (.int (i : Int))), true, fun Qs q => ?_, hw _, fun H4 e4 Q q => q H4 (Ex.refl H4), fun _ => ⟨f i, he i H3 hi e2, ?_⟩, fun h => by cases h⟩
  · show Qs ((wipe σ vs).set j (some (.int (0 + (i : Int))))) H3
    rw [e0]
    exact q
  · rw [List.range_succ, List.map_append]
    rfl
/-- over range(n), those kept for which p stands -/
theorem lc_rngF {n : Nat} {j : Nat} {tt : TT} {te : TE} {vs : List Nat} {σ : L2.St} {H1 : Hp} {D : Addr} {Qd : Hp → Prop} (hD : H1 D = none) (p : Nat → Bool) (f : Nat → V) (hz : n < 100000)
    (hw : ∀ x, wipe ((wipe σ vs).set j (some x)) vs = wipe σ vs) (ht : ∀ (i : Nat) H2, i < n → Ex H1 H2 → EvT tt ((wipe σ vs).set j (some (.int (i : Int)))) H2 (p i))
    (he : ∀ (i : Nat) H2, i < n → p i = true → Ex H1 H2 → Ev te ((wipe σ vs).set j (some (.int (i : Int)))) H2 (f i)) (hd : ∀ H', Ex H1 H' → H' D = some (.lst (((List.range n).filter p).map f)) → Qd H') :
    ∃ W : Nat → Nat → Hp → Prop, (∃ m, W 0 m (upd H1 D (.lst []))) ∧ ∀ i m H, W i m H →
      ((Itr 0 n).stop i H ∧ Qd H) ∨ ((Itr 0 n).go i H ∧ ∃ Nx : Hp → Prop, (∀ H', Nx H' → ∃ m', m' < m ∧ W (i + 1) m' H') ∧ ∀ x H', (Itr 0 n).yld i H x H' → gName j x (wipe σ vs) H' fun σ2 H2 => wipe σ2 vs = wipe σ vs ∧ tt σ2 H2 fun b H3 =>
        if b = true then te σ2 H3 fun y H4 => ∃ acc, H4 D = some (.lst acc) ∧ acc.length < sizeLine ∧ Nx (upd H4 D (.lst (acc ++ [y]))) else Nx H3) := by
  refine lc_ev (walk_range (lo := 0) (n := n)) hD (fun H' e => trivial) (fun i => ((List.range i).filter p).map f) rfl (fun i hi => ?_) ?_ hd
  · rw [List.length_map]
    have := List.length_filter_le p (List.range i)
    rw [List.length_range] at this
    omega
  rintro i x H2 H3 hi e2 ⟨rfl, rfl⟩
  have e0 : (0 : Int) + (i : Int) = (i : Int) := Int.zero_add _
  refine ⟨Ex.refl _, (wipe σ vs).set j (some (.int (i : Int))), p i, fun Qs q => ?_, hw _, ht i H3 hi e2, fun hp => ⟨f i, he i H3 hi hp e2, ?_⟩, fun hp => ?_⟩
  · show Qs ((wipe σ vs).set j (some (.int (0 + (i : Int))))) H3
    rw [e0]
    exact q
  · rw [List.range_succ, List.filter_append, List.filter_cons, hp, List.map_append]
    rfl
  · rw [List.range_succ, List.filter_append, List.filter_cons, hp]
    simp
end LJ
namespace LJ
open PySem PySem.Spec PyProof.Rows L2 Evl
theorem ev_fld {K : PySem.W.Frag} {σ : L2.St} {H : Hp} {ta : TE} {a C dx : Addr} {fs : List (Str × V)} {f : Str} {v : V} (ha : Ev ta σ H (.ref a)) (h : H a = some (.ins C dx fs)) (c : Cls K C) (n : NoAttr K C f) (l : fs.lookup f = some v) : Ev (tFld K ta f) σ H v :=
  fun H1 e Q q => ha H1 e _ fun H2 e2 => ⟨a, C, dx, fs, v, rfl, e2 _ _ (e _ _ h), c, n, l, q H2 e2⟩
theorem ev_lenL {K : PySem.W.Frag} {σ : L2.St} {H : Hp} {ta : TE} {p : Addr} {xs : List V} (ha : Ev ta σ H (.ref p)) (h : SqL K H p xs ∨ SqT K H p xs) :
    Ev (tCB (fun xs H Q => ∃ p ys, xs = [.ref p] ∧ (SqL K H p ys ∨ SqT K H p ys) ∧ Q (.int ys.length) H) (tCons ta tNil)) σ H (.int (xs.length : Int)) := fun H1 e Q q =>
  ha H1 e _ fun H2 e2 => ⟨p, xs, rfl, h.elim (fun h => .inl (ex_l (e.trans e2) h)) (fun h => .inr (ex_t (e.trans e2) h)), q H2 e2⟩
theorem rv_shl {H : Hp} {i j : Int} (h0 : 0 ≤ j) (h1 : j ≤ 1000000) (hi : i.natAbs < 2 ^ 64) : RV (rI CPow fun i j => .int (i * 2 ^ j.toNat)) (.int i) (.int j) H (.int (i * 2 ^ j.toNat)) := rv_I ⟨h0, h1, hi⟩
theorem map_bl {α : Type} (l : List α) (f : α → Bool) : l.map (fun x => V.bl (f x)) = (l.map f).map V.bl := by rw [List.map_map]; rfl
theorem map_int {α : Type} (l : List α) (f : α → Int) : l.map (fun x => V.int (f x)) = (l.map f).map V.int := by rw [List.map_map]; rfl
theorem map_ref {α : Type} (l : List α) (f : α → Addr) : l.map (fun x => V.ref (f x)) = (l.map f).map V.ref := by rw [List.map_map]; rfl
theorem all_id (l : List Bool) : l.all id = l.all fun b => b := rfl
/-- the length of a sign's word -/
def li (h s : Int) : Int := if s = h then 1 else 2
theorem li_12 (h s : Int) : li h s = 1 ∨ li h s = 2 := by
  unfold li
  split <;> omega
theorem lens_at {h s : Int} (hs : s = 0 ∨ s = 1 ∨ s = 2) : atI ((lens h).map V.int) s = some (.int (li h s)) := by
  rcases hs with rfl | rfl | rfl <;> rfl
end LJ
namespace LJ
open PySem PySem.Spec PyProof.Rows L2 Evl
/-- all but the object at x stays -/
def ExB (x : Addr) (H H' : Hp) : Prop := ∀ b o, H b = some o → b ≠ x → H' b = some o
theorem ExB.of {x : Addr} {H H' : Hp} (e : Ex H H') : ExB x H H' := fun b o h _ => e b o h
theorem ExB.ex {x : Addr} {H H1 H2 : Hp} (a : ExB x H H1) (e : Ex H1 H2) : ExB x H H2 := fun b o h n => e b o (a b o h n)
theorem ExB.put {x : Addr} {H H' : Hp} {o : HO} (a : ExB x H H') : ExB x H (upd H' x o) := fun b u h n => by
  rw [upd_ne n]
  exact a b u h n
theorem ExB.mut {x p : Addr} {H H' : Hp} {o : HO} (a : ExB x H H') (h : H p = none) : ExB x H (upd H' p o) := fun b u hb n => by
  rw [upd_ne (ne_of_none hb h)]
  exact a b u hb n
theorem ExB.trans {x : Addr} {H H1 H2 : Hp} (a : ExB x H H1) (b : ExB x H1 H2) : ExB x H H2 := fun c o h n => b c o (a c o h n) n
/-- a new instance filled by its __init__ -/
theorem ExB.made {x dx C : Addr} {H H' : Hp} (nx : H x = none) (nd : H dx = none) (k : ExB x (upd (upd H dx (.own x)) x (.ins C dx [])) H') : Ex H H' := fun b o h =>
  k b o (by rw [upd_ne (ne_of_none h nx), upd_ne (ne_of_none h nd)]; exact h) (ne_of_none h nx)
theorem ExB.l {K : PySem.W.Frag} {x a : Addr} {H H' : Hp} {xs : List V} (e : ExB x H H') (n : a ≠ x) (h : SqL K H a xs) : SqL K H' a xs := by
  rcases h with (h | ⟨o, h⟩) | h
  · exact .inl (.inl (e _ _ h n))
  · exact .inl (.inr ⟨o, e _ _ h n⟩)
  · exact .inr h
end LJ

set_option maxHeartbeats 4000000
namespace LJ
open PySem PySem.Spec PyProof.Rows L2 Evl
section
variable {P : Program} {w : World} {K : PySem.W.Frag} {mg : Str → Option Value} {base : Heap} {CC CT CR : Addr}
/-! ### small defs -/
def spIsW : Sp := fun vs H Q _ => ∃ i l : Int, vs = [.int i, .int l] ∧ Q (.bl (decide (l ≤ i))) H
theorem ok_is_whole_codes (T : Txt K mg CC CT CR) (D : Df K mg "is_whole_codes" "is_whole" s_is_whole_codes ["value", "least"]) : C8.Cal P w K mg base 1 "is_whole_codes" spIsW [] := by
  refine D.cal sc_is_whole_codes (fun vs H Q E h => ?_) (fun f cdv A outer s H vs Q E hr h => ?_)
  · obtain ⟨i, l, rfl, _⟩ := h
    rfl
  obtain ⟨i, l, rfl, q⟩ := h
  refine ⟨_, (pss_one
      (ps_ret (pe_and (pe_callB call_isi (by rfl) T.f_isinstance boot_isinstance (pa_cons (pv 0) (pa_cons (pe_bltn (v := .ty "int") (by rfl) T.f_int boot_int rfl) pa_nil))) (pe_and (pe_not (pe_callB call_isi (by rfl) T.f_isinstance boot_isinstance (pa_cons (pv 0) (pa_cons (pe_bltn (v := .ty "bool") (by rfl) T.f_bool boot_bool rfl) pa_nil)))) (pe_one (pe_cmpR op_ge (pv 0) (pv 1) (nomark _))))))), ?_⟩
  refine ⟨_, rfl, _, _, _, _, true, rfl, .ty "int", .base (.int i), kit_int_int, true, rfl, ?_⟩
  refine iteT ?_
  refine ⟨_, rfl, _, _, _, _, false, rfl, .ty "bool", .base (.int i), kit_int_bool, _, rfl, true, rfl, ?_⟩
  refine iteT ?_
  exact ⟨_, rfl, _, rfl, _, _, rfl, rfl, q⟩
def spTwo : Sp := fun vs H Q _ => ∃ n : Int, vs = [.int n] ∧ -1000 ≤ n ∧ n ≤ 1000 ∧ Q (.int (2 ^ n.toNat)) H
theorem ok_two_to (T : Txt K mg CC CT CR) (D : Df K mg "two_to" "two_to" s_two_to ["many"]) : C8.Cal P w K mg base 1 "two_to" spTwo [] := by
  refine D.cal sc_two_to (fun vs H Q E h => ?_) (fun f cdv A outer s H vs Q E hr h => ?_)
  · obtain ⟨n, rfl, _⟩ := h
    rfl
  obtain ⟨n, rfl, n0, n1, q⟩ := h
  refine ⟨_, (pss_cons
      (ps_set (i := 1) sc_two_to.nd rfl (Or.inl rfl) pe_int)
      (pss_cons
      (ps_for PassesOwn.never rfl (pi_range1 (by rfl) T.f_range (pa_cons (pv 0) pa_nil)) (pg_name (i := 2) sc_two_to.nd rfl (Or.inl rfl)) (pss_one
        (ps_aug (i := 1) sc_two_to.nd rfl (Or.inl rfl) pe_int iop_mul)))
      (pss_one
      (ps_ret (pv 1))))), ?_⟩
  refine ⟨_, rfl, n, rfl, by omega, by omega, for_range (lo := 0) (n := n.toNat) (fun i σ H' => ∃ v, σ = [some (.int n), some (.int (2 ^ i)), v] ∧ H' = H) ⟨none, rfl, rfl⟩ ?_ ?_⟩
  · rintro i σ H' hi ⟨v, rfl, rfl⟩
    refine ⟨_, rfl, _, _, rfl, rfl, .inr ⟨by decide, by decide⟩, ?_⟩
    exact ⟨_, by show [some (V.int n), some (V.int (2 ^ i * 2)), some (V.int (0 + (i : Int)))] = _; rw [Int.pow_succ], rfl⟩
  · rintro σ H' ⟨v, rfl, rfl⟩
    exact ⟨_, rfl, q⟩
def spSigns : Sp := fun vs H Q _ => ∃ n : Int, vs = [.int n] ∧ 2 ≤ n ∧ n ≤ 26 ∧ Q .non H
theorem ok_check_signs (T : Txt K mg CC CT CR) (D : Df K mg "check_signs" "check_signs" s_check_signs ["many"]) : C8.Cal P w K mg base 1 "check_signs" spSigns [] := by
  refine D.cal sc_check_signs (fun vs H Q E h => ?_) (fun f cdv A outer s H vs Q E hr h => ?_)
  · obtain ⟨n, rfl, _⟩ := h
    rfl
  obtain ⟨n, rfl, n0, n1, q⟩ := h
  refine ⟨_, (pss_one
      (ps_if (pt_not (pt_chain op_le op_le pe_int (pv 0) (C8.pe_gc (by rfl) T.c_MOST_SIGNS_codes))) (pss_one
        ps_never) pss_nil)), ?_⟩
  refine ⟨_, rfl, _, _, rfl, rfl, _, rfl, ?_⟩
  rw [if_pos (by exact decide_eq_true n0)]
  refine ⟨_, _, rfl, rfl, _, rfl, ?_⟩
  show if (!decide (n ≤ 26)) = true then _ else _
  exact iteNS n1 q
def spBits : Sp := fun vs H Q _ => ∃ n k : Int, vs = [.int n, .int k] ∧ 0 ≤ k ∧ k ≤ 1000 ∧ ∀ z : Str, Q (.str z) H
theorem ok_bits_of (T : Txt K mg CC CT CR) (D : Df K mg "bits_of" "bits_of" s_bits_of ["number", "size"]) : C8.Cal P w K mg base 1 "bits_of" spBits [] := by
  refine D.cal sc_bits_of (fun vs H Q E h => ?_) (fun f cdv A outer s H vs Q E hr h => ?_)
  · obtain ⟨n, k, rfl, _⟩ := h
    rfl
  obtain ⟨n, k, rfl, k0, k1, q⟩ := h
  refine ⟨_, (pss_cons
      (ps_set (i := 2) sc_bits_of.nd rfl (Or.inl rfl) pe_str)
      (pss_cons
      (ps_for PassesOwn.never rfl (pi_range1 (by rfl) T.f_range (pa_cons (pv 1) pa_nil)) (pg_name (i := 3) sc_bits_of.nd rfl (Or.inl rfl)) (pss_cons
        (ps_set (i := 2) sc_bits_of.nd rfl (Or.inl rfl) (pe_op op_add_str (pe_callTy call_str_int (by rfl) T.f_str boot_str (pa_cons (pe_op op_mod (pv 0) pe_int) pa_nil)) (pv 2)))
        (pss_one
        (ps_set (i := 0) sc_bits_of.nd rfl (Or.inl rfl) (pe_op op_fdiv (pv 0) pe_int)))))
      (pss_one
      (ps_ret (pv 2))))), ?_⟩
  refine ⟨_, rfl, k, rfl, by omega, by omega, for_range (lo := 0) (n := k.toNat) (fun i σ H' => ∃ (m : Int) (z : Str) (v : Option V), σ = [some (.int m), some (.int k), some (.str z), v] ∧ z.length ≤ i ∧ H' = H) ⟨n, "", none, rfl, by decide, rfl⟩ ?_ ?_⟩
  · rintro i σ H' hi ⟨m, z, v, rfl, hz, rfl⟩
    have two : m % 2 = 0 ∨ m % 2 = 1 := by omega
    have len1 : (Str.ofString (toString (m % 2))).length = 1 := by
      rcases two with e | e <;> rw [e] <;> decide
    refine ⟨_, rfl, _, _, rfl, rfl, (by show (0 : Int) < 2; decide), _, rfl, ?_, ?_⟩
    · rcases two with e | e <;> rw [e] <;> decide
    refine ⟨_, rfl, _, _, rfl, rfl, ?_, ?_⟩
    · have : z.length ≤ 1000 := by omega
      exact Nat.le_trans (Nat.add_le_add (Nat.le_of_eq len1) this) (by decide)
    refine ⟨_, rfl, _, _, rfl, rfl, ⟨by decide, by decide⟩, ?_⟩
    refine ⟨_, _, _, rfl, ?_, rfl⟩
    have ea : (Str.ofString (toString (m % 2)) ++ z).length = (Str.ofString (toString (m % 2))).length + z.length := PySem.Str.length_append _ _
    show (Str.ofString (toString (m % 2)) ++ z).length ≤ i + 1
    rw [ea, len1]
    omega
  · rintro σ H' ⟨m, z, v, rfl, _, rfl⟩
    exact ⟨_, rfl, q z⟩
end
end LJ

set_option maxHeartbeats 4000000
namespace LJ
open PySem PySem.Spec PyProof.Rows L2 Evl
section
variable {P : Program} {w : World} {K : PySem.W.Frag} {mg : Str → Option Value} {base : Heap} {CC CT CR : Addr}
/-- counts of three signs -/
def spCounts (K : PySem.W.Frag) : Sp := fun vs H Q _ => ∃ (a : Addr) (ns : List Int), vs = [.ref a] ∧ SqL K H a (ns.map V.int) ∧ ns.length = 3 ∧ (∀ n ∈ ns, 0 ≤ n) ∧ RetV .non H Q
theorem ok_check_counts (T : Txt K mg CC CT CR) (D : Df K mg "check_counts" "check_counts" s_check_counts ["counts"]) (c_check_signs : C8.Cal P w K mg base 1 "check_signs" spSigns [])
    (c_is_whole_codes : C8.Cal P w K mg base 1 "is_whole_codes" spIsW []) : C8.Cal P w K mg base 2 "check_counts" (spCounts K) [] := by
  refine D.cal sc_check_counts (fun vs H Q E h => ?_) (fun f cdv A outer s H vs Q E hr h => ?_)
  · obtain ⟨a, ns, rfl, _⟩ := h
    rfl
  obtain ⟨a, ns, rfl, hS, h3, hp, q⟩ := h
  refine ⟨_, (pss_cons
      (ps_expr (C8.pe_c c_check_signs hr (by decide) (by rfl) (pa_cons (pe_callB call_len_seq (by rfl) T.f_len boot_len (pa_cons (pv 0) pa_nil)) pa_nil)))
      (pss_one
      (ps_for PassesOwn.never rfl (pi_enum (by rfl) T.f_enumerate (pa_cons (pv 0) pa_nil)) (pg_tup rfl (pgs_cons (pg_name (i := 1) sc_check_counts.nd rfl (Or.inl rfl)) (pgs_cons (pg_name (i := 2) sc_check_counts.nd rfl (Or.inl rfl)) pgs_nil))) (pss_one
        (ps_if (pt_not (pt_val (C8.pe_c c_is_whole_codes hr (by decide) (by rfl) (pa_cons (pv 2) (pa_cons pe_int pa_nil))))) (pss_one
          ps_never) pss_nil))))), ?_⟩
  have hl : (ns.map V.int).length = 3 := by rw [List.length_map, h3]
  refine ⟨_, rfl, a, _, rfl, .inl hS, _, rfl, (by rw [hl]; decide), (by rw [hl]; decide), ?_⟩
  refine ⟨_, rfl, a, _, rfl, hS, for_it walk_enum (fun i σ H' => ∃ v1 v2 : Option V, σ = [some (.ref a), v1, v2] ∧ Ex H H') ⟨none, none, rfl, Ex.refl H⟩ (fun i σ H' _ ⟨_, _, _, e⟩ => ex_l e hS) ?_ ?_⟩
  · rintro i x σ H1 H2 hi ⟨v1, v2, rfl, e1⟩ y
    obtain ⟨t, u, z, rfl, ht, rfl, e2, hu, hz⟩ := ypair_new y
    obtain ⟨n, hn, rfl⟩ := get_int hz
    refine ⟨t, _, rfl, sqT upd_same, rfl, _, _, rfl, _, _, rfl, rfl, ?_⟩
    refine ⟨_, rfl, n, 0, rfl, _, rfl, ?_⟩
    rw [decide_eq_true (hp n (List.mem_of_getElem? hn))]
    exact iteF ⟨_, _, rfl, e1.trans e2⟩
  · rintro σ H1 ⟨v1, v2, rfl, e1⟩
    exact q H1 e1
/-- a code and counts of its three signs -/
def spPair (K : PySem.W.Frag) (CC : Addr) : Sp := fun vs H Q _ => ∃ (c a : Addr) (h : Int) (ns : List Int), vs = [.ref c, .ref a] ∧ CodeAt CC H c h ∧ SqL K H a (ns.map V.int) ∧ ns.length = 3 ∧ (∀ n ∈ ns, 0 ≤ n) ∧ RetV .non H Q
theorem ok_check_pair (T : Txt K mg CC CT CR) (D : Df K mg "check_pair" "check_pair" s_check_pair ["code", "counts"]) (c_check_counts : C8.Cal P w K mg base 2 "check_counts" (spCounts K) []) :
    C8.Cal P w K mg base 3 "check_pair" (spPair K CC) [] := by
  refine D.cal sc_check_pair (fun vs H Q E h => ?_) (fun f cdv A outer s H vs Q E hr h => ?_)
  · obtain ⟨c, a, h, ns, rfl, _⟩ := h
    rfl
  obtain ⟨c, a, h, ns, rfl, hC, hS, h3, hp, q⟩ := h
  refine ⟨_, (pss_cons
      (ps_expr (C8.pe_c c_check_counts hr (by decide) (by rfl) (pa_cons (pv 1) pa_nil)))
      (pss_one
      (ps_if (pt_cmpR op_ne (pe_callB call_len_seq (by rfl) T.f_len boot_len (pa_cons (pv 1) pa_nil)) (pe_fld (pv 0) rfl) (nomark _)) (pss_one
        ps_never) pss_nil))), ?_⟩
  have hl : (ns.map V.int).length = 3 := by rw [List.length_map, h3]
  refine ⟨_, rfl, a, ns, rfl, hS, h3, hp, fun H1 e1 => ?_⟩
  obtain ⟨⟨dx, lt, wt, h1, h2⟩, _⟩ := hC.mono e1
  refine ⟨_, rfl, a, _, rfl, .inl (ex_l e1 hS), _, rfl, c, CC, dx, _, _, rfl, h1, T.clC, T.nC_size, cf_size _ _ _ _, rfl, _, rfl, ?_⟩
  rw [hl]
  exact iteF (q H1 e1)
theorem ok_check_code (T : Txt K mg CC CT CR) (D : Df K mg "check_code" "check_code" s_check_code ["code", "counts"]) (c_check_counts : C8.Cal P w K mg base 2 "check_counts" (spCounts K) []) :
    C8.Cal P w K mg base 3 "check_code" (spPair K CC) [] := by
  refine D.cal sc_check_code (fun vs H Q E h => ?_) (fun f cdv A outer s H vs Q E hr h => ?_)
  · obtain ⟨c, a, h, ns, rfl, _⟩ := h
    rfl
  obtain ⟨c, a, h, ns, rfl, hC, hS, h3, hp, q⟩ := h
  refine ⟨_, (pss_cons
      (ps_expr (C8.pe_c c_check_counts hr (by decide) (by rfl) (pa_cons (pv 1) pa_nil)))
      (pss_one
      (ps_if (pt_cmpR op_ne (pe_fld (pv 0) rfl) (pe_callB call_len_seq (by rfl) T.f_len boot_len (pa_cons (pv 1) pa_nil)) (nomark _)) (pss_one
        ps_never) pss_nil))), ?_⟩
  have hl : (ns.map V.int).length = 3 := by rw [List.length_map, h3]
  refine ⟨_, rfl, a, ns, rfl, hS, h3, hp, fun H1 e1 => ?_⟩
  obtain ⟨⟨dx, lt, wt, h1, h2⟩, _⟩ := hC.mono e1
  refine ⟨_, rfl, c, CC, dx, _, _, rfl, h1, T.clC, T.nC_size, cf_size _ _ _ _, _, rfl, a, _, rfl, .inl (ex_l e1 hS), rfl, _, rfl, ?_⟩
  rw [hl]
  exact iteF (q H1 e1)
/-- the cost -/
def costL : List Int → List Int → Int
  | n :: ns, l :: ls => n * l + costL ns ls
  | _, _ => 0
def spCost (K : PySem.W.Frag) (CC : Addr) : Sp := fun vs H Q _ => ∃ (c a : Addr) (h : Int) (ns : List Int), vs = [.ref c, .ref a] ∧ CodeAt CC H c h ∧ SqL K H a (ns.map V.int) ∧ ns.length = 3 ∧ (∀ n ∈ ns, 0 ≤ n) ∧ RetV (.int (costL ns (lens h))) H Q
theorem lens_len (h : Int) : (lens h).length = 3 := rfl
theorem lens_le {h : Int} {l : Int} (m : l ∈ lens h) : 1 ≤ l ∧ l ≤ 2 := by
  unfold lens at m
  simp only [List.mem_cons, List.not_mem_nil, or_false] at m
  rcases m with rfl | rfl | rfl <;> split <;> omega
theorem costL_sum : ∀ (ns ls : List Int), costL ns ls = ((ns.zip ls).map fun p => p.1 * p.2).sum
  | [], _ => by simp [costL]
  | n :: ns, [] => by simp [costL]
  | n :: ns, l :: ls => by
    rw [costL, costL_sum ns ls]
    simp
theorem ok_cost (T : Txt K mg CC CT CR) (D : Df K mg "cost" "cost" s_cost ["code", "counts"]) (c_check_pair : C8.Cal P w K mg base 3 "check_pair" (spPair K CC) []) :
    C8.Cal P w K mg base 4 "cost" (spCost K CC) [] := by
  refine D.cal sc_cost (fun vs H Q E h => ?_) (fun f cdv A outer s H vs Q E hr h => ?_)
  · obtain ⟨c, a, h, ns, rfl, _⟩ := h
    rfl
  obtain ⟨c, a, h, ns, rfl, hC, hS, h3, hp, q⟩ := h
  refine ⟨_, (pss_cons
      (ps_expr (C8.pe_c c_check_pair hr (by decide) (by rfl) (pa_cons (pv 0) (pa_cons (pv 1) pa_nil))))
      (pss_one
      (ps_ret (pe_callB (cr_sum rfl) (by rfl) T.f_sum boot_sum (pa_cons (pe_lc (own := [("count", 2), ("length", 3)]) (tt := tYes) rfl sc_cost.nd (pi_zipLT (by rfl) T.f_zip (pa_cons (pv 1) (pa_cons (pe_fld (pv 0) rfl) pa_nil))) (blkOk_by (own := [("count", 2), ("length", 3)]) (N := ["code", "counts", "count", "length"]) (sc := C8.fnScope s_cost) (by decide +kernel)) (fun _ _ _ _ _ => (pg_tupK (K := K) (n := 2) rfl rfl (pgs_cons (pg_name (i := 2) sc_cost.nd rfl (Or.inl rfl)) (pgs_cons (pg_name (i := 3) sc_cost.nd rfl (Or.inl rfl)) pgs_nil)))) (fun _ _ _ _ _ => pts_nil) (fun _ _ _ _ _ => (pe_op op_mul (pv 2) (pv 3)))) pa_nil))))), ?_⟩
  refine ⟨_, rfl, _, rfl, c, a, h, ns, rfl, hC, hS, h3, hp, fun H1 e1 => ?_⟩
  obtain ⟨⟨dx, lt, wt, h1, h2⟩, _⟩ := hC.mono e1
  have zl : (ns.zip (lens h)).length = 3 := by rw [List.length_zip, h3, lens_len]; rfl
  refine ⟨_, rfl, _, rfl, c, CC, dx, _, _, rfl, h1, T.clC, T.nC_lengths, cf_lengths _ _ _ _, a, lt, _, _, rfl, ex_l e1 hS, sqT h2, fun Dl hD => ?_⟩
  refine lc_it (walk_zipL (by rw [List.length_map, List.length_map, h3, lens_len])) (fun i H' => Ex H1 H' ∧ H' Dl = some (.lst ((((ns.zip (lens h)).map fun p => p.1 * p.2).take i).map V.int))) ⟨Ex.new hD, upd_same⟩ (fun i H' _ ⟨e, _⟩ => ⟨ex_l (e1.trans e) hS, ex_t e (sqT h2)⟩) ?_ ?_
  · rintro i x H2 H3 hi ⟨e2, hL⟩ y
    obtain ⟨t, u, z, rfl, ht, rfl, e3, hu, hz⟩ := ypair_new y
    obtain ⟨n, hn, rfl⟩ := get_int hu
    obtain ⟨l, hl, rfl⟩ := get_int hz
    refine ⟨t, _, rfl, sqT upd_same, rfl, _, _, rfl, _, _, rfl, rfl, rfl, ?_⟩
    refine ⟨_, rfl, _, rfl, n, l, rfl, rfl, .inr ?_, ?_⟩
    · have := lens_le (List.mem_of_getElem? hl)
      constructor <;> omega
    have hDt : Dl ≠ t := ne_of_none hL ht
    have hg : ((ns.zip (lens h)).map fun p => p.1 * p.2)[i]? = some (n * l) := by
      rw [List.getElem?_map, (List.getElem?_zip_eq_some (z := (n, l))).mpr ⟨hn, hl⟩]
      rfl
    refine ⟨_, by rw [upd_ne hDt]; exact hL, ?_, (e2.trans e3).mut hD, ?_⟩
    · rw [List.length_map, List.length_take, List.length_map, zl]
      exact Nat.lt_of_le_of_lt (Nat.min_le_right _ _) (by decide)
    · rw [upd_same, take_snoc hg, List.map_append]
      rfl
  · rintro H2 ⟨e2, hL⟩
    refine ⟨Dl, _, rfl, sqL hL, ?_⟩
    have el : ((ns.zip (lens h)).map fun p => p.1 * p.2).take (ns.map V.int).length = (ns.zip (lens h)).map fun p => p.1 * p.2 := by
      refine List.take_of_length_le ?_
      rw [List.length_map, List.length_map, zl, h3]
      exact Nat.le_refl 3
    rw [el, ← costL_sum]
    exact q H2 (e1.trans e2)
end
end LJ

set_option maxHeartbeats 4000000
namespace LJ
open PySem PySem.Spec PyProof.Rows L2 Evl
/-- what joining the two least of three counts comes to -/
def least3 (a b c : Int) : Int := 2 * (a + b + c) - (if a ≤ b then (if b ≤ c then c else b) else (if a ≤ c then c else a))
theorem perm_sum {l l' : List Int} (p : l.Perm l') : l.sum = l'.sum := by
  induction p with
  | nil => rfl
  | cons x _ ih => rw [List.sum_cons, List.sum_cons, ih]
  | swap x y l =>
    rw [List.sum_cons, List.sum_cons, List.sum_cons, List.sum_cons]
    omega
  | trans _ _ h1 h2 => exact h1.trans h2
theorem perm3 {a b c : Int} {l : List Int} (p : l.Perm [a, b, c]) (w : l.Pairwise (· ≤ ·)) : ∃ x y z, l = [x, y, z] ∧ x ≤ y ∧ y ≤ z ∧ 2 * (x + y) + z = least3 a b c ∧ (0 ≤ a → 0 ≤ b → 0 ≤ c → 0 ≤ x) := by
  have hl := p.length_eq
  match l, hl with
  | [x, y, z], _ =>
    simp only [List.pairwise_cons, List.mem_cons, List.not_mem_nil, or_false] at w
    obtain ⟨w1, w2, _⟩ := w
    have xy := w1 y (.inl rfl)
    have yz := w2 z rfl
    have es := perm_sum p
    simp only [List.sum_cons, List.sum_nil] at es
    have ma : a ∈ [x, y, z] := p.mem_iff.mpr (by simp)
    have mb : b ∈ [x, y, z] := p.mem_iff.mpr (by simp)
    have mc : c ∈ [x, y, z] := p.mem_iff.mpr (by simp)
    have mz : z ∈ [a, b, c] := p.mem_iff.mp (by simp)
    have mx : x ∈ [a, b, c] := p.mem_iff.mp (by simp)
    simp only [List.mem_cons, List.not_mem_nil, or_false] at ma mb mc mz mx
    refine ⟨x, y, z, rfl, xy, yz, ?_, fun h1 h2 h3 => by rcases mx with e | e | e <;> omega⟩
    unfold least3
    split <;> split <;> rcases mz with e | e | e <;> omega
section
variable {P : Program} {w : World} {K : PySem.W.Frag} {mg : Str → Option Value} {base : Heap} {CC CT CR : Addr}
def spCostOf (K : PySem.W.Frag) : Sp := fun vs H Q _ => ∃ (p a b c : _), vs = [.ref p] ∧ SqL K H p ([a, b, c].map V.int) ∧ RetV (.int (least3 a b c)) H Q
theorem ok_cost_of (T : Txt K mg CC CT CR) (D : Df K mg "cost_of" "cost_of" s_cost_of ["counts"]) : C8.Cal P w K mg base 1 "cost_of" (spCostOf K) [] := by
  refine D.cal sc_cost_of (fun vs H Q E h => ?_) (fun f cdv A outer s H vs Q E hr h => ?_)
  · obtain ⟨p, a, b, c, rfl, _⟩ := h
    rfl
  obtain ⟨p, a, b, c, rfl, hS, q⟩ := h
  refine ⟨_, (pss_cons
      (ps_par3 (i := 1) (j := 2) (l := 3) (by rfl) sc_cost_of.nd rfl rfl rfl (by decide) (by decide) (by decide) rfl rfl rfl (pa_cons (pe_callB cr_sorted (by rfl) T.f_sorted boot_sorted (pa_cons (pv 0) pa_nil)) (pa_cons (pe_lst pa_nil) (pa_cons pe_int pa_nil))) (by rfl))
      (pss_cons
      (ps_asg (pe_tup (pa_cons pe_int (pa_cons pe_int pa_nil))) (pg_tup rfl (pgs_cons (pg_name (i := 4) sc_cost_of.nd rfl (Or.inl rfl)) (pgs_cons (pg_name (i := 5) sc_cost_of.nd rfl (Or.inl rfl)) pgs_nil))))
      (pss_cons
      (ps_for PassesOwn.never rfl (pi_range1 (by rfl) T.f_range (pa_cons (pe_op op_sub (pe_callB call_len_seq (by rfl) T.f_len boot_len (pa_cons (pv 0) pa_nil)) pe_int) pa_nil)) (pg_name (i := 6) sc_cost_of.nd rfl (Or.inl rfl)) (pss_cons
        (ps_set (i := 7) sc_cost_of.nd rfl (Or.inl rfl) pe_int)
        (pss_cons
        (ps_for PassesOwn.never rfl (pi_range1 (by rfl) T.f_range (pa_cons pe_int pa_nil)) (pg_name (i := 8) sc_cost_of.nd rfl (Or.inl rfl)) (pss_one
          (ps_if (PW.pt (pw_and (pt_cmpR op_lt (pv 4) (pe_callB call_len_seq (by rfl) T.f_len boot_len (pa_cons (pv 1) pa_nil)) (nomark _)) (pw_and1 (PW.pt (pw_or (pt_cmpR op_eq (pv 5) (pe_callB call_len_seq (by rfl) T.f_len boot_len (pa_cons (pv 2) pa_nil)) (nomark _)) (pw_or1 (pt_cmpR op_le (pe_ix ix_list (pv 1) (pv 4) (fun _ _ => rfl)) (pe_ix ix_list (pv 2) (pv 5) (fun _ _ => rfl)) (nomark _)))))))) (pss_cons
            (ps_aug (i := 7) sc_cost_of.nd rfl (Or.inl rfl) (pe_ix ix_list (pv 1) (pv 4) (fun _ _ => rfl)) ip_add)
            (pss_one
            (ps_aug (i := 4) sc_cost_of.nd rfl (Or.inl rfl) pe_int ip_add))) (pss_cons
            (ps_aug (i := 7) sc_cost_of.nd rfl (Or.inl rfl) (pe_ix ix_list (pv 2) (pv 5) (fun _ _ => rfl)) ip_add)
            (pss_one
            (ps_aug (i := 5) sc_cost_of.nd rfl (Or.inl rfl) pe_int ip_add))))))
        (pss_cons
        (ps_expr (pe_bm PySem.F.plainAttrs_list PySem.F.slot_list_append PySem.F.type_list_append mt_append (pv 2) (pa_cons (pv 7) pa_nil)))
        (pss_one
        (ps_aug (i := 3) sc_cost_of.nd rfl (Or.inl rfl) (pv 7) ip_add))))))
      (pss_one
      (ps_ret (pv 3)))))), ?_⟩
  refine ⟨_, rfl, p, [a, b, c], rfl, hS, (by show 3 < 64; decide), fun ys ps hp hw np => ?_⟩
  obtain ⟨x, y, z, rfl, xy, yz, em, _⟩ := perm3 hp hw
  refine ⟨Nat.zero_le _, fun pm nm => ⟨_, _, _, rfl, ?_⟩⟩
  refine ⟨by show 2 ≤ sizeLine; decide, fun pt nt => ?_⟩
  refine ⟨pt, _, rfl, sqT upd_same, rfl, _, _, rfl, _, _, rfl, rfl, ?_⟩
  have e1 : Ex H (upd (upd (upd H ps (.lst ([x, y, z].map V.int))) pm (.lst [])) pt (.tup [.int 0, .int 0])) := ((Ex.new np).of_new nm).of_new nt
  have hm0 : H pm = none := by
    have := nm
    rw [upd_ne (fun q => by rw [q, upd_same] at nm; cases nm)] at this
    exact this
  have hps : (upd (upd (upd H ps (.lst ([x, y, z].map V.int))) pm (.lst [])) pt (.tup [.int 0, .int 0])) ps = some (.lst ([x, y, z].map V.int)) := (((Ex.new nm).trans (Ex.new nt)) ps _ upd_same)
  have hpm : (upd (upd (upd H ps (.lst ([x, y, z].map V.int))) pm (.lst [])) pt (.tup [.int 0, .int 0])) pm = some (.lst []) := (Ex.new nt) pm _ upd_same
  generalize (upd (upd (upd H ps (.lst ([x, y, z].map V.int))) pm (.lst [])) pt (.tup [.int 0, .int 0])) = H0 at e1 hps hpm
  have ns : pm ≠ ps := ne_of hpm hps (by intro q; cases q)
  refine ⟨_, rfl, p, _, rfl, .inl (ex_l e1 hS), _, _, rfl, rfl, 2, rfl, by decide, by decide, ?_⟩
  refine for_range (lo := 0) (n := 2) (fun i σ H' => ∃ (tot at' fs : Int) (made : List Int) (v1 v2 v3 : Option V),
    σ = [some (.ref p), some (.ref ps), some (.ref pm), some (.int tot), some (.int at'), some (.int fs), v1, v2, v3] ∧ Ex H H' ∧ H' ps = some (.lst ([x, y, z].map V.int)) ∧ H' pm = some (.lst (made.map V.int)) ∧
    (i = 0 → tot = 0 ∧ at' = 0 ∧ fs = 0 ∧ made = []) ∧ (i = 1 → tot = x + y ∧ at' = 2 ∧ fs = 0 ∧ made = [x + y]) ∧ (i = 2 → tot = 2 * (x + y) + z))
    ⟨0, 0, 0, [], none, none, none, rfl, e1, hps, hpm, fun _ => ⟨rfl, rfl, rfl, rfl⟩, (fun h => absurd h (by decide)), (fun h => absurd h (by decide))⟩ ?_ ?_
  · rintro i σ H1 hi ⟨tot, at', fs, made, v1, v2, v3, rfl, e2, h1, h2, i0, i1, _⟩
    refine ⟨_, rfl, by decide, by decide, ?_⟩
    have ci : i = 0 ∨ i = 1 := by omega
    rcases ci with rfl | rfl
    · obtain ⟨rfl, rfl, rfl, rfl⟩ := i0 rfl
      refine for_range (lo := 0) (n := 2) (fun j σ H' => ∃ (wt : Int) (at' : Int) (v3 : Option V),
        σ = [some (.ref p), some (.ref ps), some (.ref pm), some (.int 0), some (.int at'), some (.int 0), some (.int (0 + (0 : Nat))), some (.int wt), v3] ∧ H' = H1 ∧
        (j = 0 → wt = 0 ∧ at' = 0) ∧ (j = 1 → wt = x ∧ at' = 1) ∧ (j = 2 → wt = x + y ∧ at' = 2)) ⟨0, 0, v3, rfl, rfl, fun _ => ⟨rfl, rfl⟩, (fun h => absurd h (by decide)), (fun h => absurd h (by decide))⟩ ?_ ?_
      · rintro j σ H2 hj ⟨wt, at', v3, rfl, rfl, j0, j1, _⟩
        have cj : j = 0 ∨ j = 1 := by omega
        rcases cj with rfl | rfl
        · obtain ⟨rfl, rfl⟩ := j0 rfl
          refine ⟨_, rfl, _, rfl, ps, _, rfl, .inl (sqL h1), _, _, rfl, rfl, true, rfl, ?_⟩
          refine ⟨_, rfl, _, rfl, pm, _, rfl, .inl (sqL h2), rfl, true, rfl, ?_⟩
          refine ⟨_, rfl, _, rfl, _, rfl, ps, _, _, _, rfl, rfl, sqL h1, rfl, _, _, rfl, rfl, ?_⟩
          refine ⟨_, rfl, _, _, rfl, rfl, ?_⟩
          exact ⟨0 + x, 0 + 1, _, rfl, rfl, (fun h => absurd h (by decide)), fun _ => ⟨Int.zero_add _, rfl⟩, (fun h => absurd h (by decide))⟩
        · obtain ⟨rfl, rfl⟩ := j1 rfl
          refine ⟨_, rfl, _, rfl, ps, _, rfl, .inl (sqL h1), _, _, rfl, rfl, true, rfl, ?_⟩
          refine ⟨_, rfl, _, rfl, pm, _, rfl, .inl (sqL h2), rfl, true, rfl, ?_⟩
          refine ⟨_, rfl, _, rfl, _, rfl, ps, _, _, _, rfl, rfl, sqL h1, rfl, _, _, rfl, rfl, ?_⟩
          refine ⟨_, rfl, _, _, rfl, rfl, ?_⟩
          exact ⟨wt + y, 1 + 1, _, rfl, rfl, (fun h => absurd h (by decide)), (fun h => absurd h (by decide)), fun _ => ⟨rfl, rfl⟩⟩
      · rintro σ H2 ⟨wt, at', v3, rfl, rfl, _, _, j2⟩
        obtain ⟨rfl, rfl⟩ := j2 rfl
        refine ⟨_, rfl, .inl ⟨rfl, _, sqL h2⟩, _, rfl, pm, _, _, rfl, rfl, h2, sz_lt (by rw [List.length_map]; show _ < 100000; first | decide | (show 1 < 100000; decide)), ?_⟩
        refine ⟨_, rfl, _, rfl, _, _, rfl, rfl, ?_⟩
        refine ⟨0 + (x + y), 2, 0, [x + y], _, _, _, rfl, e2.mut hm0, ?_, upd_same, (fun h => absurd h (by decide)), fun _ => ⟨Int.zero_add _, rfl, rfl, rfl⟩, (fun h => absurd h (by decide))⟩
        rw [upd_ne ns.symm]
        exact h1
    · obtain ⟨rfl, rfl, rfl, rfl⟩ := i1 rfl
      refine for_range (lo := 0) (n := 2) (fun j σ H' => ∃ (wt : Int) (at' fs : Int) (v3 : Option V),
        σ = [some (.ref p), some (.ref ps), some (.ref pm), some (.int (x + y)), some (.int at'), some (.int fs), some (.int (0 + (1 : Nat))), some (.int wt), v3] ∧ H' = H1 ∧
        (j = 0 → wt = 0 ∧ at' = 2 ∧ fs = 0) ∧ (j = 1 → (wt = z ∧ at' = 3 ∧ fs = 0) ∨ (wt = x + y ∧ at' = 2 ∧ fs = 1)) ∧ (j = 2 → wt = x + y + z)) ⟨0, 2, 0, v3, rfl, rfl, fun _ => ⟨rfl, rfl, rfl⟩, (fun h => absurd h (by decide)), (fun h => absurd h (by decide))⟩ ?_ ?_
      · rintro j σ H2 hj ⟨wt, at', fs, v3, rfl, rfl, j0, j1, _⟩
        have cj : j = 0 ∨ j = 1 := by omega
        rcases cj with rfl | rfl
        · obtain ⟨rfl, rfl, rfl⟩ := j0 rfl
          refine ⟨_, rfl, _, rfl, ps, _, rfl, .inl (sqL h1), _, _, rfl, rfl, true, rfl, ?_⟩
          refine ⟨_, rfl, _, rfl, pm, _, rfl, .inl (sqL h2), rfl, false, rfl, ?_⟩
          refine ⟨_, rfl, _, rfl, ps, _, _, _, rfl, rfl, sqL h1, rfl, _, rfl, _, rfl, pm, _, _, _, rfl, rfl, sqL h2, rfl, _, _, rfl, rfl, _, rfl, ?_⟩
          cases hz : decide (z ≤ x + y) with
          | true =>
            refine ⟨_, rfl, _, rfl, _, rfl, ps, _, _, _, rfl, rfl, sqL h1, rfl, _, _, rfl, rfl, ?_⟩
            refine ⟨_, rfl, _, _, rfl, rfl, ?_⟩
            exact ⟨0 + z, 2 + 1, 0, _, rfl, rfl, (fun h => absurd h (by decide)), fun _ => .inl ⟨Int.zero_add _, rfl, rfl⟩, (fun h => absurd h (by decide))⟩
          | false =>
            refine ⟨_, rfl, _, rfl, _, rfl, pm, _, _, _, rfl, rfl, sqL h2, rfl, _, _, rfl, rfl, ?_⟩
            refine ⟨_, rfl, _, _, rfl, rfl, ?_⟩
            exact ⟨0 + (x + y), 2, 0 + 1, _, rfl, rfl, (fun h => absurd h (by decide)), fun _ => .inr ⟨Int.zero_add _, rfl, rfl⟩, (fun h => absurd h (by decide))⟩
        · rcases j1 rfl with ⟨rfl, rfl, rfl⟩ | ⟨rfl, rfl, rfl⟩
          · refine ⟨_, rfl, _, rfl, ps, _, rfl, .inl (sqL h1), _, _, rfl, rfl, false, rfl, ?_⟩
            refine ⟨_, rfl, _, rfl, _, rfl, pm, _, _, _, rfl, rfl, sqL h2, rfl, _, _, rfl, rfl, ?_⟩
            refine ⟨_, rfl, _, _, rfl, rfl, ?_⟩
            exact ⟨wt + (x + y), 3, 0 + 1, _, rfl, rfl, (fun h => absurd h (by decide)), (fun h => absurd h (by decide)), fun _ => Int.add_comm _ _⟩
          · refine ⟨_, rfl, _, rfl, ps, _, rfl, .inl (sqL h1), _, _, rfl, rfl, true, rfl, ?_⟩
            refine ⟨_, rfl, _, rfl, pm, _, rfl, .inl (sqL h2), rfl, true, rfl, ?_⟩
            refine ⟨_, rfl, _, rfl, _, rfl, ps, _, _, _, rfl, rfl, sqL h1, rfl, _, _, rfl, rfl, ?_⟩
            refine ⟨_, rfl, _, _, rfl, rfl, ?_⟩
            exact ⟨x + y + z, 2 + 1, 1, _, rfl, rfl, (fun h => absurd h (by decide)), (fun h => absurd h (by decide)), fun _ => rfl⟩
      · rintro σ H2 ⟨wt, at', fs, v3, rfl, rfl, _, _, j2⟩
        have ew := j2 rfl
        refine ⟨_, rfl, .inl ⟨rfl, _, sqL h2⟩, _, rfl, pm, _, _, rfl, rfl, h2, sz_lt (by rw [List.length_map]; show _ < 100000; first | decide | (show 1 < 100000; decide)), ?_⟩
        refine ⟨_, rfl, _, rfl, _, _, rfl, rfl, ?_⟩
        refine ⟨x + y + wt, at', fs, [x + y, wt], _, _, _, rfl, e2.mut hm0, ?_, upd_same, (fun h => absurd h (by decide)), (fun h => absurd h (by decide)), fun _ => by omega⟩
        rw [upd_ne ns.symm]
        exact h1
  · rintro σ H1 ⟨tot, at', fs, made, v1, v2, v3, rfl, e2, h1, h2, _, _, i2⟩
    refine ⟨_, rfl, ?_⟩
    rw [i2 rfl, em]
    exact q H1 e2
end
end LJ

set_option maxHeartbeats 4000000
namespace LJ
open PySem PySem.Spec PyProof.Rows L2 Evl
def widthM (h : Int) (ss : List Int) : Int := (ss.map fun s => 1 * 2 ^ (2 - li h s).toNat).sum
def lvAt (h : Int) (ss : List Int) (k : Nat) : Option V := if widthM h ss = 1 * 2 ^ (2 - (k : Int)).toNat then some (if (ss.all fun s => decide ((k : Int) ≤ li h s)) = true then .int k else .non) else none
def levelM (h : Int) (ss : List Int) : V := (lvAt h ss 0).getD ((lvAt h ss 1).getD ((lvAt h ss 2).getD .non))
theorem levelM_at {h : Int} {ss : List Int} {i : Nat} {v : V} (hi : i < 3) (b : ∀ k, k < i → lvAt h ss k = none) (e : lvAt h ss i = some v) : levelM h ss = v := by
  unfold levelM
  have ci : i = 0 ∨ i = 1 ∨ i = 2 := by omega
  rcases ci with rfl | rfl | rfl
  · rw [e]; rfl
  · rw [b 0 (by omega), e]; rfl
  · rw [b 0 (by omega), b 1 (by omega), e]; rfl
theorem levelM_none {h : Int} {ss : List Int} (b : ∀ k, k < 3 → lvAt h ss k = none) : levelM h ss = .non := by
  unfold levelM
  rw [b 0 (by omega), b 1 (by omega), b 2 (by omega)]
  rfl
section
variable {P : Program} {w : World} {K : PySem.W.Frag} {mg : Str → Option Value} {base : Heap} {CC CT CR : Addr}
def spLevel (K : PySem.W.Frag) (CC : Addr) : Sp := fun vs H Q _ => ∃ (c a : Addr) (h : Int) (ss : List Int), vs = [.ref c, .ref a] ∧ CodeAt CC H c h ∧ SqL K H a (ss.map V.int) ∧ ss.length < 1000 ∧ (∀ s ∈ ss, s = 0 ∨ s = 1 ∨ s = 2) ∧ RetV (levelM h ss) H Q
theorem ok_level_of (T : Txt K mg CC CT CR) (D : Df K mg "level_of" "level_of" s_level_of ["code", "signs"]) : C8.Cal P w K mg base 1 "level_of" (spLevel K CC) [] := by
  refine D.cal sc_level_of (fun vs H Q E h => ?_) (fun f cdv A outer s H vs Q E hr h => ?_)
  · obtain ⟨c, a, h, ss, rfl, _⟩ := h
    rfl
  obtain ⟨c, a, h, ss, rfl, hC, hS, hz, h3, q⟩ := h
  refine ⟨_, (pss_cons
      (ps_set (i := 2) sc_level_of.nd rfl (Or.inl rfl) (pe_callB (cr_sum rfl) (by rfl) T.f_sum boot_sum (pa_cons (pe_lc (own := [("sign", 4)]) (g := gName 4) (tt := tYes) rfl sc_level_of.nd (pi_list (pv 1)) (blkOk_by (own := [("sign", 4)]) (N := ["code", "signs", "width", "level", "sign"]) (sc := C8.fnScope s_level_of) (by decide +kernel)) (fun _ _ _ _ _ => (pg_name (i := 4) sc_level_of.nd rfl (Or.inl rfl))) (fun _ _ _ _ _ => pts_nil) (fun _ _ _ _ _ => (pe_op op_shl pe_int (pe_op op_sub (pe_fldK (K := K) rfl (pv 0) rfl) (pe_ix (ix_tupK (K := K) rfl) (pe_fldK (K := K) rfl (pv 0) rfl) (pv 4) (fun _ _ => rfl)))))) pa_nil)))
      (pss_cons
      (ps_for PassesOwn.never rfl (pi_range1 (by rfl) T.f_range (pa_cons (pe_op op_add (pe_fld (pv 0) rfl) pe_int) pa_nil)) (pg_name (i := 3) sc_level_of.nd rfl (Or.inr rfl)) (pss_one
        (ps_if (pt_cmpR op_eq (pv 2) (pe_op op_shl pe_int (pe_op op_sub (pe_fld (pv 0) rfl) (pv 3))) (nomark _)) (pss_one
          (ps_ret (pe_ifExp (pt_val (pe_callB (cr_all rfl) (by rfl) T.f_all boot_all (pa_cons (pe_lc (own := [("sign", 4)]) (g := gName 4) (tt := tYes) rfl sc_level_of.nd (pi_list (pv 1)) (blkOk_by (own := [("sign", 4)]) (N := ["code", "signs", "width", "level", "sign"]) (sc := C8.fnScope s_level_of) (by decide +kernel)) (fun _ _ _ _ _ => (pg_name (i := 4) sc_level_of.nd rfl (Or.inl rfl))) (fun _ _ _ _ _ => pts_nil) (fun _ _ _ _ _ => (pe_cmpR op_ge (pe_ix (ix_tupK (K := K) rfl) (pe_fldK (K := K) rfl (pv 0) rfl) (pv 4) (fun _ _ => rfl)) (pv 3) (nomark _)))) pa_nil))) (pv 3) pe_non))) pss_nil)))
      (pss_one
      (ps_ret pe_non)))), ?_⟩
  obtain ⟨⟨dx, lt, wt, h1, h2⟩, _⟩ := id hC
  refine ⟨_, rfl, a, rfl, ⟨_, hS⟩, fun Dl hD => lc_ints hD hS (fun s => .int (1 * 2 ^ (2 - li h s).toNat)) (by omega) (fun x => rfl) (fun s H2 hs e => ?_) (fun H1 e1 hL => ?_)⟩
  · have b := li_12 h s
    exact ev_op ev_c (ev_op (ev_fld (ev_var rfl) (e _ _ h1) T.clC T.nC_longest (cf_longest _ _ _ _)) (ev_op (ev_fld (ev_var rfl) (e _ _ h1) T.clC T.nC_lengths (cf_lengths _ _ _ _)) (ev_var rfl) (rv_ixT (sqT (e _ _ h2)) (lens_at (h3 s hs)))) rv_I0)
      (rv_shl (by omega) (by omega) (by decide))
  rw [map_int] at hL
  refine ⟨Dl, _, rfl, sqL hL, ?_⟩
  have ew : (ss.map fun s => 1 * 2 ^ (2 - li h s).toNat).sum = widthM h ss := rfl
  rw [ew]
  refine ⟨_, rfl, c, CC, dx, _, _, rfl, e1 _ _ h1, T.clC, T.nC_longest, cf_longest _ _ _ _, _, _, rfl, rfl, 3, rfl, by decide, by decide, ?_⟩
  refine for_range (lo := 0) (n := 3) (fun i σ H' => ∃ v4 : Option V, σ = [some (.ref c), some (.ref a), some (.int (widthM h ss)), v4, none] ∧ Ex H H' ∧ ∀ k, k < i → lvAt h ss k = none) ⟨none, rfl, e1, fun k hk => by omega⟩ ?_ ?_
  · rintro i σ H2 hi ⟨v4, rfl, e2, b⟩
    have e0 : (0 : Int) + (i : Int) = (i : Int) := Int.zero_add _
    refine ⟨_, rfl, _, rfl, c, CC, dx, _, _, rfl, e2 _ _ h1, T.clC, T.nC_longest, cf_longest _ _ _ _, _, rfl, _, _, rfl, rfl, _, _, rfl, rfl, ⟨by omega, by omega, by decide⟩, rfl, _, rfl, ?_⟩
    rw [e0]
    cases hd : decide (V.int (widthM h ss) = V.int (1 * 2 ^ (2 - (i : Int)).toNat)) with
    | true =>
      have he : widthM h ss = 1 * 2 ^ (2 - (i : Int)).toNat := V.int.inj (of_decide_eq_true hd)
      have hv : lvAt h ss i = some (if (ss.all fun s => decide ((i : Int) ≤ li h s)) = true then .int i else .non) := by
        unfold lvAt
        rw [if_pos he]
      have hq := levelM_at hi b hv
      refine ⟨_, rfl, a, rfl, ⟨_, ex_l e2 hS⟩, fun D2 hD2 => lc_ints hD2 (ex_l e2 hS) (fun s => .bl (decide ((i : Int) ≤ li h s))) (by omega) (fun x => rfl) (fun s H3 hs e => ?_) (fun H3 e3 hL3 => ?_)⟩
      · have e' := e2.trans e
        exact ev_op (ev_op (ev_fld (ev_var rfl) (e' _ _ h1) T.clC T.nC_lengths (cf_lengths _ _ _ _)) (ev_var rfl) (rv_ixT (sqT (e' _ _ h2)) (lens_at (h3 s hs)))) (ev_var rfl) rv_I0
      rw [map_bl] at hL3
      refine ⟨D2, _, rfl, sqL hL3, _, rfl, ?_⟩
      have ea : (ss.map fun s => decide ((i : Int) ≤ li h s)).all id = ss.all fun s => decide ((i : Int) ≤ li h s) := by rw [List.all_map]; rfl
      rw [ea]
      rw [hq] at q
      cases hall : (ss.all fun s => decide ((i : Int) ≤ li h s)) with
      | true =>
        rw [hall] at q
        exact ⟨_, rfl, q H3 (e2.trans e3)⟩
      | false =>
        rw [hall] at q
        exact q H3 (e2.trans e3)
    | false =>
      have he : ¬ widthM h ss = 1 * 2 ^ (2 - (i : Int)).toNat := fun z => of_decide_eq_false hd (congrArg V.int z)
      refine ⟨_, rfl, e2, fun k hk => ?_⟩
      by_cases hki : k < i
      · exact b k hki
      · have : k = i := by omega
        subst this
        unfold lvAt
        rw [if_neg he]
  · rintro σ H2 ⟨v4, rfl, e2, b⟩
    have hq := levelM_none b
    rw [hq] at q
    exact q H2 e2
end
end LJ

set_option maxHeartbeats 4000000
namespace LJ
open PySem PySem.Spec PyProof.Rows L2 Evl
theorem pow_small : ∀ k : Nat, k < 26 → -(2 ^ 64) < (2 : Int) ^ k ∧ (2 : Int) ^ k < 2 ^ 64 := by decide
theorem putK_grow {κ : Type} [DecidableEq κ] (kvs : List (κ × V)) (k : κ) (y : V) : (putK kvs k y).length ≤ kvs.length + 1 := by
  unfold putK
  split
  · rw [List.length_map]
    omega
  · rw [List.length_append, List.length_singleton]
    exact Nat.le_refl _
section
variable {P : Program} {w : World} {K : PySem.W.Frag} {mg : Str → Option Value} {base : Heap} {CC CT CR : Addr}
def spCanon (K : PySem.W.Frag) : Sp := fun vs H Q _ => ∃ (a : Addr) (ls : List Int), vs = [.ref a] ∧ SqT K H a (ls.map V.int) ∧ ls.length ≤ 26 ∧ (∀ l ∈ ls, 0 ≤ l ∧ l ≤ 25) ∧ (∀ t ws H2, Ex H H2 → H2 t = some (.tup ws) → Q (.ref t) H2)
theorem ok_canonical (T : Txt K mg CC CT CR) (D : Df K mg "canonical" "canonical" s_canonical ["lengths"]) (c_two_to : C8.Cal P w K mg base 1 "two_to" spTwo []) (c_bits_of : C8.Cal P w K mg base 1 "bits_of" spBits []) :
    C8.Cal P w K mg base 2 "canonical" (spCanon K) [] := by
  refine D.cal sc_canonical (fun vs H Q E h => ?_) (fun f cdv A outer s H vs Q E hr h => ?_)
  · obtain ⟨a, ls, rfl, _⟩ := h
    rfl
  obtain ⟨a, ls, rfl, hS, h26, hl, q⟩ := h
  refine ⟨_, (pss_cons
      (ps_set (i := 1) sc_canonical.nd rfl (Or.inr rfl) pe_dnewK)
      (pss_cons
      (ps_asg (pe_tup (pa_cons pe_int (pa_cons pe_int pa_nil))) (pg_tup rfl (pgs_cons (pg_name (i := 2) sc_canonical.nd rfl (Or.inl rfl)) (pgs_cons (pg_name (i := 3) sc_canonical.nd rfl (Or.inl rfl)) pgs_nil))))
      (pss_cons
      (ps_for PassesOwn.never rfl (pi_list (pe_callB cr_sortedP (by rfl) T.f_sorted boot_sorted (pa_cons (pe_lc (own := [("sign", 5), ("length", 4)]) (tt := tYes) rfl sc_canonical.nd (pi_enumT (by rfl) T.f_enumerate (pa_cons (pv 0) pa_nil)) (blkOk_by (own := [("sign", 5), ("length", 4)]) (N := ["lengths", "found", "number", "size", "length", "sign"]) (sc := C8.fnScope s_canonical) (by decide +kernel)) (fun _ _ _ _ _ => (pg_tupK (K := K) (n := 2) rfl rfl (pgs_cons (pg_name (i := 5) sc_canonical.nd rfl (Or.inl rfl)) (pgs_cons (pg_name (i := 4) sc_canonical.nd rfl (Or.inl rfl)) pgs_nil)))) (fun _ _ _ _ _ => pts_nil) (fun _ _ _ _ _ => (pe_tup (pa_cons (pv 4) (pa_cons (pv 5) pa_nil))))) pa_nil))) (pg_tup rfl (pgs_cons (pg_name (i := 4) sc_canonical.nd rfl (Or.inl rfl)) (pgs_cons (pg_name (i := 5) sc_canonical.nd rfl (Or.inl rfl)) pgs_nil))) (pss_cons
        (ps_set (i := 2) sc_canonical.nd rfl (Or.inl rfl) (pe_op op_mul (pv 2) (C8.pe_c c_two_to hr (by decide) (by rfl) (pa_cons (pe_op op_sub (pv 4) (pv 3)) pa_nil))))
        (pss_cons
        (ps_set (i := 3) sc_canonical.nd rfl (Or.inl rfl) (pv 4))
        (pss_cons
        (ps_dput (hu_of hr) (pv 1) (pv 5) (C8.pe_c c_bits_of hr (by decide) (by rfl) (pa_cons (pv 2) (pa_cons (pv 3) pa_nil))) rfl)
        (pss_one
        (ps_aug (i := 2) sc_canonical.nd rfl (Or.inl rfl) pe_int ip_add))))))
      (pss_one
      (ps_ret (pe_callTy call_tuple_of (by rfl) T.f_tuple boot_tuple (pa_cons (pe_lc (own := [("sign", 5)]) (g := gName 5) (tt := tYes) rfl sc_canonical.nd (pi_range1 (by rfl) T.f_range (pa_cons (pe_callB call_len_seq (by rfl) T.f_len boot_len (pa_cons (pv 0) pa_nil)) pa_nil)) (blkOk_by (own := [("sign", 5)]) (N := ["lengths", "found", "number", "size", "length", "sign"]) (sc := C8.fnScope s_canonical) (by decide +kernel)) (fun _ _ _ _ _ => (pg_name (i := 5) sc_canonical.nd rfl (Or.inl rfl))) (fun _ _ _ _ _ => pts_nil) (fun _ _ _ _ _ => (pe_dget (hu_of hr) (pv 1) (pv 5) (fun _ _ => rfl)))) pa_nil))))))), ?_⟩
  have nl : (ls.map V.int).length = ls.length := List.length_map _
  refine fun d nd => ?_
  refine ⟨by show 2 ≤ sizeLine; decide, fun pt nt => ?_⟩
  refine ⟨pt, _, rfl, sqT upd_same, rfl, _, _, rfl, _, _, rfl, rfl, ?_⟩
  have e0 : Ex H (upd (upd H d (.dK [])) pt (.tup [.int 0, .int 0])) := (Ex.new nd).of_new nt
  have d0 : (upd (upd H d (.dK [])) pt (.tup [.int 0, .int 0])) d = some (.dK []) := (Ex.new nt) d _ upd_same
  generalize (upd (upd H d (.dK [])) pt (.tup [.int 0, .int 0])) = H0 at e0 d0
  -- the pairs
  refine ⟨_, rfl, a, _, rfl, ex_t e0 hS, fun Dl hD => lc_it walk_enumT (fun i H' => Ex H0 H' ∧ ∃ ts : List Addr, ts.length = i ∧ H' Dl = some (.lst (ts.map V.ref)) ∧ ∀ (j : Nat) (t : Addr), ts[j]? = some t → ∃ l, ls[j]? = some l ∧ H' t = some (.tup [.int l, .int (j : Int)]))
    ⟨Ex.new hD, [], rfl, upd_same, fun j t h => by simp at h⟩ (fun i H' _ ⟨e, _⟩ => ex_t (e0.trans e) hS) ?_ ?_⟩
  · rintro i x H2 H3 hi ⟨e2, ts, hn, hL, hts⟩ y
    obtain ⟨t, u, z, rfl, ht, rfl, e3, hu, hz⟩ := ypair_new y
    cases hu
    obtain ⟨l, hl', rfl⟩ := get_int hz
    refine ⟨t, _, rfl, sqT upd_same, rfl, _, _, rfl, _, _, rfl, rfl, rfl, ?_⟩
    refine ⟨_, rfl, _, rfl, by show 2 ≤ sizeLine; decide, fun p np => ?_⟩
    have e4 := e3.trans (Ex.new (o := .tup [.int l, .int (i : Int)]) np)
    have hLD := e4 Dl _ hL
    have hpD : Dl ≠ p := ne_of_none (e3 Dl _ hL) np
    refine ⟨_, hLD, ?_, (e2.trans e4).mut hD, ts ++ [p], by rw [List.length_append, hn]; rfl, by rw [upd_same, List.map_append]; rfl, ?_⟩
    · rw [List.length_map, hn]
      exact sz_lt (by omega)
    · intro j t' h'
      by_cases hj : j < ts.length
      · rw [List.getElem?_append_left hj] at h'
        obtain ⟨l', h1, h2⟩ := hts j t' h'
        refine ⟨l', h1, ?_⟩
        have h3 := e4 _ _ h2
        rw [upd_ne (ne_of h3 hLD (by intro q; cases q))]
        exact h3
      · have hlt := (List.getElem?_eq_some_iff.mp h').1
        rw [List.length_append, List.length_singleton] at hlt
        have ej : j = ts.length := by omega
        subst ej
        rw [List.getElem?_append_right (Nat.le_refl _), Nat.sub_self] at h'
        have ep : p = t' := Option.some.inj h'
        subst ep
        refine ⟨l, by rw [hn]; exact hl', ?_⟩
        rw [upd_ne (Ne.symm hpD), upd_same, hn]
  rintro H1 ⟨e1, ts, hn, hL, hts⟩
  rw [nl] at hn
  refine ⟨Dl, ts.map V.ref, rfl, sqL hL, fun x hx => ?_, fun ys ps hperm np => ?_⟩
  · obtain ⟨j, hj, ej⟩ := List.mem_iff_getElem.mp hx
    rw [List.length_map] at hj
    rw [List.getElem_map] at ej
    obtain ⟨l, _, h2⟩ := hts j ts[j] (List.getElem?_eq_getElem hj)
    exact ⟨ts[j], l, j, ej.symm, h2⟩
  -- the turns
  have e2 : Ex H1 (upd H1 ps (.lst ys)) := Ex.new np
  have nps : H1 d = some (.dK []) := e1 _ _ d0
  have ndps : ps ≠ d := (ne_of_none nps np).symm
  refine ⟨ps, rfl, ⟨_, sqL upd_same⟩, ?_⟩
  have hps : (upd H1 ps (.lst ys)) ps = some (.lst ys) := upd_same
  have hd1 : (upd H1 ps (.lst ys)) d = some (.dK []) := e2 _ _ nps
  have e02 : Ex H (upd H1 ps (.lst ys)) := e0.trans (e1.trans e2)
  have hts2 : ∀ (j : Nat) (t : Addr), ts[j]? = some t → ∃ l, ls[j]? = some l ∧ (upd H1 ps (.lst ys)) t = some (.tup [.int l, .int (j : Int)]) := fun j t h => by
    obtain ⟨l, h1, h2⟩ := hts j t h
    exact ⟨l, h1, e2 _ _ h2⟩
  generalize (upd H1 ps (.lst ys)) = H4 at hps hd1 e02 hts2
  have hyl : ys.length = ls.length := by rw [hperm.length_eq, List.length_map, hn]
  have hys : ∀ y ∈ ys, ∃ (j : Nat) (t : Addr) (l : Int), y = .ref t ∧ ts[j]? = some t ∧ ls[j]? = some l ∧ H4 t = some (.tup [.int l, .int (j : Int)]) := fun y hy => by
    have hm := hperm.mem_iff.mp hy
    obtain ⟨j, hj, ej⟩ := List.mem_iff_getElem.mp hm
    rw [List.length_map] at hj
    rw [List.getElem_map] at ej
    obtain ⟨l, h1, h2⟩ := hts2 j ts[j] (List.getElem?_eq_getElem hj)
    exact ⟨j, ts[j], l, ej.symm, List.getElem?_eq_getElem hj, h1, h2⟩
  refine for_list (K := K) (a := ps) (xs := ys) (fun i σ H' => ∃ (num sz : Int) (v4 v5 : Option V) (kvs : List (Key × V)), σ = [some (.ref a), some (.ref d), some (.int num), some (.int sz), v4, v5] ∧ Ex H H' ∧ (∀ b o, H4 b = some o → b ≠ d → H' b = some o) ∧
      H' d = some (.dK kvs) ∧ kvs.length ≤ i ∧ 0 ≤ sz ∧ sz ≤ 25 ∧ ∀ (k : Nat) (t : Addr) (l : Int) (j : Nat), k < i → ys[k]? = some (.ref t) → H4 t = some (.tup [.int l, .int (j : Int)]) → (valV kvs (.inl (j : Int))).isSome = true)
    ⟨0, 0, none, none, [], rfl, e02, fun b o h _ => h, hd1, Nat.le_refl _, by decide, by decide, fun k t l j hk => by omega⟩ (fun i σ H' _ ⟨_, _, _, _, _, _, _, k, _⟩ => sqL (k ps _ hps (ne_of hps hd1 (by intro q; cases q)))) ?_ ?_
  · rintro i y σ H5 hi ⟨num, sz, v4, v5, kvs, rfl, e5, k5, hd5, hk5, s0, s1, hv⟩
    have hmem := List.mem_of_getElem? hi
    obtain ⟨j, t, l, rfl, htj, hlj, ht4⟩ := hys y hmem
    have ll := hl l (List.mem_of_getElem? hlj)
    have ht5 := k5 t _ ht4 (ne_of ht4 hd1 (by intro q; cases q))
    refine ⟨t, _, rfl, sqT ht5, rfl, _, _, rfl, _, _, rfl, rfl, ?_⟩
    have pw := pow_small (l - sz).toNat (by omega)
    refine ⟨_, rfl, _, rfl, _, rfl, _, _, rfl, rfl, _, rfl, by omega, by omega, _, _, rfl, rfl, .inr pw, ?_⟩
    refine ⟨_, rfl, ?_⟩
    refine ⟨_, rfl, _, rfl, _, _, rfl, ll.1, by omega, fun z => ?_⟩
    have hi26 : i < 26 := by
      have := (List.getElem?_eq_some_iff.mp hi).1
      omega
    refine ⟨_, rfl, _, rfl, d, _, rfl, DPut.k (k := Sum.inl (j : Int)) hd5 (sz_lt (by omega)), ?_⟩
    refine ⟨_, rfl, _, _, rfl, rfl, ?_⟩
    refine ⟨_, l, _, _, putK kvs (.inl (j : Int)) (.str z), rfl, e5.mut nd, fun b o hb hne => by rw [upd_ne hne]; exact k5 b o hb hne, upd_same, Nat.le_trans (putK_grow _ _ _) (by omega), ll.1, ll.2, fun k t' l' j' hk hyk hH4 => ?_⟩
    rw [valV_put]
    by_cases hj : (Sum.inl (j' : Int) : Key) = Sum.inl (j : Int)
    · rw [if_pos hj]
      rfl
    · rw [if_neg hj]
      by_cases hki : k < i
      · exact hv k t' l' j' hki hyk hH4
      · have eki : k = i := by omega
        subst eki
        rw [hi] at hyk
        have et : t = t' := V.ref.inj (Option.some.inj hyk)
        subst et
        rw [ht4] at hH4
        injection hH4 with hH4
        injection hH4 with hH4
        injection hH4 with _ hH4
        injection hH4 with hH4 _
        exact absurd (congrArg Sum.inl (V.int.inj hH4).symm) hj
  · rintro σ H5 ⟨num, sz, v4, v5, kvs, rfl, e5, k5, hd5, hk5, s0, s1, hv⟩
    have all : ∀ j : Nat, j < ls.length → (valV kvs (.inl (j : Int))).isSome = true := fun j hj => by
      have hjt : j < ts.length := by omega
      obtain ⟨l, h1, h2⟩ := hts2 j ts[j] (List.getElem?_eq_getElem hjt)
      have hm : V.ref ts[j] ∈ ys := hperm.mem_iff.mpr (List.mem_map.mpr ⟨ts[j], List.getElem_mem hjt, rfl⟩)
      obtain ⟨k, hk, ek⟩ := List.mem_iff_getElem.mp hm
      exact hv k ts[j] l j hk (by rw [List.getElem?_eq_getElem hk, ek]) h2
    refine ⟨_, rfl, a, _, rfl, .inr (ex_t e5 hS), ls.length, by rw [nl], by omega, by omega, fun D2 hD2 => ?_⟩
    refine lc_rng (n := ls.length) hD2 (fun i => (valV kvs (.inl (i : Int))).getD .non) (by omega) (fun x => rfl) (fun i H6 hi e6 => ?_) (fun H6 e6 hL6 => ?_)
    · intro H7 e7 Q' q'
      have hs := all i hi
      cases hval : valV kvs (.inl (i : Int)) with
      | none =>
        rw [hval] at hs
        cases hs
      | some v =>
        rw [hval] at q'
        exact ⟨_, rfl, _, rfl, d, v, rfl, by rw [← hval]; exact DGet.k (k := Sum.inl (i : Int)) (e7 _ _ (e6 _ _ hd5)), q' H7 (Ex.refl H7)⟩
    · refine ⟨D2, _, rfl, .inl ⟨sqL hL6, fun l hl => ?_⟩⟩
      exact q l _ _ (e5.trans (e6.of_new hl)) upd_same
end
end LJ

set_option maxHeartbeats 4000000
namespace LJ
open PySem PySem.Spec PyProof.Rows L2 Evl
theorem lens_sum {h : Int} (h3 : h = 0 ∨ h = 1 ∨ h = 2) : ((lens h).map fun l => (2 : Int) ^ (25 - l).toNat).sum = 2 ^ (25 : Int).toNat := by
  rcases h3 with rfl | rfl | rfl <;> decide
theorem lens_max {h : Int} (h3 : h = 0 ∨ h = 1 ∨ h = 2) : ∃ n ns, lens h = n :: ns ∧ PySem.W.maxOf n ns = 2 := by
  rcases h3 with rfl | rfl | rfl
  · exact ⟨1, [2, 2], rfl, by decide +kernel⟩
  · exact ⟨2, [1, 2], rfl, by decide +kernel⟩
  · exact ⟨2, [2, 1], rfl, by decide +kernel⟩
theorem lens_12 {h : Int} {l : Int} (m : l ∈ lens h) : 1 ≤ l ∧ l ≤ 2 := by
  unfold lens at m
  simp only [List.mem_cons, List.not_mem_nil, or_false] at m
  rcases m with rfl | rfl | rfl <;> split <;> omega
section
variable {P : Program} {w : World} {K : PySem.W.Frag} {mg : Str → Option Value} {base : Heap} {CC CT CR : Addr}
def spCodeI (K : PySem.W.Frag) (CC : Addr) : Sp := fun vs H Q _ => ∃ (x dx a : Addr) (h : Int), vs = [.ref x, .ref a, .non] ∧ H x = some (.ins CC dx []) ∧ SqL K H a ((lens h).map V.int) ∧ a ≠ x ∧ (h = 0 ∨ h = 1 ∨ h = 2) ∧ ∀ H', ExB x H H' → CodeAt CC H' x h → Q .non H'
theorem ok_Code_init (T : Txt K mg CC CT CR) (D : Dk K mg "Code" CC "Code.__init__" s_Code_init ["self", "lengths", "words"] [.non]) (c_check_signs : C8.Cal P w K mg base 1 "check_signs" spSigns [])
    (c_is_whole_codes : C8.Cal P w K mg base 1 "is_whole_codes" spIsW []) (c_two_to : C8.Cal P w K mg base 1 "two_to" spTwo []) (c_canonical : C8.Cal P w K mg base 2 "canonical" (spCanon K) []) :
    C8.Mak P w K mg base 3 "Code" CC (spCodeI K CC) [.non] := by
  refine D.mak sc_Code_init (fun vs H Q E h => ?_) (fun f cdv A outer s H vs Q E hr h => ?_)
  · obtain ⟨x, dx, a, h, rfl, _⟩ := h
    rfl
  obtain ⟨x, dx, a, h, rfl, hx, hS, nax, h3, q⟩ := h
  refine ⟨_, (pss_cons
      (ps_expr (C8.pe_c c_check_signs hr (by decide) (by rfl) (pa_cons (pe_callB call_len_seq (by rfl) T.f_len boot_len (pa_cons (pv 1) pa_nil)) pa_nil)))
      (pss_cons
      (ps_for PassesOwn.never rfl (pi_enum (by rfl) T.f_enumerate (pa_cons (pv 1) pa_nil)) (pg_tup rfl (pgs_cons (pg_name (i := 3) sc_Code_init.nd rfl (Or.inl rfl)) (pgs_cons (pg_name (i := 4) sc_Code_init.nd rfl (Or.inl rfl)) pgs_nil))) (pss_one
        (ps_if (PW.pt (pw_or (pt_not (pt_val (C8.pe_c c_is_whole_codes hr (by decide) (by rfl) (pa_cons (pv 4) (pa_cons pe_int pa_nil))))) (pw_or1 (pt_cmpR op_gt (pv 4) (C8.pe_gc (by rfl) T.c_MOST_LENGTH) (nomark _))))) (pss_one
          ps_never) pss_nil)))
      (pss_cons
      (ps_if (pt_cmpR op_ne (pe_callB (cr_sum rfl) (by rfl) T.f_sum boot_sum (pa_cons (pe_lc (own := [("length", 4)]) (g := gName 4) (tt := tYes) rfl sc_Code_init.nd (pi_list (pv 1)) (blkOk_by (own := [("length", 4)]) (N := ["self", "lengths", "words", "index", "length"]) (sc := C8.fnScope s_Code_init) (by decide +kernel)) (fun _ _ _ _ _ => (pg_name (i := 4) sc_Code_init.nd rfl (Or.inl rfl))) (fun _ _ _ _ _ => pts_nil) (fun _ _ _ _ _ => (C8.pe_c c_two_to hr (by decide) (by rfl) (pa_cons (pe_op op_sub (C8.pe_gc (by rfl) T.c_MOST_LENGTH) (pv 4)) pa_nil)))) pa_nil)) (C8.pe_c c_two_to hr (by decide) (by rfl) (pa_cons (C8.pe_gc (by rfl) T.c_MOST_LENGTH) pa_nil)) (nomark _)) (pss_one
        ps_never) pss_nil)
      (pss_cons
      (ps_fld (pv 0) (pe_callTy call_tuple_of (by rfl) T.f_tuple boot_tuple (pa_cons (pv 1) pa_nil)) rfl)
      (pss_cons
      (ps_fld (pv 0) (pe_ifExp (pt_cmpR op_isN (pv 2) pe_non (nomark _)) (C8.pe_c c_canonical hr (by decide) (by rfl) (pa_cons (pe_fld (pv 0) rfl) pa_nil)) pe_never) rfl)
      (pss_cons
      (ps_fld (pv 0) (pe_callB call_len_seq (by rfl) T.f_len boot_len (pa_cons (pe_fld (pv 0) rfl) pa_nil)) rfl)
      (pss_one
      (ps_fld (pv 0) (pe_callB (cr_maxT rfl hr.units) (by rfl) T.f_max boot_max (pa_cons (pe_fld (pv 0) rfl) pa_nil)) rfl)))))))), ?_⟩
  have nl : ((lens h).map V.int).length = 3 := rfl
  refine ⟨_, rfl, a, _, rfl, .inl hS, _, rfl, by rw [nl]; decide, by rw [nl]; decide, ?_⟩
  refine ⟨_, rfl, a, _, rfl, hS, for_it walk_enum (fun i σ H' => ∃ v3 v4 : Option V, σ = [some (.ref x), some (.ref a), some .non, v3, v4] ∧ Ex H H') ⟨none, none, rfl, Ex.refl H⟩ (fun i σ H' _ ⟨_, _, _, e⟩ => ex_l e hS) ?_ ?_⟩
  · rintro i y σ H1 H2 hi ⟨v3, v4, rfl, e1⟩ y
    obtain ⟨t, u, z, rfl, ht, rfl, e2, hu, hz⟩ := ypair_new y
    obtain ⟨l, hl, rfl⟩ := get_int hz
    have l12 := lens_12 (List.mem_of_getElem? hl)
    refine ⟨t, _, rfl, sqT upd_same, rfl, _, _, rfl, _, _, rfl, rfl, ?_⟩
    refine ⟨_, rfl, l, 1, rfl, _, rfl, ?_⟩
    rw [decide_eq_true l12.1]
    refine ⟨_, rfl, _, _, rfl, rfl, _, rfl, ?_⟩
    rw [decide_eq_false (show ¬ (25 : Int) < l by omega)]
    exact ⟨_, _, rfl, e1.trans e2⟩
  rintro σ H1 ⟨v3, v4, rfl, e1⟩
  refine ⟨_, rfl, a, rfl, ⟨_, ex_l e1 hS⟩, fun Dl hD => lc_ints hD (ex_l e1 hS) (fun l => .int (2 ^ (25 - l).toNat)) (by show 3 < 100000; decide) (fun x => rfl) (fun l H2 hl e => ?_) (fun H2 e2 hL => ?_)⟩
  · have l12 := lens_12 hl
    intro H3 e3 Q' q'
    exact ⟨_, rfl, _, _, rfl, rfl, _, rfl, by omega, by omega, q' H3 (Ex.refl H3)⟩
  rw [map_int] at hL
  refine ⟨Dl, _, rfl, sqL hL, ?_⟩
  refine ⟨_, rfl, by decide, by decide, rfl, _, rfl, ?_⟩
  rw [lens_sum h3, decide_eq_true rfl]
  -- the fields
  have e12 := e1.trans e2
  refine ⟨_, rfl, a, _, rfl, .inl ⟨ex_l e12 hS, fun lt nlt => ?_⟩⟩
  have hx2 := e12 _ _ hx
  have nxl : x ≠ lt := ne_of_none hx2 nlt
  refine ⟨_, rfl, x, CC, dx, [], rfl, by rw [upd_ne nxl]; exact hx2, T.clC, T.nC_lengths, by show 0 < 1000; decide, ?_⟩
  have b1 : ExB x H (upd (upd H2 lt (.tup ((lens h).map V.int))) x (.ins CC dx (putF "lengths" (.ref lt) []))) := (ExB.of (e12.of_new nlt)).put
  have hx3 : (upd (upd H2 lt (.tup ((lens h).map V.int))) x (.ins CC dx (putF "lengths" (.ref lt) []))) x = some (.ins CC dx (putF "lengths" (.ref lt) [])) := upd_same
  have hlt : (upd (upd H2 lt (.tup ((lens h).map V.int))) x (.ins CC dx (putF "lengths" (.ref lt) []))) lt = some (.tup ((lens h).map V.int)) := by rw [upd_ne nxl.symm, upd_same]
  generalize (upd (upd H2 lt (.tup ((lens h).map V.int))) x (.ins CC dx (putF "lengths" (.ref lt) []))) = H3 at b1 hx3 hlt
  refine ⟨_, rfl, rfl, true, rfl, ?_⟩
  refine ⟨_, rfl, x, CC, dx, _, _, rfl, hx3, T.clC, T.nC_lengths, (by rw [lookup_putF, if_pos rfl]), lt, lens h, rfl, sqT hlt, (by show 3 ≤ 26; decide), (fun l hl => by have := lens_12 hl; omega), fun wt ws H4 e4 hwt => ?_⟩
  refine ⟨_, rfl, x, CC, dx, _, rfl, e4 _ _ hx3, T.clC, T.nC_words, by show 1 < 1000; decide, ?_⟩
  have b2 : ExB x H (upd H4 x (.ins CC dx (putF "words" (.ref wt) (putF "lengths" (.ref lt) [])))) := (b1.ex e4).put
  have hlt2 : (upd H4 x (.ins CC dx (putF "words" (.ref wt) (putF "lengths" (.ref lt) [])))) lt = some (.tup ((lens h).map V.int)) := by
    rw [upd_ne nxl.symm]
    exact e4 _ _ hlt
  refine ⟨_, rfl, x, CC, dx, _, _, rfl, upd_same, T.clC, T.nC_lengths, (by rw [lookup_putF, if_neg (by decide +kernel), lookup_putF, if_pos rfl]), lt, _, rfl, .inr (sqT hlt2), ?_⟩
  refine ⟨_, rfl, x, CC, dx, _, rfl, upd_same, T.clC, T.nC_size, by show 2 < 1000; decide, ?_⟩
  obtain ⟨n, ns, el, em⟩ := lens_max h3
  refine ⟨_, rfl, x, CC, dx, _, _, rfl, upd_same, T.clC, T.nC_lengths, ?_, lt, n, ns, rfl, ?_, ?_⟩
  · rw [lookup_putF, if_neg (by decide +kernel), lookup_putF, if_neg (by decide +kernel), lookup_putF, if_pos rfl]
  · rw [← el]
    exact sqT (by rw [upd_ne nxl.symm]; exact hlt2)
  refine ⟨_, rfl, x, CC, dx, _, rfl, upd_same, T.clC, T.nC_longest, by show 3 < 1000; decide, ?_⟩
  rw [em]
  refine q _ b2.put.put ⟨⟨dx, lt, wt, upd_same, ?_⟩, h3⟩
  rw [upd_ne nxl.symm, upd_ne nxl.symm]
  exact hlt2
end
end LJ

set_option maxHeartbeats 4000000
namespace LJ
open PySem PySem.Spec PyProof.Rows L2 Evl
/-- a part of a rule that is right -/
def PartOk (H : Hp) (d p : Addr) : Prop := ∃ (v : V) (n : Int), H p = some (.tup [v, .int n]) ∧ 1 ≤ n ∧ ((∃ s, v = .int s ∧ 0 ≤ s ∧ s ≤ 2) ∨ (∃ k kvs, v = .str k ∧ Rd H d (.dK kvs) ∧ (valV kvs (.inr k)).isSome = true))
theorem PartOk.mono {H H' : Hp} {d p : Addr} (e : Ex H H') (h : PartOk H d p) : PartOk H' d p := by
  obtain ⟨v, n, h1, h2, h3⟩ := h
  refine ⟨v, n, e _ _ h1, h2, ?_⟩
  rcases h3 with h3 | ⟨k, kvs, ev, hr, hv⟩
  · exact .inl h3
  · exact .inr ⟨k, kvs, ev, ex_rd e hr, hv⟩
abbrev CAPS : Str := "ABCDEFGHIJKLMNOPQRSTUVWXYZ"
def goodName (z : Str) : Prop := 1 ≤ z.length ∧ z.length ≤ 8 ∧ ∀ c ∈ z.cps.toList, c ∈ CAPS.cps.toList
theorem good_L : goodName "LOOP" := by
  refine ⟨by decide, by decide, ?_⟩
  decide +kernel
theorem good_T : goodName "TOP" := by
  refine ⟨by decide, by decide, ?_⟩
  decide +kernel
section
variable {P : Program} {w : World} {K : PySem.W.Frag} {mg : Str → Option Value} {base : Heap} {CC CT CR : Addr}
def spWc : Sp := fun vs H Q _ => ∃ (v : V) (l m : Int), vs = [v, .int l, .int m] ∧ ((∃ i, v = .int i ∧ l ≤ i ∧ i ≤ m ∧ Q (.bl true) H) ∨ (∃ z, v = .str z ∧ Q (.bl false) H))
theorem ok_is_whole_common (T : Txt K mg CC CT CR) (D : Df K mg "is_whole_common" "is_whole" s_is_whole_common ["value", "least", "most"]) : C8.Cal P w K mg base 1 "is_whole_common" spWc [] := by
  refine D.cal sc_is_whole_common (fun vs H Q E h => ?_) (fun f cdv A outer s H vs Q E hr h => ?_)
  · obtain ⟨v, l, m, rfl, _⟩ := h
    rfl
  obtain ⟨v, l, m, rfl, h⟩ := h
  refine ⟨_, (pss_one
      (ps_ret (pe_and (pe_callB call_isi (by rfl) T.f_isinstance boot_isinstance (pa_cons (pv 0) (pa_cons (pe_bltn (v := .ty "int") (by rfl) T.f_int boot_int rfl) pa_nil))) (pe_and (pe_not (pe_callB call_isi (by rfl) T.f_isinstance boot_isinstance (pa_cons (pv 0) (pa_cons (pe_bltn (v := .ty "bool") (by rfl) T.f_bool boot_bool rfl) pa_nil)))) (pe_one (pe_chain op_le op_le (pv 1) (pv 0) (pv 2))))))), ?_⟩
  rcases h with ⟨i, rfl, h1, h2, q⟩ | ⟨z, rfl, q⟩
  · refine ⟨_, rfl, _, _, _, _, true, rfl, .ty "int", .base (.int i), kit_int_int, true, rfl, ?_⟩
    refine ⟨_, rfl, _, _, _, _, false, rfl, .ty "bool", .base (.int i), kit_int_bool, _, rfl, true, rfl, ?_⟩
    refine ⟨_, rfl, _, rfl, _, _, rfl, rfl, _, rfl, ?_⟩
    rw [decide_eq_true h1]
    refine ⟨_, rfl, _, _, rfl, rfl, ?_⟩
    show Q (.bl (decide (i ≤ m))) H
    rw [decide_eq_true h2]
    exact q
  · refine ⟨_, rfl, _, _, _, _, false, rfl, .ty "int", .base (.str z), kit_str_int, false, rfl, ?_⟩
    exact q
def spName : Sp := fun vs H Q _ => ∃ z : Str, vs = [.str z] ∧ goodName z ∧ RetV (.bl true) H Q
theorem ok_is_name (T : Txt K mg CC CT CR) (D : Df K mg "is_name" "is_name" s_is_name ["value"]) : C8.Cal P w K mg base 1 "is_name" spName [] := by
  refine D.cal sc_is_name (fun vs H Q E h => ?_) (fun f cdv A outer s H vs Q E hr h => ?_)
  · obtain ⟨z, rfl, _⟩ := h
    rfl
  obtain ⟨z, rfl, ⟨g1, g2, g3⟩, q⟩ := h
  refine ⟨_, (pss_one
      (ps_ret (pe_and (pe_callB call_isi (by rfl) T.f_isinstance boot_isinstance (pa_cons (pv 0) (pa_cons (pe_bltn (v := .ty "str") (by rfl) T.f_str boot_str rfl) pa_nil))) (pe_and (pe_chain op_le op_le pe_int (pe_callB call_len_str (by rfl) T.f_len boot_len (pa_cons (pv 0) pa_nil)) (C8.pe_gc (by rfl) T.c_MOST_NAME)) (pe_one (pe_callB (cr_all rfl) (by rfl) T.f_all boot_all (pa_cons (pe_lc (own := [("sign", 1)]) (g := gName 1) (tt := tYes) rfl sc_is_name.nd (pi_str (pv 0)) (blkOk_by (own := [("sign", 1)]) (N := ["value", "sign"]) (sc := C8.fnScope s_is_name) (by decide +kernel)) (fun _ _ _ _ _ => (pg_name (i := 1) sc_is_name.nd rfl (Or.inl rfl))) (fun _ _ _ _ _ => pts_nil) (fun _ _ _ _ _ => (pe_cmpR op_in_sign (pv 1) (C8.pe_gc (by rfl) T.c_CAPITALS) (by rfl)))) pa_nil))))))), ?_⟩
  refine ⟨_, rfl, _, _, _, _, true, rfl, .ty "str", .base (.str z), kit_str_str, true, rfl, ?_⟩
  refine ⟨_, rfl, z, rfl, sz_of (by omega), _, _, rfl, rfl, _, rfl, ?_⟩
  rw [decide_eq_true (show (1 : Int) ≤ (z.length : Int) by omega)]
  refine ⟨_, _, rfl, rfl, _, rfl, ?_⟩
  rw [decide_eq_true (show ((z.length : Nat) : Int) ≤ 8 by omega)]
  have zs : z.cps.toList.length = z.length := by simp [Str.length]
  refine ⟨_, rfl, z, rfl, fun Dl hD => lc_ev walk_str hD (fun _ _ => trivial) (fun i => (z.cps.toList.take i).map fun _ => V.bl true) rfl (fun i hi => ?_) ?_ (fun H1 e1 hL => ?_)⟩
  · rw [List.length_map, List.length_take]
    omega
  · rintro i x H2 H3 hi e2 ⟨rfl, c, hc, rfl⟩
    have hc2 : z.cps.toList[i]? = some c := by simpa using hc
    refine ⟨Ex.refl _, _, true, fun Qs q => q, rfl, fun H4 e4 Q q => q H4 (Ex.refl H4), fun _ => ⟨.bl true, ?_, ?_⟩, fun h => by cases h⟩
    · intro H4 e4 Q' q'
      refine ⟨_, rfl, c, CAPS, rfl, rfl, ?_⟩
      rw [decide_eq_true (g3 c (List.mem_of_getElem? hc2))]
      exact q' H4 (Ex.refl H4)
    · rw [take_snoc hc2, List.map_append]
      rfl
  · rw [map_bl] at hL
    refine ⟨Dl, _, rfl, sqL hL, ?_⟩
    have ea : ((z.cps.toList.take z.cps.size).map fun _ => true).all id = true := by
      rw [List.all_map]
      exact List.all_eq_true.mpr fun _ _ => rfl
    rw [ea]
    exact q H1 e1
def spPart (K : PySem.W.Frag) : Sp := fun vs H Q _ => ∃ d p : Addr, vs = [.int 3, .ref d, .ref p] ∧ PartOk H d p ∧ RetV (.bl true) H Q
theorem ok_is_part (T : Txt K mg CC CT CR) (D : Df K mg "is_part" "is_part" s_is_part ["signs", "rules", "value"]) (c_is_whole_common : C8.Cal P w K mg base 1 "is_whole_common" spWc []) :
    C8.Cal P w K mg base 2 "is_part" (spPart K) [] := by
  refine D.cal sc_is_part (fun vs H Q E h => ?_) (fun f cdv A outer s H vs Q E hr h => ?_)
  · obtain ⟨d, p, rfl, _⟩ := h
    rfl
  obtain ⟨d, p, rfl, hP, q⟩ := h
  refine ⟨_, (pss_cons
      (ps_if (PW.pt (pw_or (pt_not (pt_val (pe_callB call_isiT (by rfl) T.f_isinstance boot_isinstance (pa_cons (pv 2) (pa_cons (pe_tup (pa_cons (pe_bltn (v := .ty "tuple") (by rfl) T.f_tuple boot_tuple rfl) (pa_cons (pe_bltn (v := .ty "list") (by rfl) T.f_list boot_list rfl) pa_nil))) pa_nil))))) (pw_or1 (pt_cmpR op_ne (pe_callB call_len_seq (by rfl) T.f_len boot_len (pa_cons (pv 2) pa_nil)) pe_int (nomark _))))) (pss_one
        (ps_ret pe_bl)) pss_nil)
      (pss_cons
      (ps_if (PW.pt (pw_or (pt_not (pt_val (pe_callB call_isi (by rfl) T.f_isinstance boot_isinstance (pa_cons (pe_ix ix_tup (pv 2) pe_int (fun _ _ => rfl)) (pa_cons (pe_bltn (v := .ty "int") (by rfl) T.f_int boot_int rfl) pa_nil))))) (pw_or (pt_val (pe_callB call_isi (by rfl) T.f_isinstance boot_isinstance (pa_cons (pe_ix ix_tup (pv 2) pe_int (fun _ _ => rfl)) (pa_cons (pe_bltn (v := .ty "bool") (by rfl) T.f_bool boot_bool rfl) pa_nil)))) (pw_or1 (pt_cmpR op_lt (pe_ix ix_tup (pv 2) pe_int (fun _ _ => rfl)) pe_int (nomark _)))))) (pss_one
        (ps_ret pe_bl)) pss_nil)
      (pss_one
      (ps_ret (pe_or (C8.pe_c c_is_whole_common hr (by decide) (by rfl) (pa_cons (pe_ix ix_tup (pv 2) pe_int (fun _ _ => rfl)) (pa_cons pe_int (pa_cons (pe_op op_sub (pv 0) pe_int) pa_nil)))) (pe_one (pe_and (pe_callB call_isi (by rfl) T.f_isinstance boot_isinstance (pa_cons (pe_ix ix_tup (pv 2) pe_int (fun _ _ => rfl)) (pa_cons (pe_bltn (v := .ty "str") (by rfl) T.f_str boot_str rfl) pa_nil))) (pe_one (pe_cmp (pc_din (hu_of hr) (pe_ix ix_tup (pv 2) pe_int (fun _ _ => rfl)) (pv 1))))))))))), ?_⟩
  refine ⟨_, rfl, by show 2 ≤ sizeLine; decide, fun tp np => ?_⟩
  have e1 : Ex H (upd H tp (.tup [.ty "tuple", .ty "list"])) := Ex.new np
  have htp : (upd H tp (.tup [.ty "tuple", .ty "list"])) tp = some (.tup [.ty "tuple", .ty "list"]) := upd_same
  generalize (upd H tp (.tup [.ty "tuple", .ty "list"])) = H1 at e1 htp
  obtain ⟨v, n, hp, hn, hv⟩ := hP.mono e1
  refine ⟨_, tp, _, _, _, true, rfl, htp, .cons (.ty _) (.cons (.ty _) .nil), .base (.tup hp), kit_tuple_tl, true, rfl, ?_⟩
  refine ⟨_, rfl, p, _, rfl, .inr (sqT hp), rfl, false, rfl, ?_⟩
  refine ⟨_, rfl, p, _, _, _, rfl, rfl, sqT hp, rfl, _, _, _, _, true, rfl, .ty "int", .base (.int n), kit_int_int, true, rfl, ?_⟩
  refine ⟨_, rfl, p, _, _, _, rfl, rfl, sqT hp, rfl, _, _, _, _, false, rfl, .ty "bool", .base (.int n), kit_int_bool, false, rfl, ?_⟩
  refine ⟨_, rfl, p, _, _, _, rfl, rfl, sqT hp, rfl, _, _, rfl, rfl, _, rfl, ?_⟩
  rw [decide_eq_false (show ¬ n < 1 by omega)]
  refine ⟨_, rfl, p, _, _, _, rfl, rfl, sqT hp, rfl, _, rfl, _, _, rfl, rfl, v, 0, 2, rfl, ?_⟩
  rcases hv with ⟨s, rfl, s0, s1⟩ | ⟨k, kvs, rfl, hr, hk⟩
  · exact .inl ⟨s, rfl, s0, s1, true, rfl, q H1 e1⟩
  · refine .inr ⟨k, rfl, false, rfl, ?_⟩
    refine ⟨_, rfl, p, _, _, _, rfl, rfl, sqT hp, rfl, _, _, _, _, true, rfl, .ty "str", .base (.str k), kit_str_str, true, rfl, ?_⟩
    refine ⟨_, rfl, p, _, _, _, rfl, rfl, sqT hp, rfl, _, rfl, d, valV kvs (.inr k), rfl, .inl ⟨kvs, .inr k, hr, rfl, rfl⟩, ?_⟩
    rw [hk]
    exact q H1 e1
def spRule (K : PySem.W.Frag) : Sp := fun vs H Q _ => ∃ (d l : Addr) (ps : List Addr), vs = [.int 3, .ref d, .ref l] ∧ H l = some (.lst (ps.map V.ref)) ∧ ps.length ≤ 40 ∧ (∀ p ∈ ps, PartOk H d p) ∧ RetV (.bl true) H Q
theorem ok_is_rule (T : Txt K mg CC CT CR) (D : Df K mg "is_rule" "is_rule" s_is_rule ["signs", "rules", "value"]) (c_is_part : C8.Cal P w K mg base 2 "is_part" (spPart K) []) :
    C8.Cal P w K mg base 3 "is_rule" (spRule K) [] := by
  refine D.cal sc_is_rule (fun vs H Q E h => ?_) (fun f cdv A outer s H vs Q E hr h => ?_)
  · obtain ⟨d, l, ps, rfl, _⟩ := h
    rfl
  obtain ⟨d, l, ps, rfl, hl, h40, hP, q⟩ := h
  refine ⟨_, (pss_cons
      (ps_if (PW.pt (pw_or (pt_not (pt_val (pe_callB call_isiT (by rfl) T.f_isinstance boot_isinstance (pa_cons (pv 2) (pa_cons (pe_tup (pa_cons (pe_bltn (v := .ty "tuple") (by rfl) T.f_tuple boot_tuple rfl) (pa_cons (pe_bltn (v := .ty "list") (by rfl) T.f_list boot_list rfl) pa_nil))) pa_nil))))) (pw_or1 (pt_cmpR op_gt (pe_callB call_len_seq (by rfl) T.f_len boot_len (pa_cons (pv 2) pa_nil)) (C8.pe_gc (by rfl) T.c_MOST_PARTS) (nomark _))))) (pss_one
        (ps_ret pe_bl)) pss_nil)
      (pss_one
      (ps_ret (pe_callB (cr_all rfl) (by rfl) T.f_all boot_all (pa_cons (pe_lc (own := [("part", 3)]) (g := gName 3) (tt := tYes) rfl sc_is_rule.nd (pi_list (pv 2)) (blkOk_by (own := [("part", 3)]) (N := ["signs", "rules", "value", "part"]) (sc := C8.fnScope s_is_rule) (by decide +kernel)) (fun _ _ _ _ _ => (pg_name (i := 3) sc_is_rule.nd rfl (Or.inl rfl))) (fun _ _ _ _ _ => pts_nil) (fun _ _ _ _ _ => (C8.pe_c c_is_part hr (by decide) (by rfl) (pa_cons (pv 0) (pa_cons (pv 1) (pa_cons (pv 3) pa_nil)))))) pa_nil))))), ?_⟩
  refine ⟨_, rfl, by show 2 ≤ sizeLine; decide, fun tp np => ?_⟩
  have e1 : Ex H (upd H tp (.tup [.ty "tuple", .ty "list"])) := Ex.new np
  have htp : (upd H tp (.tup [.ty "tuple", .ty "list"])) tp = some (.tup [.ty "tuple", .ty "list"]) := upd_same
  generalize (upd H tp (.tup [.ty "tuple", .ty "list"])) = H1 at e1 htp
  have hl1 := e1 _ _ hl
  refine ⟨_, tp, _, _, _, true, rfl, htp, .cons (.ty _) (.cons (.ty _) .nil), .base (.lst hl1), kit_list_tl, true, rfl, ?_⟩
  refine ⟨_, rfl, l, _, rfl, .inl (sqL hl1), _, _, rfl, rfl, _, rfl, ?_⟩
  rw [List.length_map, decide_eq_false (show ¬ (40 : Int) < (ps.length : Int) by omega)]
  refine ⟨_, rfl, l, rfl, ⟨_, sqL hl1⟩, fun Dl hD => lc_ev (walk_list (xs := ps.map V.ref)) hD (fun H' e => sqL (e _ _ hl1)) (fun i => (ps.take i).map fun _ => V.bl true) rfl (fun i hi => ?_) ?_ (fun H2 e2 hL => ?_)⟩
  · rw [List.length_map, List.length_take]
    omega
  · rintro i x H2 H3 hi e2 ⟨rfl, hx⟩
    obtain ⟨p, hp, rfl⟩ := get_ref hx
    refine ⟨Ex.refl _, _, true, fun Qs q => q, rfl, fun H4 e4 Q q => q H4 (Ex.refl H4), fun _ => ⟨.bl true, ?_, ?_⟩, fun h => by cases h⟩
    · intro H4 e4 Q' q'
      exact ⟨_, rfl, _, rfl, _, rfl, d, p, rfl, (hP p (List.mem_of_getElem? hp)).mono ((e1.trans e2).trans e4), fun H5 e5 => q' H5 e5⟩
    · rw [take_snoc hp, List.map_append]
      rfl
  · rw [map_bl] at hL
    refine ⟨Dl, _, rfl, sqL hL, ?_⟩
    have ea : ((ps.take (ps.map V.ref).length).map fun _ => true).all id = true := by
      rw [List.all_map]
      exact List.all_eq_true.mpr fun _ _ => rfl
    rw [ea]
    exact q H2 (e1.trans e2)
end
end LJ

set_option maxHeartbeats 4000000
namespace LJ
open PySem PySem.Spec PyProof.Rows L2 Evl
theorem PartsIn.monoB {d : Addr} {H H' : Hp} {ps : List Addr} {l : List (V × Int)} {k : List (Key × V)} (e : ExB d H H') (hd : H d = some (.dK k)) (h : PartsIn H ps l) : PartsIn H' ps l :=
  ⟨h.1, fun i p v n a b => e _ _ (h.2 i p v n a b) (ne_of (h.2 i p v n a b) hd (by intro q; cases q))⟩
theorem PartsT.monoB {d : Addr} {H H' : Hp} {a : Addr} {l : List (V × Int)} {k : List (Key × V)} (e : ExB d H H') (hd : H d = some (.dK k)) (h : PartsT H a l) : PartsT H' a l := by
  obtain ⟨ps, h1, h2⟩ := h
  exact ⟨ps, e _ _ h1 (ne_of h1 hd (by intro q; cases q)), h2.monoB e hd⟩
theorem RulesC.monoB {d : Addr} {H H' : Hp} {tl tt : Addr} {ss : List Int} {R : Int} {k : List (Key × V)} (e : ExB d H H') (hd : H d = some (.dK k)) (h : RulesC H tl tt ss R) : RulesC H' tl tt ss R := ⟨h.loop.monoB e hd, h.top.monoB e hd⟩
theorem valV_nil' {k : Key} : valV ([] : List (Key × V)) k = none := valV_nil
section
variable {P : Program} {w : World} {K : PySem.W.Frag} {mg : Str → Option Value} {base : Heap} {CC CT CR : Addr}
def spBelow (K : PySem.W.Frag) : Sp := fun vs H Q _ => ∃ (d tl tt : Addr) (ss : List Int) (R : Int) (nm : Str), vs = [.ref d, .str nm] ∧ Rd H d (.dK (two tl tt)) ∧ RulesC H tl tt ss R ∧ (nm = "LOOP" ∨ nm = "TOP") ∧
  ∀ f kvs H2, Ex H H2 → H2 f = some (.dK kvs) → valV kvs (.inr nm) = none → Q (.ref f) H2
theorem ok_names_below (T : Txt K mg CC CT CR) (D : Df K mg "names_below" "names_below" s_names_below ["rules", "name"]) : C8.Cal P w K mg base 1 "names_below" (spBelow K) [] := by
  refine D.cal sc_names_below (fun vs H Q E h => ?_) (fun f cdv A outer s H vs Q E hr h => ?_)
  · obtain ⟨d, tl, tt, ss, R, nm, rfl, _⟩ := h
    rfl
  obtain ⟨d, tl, tt, ss, R, nm, rfl, hd, hR, hn, q⟩ := h
  refine ⟨_, (pss_cons
      (ps_par (i := 2) (j := 3) (by rfl) sc_names_below.nd rfl rfl (by decide) rfl rfl (pa_cons pe_dnewK (pa_cons (pe_lst (pa_cons (pv 1) pa_nil)) pa_nil)) (by rfl))
      (pss_cons
      (ps_while PassesOwn.never (pt_truthK (K := K) rfl (pv 3) (by intro _; rfl)) (pss_one
        (ps_for PassesOwn.never rfl (pi_tup (pe_dget (hu_of hr) (pv 0) (pe_bm0 PySem.F.plainAttrs_list PySem.F.slot_list_pop PySem.F.type_list_pop mt_pop (pv 3)) (fun _ _ => rfl))) (pg_name (i := 4) sc_names_below.nd rfl (Or.inl rfl)) (pss_one
          (ps_if (PW.pt (pw_and (pt_val (pe_callB call_isi (by rfl) T.f_isinstance boot_isinstance (pa_cons (pe_ix ix_tup (pv 4) pe_int (fun _ _ => rfl)) (pa_cons (pe_bltn (v := .ty "str") (by rfl) T.f_str boot_str rfl) pa_nil)))) (pw_and1 (pt_cmp (pc_dnotin (hu_of hr) (pe_ix ix_tup (pv 4) pe_int (fun _ _ => rfl)) (pv 2)))))) (pss_cons
            (ps_dput (hu_of hr) (pv 2) (pe_ix ix_tup (pv 4) pe_int (fun _ _ => rfl)) pe_bl rfl)
            (pss_one
            (ps_expr (pe_bm PySem.F.plainAttrs_list PySem.F.slot_list_append PySem.F.type_list_append mt_append (pv 3) (pa_cons (pe_ix ix_tup (pv 4) pe_int (fun _ _ => rfl)) pa_nil))))) pss_nil)))))
      (pss_one
      (ps_ret (pv 2))))), ?_⟩
  refine fun fo nf => ?_
  refine ⟨_, rfl, by show 1 ≤ sizeLine; decide, fun wt nw => ⟨_, _, rfl, ?_⟩⟩
  have e0 : Ex H (upd (upd H fo (.dK [])) wt (.lst [.str nm])) := (Ex.new nf).of_new nw
  have hf0 : (upd (upd H fo (.dK [])) wt (.lst [.str nm])) fo = some (.dK []) := (Ex.new nw) _ _ upd_same
  have hw0 : (upd (upd H fo (.dK [])) wt (.lst [.str nm])) wt = some (.lst [.str nm]) := upd_same
  have nwt : H wt = none := fresh_back (Ex.new (o := .dK []) nf) nw
  generalize (upd (upd H fo (.dK [])) wt (.lst [.str nm])) = H0 at e0 hf0 hw0
  have nfw : fo ≠ wt := ne_of hf0 hw0 (by intro q; cases q)
  -- what is found, what waits
  let fk : Str → Nat → List (Key × V) := fun nm m => if nm = "TOP" ∧ m < 2 then [(kL, .bl true)] else []
  let wl : Nat → List V := fun m => if m = 2 then [.str "TOP"] else if m = 1 then [.str "LOOP"] else []
  refine ⟨fun m σ H' => ∃ v4 : Option V, σ = [some (.ref d), some (.str nm), some (.ref fo), some (.ref wt), v4] ∧ Ex H H' ∧ H' fo = some (.dK (fk nm m)) ∧ H' wt = some (.lst (wl m)) ∧ (m = 2 → nm = "TOP") ∧ m ≤ 2, ?_, ?_⟩
  · rcases hn with rfl | rfl
    · exact ⟨1, none, rfl, e0, hf0, hw0, fun h => absurd h (by decide), by decide⟩
    · exact ⟨2, none, rfl, e0, hf0, hw0, fun _ => rfl, by decide⟩
  rintro m σ H1 ⟨v4, rfl, e1, h1, h2, hT, hm⟩
  refine ⟨_, rfl, _, .inl ⟨_, sqL h2, rfl⟩, ?_⟩
  have cm : m = 0 ∨ m = 1 ∨ m = 2 := by omega
  rcases cm with rfl | rfl | rfl
  · refine ⟨_, rfl, q fo _ H1 e1 h1 ?_⟩
    rcases hn with rfl | rfl
    · exact valV_nil
    · exact valV_neg (fun e => lt_ne (Sum.inr.inj e))
  · refine ⟨fun σ' H' => ∃ m', m' < 1 ∧ _, fun σ' H' h => h, ?_⟩
    obtain ⟨ps, hps, hpl⟩ := hR.loop
    have e2 : Ex H (upd H1 wt (.lst [])) := e1.mut nwt
    have hw2 : (upd H1 wt (.lst [])) wt = some (.lst []) := upd_same
    have hf2 : (upd H1 wt (.lst [])) fo = some (.dK (fk nm 1)) := by rw [upd_ne nfw]; exact h1
    refine ⟨_, rfl, _, rfl, .inl ⟨rfl, _, sqL h2⟩, wt, _, _, rfl, rfl, h2, rfl, ?_⟩
    have ew : (wl 1).dropLast = [] := rfl
    rw [ew]
    generalize (upd H1 wt (.lst [])) = H2 at e2 hw2 hf2
    refine ⟨d, .ref tl, rfl, .inl ⟨two tl tt, kL, ex_rd e2 hd, rfl, (two_L tl tt).symm⟩, tl, rfl, ⟨_, sqT (e2 _ _ hps)⟩, ?_⟩
    refine for_tup (K := K) (a := tl) (xs := ps.map V.ref) (fun i σ' H' => ∃ v4 : Option V, σ' = [some (.ref d), some (.str nm), some (.ref fo), some (.ref wt), v4] ∧ H' = H2) ⟨v4, rfl, rfl⟩ (fun i σ' H' _ ⟨_, _, e⟩ => by rw [e]; exact sqT (e2 _ _ hps)) ?_ ?_
    · rintro i x σ' H3 hi ⟨v4, rfl, rfl⟩
      obtain ⟨p, hp, rfl⟩ := get_ref hi
      have hlt : i < (loopP ss).length := by
        rw [← hpl.1]
        exact (List.getElem?_eq_some_iff.mp hp).1
      have hlt2 : i < ss.length := by
        unfold loopP at hlt
        rw [List.length_map] at hlt
        exact hlt
      have hpp := e2 _ _ (hpl.2 i p (.int ss[i]) 1 hp (by unfold loopP; rw [List.getElem?_map, List.getElem?_eq_getElem hlt2]; rfl))
      refine ⟨_, rfl, p, _, _, _, rfl, rfl, sqT hpp, rfl, _, _, _, _, false, rfl, .ty "str", .base (.int _), kit_int_str, false, rfl, ?_⟩
      exact ⟨_, rfl, rfl⟩
    · rintro σ' H3 ⟨v4, rfl, rfl⟩
      refine ⟨0, by decide, v4, rfl, e2, ?_, hw2, fun h => absurd h (by decide), by decide⟩
      rcases hn with rfl | rfl
      · exact hf2
      · exact hf2
  · obtain rfl := hT rfl
    refine ⟨fun σ' H' => ∃ m', m' < 2 ∧ _, fun σ' H' h => h, ?_⟩
    obtain ⟨ps, hps, hpl⟩ := hR.top
    have e2 : Ex H (upd H1 wt (.lst [])) := e1.mut nwt
    have hw2 : (upd H1 wt (.lst [])) wt = some (.lst []) := upd_same
    have hf2 : (upd H1 wt (.lst [])) fo = some (.dK []) := by rw [upd_ne nfw]; exact h1
    refine ⟨_, rfl, _, rfl, .inl ⟨rfl, _, sqL h2⟩, wt, _, _, rfl, rfl, h2, rfl, ?_⟩
    have ew : (wl 2).dropLast = [] := rfl
    rw [ew]
    generalize (upd H1 wt (.lst [])) = H2 at e2 hw2 hf2
    refine ⟨d, .ref tt, rfl, .inl ⟨two tl tt, kT, ex_rd e2 hd, rfl, (two_T tl tt).symm⟩, tt, rfl, ⟨_, sqT (e2 _ _ hps)⟩, ?_⟩
    have pl1 : ps.length = 1 := hpl.1
    refine for_tup (K := K) (a := tt) (xs := ps.map V.ref) (fun i σ' H' => ∃ v4 : Option V, σ' = [some (.ref d), some (.str "TOP"), some (.ref fo), some (.ref wt), v4] ∧ Ex H H' ∧
      H' fo = some (.dK (if i = 0 then [] else [(kL, .bl true)])) ∧ H' wt = some (.lst (if i = 0 then [] else [.str "LOOP"]))) ⟨v4, rfl, e2, hf2, hw2⟩ (fun i σ' H' _ ⟨_, _, e, _⟩ => sqT (e _ _ hps)) ?_ ?_
    · rintro i x σ' H3 hi ⟨v4, rfl, e3, h3, h4⟩
      obtain ⟨p, hp, rfl⟩ := get_ref hi
      have hlt := (List.getElem?_eq_some_iff.mp hp).1
      have i0 : i = 0 := by omega
      subst i0
      have hpp := e3 _ _ (hpl.2 0 p (.str "LOOP") R hp rfl)
      refine ⟨_, rfl, p, _, _, _, rfl, rfl, sqT hpp, rfl, _, _, _, _, true, rfl, .ty "str", .base (.str _), kit_str_str, true, rfl, ?_⟩
      refine ⟨_, rfl, p, _, _, _, rfl, rfl, sqT hpp, rfl, _, rfl, fo, none, rfl, .inl ⟨[], kL, .inl h3, rfl, rfl⟩, true, rfl, ?_⟩
      refine ⟨_, rfl, _, rfl, p, _, _, _, rfl, rfl, sqT hpp, rfl, fo, _, rfl, DPut.k (k := kL) h3 (sz_lt (by decide)), ?_⟩
      have e4 : Ex H (upd H3 fo (.dK (putK [] kL (.bl true)))) := e3.mut nf
      have hw4 : (upd H3 fo (.dK (putK [] kL (.bl true)))) wt = some (.lst []) := by rw [upd_ne nfw.symm]; exact h4
      refine ⟨_, rfl, .inl ⟨rfl, _, sqL hw4⟩, _, rfl, p, _, _, _, rfl, rfl, sqT (e4 _ _ (hpl.2 0 p (.str "LOOP") R hp rfl)), rfl, wt, _, _, rfl, rfl, hw4, sz_lt (by decide), ?_⟩
      exact ⟨_, rfl, e4.mut nwt, by rw [upd_ne nfw, upd_same]; rfl, by rw [upd_same]; rfl⟩
    · rintro σ' H3 ⟨v4, rfl, e3, h3, h4⟩
      have il : (ps.map V.ref).length = 1 := by rw [List.length_map, pl1]
      rw [il] at h3 h4
      exact ⟨1, by decide, v4, rfl, e3, h3, h4, fun h => absurd h (by decide), by decide⟩
def spFrom (K : PySem.W.Frag) : Sp := fun vs H Q _ => ∃ (d tl tt : Addr) (ss : List Int) (R : Int), vs = [.ref d] ∧ H d = some (.dK (two tl tt)) ∧ RulesC H tl tt ss R ∧
  ∀ l H2, Ex H H2 → H2 l = some (.lst [.str "LOOP", .str "TOP"]) → Q (.ref l) H2
theorem ok_from_below (T : Txt K mg CC CT CR) (D : Df K mg "from_below" "from_below" s_from_below ["rules"]) : C8.Cal P w K mg base 1 "from_below" (spFrom K) [] := by
  refine D.cal sc_from_below (fun vs H Q E h => ?_) (fun f cdv A outer s H vs Q E hr h => ?_)
  · obtain ⟨d, tl, tt, ss, R, rfl, _⟩ := h
    rfl
  obtain ⟨d, tl, tt, ss, R, rfl, hd, hR, q⟩ := h
  refine ⟨_, (pss_cons
      (ps_set (i := 1) sc_from_below.nd rfl (Or.inr rfl) pe_dnewK)
      (pss_cons
      (ps_lock (ps_for PassesOwn.never rfl (pi_keys (pv 0)) (pg_name (i := 2) sc_from_below.nd rfl (Or.inl rfl)) (pss_cons
        (ps_set (i := 3) sc_from_below.nd rfl (Or.inl rfl) (pe_lst (pa_cons (pv 2) pa_nil)))
        (pss_one
        (ps_while PassesOwn.never (pt_truthK (K := K) rfl (pv 3) (by intro _; rfl)) (pss_cons
          (ps_set (i := 4) sc_from_below.nd rfl (Or.inl rfl) (pe_ix ix_list (pv 3) (pe_un un_neg pe_int) (fun _ _ => rfl)))
          (pss_cons
          (ps_setLc (i := 5) (own := [("part", 6)]) (g := gName 6) rfl sc_from_below.nd rfl rfl (sw_true rfl rfl rfl (by decide +kernel)) (pi_tup (pe_dget (hu_of hr) (pv 0) (pv 4) (fun _ _ => rfl))) (blkOk_by (own := [("part", 6)]) (N := ["rules", "found", "root", "waiting", "name", "lacking", "part"]) (sc := C8.fnScope s_from_below) (by decide +kernel)) (fun _ _ _ _ _ => (pg_name (i := 6) sc_from_below.nd rfl (Or.inl rfl))) (fun _ _ _ _ _ => (pts_one (PW.pt (pw_and (pt_val (pe_callB (call_isiK1 (K := K) rfl) (by rfl) T.f_isinstance boot_isinstance (pa_cons (pe_ix (ix_tupK (K := K) rfl) (pv 6) pe_int (fun _ _ => rfl)) (pa_cons (pe_bltn (v := .ty "str") (by rfl) T.f_str boot_str rfl) pa_nil)))) (pw_and1 (pt_cmp (pc_dnotin (hu_of hr) (pe_ix (ix_tupK (K := K) rfl) (pv 6) pe_int (fun _ _ => rfl)) (pv 1)))))))) (fun _ _ _ _ _ => (pe_ix (ix_tupK (K := K) rfl) (pv 6) pe_int (fun _ _ => rfl))))
          (pss_one
          (ps_if (pt_truthK (K := K) rfl (pv 5) (by intro _; rfl)) (pss_one
            (ps_expr (pe_bm PySem.F.plainAttrs_list PySem.F.slot_list_extend PySem.F.type_list_extend mt_extend (pv 3) (pa_cons (pv 5) pa_nil)))) (pss_one
            (ps_dput (hu_of hr) (pv 1) (pe_bm0 PySem.F.plainAttrs_list PySem.F.slot_list_pop PySem.F.type_list_pop mt_pop (pv 3)) pe_bl rfl)))))))))))
      (pss_one
      (ps_ret (pe_callTy (call_listD rfl) (by rfl) T.f_list boot_list (pa_cons (pv 1) pa_nil)))))), ?_⟩
  refine fun fo nf => ?_
  have ndf : d ≠ fo := ne_of_none hd nf
  have hd1 : (upd H fo (.dK [])) d = some (.dK (two tl tt)) := by rw [upd_ne ndf]; exact hd
  refine ⟨d, _, hd1, trivial, fun od => ?_⟩
  have b0 : ExB d H (upd (upd H fo (.dK [])) d (.frz od (.dK (two tl tt)))) := (ExB.of (Ex.new nf)).put
  have hd2 : (upd (upd H fo (.dK [])) d (.frz od (.dK (two tl tt)))) d = some (.frz od (.dK (two tl tt))) := upd_same
  have hf2 : (upd (upd H fo (.dK [])) d (.frz od (.dK (two tl tt)))) fo = some (.dK []) := by rw [upd_ne ndf.symm, upd_same]
  generalize (upd (upd H fo (.dK [])) d (.frz od (.dK (two tl tt)))) = H0 at b0 hd2 hf2
  let fk : Nat → List (Key × V) := fun i => if i = 0 then [] else if i = 1 then [(kL, .bl true)] else [(kL, .bl true), (kT, .bl true)]
  refine ⟨_, rfl, d, od, rfl, .inl ⟨two tl tt, hd2, ?_⟩⟩
  refine for_it (walk_keys (d := d) (o := od) (kvs := two tl tt)) (fun i σ H' => ∃ v2 v3 v4 v5 : Option V, σ = [some (.ref d), some (.ref fo), v2, v3, v4, v5, none] ∧ ExB d H H' ∧ H' d = some (.frz od (.dK (two tl tt))) ∧ H' fo = some (.dK (fk i)))
    ⟨none, none, none, none, rfl, b0, hd2, hf2⟩ (fun i σ H' _ ⟨_, _, _, _, _, _, h, _⟩ => h) ?_ ?_
  · rintro i x σ H1 H2 hi ⟨v2, v3, v4, v5, rfl, b1, hd3, hf3⟩ ⟨rfl, k, v, hkv, rfl⟩
    have ci : i = 0 ∨ i = 1 := by
      have : (two tl tt).length = 2 := rfl
      omega
    -- the key and its parts
    have hk : ∃ (nm : Str) (ta : Addr) (l : List (V × Int)) (ps : List Addr), k = .inr nm ∧ valV (two tl tt) (.inr nm) = some (.ref ta) ∧ H ta = some (.tup (ps.map V.ref)) ∧ PartsIn H ps l ∧ putK (fk i) (.inr nm) (.bl true) = fk (i + 1) ∧
        ∀ (j : Nat) (v : V) (n : Int), l[j]? = some (v, n) → (∃ s, v = .int s) ∨ (v = .str "LOOP" ∧ i = 1) := by
      rcases ci with rfl | rfl
      · obtain ⟨ps, h1, h2⟩ := hR.loop
        have ek : kL = k := congrArg Prod.fst (Option.some.inj hkv)
        refine ⟨"LOOP", tl, loopP ss, ps, ek.symm, two_L tl tt, h1, h2, rfl, fun j v n hj => .inl ?_⟩
        unfold loopP at hj
        rw [List.getElem?_map] at hj
        cases hs : ss[j]? with
        | none =>
          rw [hs] at hj
          cases hj
        | some s =>
          rw [hs] at hj
          exact ⟨s, (congrArg Prod.fst (Option.some.inj hj)).symm⟩
      · obtain ⟨ps, h1, h2⟩ := hR.top
        have ek : kT = k := congrArg Prod.fst (Option.some.inj hkv)
        refine ⟨"TOP", tt, topP R, ps, ek.symm, two_T tl tt, h1, h2, ?_, fun j v n hj => .inr ?_⟩
        · show putK [(kL, .bl true)] kT (.bl true) = _
          rw [putK_new _ (valV_neg (fun e => lt_ne (Sum.inr.inj e)))]
          rfl
        · have j0 : j = 0 := by
            have := (List.getElem?_eq_some_iff.mp hj).1
            have l1 : (topP R).length = 1 := rfl
            omega
          subst j0
          exact ⟨(congrArg Prod.fst (Option.some.inj hj)).symm, rfl⟩
    obtain ⟨nm, ta, l, ps, rfl, hvt, hta, hpl, hput, hl⟩ := hk
    have hta2 : ∀ {H' : Hp}, ExB d H H' → H' ta = some (.tup (ps.map V.ref)) := fun b => b _ _ hta (ne_of hta hd (by intro q; cases q))
    refine ⟨_, rfl, by show 1 ≤ sizeLine; decide, fun wt nw => ?_⟩
    have ndw : d ≠ wt := ne_of_none hd3 nw
    have nfw : fo ≠ wt := ne_of_none hf3 nw
    have nwH : H wt = none := by
      cases hz : H wt with
      | none => rfl
      | some o =>
        have := b1 wt o hz ndw.symm
        rw [nw] at this
        cases this
    refine ⟨fun m σ' H' => ∃ v3 v4 v5 : Option V, σ' = [some (.ref d), some (.ref fo), some (.str nm), v3, v4, v5, none] ∧ ExB d H H' ∧ H' d = some (.frz od (.dK (two tl tt))) ∧
      ((m = 1 ∧ v3 = some (.ref wt) ∧ H' fo = some (.dK (fk i)) ∧ H' wt = some (.lst [.str nm])) ∨ (m = 0 ∧ v3 = some (.ref wt) ∧ H' fo = some (.dK (fk (i + 1))) ∧ H' wt = some (.lst []))), ?_, ?_⟩
    · exact ⟨1, some (.ref wt), v4, v5, rfl, b1.ex (Ex.new nw), by rw [upd_ne ndw]; exact hd3, .inl ⟨rfl, rfl, by rw [upd_ne nfw]; exact hf3, upd_same⟩⟩
    rintro m σ' H3 ⟨v3', v4', v5', rfl, b3, hd4, ⟨rfl, rfl, hf4, hw4⟩ | ⟨rfl, rfl, hf4, hw4⟩⟩
    · refine ⟨_, rfl, _, .inl ⟨_, sqL hw4, rfl⟩, ?_⟩
      refine ⟨fun σ' H' => ∃ m', m' < 1 ∧ _, fun σ' H' h => h, ?_⟩
      refine ⟨_, rfl, _, rfl, wt, _, _, _, rfl, rfl, sqL hw4, rfl, ?_⟩
      -- lacking
      refine ⟨_, rfl, _, rfl, d, .ref ta, rfl, .inl ⟨two tl tt, .inr nm, .inr ⟨od, hd4⟩, rfl, hvt.symm⟩, ta, rfl, ⟨_, sqT (hta2 b3)⟩, fun Dl hD => ?_⟩
      refine lc_ev (walk_tup (xs := ps.map V.ref)) hD (fun H' e => sqT (e _ _ (hta2 b3))) (fun _ => []) rfl (fun i _ => by decide) ?_ (fun H4 e4 hL => ?_)
      · rintro j x H4 H5 hj e4 ⟨rfl, hx⟩
        obtain ⟨p, hp, rfl⟩ := get_ref hx
        have hlt : j < l.length := by
          rw [← hpl.1]
          exact (List.getElem?_eq_some_iff.mp hp).1
        have hpH := hpl.2 j p l[j].1 l[j].2 hp (List.getElem?_eq_getElem hlt)
        have hp5 : H5 p = some (.tup [l[j].1, .int l[j].2]) := e4 _ _ (b3 _ _ hpH (ne_of hpH hd (by intro q; cases q)))
        have hl5 := hl j l[j].1 l[j].2 (List.getElem?_eq_getElem hlt)
        generalize l[j].1 = v at hp5 hl5
        generalize l[j].2 = n at hp5
        refine ⟨Ex.refl _, _, false, fun Qs q => q, rfl, fun H6 e6 Q' q' => ?_, (fun h => by cases h), (fun _ => rfl)⟩
        have hp6 := e6 _ _ hp5
        rcases hl5 with ⟨sv, rfl⟩ | ⟨rfl, rfl⟩
        · refine ⟨_, rfl, p, _, _, _, rfl, rfl, sqT hp6, rfl, _, _, _, _, false, rfl, .ty "str", .base (.int _), kit_int_str, false, rfl, ?_⟩
          exact q' H6 (Ex.refl H6)
        · refine ⟨_, rfl, p, _, _, _, rfl, rfl, sqT hp6, rfl, _, _, _, _, true, rfl, .ty "str", .base (.str _), kit_str_str, true, rfl, ?_⟩
          exact ⟨_, rfl, p, _, _, _, rfl, rfl, sqT hp6, rfl, _, rfl, fo, some (.bl true), rfl, .inl ⟨[(kL, .bl true)], kL, .inl (e6 _ _ (e4 _ _ hf4)), rfl, rfl⟩, false, rfl, q' H6 (Ex.refl H6)⟩
      · have hw5 := e4 _ _ hw4
        refine ⟨_, rfl, false, .inl ⟨_, sqL hL, rfl⟩, ?_⟩
        refine ⟨_, rfl, _, rfl, .inl ⟨rfl, _, sqL hw5⟩, wt, _, _, rfl, rfl, hw5, rfl, fo, _, rfl, DPut.k (k := .inr nm) (by rw [upd_ne nfw]; exact e4 _ _ hf4) (sz_lt ?_), ?_⟩
        · rcases ci with rfl | rfl <;> decide
        refine ⟨0, by decide, _, _, _, rfl, ((b3.ex e4).mut nwH).mut nf, ?_, .inr ⟨rfl, rfl, ?_, ?_⟩⟩
        · rw [upd_ne ndf, upd_ne ndw]
          exact e4 _ _ hd4
        · rw [upd_same, hput]
        · rw [upd_ne nfw.symm, upd_same]
          rfl
    · refine ⟨_, rfl, false, .inl ⟨_, sqL hw4, rfl⟩, ?_⟩
      exact ⟨_, _, _, _, rfl, b3, hd4, hf4⟩
  · rintro σ H1 ⟨v2, v3, v4, v5, rfl, b1, hd3, hf3⟩
    refine ⟨hd3, ?_⟩
    have e1 : Ex H (upd H1 d (.dK (two tl tt))) := fun b o h => by
      by_cases hb : b = d
      · subst hb
        rw [upd_same, ← hd, h]
      · rw [upd_ne hb]
        exact b1 b o h hb
    refine ⟨_, rfl, fo, _, rfl, .inl (by rw [upd_ne ndf.symm]; exact hf3), fun p np => ?_⟩
    exact q p _ (e1.of_new np) upd_same
end
end LJ

set_option maxHeartbeats 4000000
namespace LJ
open PySem PySem.Spec PyProof.Rows L2 Evl
/-- how often each of the three signs stands in a sign -/
def ind (s : Int) : List Int := (List.range 3).map fun (i : Nat) => if decide (V.int (i : Int) = V.int s) = true then 1 else 0
/-- the counts of a part, from the dict dc -/
def PartC (H : Hp) (dc : Addr) (v : V) (cs : List Int) : Prop := cs.length = 3 ∧ ((∃ s, v = .int s ∧ cs = ind s) ∨ (∃ nm kvs l, v = .str nm ∧ H dc = some (.dK kvs) ∧ valV kvs (.inr nm) = some (.ref l) ∧ H l = some (.lst (cs.map V.int))))
theorem PartC.mono {H H' : Hp} {dc : Addr} {v : V} {cs : List Int} (e : Ex H H') (h : PartC H dc v cs) : PartC H' dc v cs := by
  obtain ⟨h3, h | ⟨nm, kvs, l, h1, h2, h4, h5⟩⟩ := h
  · exact ⟨h3, .inl h⟩
  · exact ⟨h3, .inr ⟨nm, kvs, l, h1, e _ _ h2, h4, e _ _ h5⟩⟩
/-- a text as far as counting sees it -/
def TL (CT : Addr) (H : Hp) (x dc : Addr) : Prop := ∃ dx fs, H x = some (.ins CT dx fs) ∧ fs.lookup ("signs" : Str) = some (.int 3) ∧ fs.lookup ("own_counts" : Str) = some (.ref dc) ∧ fs.lookup ("counts_of" : Str) = none ∧ fs.lookup ("summed" : Str) = none ∧ fs.lookup ("size_of" : Str) = none
theorem TL.mono {CT : Addr} {H H' : Hp} {x dc : Addr} (e : Ex H H') (h : TL CT H x dc) : TL CT H' x dc := by
  obtain ⟨dx, fs, h1, h2⟩ := h
  exact ⟨dx, fs, e _ _ h1, h2⟩
def addm (n : Int) (a b : List Int) : List Int := (a.zip b).map fun p => p.1 + n * p.2
def sumC (cs : List (Int × List Int)) : List Int := cs.foldl (fun a p => addm p.1 a p.2) [0, 0, 0]
theorem addm_len {n : Int} {a b : List Int} (ha : a.length = 3) (hb : b.length = 3) : (addm n a b).length = 3 := by
  unfold addm
  rw [List.length_map, List.length_zip, ha, hb]
  rfl
theorem sumC_snoc (cs : List (Int × List Int)) (p : Int × List Int) : sumC (cs ++ [p]) = addm p.1 (sumC cs) p.2 := by
  unfold sumC
  rw [List.foldl_append]
  rfl
theorem sumC_len {cs : List (Int × List Int)} (h : ∀ p ∈ cs, p.2.length = 3) : (sumC cs).length = 3 := by
  have key : ∀ (l : List (Int × List Int)) (a : List Int), a.length = 3 → (∀ p ∈ l, p.2.length = 3) → (l.foldl (fun a p => addm p.1 a p.2) a).length = 3 := by
    intro l
    induction l with
    | nil => exact fun a ha _ => ha
    | cons p l ih => exact fun a ha hl => ih _ (addm_len ha (hl p List.mem_cons_self)) fun q hq => hl q (List.mem_cons_of_mem _ hq)
  exact key cs _ rfl h
section
variable {P : Program} {w : World} {K : PySem.W.Frag} {mg : Str → Option Value} {base : Heap} {CC CT CR : Addr}
def spRules (CT : Addr) : Sp := fun vs H Q _ => ∃ (x dx d : Addr) (fs : List (Str × V)) (kvs : List (Key × V)), vs = [.ref x] ∧ H x = some (.ins CT dx fs) ∧ fs.lookup ("own_rules" : Str) = some (.ref d) ∧ H d = some (.dK kvs) ∧ ∀ p, H p = none → Q (.ref p) (upd H p (.dK kvs))
theorem fn_rules (T : Txt K mg CC CT CR) {f : Addr} {fd : FuncData} (F : C8.Fun K "rules" "Text.rules" s_Text_rules f fd) : FnOk P w K mg base C8.CX0 1 f fd ["self"] (spRules CT) := by
  refine C8.fn0 F sc_Text_rules (fun vs H Q E h => ?_) (fun cdv A outer s H vs Q E hr h => ?_)
  · obtain ⟨x, dx, d, fs, kvs, rfl, _⟩ := h
    rfl
  obtain ⟨x, dx, d, fs, kvs, rfl, hx, hf, hd, q⟩ := h
  refine ⟨_, (pss_one
      (ps_ret (pe_callTy call_dictD (by rfl) T.f_dict boot_dict (pa_cons (pe_fld (pv 0) rfl) pa_nil)))), ?_⟩
  exact ⟨_, rfl, x, CT, dx, _, _, rfl, hx, T.clT, T.nT_own_rules, hf, d, kvs, rfl, .inl hd, q⟩
def spCountsOf (CT : Addr) : Sp := fun vs H Q _ => ∃ (x dc : Addr) (v : V) (cs : List Int), vs = [.ref x, v] ∧ TL CT H x dc ∧ PartC H dc v cs ∧ ∀ l H2, Ex H H2 → H2 l = some (.lst (cs.map V.int)) → Q (.ref l) H2
theorem ok_counts_of (T : Txt K mg CC CT CR) (D : Dm K CT "counts_of" "Text.counts_of" s_Text_counts_of ["self", "part"]) : C8.Met P w K mg base 1 CT "counts_of" (spCountsOf CT) [] := by
  refine D.met sc_Text_counts_of (fun vs H Q E h => ?_) (fun f cdv A outer s H vs Q E hr h => ?_)
  · obtain ⟨x, dc, v, cs, rfl, _⟩ := h
    rfl
  obtain ⟨x, dc, v, cs, rfl, ⟨dx, fs, hx, hs, hc, _⟩, ⟨h3, hv⟩, q⟩ := h
  refine ⟨_, (pss_cons
      (ps_if (pt_val (pe_callB call_isi (by rfl) T.f_isinstance boot_isinstance (pa_cons (pv 1) (pa_cons (pe_bltn (v := .ty "str") (by rfl) T.f_str boot_str rfl) pa_nil)))) (pss_one
        (ps_ret (pe_dget (hu_of hr) (pe_fld (pv 0) rfl) (pv 1) (fun _ _ => rfl)))) pss_nil)
      (pss_one
      (ps_ret (pe_lc (own := [("sign", 2)]) (g := gName 2) (tt := tYes) rfl sc_Text_counts_of.nd (pi_range1 (by rfl) T.f_range (pa_cons (pe_fld (pv 0) rfl) pa_nil)) (blkOk_by (own := [("sign", 2)]) (N := ["self", "part", "sign"]) (sc := C8.fnScope s_Text_counts_of) (by decide +kernel)) (fun _ _ _ _ _ => (pg_name (i := 2) sc_Text_counts_of.nd rfl (Or.inl rfl))) (fun _ _ _ _ _ => pts_nil) (fun _ _ _ _ _ => (pe_callTy call_int1 (by rfl) T.f_int boot_int (pa_cons (pe_cmpR op_eq (pv 2) (pv 1) (nomark _)) pa_nil))))))), ?_⟩
  rcases hv with ⟨s, rfl, rfl⟩ | ⟨nm, kvs, l, rfl, hdc, hl, hll⟩
  · refine ⟨_, rfl, _, _, _, _, false, rfl, .ty "str", .base (.int s), kit_int_str, false, rfl, ?_⟩
    refine ⟨_, rfl, x, CT, dx, _, _, rfl, hx, T.clT, T.nT_signs, hs, 3, rfl, by decide, by decide, fun Dl hD => lc_rng hD (fun i => .int (if decide (V.int (i : Int) = V.int s) = true then 1 else 0)) (by decide) (fun x => rfl) (fun i H2 hi e => ?_) (fun H1 e1 hL => ?_)⟩
    · intro H3 e3 Q' q'
      exact ⟨_, rfl, _, rfl, rfl, .inr ⟨_, rfl, q' H3 (Ex.refl H3)⟩⟩
    · refine q Dl H1 e1 ?_
      rw [hL, map_int]
      rfl
  · refine ⟨_, rfl, _, _, _, _, true, rfl, .ty "str", .base (.str nm), kit_str_str, true, rfl, ?_⟩
    exact ⟨_, rfl, x, CT, dx, _, _, rfl, hx, T.clT, T.nT_own_counts, hc, _, rfl, dc, _, rfl, .inl ⟨kvs, .inr nm, .inl hdc, rfl, hl.symm⟩, q l H (Ex.refl H) hll⟩
def spSummed (CT : Addr) : Sp := fun vs H Q _ => ∃ (x dc t : Addr) (l : List (V × Int)) (cs : List (Int × List Int)), vs = [.ref x, .ref t] ∧ TL CT H x dc ∧ PartsT H t l ∧ l.length = cs.length ∧
  (∀ (i : Nat) (v : V) (n : Int) (p : Int × List Int), l[i]? = some (v, n) → cs[i]? = some p → p.1 = n ∧ PartC H dc v p.2 ∧ ∀ c ∈ p.2, 0 ≤ c ∧ c < 1000) ∧ ∀ a H2, Ex H H2 → H2 a = some (.lst ((sumC cs).map V.int)) → Q (.ref a) H2
theorem ok_summed (T : Txt K mg CC CT CR) (D : Dm K CT "summed" "Text.summed" s_Text_summed ["self", "parts"]) (m_counts_of : C8.Met P w K mg base 1 CT "counts_of" (spCountsOf CT) []) :
    C8.Met P w K mg base 2 CT "summed" (spSummed CT) [] := by
  refine D.met sc_Text_summed (fun vs H Q E h => ?_) (fun f cdv A outer s H vs Q E hr h => ?_)
  · obtain ⟨x, dc, t, l, cs, rfl, _⟩ := h
    rfl
  obtain ⟨x, dc, t, l, cs, rfl, hT, ⟨ps, hps, hpl⟩, hlen, hc, q⟩ := h
  refine ⟨_, (pss_cons
      (ps_set (i := 2) sc_Text_summed.nd rfl (Or.inl rfl) (pe_op op_rep (pe_lst (pa_cons pe_int pa_nil)) (pe_fld (pv 0) rfl)))
      (pss_cons
      (ps_for PassesOwn.never rfl (pi_tup (pv 1)) (pg_tup rfl (pgs_cons (pg_name (i := 3) sc_Text_summed.nd rfl (Or.inl rfl)) (pgs_cons (pg_name (i := 4) sc_Text_summed.nd rfl (Or.inr rfl)) pgs_nil))) (pss_one
        (ps_setLc (i := 2) (own := [("one", 5), ("other", 6)]) (tt := tYes) rfl sc_Text_summed.nd rfl rfl (sw_true rfl rfl rfl (by decide +kernel)) (pi_zip (by rfl) T.f_zip (pa_cons (pv 2) (pa_cons (C8.pe_mt m_counts_of hr (by decide) (pv 0) (pa_cons (pv 3) pa_nil)) pa_nil))) (blkOk_by (own := [("one", 5), ("other", 6)]) (N := ["self", "parts", "found", "part", "many", "one", "other"]) (sc := C8.fnScope s_Text_summed) (by decide +kernel)) (fun _ _ _ _ _ => (pg_tupK (K := K) (n := 2) rfl rfl (pgs_cons (pg_name (i := 5) sc_Text_summed.nd rfl (Or.inl rfl)) (pgs_cons (pg_name (i := 6) sc_Text_summed.nd rfl (Or.inl rfl)) pgs_nil)))) (fun _ _ _ _ _ => pts_nil) (fun _ _ _ _ _ => (pe_op op_add (pv 5) (pe_op op_mul (pv 4) (pv 6)))))))
      (pss_one
      (ps_ret (pv 2))))), ?_⟩
  obtain ⟨dx, fs, hx, hs, hcc, hn1, _⟩ := id hT
  refine ⟨by show 1 ≤ sizeLine; decide, fun a0 n0 => ?_⟩
  refine ⟨_, rfl, x, CT, dx, _, _, rfl, by rw [upd_ne (ne_of_none hx n0)]; exact hx, T.clT, T.nT_signs, hs, a0, 3, _, rfl, rfl, upd_same, by decide, by decide, by show 1 * 3 ≤ sizeLine; decide, fun a1 n1 => ?_⟩
  have e1 : Ex H (upd (upd H a0 (.lst [.int 0])) a1 (.lst (List.replicate (Int.toNat 3) [V.int 0]).flatten)) := (Ex.new n0).of_new n1
  have h1 : (upd (upd H a0 (.lst [.int 0])) a1 (.lst (List.replicate (Int.toNat 3) [V.int 0]).flatten)) a1 = some (.lst ((sumC []).map V.int)) := upd_same
  generalize (upd (upd H a0 (.lst [.int 0])) a1 (.lst (List.replicate (Int.toNat 3) [V.int 0]).flatten)) = H1 at e1 h1
  refine ⟨_, rfl, t, rfl, ⟨_, sqT (e1 _ _ hps)⟩, ?_⟩
  refine for_tup (K := K) (a := t) (xs := ps.map V.ref) (fun i σ H' => ∃ (b : Addr) (v3 v4 : Option V), σ = [some (.ref x), some (.ref t), some (.ref b), v3, v4, none, none] ∧ Ex H H' ∧ H' b = some (.lst ((sumC (cs.take i)).map V.int)))
    ⟨a1, none, none, rfl, e1, h1⟩ (fun i σ H' _ ⟨_, _, _, _, e, _⟩ => sqT (e _ _ hps)) ?_ ?_
  · rintro i y σ H2 hi ⟨b, v3, v4, rfl, e2, hb⟩
    obtain ⟨p, hp, rfl⟩ := get_ref hi
    have hlt : i < l.length := by
      rw [← hpl.1]
      exact (List.getElem?_eq_some_iff.mp hp).1
    have hlt2 : i < cs.length := by omega
    have hpH := hpl.2 i p l[i].1 l[i].2 hp (List.getElem?_eq_getElem hlt)
    have hcc2 := hc i l[i].1 l[i].2 cs[i] (List.getElem?_eq_getElem hlt) (List.getElem?_eq_getElem hlt2)
    generalize l[i].1 = v at hpH hcc2
    generalize l[i].2 = n at hpH hcc2
    have hci := List.getElem?_eq_getElem hlt2
    generalize cs[i] = c at hcc2 hci
    refine ⟨p, _, rfl, sqT (e2 _ _ hpH), rfl, _, _, rfl, _, _, rfl, rfl, ?_⟩
    obtain ⟨rfl, hP, hb100⟩ := hcc2
    have p3 : c.2.length = 3 := hP.1
    refine ⟨_, rfl, _, rfl, x, dx, fs, rfl, e2 _ _ hx, hn1, _, rfl, x, dc, v, c.2, rfl, hT.mono e2, hP.mono e2, fun l2 H3 e3 hl2 => ?_⟩
    have hb3 := e3 _ _ hb
    have f3 : (sumC (cs.take i)).length = 3 := sumC_len fun q hq => by
      obtain ⟨j, hj, ej⟩ := List.getElem_of_mem (List.mem_of_mem_take hq)
      have := hc j _ _ q (List.getElem?_eq_getElem (by omega)) (by rw [← ej]; exact List.getElem?_eq_getElem hj)
      exact this.2.1.1
    refine ⟨b, l2, _, _, rfl, sqL hb3, sqL hl2, fun Dl hD => ?_⟩
    have zl : ((sumC (cs.take i)).zip c.2).length = 3 := by rw [List.length_zip, f3, p3]; rfl
    refine lc_it (walk_zip (n := 3) (by rw [List.length_map, List.length_map, f3, p3]; rfl)) (fun j H' => Ex H3 H' ∧ H' Dl = some (.lst (((addm c.1 (sumC (cs.take i)) c.2).take j).map V.int))) ⟨Ex.new hD, upd_same⟩ (fun j H' _ ⟨e, _⟩ => ⟨ex_l e (sqL hb3), ex_l e (sqL hl2)⟩) ?_ ?_
    · rintro j z H4 H5 hj ⟨e4, hL⟩ y
      obtain ⟨t2, u, z, rfl, ht, rfl, e5, hu, hz⟩ := ypair_new y
      obtain ⟨n, hn, rfl⟩ := get_int hu
      obtain ⟨m, hm, rfl⟩ := get_int hz
      refine ⟨t2, _, rfl, sqT upd_same, rfl, _, _, rfl, _, _, rfl, rfl, rfl, ?_⟩
      have hDt : Dl ≠ t2 := ne_of_none hL ht
      have hg : (addm c.1 (sumC (cs.take i)) c.2)[j]? = some (n + c.1 * m) := by
        unfold addm
        rw [List.getElem?_map, (List.getElem?_zip_eq_some (z := (n, m))).mpr ⟨hn, hm⟩]
        rfl
      have bm := hb100 m (List.mem_of_getElem? hm)
      refine ⟨_, rfl, _, rfl, _, rfl, _, _, rfl, rfl, .inr ⟨by omega, by omega⟩, _, _, rfl, rfl, ?_⟩
      refine ⟨_, by rw [upd_ne hDt]; exact hL, ?_, (e4.trans e5).mut hD, ?_⟩
      · rw [List.length_map, List.length_take, addm_len f3 p3]
        exact Nat.lt_of_le_of_lt (Nat.min_le_right _ _) (by decide)
      · rw [upd_same, take_snoc hg, List.map_append]
        rfl
    · rintro H4 ⟨e4, hL⟩
      refine ⟨Dl, _, _, rfl, (e2.trans e3).trans e4, ?_⟩
      rw [hL, List.take_of_length_le (by rw [addm_len f3 p3]; exact Nat.le_refl _), take_snoc hci, sumC_snoc]
  · rintro σ H2 ⟨b, v3, v4, rfl, e2, hb⟩
    refine ⟨_, rfl, q b H2 e2 ?_⟩
    rw [List.take_of_length_le (by rw [List.length_map, hpl.1, hlen]; exact Nat.le_refl _)] at hb
    exact hb
def spSize (CT : Addr) : Sp := fun vs H Q _ => ∃ (x dc : Addr) (v : V), vs = [.ref x, v] ∧ TL CT H x dc ∧ ((∃ s, v = .int s ∧ Q (.int 1) H) ∨ (∃ nm kvs l cs, v = .str nm ∧ H dc = some (.dK kvs) ∧ valV kvs (.inr nm) = some (.ref l) ∧ H l = some (.lst (List.map V.int cs)) ∧ Q (.int cs.sum) H))
theorem ok_size_of (T : Txt K mg CC CT CR) (D : Dm K CT "size_of" "Text.size_of" s_Text_size_of ["self", "part"]) : C8.Met P w K mg base 1 CT "size_of" (spSize CT) [] := by
  refine D.met sc_Text_size_of (fun vs H Q E h => ?_) (fun f cdv A outer s H vs Q E hr h => ?_)
  · obtain ⟨x, dc, v, rfl, _⟩ := h
    rfl
  obtain ⟨x, dc, v, rfl, ⟨dx, fs, hx, hs, hc, _⟩, hv⟩ := h
  refine ⟨_, (pss_one
      (ps_ret (pe_ifExp (pt_val (pe_callB call_isi (by rfl) T.f_isinstance boot_isinstance (pa_cons (pv 1) (pa_cons (pe_bltn (v := .ty "str") (by rfl) T.f_str boot_str rfl) pa_nil)))) (pe_callB (cr_sum rfl) (by rfl) T.f_sum boot_sum (pa_cons (pe_dget (hu_of hr) (pe_fld (pv 0) rfl) (pv 1) (fun _ _ => rfl)) pa_nil)) pe_int))), ?_⟩
  rcases hv with ⟨s, rfl, q⟩ | ⟨nm, kvs, l, cs, rfl, hdc, hl, hll, q⟩
  · exact ⟨_, rfl, _, _, _, _, false, rfl, .ty "str", .base (.int s), kit_int_str, false, rfl, q⟩
  · refine ⟨_, rfl, _, _, _, _, true, rfl, .ty "str", .base (.str nm), kit_str_str, true, rfl, ?_⟩
    exact ⟨_, rfl, x, CT, dx, _, _, rfl, hx, T.clT, T.nT_own_counts, hc, _, rfl, dc, _, rfl, .inl ⟨kvs, .inr nm, .inl hdc, rfl, hl.symm⟩, l, cs, rfl, sqL hll, q⟩
end
end LJ

set_option maxHeartbeats 4000000
namespace LJ
open PySem PySem.Spec PyProof.Rows L2 Evl
/-- the fields of a Text -/
def tf4 (d dc : Addr) : List (Str × V) := putF "own_counts" (.ref dc) (putF "own_rules" (.ref d) (putF "root" (.str "TOP") (putF "signs" (.int 3) [])))
def tf (d dc : Addr) (sz : Int) : List (Str × V) := putF "size" (.int sz) (tf4 d dc)
theorem tf4_signs (d dc : Addr) : (tf4 d dc).lookup ("signs" : Str) = some (.int 3) := by
  unfold tf4
  rw [lookup_putF, if_neg (by decide +kernel), lookup_putF, if_neg (by decide +kernel), lookup_putF, if_neg (by decide +kernel), lookup_putF, if_pos rfl]
theorem tf4_root (d dc : Addr) : (tf4 d dc).lookup ("root" : Str) = some (.str "TOP") := by
  unfold tf4
  rw [lookup_putF, if_neg (by decide +kernel), lookup_putF, if_neg (by decide +kernel), lookup_putF, if_pos rfl]
theorem tf4_own_rules (d dc : Addr) : (tf4 d dc).lookup ("own_rules" : Str) = some (.ref d) := by
  unfold tf4
  rw [lookup_putF, if_neg (by decide +kernel), lookup_putF, if_pos rfl]
theorem tf4_own_counts (d dc : Addr) : (tf4 d dc).lookup ("own_counts" : Str) = some (.ref dc) := by
  unfold tf4
  rw [lookup_putF, if_pos rfl]
theorem tf4_none (d dc : Addr) {z : Str} (h : (z == "own_counts") = false ∧ (z == "own_rules") = false ∧ (z == "root") = false ∧ (z == "signs") = false) : (tf4 d dc).lookup z = none := by
  obtain ⟨h1, h2, h3, h4⟩ := h
  unfold tf4
  rw [lookup_putF, if_neg (by intro e; rw [beq_iff_eq.mpr e] at h1; cases h1), lookup_putF, if_neg (by intro e; rw [beq_iff_eq.mpr e] at h2; cases h2), lookup_putF, if_neg (by intro e; rw [beq_iff_eq.mpr e] at h3; cases h3), lookup_putF, if_neg (by intro e; rw [beq_iff_eq.mpr e] at h4; cases h4)]
  rfl
theorem tf_not (d dc : Addr) (sz : Int) {z : Str} (h : (z == "size") = false) : (tf d dc sz).lookup z = (tf4 d dc).lookup z := by
  unfold tf
  rw [lookup_putF, if_neg (by intro e; rw [beq_iff_eq.mpr e] at h; cases h)]
theorem TL.of4 {CT : Addr} {H : Hp} {x dx d dc : Addr} (h : H x = some (.ins CT dx (tf4 d dc))) : TL CT H x dc :=
  ⟨dx, _, h, tf4_signs _ _, tf4_own_counts _ _, tf4_none _ _ (by decide +kernel), tf4_none _ _ (by decide +kernel), tf4_none _ _ (by decide +kernel)⟩
theorem TL.of5 {CT : Addr} {H : Hp} {x dx d dc : Addr} {sz : Int} (h : H x = some (.ins CT dx (tf d dc sz))) : TL CT H x dc :=
  ⟨dx, _, h, (tf_not _ _ _ (by decide +kernel)).trans (tf4_signs _ _), (tf_not _ _ _ (by decide +kernel)).trans (tf4_own_counts _ _), (tf_not _ _ _ (by decide +kernel)).trans (tf4_none _ _ (by decide +kernel)), (tf_not _ _ _ (by decide +kernel)).trans (tf4_none _ _ (by decide +kernel)),
    (tf_not _ _ _ (by decide +kernel)).trans (tf4_none _ _ (by decide +kernel))⟩
/-- how often the signs stand in the block -/
def cntL (ss : List Int) : List Int := sumC (ss.map fun s => (1, ind s))
theorem ind_01 {s c : Int} (h : c ∈ ind s) : 0 ≤ c ∧ c ≤ 1 := by
  unfold ind at h
  obtain ⟨i, _, rfl⟩ := List.mem_map.mp h
  split <;> omega
theorem cnt_le {ss : List Int} : ∀ c ∈ cntL ss, 0 ≤ c ∧ c ≤ ss.length := by
  have key : ∀ (l : List Int) (a : List Int) (k : Int), (∀ c ∈ a, 0 ≤ c ∧ c ≤ k) → ∀ c ∈ (l.map fun s => ((1 : Int), ind s)).foldl (fun a p => addm p.1 a p.2) a, 0 ≤ c ∧ c ≤ k + l.length := by
    intro l
    induction l with
    | nil =>
      intro a k h c hc
      have := h c hc
      simp only [List.length_nil]
      omega
    | cons s l ih =>
      intro a k h c hc
      have := ih (addm 1 a (ind s)) (k + 1) (fun c hc => ?_) c hc
      · simp only [List.length_cons]
        omega
      · unfold addm at hc
        obtain ⟨p, hp, rfl⟩ := List.mem_map.mp hc
        have h1 := h _ (List.of_mem_zip hp).1
        have h2 := ind_01 (List.of_mem_zip hp).2
        omega
  intro c hc
  have := key ss [0, 0, 0] 0 (by decide) c hc
  omega
theorem cntL_len (ss : List Int) : (cntL ss).length = 3 := sumC_len fun p hp => by
  obtain ⟨s, _, rfl⟩ := List.mem_map.mp hp
  rfl
def cntT (ss : List Int) (R : Int) : List Int := sumC [(R, cntL ss)]
structure TextAt (CT : Addr) (H : Hp) (x : Addr) (ss : List Int) (R : Int) : Prop where
  ex : ∃ dx d dc tl tt l1 l2 : Addr, H x = some (.ins CT dx (tf d dc (cntT ss R).sum)) ∧ H d = some (.dK (two tl tt)) ∧ RulesC H tl tt ss R ∧ H dc = some (.dK (two l1 l2)) ∧ H l1 = some (.lst ((cntL ss).map V.int)) ∧ H l2 = some (.lst ((cntT ss R).map V.int))
theorem TextAt.mono {CT x : Addr} {H H' : Hp} {ss : List Int} {R : Int} (e : Ex H H') (h : TextAt CT H x ss R) : TextAt CT H' x ss R := by
  obtain ⟨⟨dx, d, dc, tl, tt, l1, l2, h1, h2, h3, h4, h5, h6⟩⟩ := h
  exact ⟨⟨dx, d, dc, tl, tt, l1, l2, e _ _ h1, e _ _ h2, h3.mono e, e _ _ h4, e _ _ h5, e _ _ h6⟩⟩
/-- a dict comprehension over a walk, by an invariant -/
theorem dc_it {J : It} {n : Nat} {G : Hp → Prop} {Y : Nat → Hp → V → Hp → Prop} (w : Walk J n G Y) {g : TG} {tt : TT} {tk tv : TE} {vs : List Nat} {σ : L2.St} {H1 : Hp} {D : Addr} {Qd : Hp → Prop} (Pv : Nat → Hp → Prop) (h0 : Pv 0 (upd H1 D (.dK []))) (hG : ∀ i H, i ≤ n → Pv i H → G H)
    (hs : ∀ i x H H', i < n → Pv i H → Y i H x H' → g x (wipe σ vs) H' fun σ2 H2 => wipe σ2 vs = wipe σ vs ∧ tt σ2 H2 fun b H3 =>
      if b = true then tk σ2 H3 fun y H4 => tv σ2 H4 fun z H5 => ∃ kvs k, y = kV k ∧ H5 D = some (.dK kvs) ∧ kvs.length < sizeLine ∧ Pv (i + 1) (upd H5 D (.dK (putK kvs k z))) else Pv (i + 1) H3) (hd : ∀ H, Pv n H → Qd H) :
    ∃ W : Nat → Nat → Hp → Prop, (∃ m, W 0 m (upd H1 D (.dK []))) ∧ ∀ i m H, W i m H →
      (J.stop i H ∧ Qd H) ∨ (J.go i H ∧ ∃ Nx : Hp → Prop, (∀ H', Nx H' → ∃ m', m' < m ∧ W (i + 1) m' H') ∧ ∀ x H', J.yld i H x H' → g x (wipe σ vs) H' fun σ2 H2 => wipe σ2 vs = wipe σ vs ∧ tt σ2 H2 fun b H3 =>
        if b = true then tk σ2 H3 fun y H4 => tv σ2 H4 fun z H5 => ∃ kvs k, y = kV k ∧ H5 D = some (.dK kvs) ∧ kvs.length < sizeLine ∧ Nx (upd H5 D (.dK (putK kvs k z))) else Nx H3) := by
  refine ⟨fun i m H => m + i = n ∧ Pv i H, ⟨n, rfl, h0⟩, ?_⟩
  rintro i m H ⟨hm, p⟩
  have hi : i ≤ n := by omega
  have q := hG i H hi p
  by_cases hlt : i < n
  · exact .inr ⟨w.goes i H hlt q, Pv (i + 1), fun H' p' => ⟨m - 1, by omega, by omega, p'⟩, fun x H' y => hs i x H H' hlt p (w.yields i H x H' hlt q y)⟩
  · have e : i = n := by omega
    subst e
    exact .inl ⟨w.stops H q, hd H p⟩
theorem PartsT.monoN {d : Addr} {H H' : Hp} {a : Addr} {l : List (V × Int)} {o : HO} (e : ExB d H H') (hd : H d = some o) (no : ∀ xs, HO.tup xs ≠ o) (h : PartsT H a l) : PartsT H' a l := by
  obtain ⟨ps, h1, h2⟩ := h
  exact ⟨ps, e _ _ h1 (ne_of h1 hd (no _)), h2.1, fun i p v n a b => e _ _ (h2.2 i p v n a b) (ne_of (h2.2 i p v n a b) hd (no _))⟩
section
variable {P : Program} {w : World} {K : PySem.W.Frag} {mg : Str → Option Value} {base : Heap} {CC CT CR : Addr}
def spTextI (K : PySem.W.Frag) (CT : Addr) : Sp := fun vs H Q _ => ∃ (x dx d la lb q : Addr) (ps : List Addr) (ss : List Int) (R : Int), vs = [.ref x, .int 3, .ref d, .str "TOP"] ∧ H x = some (.ins CT dx []) ∧ H d = some (.dK (two la lb)) ∧
  H la = some (.lst (ps.map V.ref)) ∧ PartsIn H ps (loopP ss) ∧ H lb = some (.lst [.ref q]) ∧ PartsIn H [q] (topP R) ∧ ss.length ≤ 40 ∧ (∀ s ∈ ss, 0 ≤ s ∧ s ≤ 2) ∧ 1 ≤ R ∧ ∀ H', ExB x H H' → TextAt CT H' x ss R → Q .non H'
theorem ok_Text_init (T : Txt K mg CC CT CR) (D : Dk K mg "Text" CT "Text.__init__" s_Text_init ["self", "signs", "rules", "root"] []) (c_is_whole_common : C8.Cal P w K mg base 1 "is_whole_common" spWc []) (c_is_name : C8.Cal P w K mg base 1 "is_name" spName [])
    (c_is_rule : C8.Cal P w K mg base 3 "is_rule" (spRule K) []) (c_names_below : C8.Cal P w K mg base 1 "names_below" (spBelow K) []) (c_from_below : C8.Cal P w K mg base 1 "from_below" (spFrom K) []) (m_summed : C8.Met P w K mg base 2 CT "summed" (spSummed CT) []) :
    C8.Mak P w K mg base 4 "Text" CT (spTextI K CT) [] := by
  refine D.mak sc_Text_init (fun vs H Q E h => ?_) (fun f cdv A outer s H vs Q E hr h => ?_)
  · obtain ⟨x, dx, d, la, lb, q, ps, ss, R, rfl, _⟩ := h
    rfl
  obtain ⟨x, dx, d, la, lb, q, ps, ss, R, rfl, hx, hd, hla, hps, hlb, hqs, h40, h012, hR, qq⟩ := h
  refine ⟨_, (pss_cons
      (ps_if (pt_not (pt_val (C8.pe_c c_is_whole_common hr (by decide) (by rfl) (pa_cons (pv 1) (pa_cons pe_int (pa_cons (C8.pe_gc (by rfl) T.c_MOST_SIGNS_grown) pa_nil)))))) (pss_one
        ps_never) pss_nil)
      (pss_cons
      (ps_if (pt_not (pt_chain op_le op_le pe_int (pe_callB call_lenD (by rfl) T.f_len boot_len (pa_cons (pv 2) pa_nil)) (C8.pe_gc (by rfl) T.c_MOST_RULES))) (pss_one
        ps_never) pss_nil)
      (pss_cons
      (ps_lock (ps_for PassesOwn.never rfl (pi_keys (pv 2)) (pg_name (i := 4) sc_Text_init.nd rfl (Or.inl rfl)) (pss_one
        (ps_if (PW.pt (pw_or (pt_not (pt_val (C8.pe_c c_is_name hr (by decide) (by rfl) (pa_cons (pv 4) pa_nil)))) (pw_or1 (pt_not (pt_val (C8.pe_c c_is_rule hr (by decide) (by rfl) (pa_cons (pv 1) (pa_cons (pv 2) (pa_cons (pe_dget (hu_of hr) (pv 2) (pv 4) (fun _ _ => rfl)) pa_nil))))))))) (pss_one
          ps_never) pss_nil))))
      (pss_cons
      (ps_lock (ps_setDc (i := 5) (own := [("name", 4)]) (g := gName 4) (tt := tYes) rfl sc_Text_init.nd rfl rfl (sw_trueD rfl rfl rfl (by decide +kernel)) (pi_keys (pv 2)) (blkOk_by (own := [("name", 4)]) (N := ["self", "signs", "rules", "root", "name", "told", "part"]) (sc := C8.fnScope s_Text_init) (by decide +kernel)) (fun _ _ _ _ _ => (pg_name (i := 4) sc_Text_init.nd rfl (Or.inl rfl))) (fun _ _ _ _ _ => pts_nil) (fun _ _ _ _ _ => (pv 4)) (fun _ _ _ _ _ => (pe_callTy (call_tuple_ofK (K := K) rfl) (by rfl) T.f_tuple boot_tuple (pa_cons (pe_lc (own := [("part", 6)]) (g := gName 6) (tt := tYes) rfl sc_Text_init.nd (pi_listK (K := K) rfl (pe_dget (hu_of hr) (pv 2) (pv 4) (fun _ _ => rfl))) (blkOk_by (own := [("part", 6)]) (N := ["self", "signs", "rules", "root", "name", "told", "part"]) (sc := sc_dc) (by decide +kernel)) (fun _ _ _ _ _ => (pg_name (i := 6) sc_Text_init.nd rfl (Or.inl rfl))) (fun _ _ _ _ _ => pts_nil) (fun _ _ _ _ _ => (pe_callTy (call_tuple_ofK (K := K) rfl) (by rfl) T.f_tuple boot_tuple (pa_cons (pv 6) pa_nil)))) pa_nil)))))
      (pss_cons
      (ps_for PassesOwn.never rfl (pi_list (pe_callB (call_sortedD rfl) (by rfl) T.f_sorted boot_sorted (pa_cons (pv 5) pa_nil))) (pg_name (i := 4) sc_Text_init.nd rfl (Or.inl rfl)) (pss_one
        (ps_if (pt_cmp (pc_din (hu_of hr) (pv 4) (C8.pe_c c_names_below hr (by decide) (by rfl) (pa_cons (pv 5) (pa_cons (pv 4) pa_nil))))) (pss_one
          ps_never) pss_nil)))
      (pss_cons
      (ps_if (PW.pt (pw_or (pt_not (pt_val (pe_callB call_isi (by rfl) T.f_isinstance boot_isinstance (pa_cons (pv 3) (pa_cons (pe_bltn (v := .ty "str") (by rfl) T.f_str boot_str rfl) pa_nil))))) (pw_or1 (pt_cmp (pc_dnotin (hu_of hr) (pv 3) (pv 5)))))) (pss_one
        ps_never) pss_nil)
      (pss_cons
      (ps_fld (pv 0) (pv 1) rfl)
      (pss_cons
      (ps_fld (pv 0) (pv 3) rfl)
      (pss_cons
      (ps_fld (pv 0) (pv 5) rfl)
      (pss_cons
      (ps_fld (pv 0) pe_dnewK rfl)
      (pss_cons
      (ps_for PassesOwn.never rfl (pi_list (C8.pe_c c_from_below hr (by decide) (by rfl) (pa_cons (pv 5) pa_nil))) (pg_name (i := 4) sc_Text_init.nd rfl (Or.inl rfl)) (pss_one
        (ps_dput (hu_of hr) (pe_fld (pv 0) rfl) (pv 4) (C8.pe_mt m_summed hr (by decide) (pv 0) (pa_cons (pe_dget (hu_of hr) (pv 5) (pv 4) (fun _ _ => rfl)) pa_nil)) rfl)))
      (pss_one
      (ps_fld (pv 0) (pe_callB (cr_sum rfl) (by rfl) T.f_sum boot_sum (pa_cons (pe_dget (hu_of hr) (pe_fld (pv 0) rfl) (pv 3) (fun _ _ => rfl)) pa_nil)) rfl))))))))))))), ?_⟩
  refine ⟨_, rfl, .int 3, 2, 26, rfl, .inl ⟨3, rfl, by decide, by decide, true, rfl, ?_⟩⟩
  refine ⟨_, rfl, d, two la lb, rfl, hd, _, _, rfl, rfl, true, rfl, _, _, rfl, rfl, true, rfl, ?_⟩
  -- the names and their rules
  refine ⟨d, _, hd, trivial, fun od => ?_⟩
  have b0 : ExB d H (upd H d (.frz od (.dK (two la lb)))) := (ExB.of (Ex.refl H)).put
  have hd0 : (upd H d (.frz od (.dK (two la lb)))) d = some (.frz od (.dK (two la lb))) := upd_same
  generalize (upd H d (.frz od (.dK (two la lb)))) = H0 at b0 hd0
  refine ⟨_, rfl, d, od, rfl, .inl ⟨two la lb, hd0, ?_⟩⟩
  have len2 : (two la lb).length = 2 := rfl
  have e_of : ∀ {H1 : Hp}, ExB d H H1 → Ex H (upd H1 d (.dK (two la lb))) := fun {H1} b1 b o h => by
      by_cases hb : b = d
      · subst hb
        rw [upd_same, ← hd, h]
      · rw [upd_ne hb]
        exact b1 b o h hb
  have npd : ∀ {p : Addr} {o : HO}, H p = some o → (∀ kvs, o ≠ .dK kvs) → p ≠ d := fun hp hn => ne_of hp hd (hn _)
  -- a name of the rules
  have kn : ∀ {i : Nat} {k : Key} {v : V}, i < 2 → (two la lb)[i]? = some (k, v) → ∃ (nm : Str) (l : Addr) (qs : List Addr) (pl : List (V × Int)), k = .inr nm ∧ (nm = "LOOP" ∨ nm = "TOP") ∧ v = .ref l ∧ valV (two la lb) (.inr nm) = some (.ref l) ∧ H l = some (.lst (qs.map V.ref)) ∧ qs.length ≤ 40 ∧
      PartsIn H qs pl ∧ (∀ (j : Nat) (v : V) (n : Int), pl[j]? = some (v, n) → 1 ≤ n ∧ ((∃ s, v = .int s ∧ 0 ≤ s ∧ s ≤ 2) ∨ v = .str "LOOP")) ∧ (i = 0 → pl = loopP ss ∧ nm = "LOOP") ∧ (i = 1 → pl = topP R ∧ nm = "TOP") := by
    intro i k v hi hk
    have ci : i = 0 ∨ i = 1 := by omega
    rcases ci with rfl | rfl
    · have e1 : kL = k := congrArg Prod.fst (Option.some.inj hk)
      have e2 : V.ref la = v := congrArg Prod.snd (Option.some.inj hk)
      refine ⟨"LOOP", la, ps, loopP ss, e1.symm, .inl rfl, e2.symm, two_L la lb, hla, ?_, hps, fun j v n hj => ?_, fun _ => ⟨rfl, rfl⟩, fun h => absurd h (by decide)⟩
      · rw [hps.1]
        unfold loopP
        rw [List.length_map]
        exact h40
      · unfold loopP at hj
        rw [List.getElem?_map] at hj
        cases hs : ss[j]? with
        | none =>
          rw [hs] at hj
          cases hj
        | some s =>
          rw [hs] at hj
          have ev := (congrArg Prod.fst (Option.some.inj hj)).symm
          have en := (congrArg Prod.snd (Option.some.inj hj)).symm
          have en : n = 1 := en
          exact ⟨by omega, .inl ⟨s, ev, h012 s (List.mem_of_getElem? hs)⟩⟩
    · have e1 : kT = k := congrArg Prod.fst (Option.some.inj hk)
      have e2 : V.ref lb = v := congrArg Prod.snd (Option.some.inj hk)
      refine ⟨"TOP", lb, [q], topP R, e1.symm, .inr rfl, e2.symm, two_T la lb, hlb, by show 1 ≤ 40; decide, hqs, fun j v n hj => ?_, fun h => absurd h (by decide), fun _ => ⟨rfl, rfl⟩⟩
      have j0 : j = 0 := by
        have := (List.getElem?_eq_some_iff.mp hj).1
        have l1 : (topP R).length = 1 := rfl
        omega
      subst j0
      have ev := (congrArg Prod.fst (Option.some.inj hj)).symm
      have en := (congrArg Prod.snd (Option.some.inj hj)).symm
      have en : n = R := en
      exact ⟨by omega, .inr ev⟩
  refine for_it (walk_keys (d := d) (o := od) (kvs := two la lb)) (fun i σ H' => ∃ v4 : Option V, σ = [some (.ref x), some (.int 3), some (.ref d), some (.str "TOP"), v4, none, none] ∧ ExB d H H' ∧ H' d = some (.frz od (.dK (two la lb))))
    ⟨none, rfl, b0, hd0⟩ (fun i σ H' _ ⟨_, _, _, h⟩ => h) ?_ ?_
  · rintro i y σ H1 H2 hi ⟨v4, rfl, b1, hd1⟩ ⟨rfl, k, v, hkv, rfl⟩
    obtain ⟨nm, l, qs, pl, rfl, hn, rfl, hv, hl, hq40, hpi, hpl, _⟩ := kn hi hkv
    have gn : goodName nm := by
      rcases hn with rfl | rfl
      · exact good_L
      · exact good_T
    refine ⟨_, rfl, nm, rfl, gn, fun H3 e3 => ?_⟩
    have b3 := b1.ex e3
    have hd3 := e3 _ _ hd1
    refine ⟨true, rfl, ?_⟩
    have hlp : PartsIn H3 qs pl := ⟨hpi.1, fun j p v n hj hv => by
      have := hpi.2 j p v n hj hv
      exact b3 _ _ this (npd this (fun _ h => by cases h))⟩
    refine ⟨_, rfl, _, rfl, _, rfl, _, rfl, d, .ref l, rfl, .inl ⟨two la lb, .inr nm, .inr ⟨od, hd3⟩, rfl, hv.symm⟩, d, l, qs, rfl, b3 _ _ hl (npd hl (fun _ h => by cases h)), hq40, fun p hp => ?_, fun H4 e4 => ⟨true, rfl, ?_⟩⟩
    · obtain ⟨j, hj, ej⟩ := List.getElem_of_mem hp
      have hj2 : j < pl.length := by rw [← hpi.1]; exact hj
      have hv := hpl j pl[j].1 pl[j].2 (List.getElem?_eq_getElem hj2)
      refine ⟨_, _, hlp.2 j p pl[j].1 pl[j].2 (by rw [← ej]; exact List.getElem?_eq_getElem hj) (List.getElem?_eq_getElem hj2), hv.1, ?_⟩
      rcases hv.2 with h | h
      · exact .inl h
      · refine .inr ⟨"LOOP", two la lb, h, .inr ⟨od, hd3⟩, ?_⟩
        rw [two_L]
        rfl
    · skip
      exact ⟨_, rfl, b3.ex e4, e4 _ _ hd3⟩
  rintro σ H1 ⟨v4, rfl, b1, hd1⟩
  refine ⟨hd1, ?_⟩
  have e1 := e_of b1
  generalize (upd H1 d (.dK (two la lb))) = H2 at e1
  -- the rules as tuples
  have hd2 := e1 _ _ hd
  refine ⟨d, _, hd2, trivial, fun od2 => ?_⟩
  have b2 : ExB d H (upd H2 d (.frz od2 (.dK (two la lb)))) := (ExB.of e1).put
  have hd3 : (upd H2 d (.frz od2 (.dK (two la lb)))) d = some (.frz od2 (.dK (two la lb))) := upd_same
  generalize (upd H2 d (.frz od2 (.dK (two la lb)))) = H3 at b2 hd3
  clear hd2 e1 hd1 b1 hd0 b0
  refine ⟨_, rfl, d, od2, rfl, .inl ⟨two la lb, hd3, fun dt ndt => ?_⟩⟩
  have ndd : d ≠ dt := ne_of_none hd3 ndt
  have nHdt : H dt = none := by
    cases hz : H dt with
    | none => rfl
    | some o =>
      have := b2 dt o hz ndd.symm
      rw [ndt] at this
      cases this
  refine dc_it (walk_keys (d := d) (o := od2) (kvs := two la lb)) (fun i H' => ExB d H H' ∧ H' d = some (.frz od2 (.dK (two la lb))) ∧ ∃ kvs, H' dt = some (.dK kvs) ∧ (i = 0 → kvs = []) ∧ (i = 1 → ∃ tl, kvs = [(kL, .ref tl)] ∧ PartsT H' tl (loopP ss)) ∧
    (i = 2 → ∃ tl tt, kvs = two tl tt ∧ RulesC H' tl tt ss R)) ⟨b2.ex (Ex.new ndt), by rw [upd_ne ndd]; exact hd3, [], upd_same, fun _ => rfl, fun h => absurd h (by decide), fun h => absurd h (by decide)⟩ (fun i H' _ ⟨_, h, _⟩ => h) ?_ ?_
  · rintro i y H5 H4 hi ⟨b4, hd4, kvs, hkk, k0, k1, _⟩ ⟨rfl, k, v, hkv, rfl⟩
    obtain ⟨nm, l, qs, pl, rfl, hn, rfl, hv, hl, hq40, hpi, hpl, j0, j1⟩ := kn hi hkv
    have hl4 := b4 _ _ hl (npd hl (fun _ h => by cases h))
    refine ⟨rfl, _, rfl, _, rfl, _, rfl, d, .ref l, rfl, .inl ⟨two la lb, .inr nm, .inr ⟨od2, hd4⟩, rfl, hv.symm⟩, l, rfl, ⟨_, sqL hl4⟩, fun Dl hDl => lc_ev (walk_list (xs := qs.map V.ref)) hDl (fun H' e => sqL (e _ _ hl4)) (fun i => (qs.take i).map V.ref) rfl (fun i hi => ?_) ?_ (fun H6 e6 hL => ?_)⟩
    · rw [List.length_map, List.length_take]
      omega
    · rintro j y H6 H7 hj e6 ⟨rfl, hy⟩
      obtain ⟨p, hp, rfl⟩ := get_ref hy
      have hj2 : j < pl.length := by
        rw [← hpi.1]
        exact (List.getElem?_eq_some_iff.mp hp).1
      have hpH := hpi.2 j p pl[j].1 pl[j].2 hp (List.getElem?_eq_getElem hj2)
      have hp7 := e6 _ _ (b4 _ _ hpH (npd hpH (fun _ h => by cases h)))
      refine ⟨Ex.refl _, _, true, fun Qs q => q, rfl, fun H8 e8 Q q => q H8 (Ex.refl H8), fun _ => ⟨.ref p, ?_, ?_⟩, fun h => by cases h⟩
      · intro H8 e8 Q' q'
        exact ⟨_, rfl, p, _, rfl, .inr ⟨sqT (e8 _ _ hp7), q' H8 (Ex.refl H8)⟩⟩
      · rw [take_snoc hp, List.map_append]
        rfl
    refine ⟨Dl, _, rfl, .inl ⟨sqL hL, fun t nt => ?_⟩⟩
    have bt : ExB d H (upd H6 t (.tup ((qs.take (qs.map V.ref).length).map V.ref))) := (b4.ex e6).ex (Ex.new nt)
    have eqs : (qs.take (qs.map V.ref).length).map V.ref = qs.map V.ref := by rw [List.take_of_length_le (by rw [List.length_map]; exact Nat.le_refl _)]
    rw [eqs] at bt ⊢
    have hd6 := e6 _ _ hd4
    have ntd : d ≠ t := ne_of_none hd6 nt
    have hk6 := e6 _ _ hkk
    have ntt : dt ≠ t := ne_of_none hk6 nt
    have hk7 : (upd H6 t (.tup (qs.map V.ref))) dt = some (.dK kvs) := by rw [upd_ne ntt]; exact hk6
    have ht7 : (upd H6 t (.tup (qs.map V.ref))) t = some (.tup (qs.map V.ref)) := upd_same
    have hd7 : (upd H6 t (.tup (qs.map V.ref))) d = some (.frz od2 (.dK (two la lb))) := by rw [upd_ne ntd]; exact hd6
    have e7 : Ex H4 (upd H6 t (.tup (qs.map V.ref))) := e6.of_new nt
    generalize (upd H6 t (.tup (qs.map V.ref))) = H7 at bt hk7 ht7 hd7 e7
    have PT : PartsT H7 t pl := ⟨qs, ht7, hpi.1, fun j p v n hp hv => by
      have hpH := hpi.2 j p v n hp hv
      exact bt _ _ hpH (npd hpH (fun _ h => by cases h))⟩
    have bd : ∀ o, ExB dt H7 (upd H7 dt (.dK o)) := fun o => (ExB.of (Ex.refl H7)).put
    have bd2 : ∀ o, ExB d H (upd H7 dt (.dK o)) := fun o b u hb nb => by
      rw [upd_ne (ne_of_none hb nHdt)]
      exact bt b u hb nb
    have ci : i = 0 ∨ i = 1 := by omega
    rcases ci with rfl | rfl
    · obtain ⟨rfl, rfl⟩ := j0 rfl
      obtain rfl := k0 rfl
      exact ⟨[], kL, rfl, hk7, by decide, bd2 _, by rw [upd_ne ndd]; exact hd7, _, upd_same, fun h => absurd h (by decide), fun _ => ⟨t, rfl, PT.monoN (bd _) hk7 (fun _ e => by cases e)⟩, fun h => absurd h (by decide)⟩
    · obtain ⟨rfl, rfl⟩ := j1 rfl
      obtain ⟨tl, rfl, hPL⟩ := k1 rfl
      refine ⟨_, kT, rfl, hk7, by show 1 < sizeLine; decide, bd2 _, by rw [upd_ne ndd]; exact hd7, _, upd_same, fun h => absurd h (by decide), fun h => absurd h (by decide), fun _ => ⟨tl, t, ?_, (hPL.mono e7).monoN (bd _) hk7 (fun _ e => by cases e), PT.monoN (bd _) hk7 (fun _ e => by cases e)⟩⟩
      rw [putK_new _ (valV_neg (fun e => lt_ne (Sum.inr.inj e)))]
      rfl
  rintro H4 ⟨b4, hd4, kvs, hdt, _, _, k2⟩
  obtain ⟨tl, tt, rfl, hRC⟩ := k2 rfl
  refine ⟨hd4, ?_⟩
  have e5 := e_of b4
  have bb : ExB d H4 (upd H4 d (.dK (two la lb))) := (ExB.of (Ex.refl H4)).put
  have hdt5 : (upd H4 d (.dK (two la lb))) dt = some (.dK (two tl tt)) := by rw [upd_ne ndd.symm]; exact hdt
  have hRC5 : RulesC (upd H4 d (.dK (two la lb))) tl tt ss R := ⟨hRC.loop.monoN bb hd4 (fun _ e => by cases e), hRC.top.monoN bb hd4 (fun _ e => by cases e)⟩
  generalize (upd H4 d (.dK (two la lb))) = H5 at e5 hdt5 hRC5
  clear hRC hdt hd4 b4 hd3 b2
  -- no ring
  refine ⟨_, rfl, dt, two tl tt, ["LOOP", "TOP"], rfl, .inl hdt5, rfl, by decide, fun ys p hperm hsort np => ?_⟩
  have e6 : Ex H5 (upd H5 p (.lst (ys.map V.str))) := Ex.new np
  have hp6 : (upd H5 p (.lst (ys.map V.str))) p = some (.lst (ys.map V.str)) := upd_same
  generalize (upd H5 p (.lst (ys.map V.str))) = H6 at e6 hp6
  refine ⟨p, rfl, ⟨_, sqL hp6⟩, ?_⟩
  refine for_list (K := K) (a := p) (xs := ys.map V.str) (fun i σ H' => ∃ v4 : Option V, σ = [some (.ref x), some (.int 3), some (.ref d), some (.str "TOP"), v4, some (.ref dt), none] ∧ Ex H6 H') ⟨_, rfl, Ex.refl _⟩ (fun i σ H' _ ⟨_, _, e⟩ => sqL (e _ _ hp6)) ?_ ?_
  · rintro i y σ H7 hi ⟨v4, rfl, e7⟩
    rw [List.getElem?_map] at hi
    cases hy : ys[i]? with
    | none =>
      rw [hy] at hi
      cases hi
    | some nm =>
      rw [hy] at hi
      obtain rfl : V.str nm = y := Option.some.inj hi
      have hm : nm ∈ (["LOOP", "TOP"] : List Str) := hperm.mem_iff.mp (List.mem_of_getElem? hy)
      have hn : nm = "LOOP" ∨ nm = "TOP" := by
        rcases List.mem_cons.mp hm with h | h
        · exact .inl h
        · exact .inr (List.mem_singleton.mp h)
      have e57 := e6.trans e7
      refine ⟨_, rfl, _, rfl, _, rfl, dt, tl, tt, ss, R, nm, rfl, .inl (e57 _ _ hdt5), hRC5.mono e57, hn, fun f kvs H8 e8 hf hv => ?_⟩
      refine ⟨f, valV kvs (.inr nm), rfl, .inl ⟨kvs, .inr nm, .inl hf, rfl, rfl⟩, ?_⟩
      rw [hv]
      exact ⟨false, rfl, _, rfl, e7.trans e8⟩
  rintro σ H7 ⟨v4, rfl, e7⟩
  have e57 := e6.trans e7
  have hdt7 := e57 _ _ hdt5
  have hRC7 := hRC5.mono e57
  have e07 := e5.trans e57
  clear e6 hp6 e7 e57 hdt5 hRC5 e5
  refine ⟨_, rfl, _, _, _, _, true, rfl, .ty "str", .base (.str _), kit_str_str, true, rfl, ?_⟩
  refine ⟨_, rfl, _, rfl, dt, some (.ref tt), rfl, .inl ⟨two tl tt, kT, .inl hdt7, rfl, (two_T tl tt).symm⟩, false, rfl, ?_⟩
  -- the fields
  have hx7 := e07 _ _ hx
  have nxdt : dt ≠ x := ne_of hdt7 hx7 (by intro e; cases e)
  refine ⟨_, rfl, _, rfl, x, CT, dx, [], rfl, hx7, T.clT, T.nT_signs, by show 0 < 1000; decide, ?_⟩
  refine ⟨_, rfl, _, rfl, x, CT, dx, _, rfl, upd_same, T.clT, T.nT_root, by show 1 < 1000; decide, ?_⟩
  refine ⟨_, rfl, _, rfl, x, CT, dx, _, rfl, upd_same, T.clT, T.nT_own_rules, by show 2 < 1000; decide, ?_⟩
  rw [upd_upd, upd_upd]
  have b8 : ExB x H (upd H7 x (.ins CT dx (putF "own_rules" (.ref dt) (putF "root" (.str "TOP") (putF "signs" (.int 3) []))))) := (ExB.of e07).put
  have hx8 : (upd H7 x (.ins CT dx (putF "own_rules" (.ref dt) (putF "root" (.str "TOP") (putF "signs" (.int 3) []))))) x = some (.ins CT dx (putF "own_rules" (.ref dt) (putF "root" (.str "TOP") (putF "signs" (.int 3) [])))) := upd_same
  have bx : ExB x H7 (upd H7 x (.ins CT dx (putF "own_rules" (.ref dt) (putF "root" (.str "TOP") (putF "signs" (.int 3) []))))) := (ExB.of (Ex.refl _)).put
  have hdt8 := bx _ _ hdt7 nxdt
  have hRC8 : RulesC (upd H7 x (.ins CT dx (putF "own_rules" (.ref dt) (putF "root" (.str "TOP") (putF "signs" (.int 3) []))))) tl tt ss R := ⟨hRC7.loop.monoN bx hx7 (fun _ e => by cases e), hRC7.top.monoN bx hx7 (fun _ e => by cases e)⟩
  generalize (upd H7 x (.ins CT dx (putF "own_rules" (.ref dt) (putF "root" (.str "TOP") (putF "signs" (.int 3) []))))) = H8 at b8 hx8 hdt8 hRC8
  clear bx hdt7 hRC7 e07 hx7
  refine fun dc ndc => ?_
  have nxdc : x ≠ dc := ne_of_none hx8 ndc
  refine ⟨_, rfl, x, CT, dx, _, rfl, by rw [upd_ne nxdc]; exact hx8, T.clT, T.nT_own_counts, by show 3 < 1000; decide, ?_⟩
  have b9 : ExB x H (upd (upd H8 dc (.dK [])) x (.ins CT dx (tf4 dt dc))) := (b8.ex (Ex.new ndc)).put
  have hx9 : (upd (upd H8 dc (.dK [])) x (.ins CT dx (tf4 dt dc))) x = some (.ins CT dx (tf4 dt dc)) := upd_same
  have hc9 : (upd (upd H8 dc (.dK [])) x (.ins CT dx (tf4 dt dc))) dc = some (.dK []) := by rw [upd_ne nxdc.symm, upd_same]
  have bx : ExB x H8 (upd (upd H8 dc (.dK [])) x (.ins CT dx (tf4 dt dc))) := (ExB.of (Ex.new ndc)).put
  have hdt9 := bx _ _ hdt8 nxdt
  have hRC9 : RulesC (upd (upd H8 dc (.dK [])) x (.ins CT dx (tf4 dt dc))) tl tt ss R := ⟨hRC8.loop.monoN bx hx8 (fun _ e => by cases e), hRC8.top.monoN bx hx8 (fun _ e => by cases e)⟩
  show tSeq _ _ _ _ (upd (upd H8 dc (.dK [])) x (.ins CT dx (tf4 dt dc)))
  generalize (upd (upd H8 dc (.dK [])) x (.ins CT dx (tf4 dt dc))) = H9 at b9 hx9 hc9 hdt9 hRC9
  have ndtdc : dt ≠ dc := ne_of_none hdt8 ndc
  have nHdc : H dc = none := by
    cases hz : H dc with
    | none => rfl
    | some o =>
      have := b8 dc o hz nxdc.symm
      rw [ndc] at this
      cases this
  clear bx hdt8 hRC8 b8 hx8
  refine ⟨_, rfl, dt, tl, tt, ss, R, rfl, hdt9, hRC9, fun l H10 e10 hl => ?_⟩
  have hx10 := e10 _ _ hx9
  have hc10 := e10 _ _ hc9
  have hdt10 := e10 _ _ hdt9
  have hRC10 := hRC9.mono e10
  have b10 := b9.ex e10
  clear hx9 hc9 hdt9 hRC9 b9 e10
  refine ⟨l, rfl, ⟨_, sqL hl⟩, ?_⟩
  have nldc : l ≠ dc := ne_of hl hc10 (by intro e; cases e)
  refine for_list (K := K) (a := l) (xs := [.str "LOOP", .str "TOP"]) (fun i σ H' => ∃ v4 : Option V, σ = [some (.ref x), some (.int 3), some (.ref d), some (.str "TOP"), v4, some (.ref dt), none] ∧ ExB dc H10 H' ∧ ∃ kvs, H' dc = some (.dK kvs) ∧ (i = 0 → kvs = []) ∧
    (i = 1 → ∃ l1, kvs = [(kL, .ref l1)] ∧ H' l1 = some (.lst ((cntL ss).map V.int))) ∧ (i = 2 → ∃ l1 l2, kvs = two l1 l2 ∧ H' l1 = some (.lst ((cntL ss).map V.int)) ∧ H' l2 = some (.lst ((cntT ss R).map V.int))))
    ⟨_, rfl, ExB.of (Ex.refl _), [], hc10, fun _ => rfl, fun h => absurd h (by decide), fun h => absurd h (by decide)⟩ (fun i σ H' _ ⟨_, _, b, _⟩ => sqL (b _ _ hl nldc)) ?_ ?_
  · rintro i y σ H11 hi ⟨v4, rfl, b11, kvs, hk, k0, k1, _⟩
    have hlt := (List.getElem?_eq_some_iff.mp hi).1
    have ci : i = 0 ∨ i = 1 := by
      have : ([V.str "LOOP", V.str "TOP"] : List V).length = 2 := rfl
      omega
    have hx11 := b11 _ _ hx10 nxdc
    have hdt11 := b11 _ _ hdt10 ndtdc
    have hRC11 : RulesC H11 tl tt ss R := ⟨hRC10.loop.monoN b11 hc10 (fun _ e => by cases e), hRC10.top.monoN b11 hc10 (fun _ e => by cases e)⟩
    rcases ci with rfl | rfl
    · obtain rfl := k0 rfl
      obtain rfl : V.str "LOOP" = y := Option.some.inj hi
      refine ⟨_, rfl, x, dx, _, rfl, hx11, tf4_none _ _ (by decide +kernel), _, rfl, _, rfl, dt, .ref tl, rfl, .inl ⟨two tl tt, kL, .inl hdt11, rfl, (two_L tl tt).symm⟩, x, dc, tl, loopP ss, ss.map fun s => (1, ind s), rfl, TL.of4 hx11, hRC11.loop, ?_, ?_, fun a H12 e12 ha => ?_⟩
      · unfold loopP
        rw [List.length_map, List.length_map]
      · intro i v n p hi hp
        unfold loopP at hi
        rw [List.getElem?_map] at hi hp
        cases hs : ss[i]? with
        | none =>
          rw [hs] at hi
          cases hi
        | some s =>
          rw [hs] at hi hp
          cases hi
          cases hp
          exact ⟨rfl, ⟨rfl, .inl ⟨s, rfl, rfl⟩⟩, fun c hc => by have := ind_01 hc; omega⟩
      · have hk12 := e12 _ _ hk
        have hka : a ≠ dc := ne_of ha hk12 (by intro e; cases e)
        refine ⟨_, rfl, x, CT, dx, _, _, rfl, e12 _ _ hx11, T.clT, T.nT_own_counts, tf4_own_counts _ _, _, rfl, dc, _, rfl, DPut.k (k := kL) hk12 (sz_lt (by decide)), ?_⟩
        exact ⟨_, rfl, (b11.ex e12).put, _, upd_same, fun h => absurd h (by decide), fun _ => ⟨a, rfl, by rw [upd_ne hka]; exact ha⟩, fun h => absurd h (by decide)⟩
    · obtain ⟨l1, rfl, hl1⟩ := k1 rfl
      obtain rfl : V.str "TOP" = y := Option.some.inj hi
      refine ⟨_, rfl, x, dx, _, rfl, hx11, tf4_none _ _ (by decide +kernel), _, rfl, _, rfl, dt, .ref tt, rfl, .inl ⟨two tl tt, kT, .inl hdt11, rfl, (two_T tl tt).symm⟩, x, dc, tt, topP R, [(R, cntL ss)], rfl, TL.of4 hx11, hRC11.top, rfl, ?_, fun a H12 e12 ha => ?_⟩
      · intro i v n p hi hp
        have i0 : i = 0 := by
          have := (List.getElem?_eq_some_iff.mp hi).1
          have l1 : (topP R).length = 1 := rfl
          omega
        subst i0
        cases hi
        cases hp
        exact ⟨rfl, ⟨cntL_len ss, .inr ⟨"LOOP", _, l1, rfl, hk, valV_pos rfl, hl1⟩⟩, fun c hc => by have := cnt_le c hc; omega⟩
      · have hk12 := e12 _ _ hk
        have hka : a ≠ dc := ne_of ha hk12 (by intro e; cases e)
        have hkl : l1 ≠ dc := ne_of hl1 hk (by intro e; cases e)
        refine ⟨_, rfl, x, CT, dx, _, _, rfl, e12 _ _ hx11, T.clT, T.nT_own_counts, tf4_own_counts _ _, _, rfl, dc, _, rfl, DPut.k (k := kT) hk12 (sz_lt (by show 1 < 100000; decide)), ?_⟩
        refine ⟨_, rfl, (b11.ex e12).put, _, upd_same, fun h => absurd h (by decide), fun h => absurd h (by decide), fun _ => ⟨l1, a, ?_, by rw [upd_ne hkl]; exact e12 _ _ hl1, by rw [upd_ne hka]; exact ha⟩⟩
        rw [putK_new _ (valV_neg (fun e => lt_ne (Sum.inr.inj e)))]
        rfl
  rintro σ H11 ⟨v4, rfl, b11, kvs, hk, _, _, k2⟩
  obtain ⟨l1, l2, rfl, hl1, hl2⟩ := k2 rfl
  have hx11 := b11 _ _ hx10 nxdc
  refine ⟨_, rfl, x, CT, dx, _, _, rfl, hx11, T.clT, T.nT_own_counts, tf4_own_counts _ _, _, rfl, dc, _, rfl, .inl ⟨two l1 l2, kT, .inl hk, rfl, (two_T l1 l2).symm⟩, l2, _, rfl, sqL hl2, ?_⟩
  refine ⟨_, rfl, x, CT, dx, _, rfl, hx11, T.clT, T.nT_size, by show 4 < 1000; decide, ?_⟩
  have hdt11 := b11 _ _ hdt10 ndtdc
  have hRC11 : RulesC H11 tl tt ss R := ⟨hRC10.loop.monoN b11 hc10 (fun _ e => by cases e), hRC10.top.monoN b11 hc10 (fun _ e => by cases e)⟩
  have bf : ExB x H11 (upd H11 x (.ins CT dx (tf dt dc (cntT ss R).sum))) := (ExB.of (Ex.refl _)).put
  have bh : ExB x H H11 := fun b o hb nb => b11 _ _ (b10 _ _ hb nb) (ne_of_none hb nHdc)
  refine qq _ bh.put ⟨⟨dx, dt, dc, tl, tt, l1, l2, upd_same, bf _ _ hdt11 (ne_of hdt11 hx11 (by intro e; cases e)), ⟨hRC11.loop.monoN bf hx11 (fun _ e => by cases e), hRC11.top.monoN bf hx11 (fun _ e => by cases e)⟩, bf _ _ hk nxdc.symm, bf _ _ hl1 (ne_of hl1 hx11 (by intro e; cases e)), bf _ _ hl2 (ne_of hl2 hx11 (by intro e; cases e))⟩⟩
end
end LJ

set_option maxHeartbeats 4000000
namespace LJ
open PySem PySem.Spec PyProof.Rows L2 Evl
def bitM (n : Nat) (s : Nat) : Int := Builtin.bitAnd ((n : Int) / 2 ^ s) 1
def signsM (n : Nat) : List Int := ((List.range 3).filter fun s => bitM n s != 0).map fun (s : Nat) => (s : Int)
/-- the bunches of level k after n numbers -/
def bunM (h : Int) (n k : Nat) : List (List Int) := ((List.range n).filter fun (j : Nat) => decide (levelM h (signsM (j + 1)) = .int (k : Int))).map fun (j : Nat) => signsM (j + 1)
/-- the bunches by level in the heap -/
theorem bunM_len {h : Int} {n k : Nat} {l : List Int} (m : l ∈ bunM h n k) : l.length ≤ 3 := by
  unfold bunM at m
  obtain ⟨j, _, rfl⟩ := List.mem_map.mp m
  unfold signsM
  rw [List.length_map]
  have := List.length_filter_le (fun s => bitM (j + 1) s != 0) (List.range 3)
  rw [List.length_range] at this
  exact this
theorem bunM_many {h : Int} {n k : Nat} : (bunM h n k).length ≤ n := by
  unfold bunM
  rw [List.length_map]
  have := List.length_filter_le (fun j : Nat => decide (levelM h (signsM (j + 1)) = .int (k : Int))) (List.range n)
  rw [List.length_range] at this
  exact this
theorem flat_le {α β : Type} {c : Nat} {f : α → List β} : ∀ {l : List α}, (∀ x ∈ l, (f x).length ≤ c) → (l.flatMap f).length ≤ l.length * c
  | [], _ => Nat.zero_le _
  | x :: l, h => by
    rw [List.flatMap_cons, List.length_append, List.length_cons, Nat.succ_mul]
    have := h x List.mem_cons_self
    have := flat_le (l := l) fun y hy => h y (List.mem_cons_of_mem _ hy)
    omega
structure BunX (N : Nat) (B H : Hp) (bd : Addr) (L : Nat → List (List Int)) (kvs : List (Key × V)) (la : Nat → Addr) (rs : Nat → List Addr) : Prop where
  hb : H bd = some (.dK kvs)
  hl : kvs.length ≤ N
  h3 : ∀ k : Nat, k < 4 → (valV kvs (.inl (k : Int)) = none ∧ rs k = []) ∨ (valV kvs (.inl (k : Int)) = some (.ref (la k)) ∧ H (la k) = some (.lst ((rs k).map V.ref)))
  h4 : ∀ i j : Nat, i < 4 → j < 4 → valV kvs (.inl (i : Int)) = some (.ref (la i)) → valV kvs (.inl (j : Int)) = some (.ref (la j)) → la i = la j → i = j
  h5 : ∀ k : Nat, k < 4 → (rs k).length = (L k).length ∧ ∀ (j : Nat) (r : Addr) (ss : List Int), (rs k)[j]? = some r → (L k)[j]? = some ss → H r = some (.lst (ss.map V.int)) ∧ ss ≠ []
  h6 : ∀ k : Nat, k < 4 → valV kvs (.inl (k : Int)) = some (.ref (la k)) → B (la k) = none
theorem BunX.mono {N : Nat} {B H H' : Hp} {bd : Addr} {L : Nat → List (List Int)} {kvs : List (Key × V)} {la : Nat → Addr} {rs : Nat → List Addr} (e : Ex H H') (h : BunX N B H bd L kvs la rs) : BunX N B H' bd L kvs la rs := by
  obtain ⟨h1, h2, h3, h4, h5, h6⟩ := h
  refine ⟨e _ _ h1, h2, fun k hk => ?_, h4, fun k hk => ⟨(h5 k hk).1, fun j r ss a b => ?_⟩, h6⟩
  · rcases h3 k hk with x | ⟨x, y⟩
    · exact .inl x
    · exact .inr ⟨x, e _ _ y⟩
  · exact ⟨e _ _ ((h5 k hk).2 j r ss a b).1, ((h5 k hk).2 j r ss a b).2⟩
def Bun (N : Nat) (B H : Hp) (bd : Addr) (L : Nat → List (List Int)) : Prop := ∃ kvs la rs, BunX N B H bd L kvs la rs
theorem Bun.mono {N : Nat} {B H H' : Hp} {bd : Addr} {L : Nat → List (List Int)} (e : Ex H H') (h : Bun N B H bd L) : Bun N B H' bd L := by
  obtain ⟨kvs, la, rs, h⟩ := h
  exact ⟨kvs, la, rs, h.mono e⟩
theorem levelM_is (h : Int) (ss : List Int) : levelM h ss = .non ∨ ∃ k : Nat, k < 3 ∧ levelM h ss = .int (k : Int) := by
  have key : ∀ k : Nat, lvAt h ss k = none ∨ lvAt h ss k = some .non ∨ lvAt h ss k = some (.int (k : Int)) := by
    intro k
    unfold lvAt
    by_cases c : widthM h ss = 1 * 2 ^ (2 - (k : Int)).toNat
    · rw [if_pos c]
      by_cases c2 : (ss.all fun s => decide ((k : Int) ≤ li h s)) = true
      · rw [if_pos c2]
        exact .inr (.inr rfl)
      · rw [if_neg c2]
        exact .inr (.inl rfl)
    · rw [if_neg c]
      exact .inl rfl
  unfold levelM
  rcases key 0 with e | e | e <;> rw [e]
  · rcases key 1 with e | e | e <;> rw [e]
    · rcases key 2 with e | e | e <;> rw [e]
      · exact .inl rfl
      · exact .inl rfl
      · exact .inr ⟨2, by decide, rfl⟩
    · exact .inl rfl
    · exact .inr ⟨1, by decide, rfl⟩
  · exact .inl rfl
  · exact .inr ⟨0, by decide, rfl⟩
theorem signsM_3 {n : Nat} : ∀ s ∈ signsM n, s = 0 ∨ s = 1 ∨ s = 2 := by
  intro s hs
  unfold signsM at hs
  obtain ⟨t, ht, rfl⟩ := List.mem_map.mp hs
  have := List.mem_range.mp (List.mem_filter.mp ht).1
  omega
theorem signsM_len {n : Nat} : (signsM n).length ≤ 3 := by
  unfold signsM
  rw [List.length_map]
  have := List.length_filter_le (fun s => bitM n s != 0) (List.range 3)
  rw [List.length_range] at this
  exact this
theorem signsM_ne {i : Nat} (h : i < 7) : signsM (i + 1) ≠ [] := by
  have : i = 0 ∨ i = 1 ∨ i = 2 ∨ i = 3 ∨ i = 4 ∨ i = 5 ∨ i = 6 := by omega
  rcases this with rfl | rfl | rfl | rfl | rfl | rfl | rfl <;> decide +kernel
/-- one bunch more: at a level that is there -/
theorem BunX.more {N : Nat} {B H : Hp} {bd S : Addr} {L L' : Nat → List (List Int)} {kvs : List (Key × V)} {la : Nat → Addr} {rs : Nat → List Addr} {k : Nat} {ss : List Int} (hk : k < 4) (hB : BunX N B H bd L kvs la rs)
    (hv : valV kvs (.inl (k : Int)) = some (.ref (la k))) (hS : H S = some (.lst (ss.map V.int))) (hs : ss ≠ [])
    (eL : ∀ i, L' i = L i ++ (if i = k then [ss] else [])) : Bun N B (upd H (la k) (.lst ((rs k).map V.ref ++ [.ref S]))) bd L' := by
  obtain ⟨hb, hl, h3, h4, h5, h6⟩ := hB
  have hlk : H (la k) = some (.lst ((rs k).map V.ref)) := by
    rcases h3 k hk with ⟨x, _⟩ | ⟨_, y⟩
    · rw [hv] at x
      cases x
    · exact y
  have nbl : bd ≠ la k := ne_of hb hlk (by intro e; cases e)
  have nr : ∀ {r : Addr} {zs : List Int}, H r = some (.lst (zs.map V.int)) → zs ≠ [] → r ≠ la k := fun {r zs} hr hz => ne_of hr hlk (by
    intro e
    cases zs with
    | nil => exact hz rfl
    | cons z zs =>
      cases hrs : rs k with
      | nil =>
        rw [hrs] at e
        cases e
      | cons r rs =>
        rw [hrs] at e
        cases e)
  refine ⟨kvs, la, fun i => if i = k then rs k ++ [S] else rs i, by rw [upd_ne nbl]; exact hb, hl, fun i hi => ?_, h4, fun i hi => ?_, h6⟩
  · by_cases e : i = k
    · subst e
      refine .inr ⟨hv, ?_⟩
      rw [upd_same, if_pos rfl, List.map_append]
      rfl
    · rw [if_neg e]
      rcases h3 i hi with x | ⟨x, y⟩
      · exact .inl x
      · exact .inr ⟨x, by rw [upd_ne (fun z => e (h4 i k hi hk x hv z))]; exact y⟩
  · rw [eL]
    by_cases e : i = k
    · subst e
      rw [if_pos rfl, if_pos rfl]
      refine ⟨by rw [List.length_append, List.length_append, (h5 i hi).1]; rfl, fun j r zs a b => ?_⟩
      by_cases hj : j < (rs i).length
      · rw [List.getElem?_append_left hj] at a
        rw [List.getElem?_append_left (by rw [← (h5 i hi).1]; exact hj)] at b
        have z := (h5 i hi).2 j r zs a b
        exact ⟨by rw [upd_ne (nr z.1 z.2)]; exact z.1, z.2⟩
      · rw [List.getElem?_append_right (by omega)] at a
        rw [List.getElem?_append_right (by rw [← (h5 i hi).1]; omega)] at b
        have lt := (List.getElem?_eq_some_iff.mp a).1
        have l1 : [S].length = 1 := rfl
        have j0 : j - (rs i).length = 0 := by omega
        rw [j0] at a
        rw [← (h5 i hi).1, j0] at b
        cases a
        cases b
        exact ⟨by rw [upd_ne (nr hS hs)]; exact hS, hs⟩
    · rw [if_neg e, if_neg e, List.append_nil]
      refine ⟨(h5 i hi).1, fun j r zs a b => ?_⟩
      have z := (h5 i hi).2 j r zs a b
      exact ⟨by rw [upd_ne (nr z.1 z.2)]; exact z.1, z.2⟩
theorem Bun.wide {N M : Nat} {B H : Hp} {bd : Addr} {L : Nat → List (List Int)} (h : Bun N B H bd L) (hn : N ≤ M) : Bun M B H bd L := by
  obtain ⟨kvs, la, rs, h1, h2, h3, h4, h5, h6⟩ := h
  exact ⟨kvs, la, rs, h1, Nat.le_trans h2 hn, h3, h4, h5, h6⟩
/-- .. at a level that is new -/
theorem BunX.add {N : Nat} {B H : Hp} {bd p : Addr} {L : Nat → List (List Int)} {kvs : List (Key × V)} {la : Nat → Addr} {rs : Nat → List Addr} {k : Nat} (hk : k < 4) (hB : BunX N B H bd L kvs la rs)
    (hn : valV kvs (.inl (k : Int)) = none) (np : H p = none) (nB : B p = none) : BunX (N + 1) B (upd (upd H p (.lst [])) bd (.dK (putK kvs (.inl (k : Int)) (.ref p)))) bd L (putK kvs (.inl (k : Int)) (.ref p)) (fun i => if i = k then p else la i) rs := by
  obtain ⟨hb, hl, h3, h4, h5, h6⟩ := hB
  have nbp : bd ≠ p := ne_of_none hb np
  have hrk : rs k = [] := by
    rcases h3 k hk with ⟨_, x⟩ | ⟨x, _⟩
    · exact x
    · rw [hn] at x
      cases x
  have kne : ∀ {i : Nat}, i ≠ k → ¬ ((.inl (i : Int) : Key) = .inl (k : Int)) := fun {i} e z => e (by have := Sum.inl.inj z; omega)
  have keep : ∀ {q : Addr} {xs : List V}, H q = some (.lst xs) → (upd (upd H p (.lst [])) bd (.dK (putK kvs (.inl (k : Int)) (.ref p)))) q = some (.lst xs) := fun {q xs} hq => by
    rw [upd_ne (ne_of hq hb (by intro e; cases e)), upd_ne (ne_of_none hq np)]
    exact hq
  have old : ∀ {i : Nat}, i < 4 → i ≠ k → valV (putK kvs (.inl (k : Int)) (.ref p)) (.inl (i : Int)) = valV kvs (.inl (i : Int)) := fun {i} _ e => by rw [valV_put, if_neg (kne e)]
  have lap : ∀ {i : Nat}, i < 4 → valV kvs (.inl (i : Int)) = some (.ref (la i)) → la i ≠ p := fun {i} hi x => by
    rcases h3 i hi with ⟨y, _⟩ | ⟨_, y⟩
    · rw [x] at y
      cases y
    · exact ne_of_none y np
  refine ⟨upd_same, ?_, fun i hi => ?_, fun i j hi hj a b e => ?_, fun i hi => ⟨(h5 i hi).1, fun j r ss a b => ⟨keep ((h5 i hi).2 j r ss a b).1, ((h5 i hi).2 j r ss a b).2⟩⟩, fun i hi a => ?_⟩
  · have := length_putK kvs (.inl (k : Int)) (V.ref p)
    omega
  · by_cases e : i = k
    · subst e
      refine .inr ⟨?_, ?_⟩
      · rw [valV_put, if_pos rfl, if_pos rfl]
      · rw [if_pos rfl, upd_ne nbp.symm, upd_same, hrk]
        rfl
    · rw [if_neg e, old hi e]
      rcases h3 i hi with x | ⟨x, y⟩
      · exact .inl x
      · exact .inr ⟨x, keep y⟩
  · by_cases ei : i = k
    · by_cases ej : j = k
      · omega
      · rw [if_neg ej, old hj ej] at b
        rw [if_pos ei, if_neg ej] at e
        exact absurd e.symm (lap hj b)
    · rw [if_neg ei, old hi ei] at a
      by_cases ej : j = k
      · rw [if_neg ei, if_pos ej] at e
        exact absurd e (lap hi a)
      · rw [if_neg ej, old hj ej] at b
        rw [if_neg ei, if_neg ej] at e
        exact h4 i j hi hj a b e
  · by_cases e : i = k
    · rw [if_pos e]
      exact nB
    · rw [if_neg e, old hi e] at a
      rw [if_neg e]
      exact h6 i hi a
theorem BunX.monoB {N : Nat} {B H H' : Hp} {fl bd : Addr} {L : Nat → List (List Int)} {kvs : List (Key × V)} {la : Nat → Addr} {rs : Nat → List Addr} (e : ExB fl H H') (nf : H fl = none) (h : BunX N B H bd L kvs la rs) : BunX N B H' bd L kvs la rs := by
  obtain ⟨h1, h2, h3, h4, h5, h6⟩ := h
  have k : ∀ {q : Addr} {o : HO}, H q = some o → H' q = some o := fun hq => e _ _ hq (ne_of_none hq nf)
  refine ⟨k h1, h2, fun i hi => ?_, h4, fun i hi => ⟨(h5 i hi).1, fun j r ss a b => ⟨k ((h5 i hi).2 j r ss a b).1, ((h5 i hi).2 j r ss a b).2⟩⟩, h6⟩
  rcases h3 i hi with x | ⟨x, y⟩
  · exact .inl x
  · exact .inr ⟨x, k y⟩
theorem BunX.got {N : Nat} {B H H' : Hp} {fl bd p : Addr} {L : Nat → List (List Int)} {kvs : List (Key × V)} {la : Nat → Addr} {rs : Nat → List Addr} {k : Nat} (hk : k < 4) (h : BunX N B H bd L kvs la rs) (e : ExB fl H H') (nf : H fl = none) (hp : H' p = some (.lst [])) (np : p ≠ fl) :
    ∃ g, (valV kvs (.inl (k : Int))).getD (.ref p) = .ref g ∧ H' g = some (.lst ((rs k).map V.ref)) ∧ g ≠ fl := by
  rcases h.h3 k hk with ⟨x, y⟩ | ⟨x, y⟩
  · rw [x, y]
    exact ⟨p, rfl, hp, np⟩
  · rw [x]
    exact ⟨la k, rfl, e _ _ y (ne_of_none y nf), ne_of_none y nf⟩
section
variable {P : Program} {w : World} {K : PySem.W.Frag} {mg : Str → Option Value} {base : Heap} {CC CT CR : Addr}
/-- rows as they stand in a list -/
def RowsJ (G H : Hp) (ps : List Addr) (rows : List (List Int × List Int)) : Prop := ps.length = rows.length ∧ ∀ (i : Nat) (p : Addr) (l h : List Int), ps[i]? = some p → rows[i]? = some (l, h) →
  ∃ a b, H p = some (.tup [.ref a, .ref b]) ∧ G a = some (.lst (l.map V.int)) ∧ G b = some (.lst (h.map V.int))
abbrev RowsIn (H : Hp) := RowsJ H H
theorem RowsJ.mono {G H G' H' : Hp} {fl : Addr} {ps : List Addr} {rows : List (List Int × List Int)} {xs : List V} (h : RowsJ G H ps rows) (eG : ∀ q xs, G q = some (.lst xs) → G' q = some (.lst xs)) (e : ExB fl H H') (hf : H fl = some (.lst xs)) : RowsJ G' H' ps rows := by
  refine ⟨h.1, fun i p l k a b => ?_⟩
  obtain ⟨x, y, h1, h2, h3⟩ := h.2 i p l k a b
  exact ⟨x, y, e _ _ h1 (ne_of h1 hf (by intro e; cases e)), eG _ _ h2, eG _ _ h3⟩
theorem RowsJ.snoc {G H : Hp} {ps : List Addr} {rows : List (List Int × List Int)} {p a b : Addr} {l k : List Int} (h : RowsJ G H ps rows) (hp : H p = some (.tup [.ref a, .ref b])) (ha : G a = some (.lst (l.map V.int))) (hb : G b = some (.lst (k.map V.int))) : RowsJ G H (ps ++ [p]) (rows ++ [(l, k)]) := by
  refine ⟨by rw [List.length_append, List.length_append, h.1]; rfl, fun i q x y hq hx => ?_⟩
  by_cases hi : i < ps.length
  · rw [List.getElem?_append_left hi] at hq
    rw [List.getElem?_append_left (by rw [← h.1]; exact hi)] at hx
    exact h.2 i q x y hq hx
  · rw [List.getElem?_append_right (by omega)] at hq
    rw [List.getElem?_append_right (by rw [← h.1]; omega), ← h.1] at hx
    have lt := (List.getElem?_eq_some_iff.mp hq).1
    have l1 : [p].length = 1 := rfl
    have j0 : i - ps.length = 0 := by omega
    rw [j0] at hq hx
    cases hq
    cases hx
    exact ⟨a, b, hp, ha, hb⟩
def condM (l h : List Int) : Bool :=
  decide (V.int (if (((h.map V.int).length : Nat) : Int) < (((l.map V.int).length : Nat) : Int) then (((h.map V.int).length : Nat) : Int) else (((l.map V.int).length : Nat) : Int)) = V.int 1) && !(h.any fun s => inV (.int s) (l.map V.int))
theorem flat_ints (l : List Int) : (l.map V.int).all flatV = true := by
  rw [List.all_map]
  exact List.all_eq_true.mpr fun _ _ => rfl
def rowsM (h : Int) : List (List Int × List Int) := (List.range 2).flatMap fun lv => (bunM h 7 lv).flatMap fun l => ((bunM h 7 (lv + 1)).filter fun hv => condM l hv).map fun hv => (l, hv)
theorem rowsM_at : rowsM 0 = [([0], [1]), ([0], [2])] ∧ rowsM 1 = [([1], [0]), ([1], [2])] ∧ rowsM 2 = [([2], [0]), ([2], [1])] := by
  refine ⟨?_, ?_, ?_⟩ <;> decide +kernel
def spRowsOf (K : PySem.W.Frag) (CC : Addr) : Sp := fun vs H Q _ => ∃ (c : Addr) (h : Int), vs = [.ref c] ∧ CodeAt CC H c h ∧ ∀ a ps H2, Ex H H2 → H2 a = some (.lst (ps.map V.ref)) → RowsIn H2 ps (rowsM h) → Q (.ref a) H2
theorem ok_rows_of (T : Txt K mg CC CT CR) (D : Df K mg "rows_of" "rows_of" s_rows_of ["code"]) (c_level_of : C8.Cal P w K mg base 1 "level_of" (spLevel K CC) []) :
    C8.Cal P w K mg base 2 "rows_of" (spRowsOf K CC) [] := by
  refine D.cal sc_rows_of (fun vs H Q E h => ?_) (fun f cdv A outer s H vs Q E hr h => ?_)
  · obtain ⟨c, h, rfl, _⟩ := h
    rfl
  obtain ⟨c, h, rfl, hC, q⟩ := h
  refine ⟨_, (pss_cons
      (ps_set (i := 1) sc_rows_of.nd rfl (Or.inl rfl) pe_dnewK)
      (pss_cons
      (ps_for PassesOwn.never rfl (pi_range2 (by rfl) T.f_range (pa_cons pe_int (pa_cons (pe_op op_shl pe_int (pe_fld (pv 0) rfl)) pa_nil))) (pg_name (i := 2) sc_rows_of.nd rfl (Or.inr rfl)) (pss_cons
        (ps_setLc (i := 3) (own := [("sign", 8)]) (g := gName 8) rfl sc_rows_of.nd rfl rfl (sw_true rfl rfl rfl (by decide +kernel)) (pi_range1 (by rfl) T.f_range (pa_cons (pe_fld (pv 0) rfl) pa_nil)) (blkOk_by (own := [("sign", 8)]) (N := ["code", "bunches", "number", "signs", "level", "found", "light", "heavy", "sign"]) (sc := C8.fnScope s_rows_of) (by decide +kernel)) (fun _ _ _ _ _ => (pg_name (i := 8) sc_rows_of.nd rfl (Or.inl rfl))) (fun _ _ _ _ _ => (pts_one (pt_truthK (K := K) rfl (pe_op op_and (pe_op op_shr (pv 2) (pv 8)) pe_int) (by intro _; rfl)))) (fun _ _ _ _ _ => (pv 8)))
        (pss_cons
        (ps_set (i := 4) sc_rows_of.nd rfl (Or.inl rfl) (C8.pe_c c_level_of hr (by decide) (by rfl) (pa_cons (pv 0) (pa_cons (pv 3) pa_nil))))
        (pss_one
        (ps_if (pt_cmpR op_notN (pv 4) pe_non (nomark _)) (pss_one
          (ps_expr (pe_bm PySem.F.plainAttrs_list PySem.F.slot_list_append PySem.F.type_list_append mt_append (pe_dsetd (pv 1) (pv 4) (pe_lst pa_nil) ⟨rfl, rfl, rfl, rfl⟩) (pa_cons (pv 3) pa_nil)))) pss_nil)))))
      (pss_cons
      (ps_set (i := 5) sc_rows_of.nd rfl (Or.inl rfl) (pe_lst pa_nil))
      (pss_cons
      (ps_for PassesOwn.never rfl (pi_range1 (by rfl) T.f_range (pa_cons (pe_fld (pv 0) rfl) pa_nil)) (pg_name (i := 4) sc_rows_of.nd rfl (Or.inl rfl)) (pss_one
        (ps_for PassesOwn.never rfl (pi_list (pe_dget2 (hu_of hr) (pv 1) (pv 4) (pe_lst pa_nil) ⟨rfl, rfl, rfl, rfl⟩)) (pg_name (i := 6) sc_rows_of.nd rfl (Or.inr rfl)) (pss_one
          (ps_for PassesOwn.never rfl (pi_list (pe_dget2 (hu_of hr) (pv 1) (pe_op op_add (pv 4) pe_int) (pe_lst pa_nil) ⟨rfl, rfl, rfl, rfl⟩)) (pg_name (i := 7) sc_rows_of.nd rfl (Or.inl rfl)) (pss_one
            (ps_if (PW.pt (pw_and (pt_cmpR op_eq (pe_callB (call_min2 rfl) (by rfl) T.f_min boot_min (pa_cons (pe_callB call_len_seq (by rfl) T.f_len boot_len (pa_cons (pv 6) pa_nil)) (pa_cons (pe_callB call_len_seq (by rfl) T.f_len boot_len (pa_cons (pv 7) pa_nil)) pa_nil))) pe_int (nomark _)) (pw_and1 (pt_not (pt_val (pe_callB (cr_any rfl) (by rfl) T.f_any boot_any (pa_cons (pe_lc (own := [("sign", 8)]) (g := gName 8) (tt := tYes) rfl sc_rows_of.nd (pi_list (pv 7)) (blkOk_by (own := [("sign", 8)]) (N := ["code", "bunches", "number", "signs", "level", "found", "light", "heavy", "sign"]) (sc := C8.fnScope s_rows_of) (by decide +kernel)) (fun _ _ _ _ _ => (pg_name (i := 8) sc_rows_of.nd rfl (Or.inl rfl))) (fun _ _ _ _ _ => pts_nil) (fun _ _ _ _ _ => (pe_cmpR (op_in_seqK (K := K) rfl) (pv 8) (pv 6) (by rfl)))) pa_nil))))))) (pss_one
              (ps_expr (pe_bm PySem.F.plainAttrs_list PySem.F.slot_list_append PySem.F.type_list_append mt_append (pv 5) (pa_cons (pe_tup (pa_cons (pv 6) (pa_cons (pv 7) pa_nil))) pa_nil)))) pss_nil)))))))
      (pss_one
      (ps_ret (pv 5))))))), ?_⟩
  refine fun bd nb => ?_
  have e0 : Ex H (upd H bd (.dK [])) := Ex.new nb
  have hb0 : (upd H bd (.dK [])) bd = some (.dK []) := upd_same
  generalize (upd H bd (.dK [])) = H0 at e0 hb0
  obtain ⟨⟨dx, lt, wt, h1, h2⟩, h3⟩ := id hC
  refine ⟨_, rfl, c, CC, dx, _, _, rfl, e0 _ _ h1, T.clC, T.nC_size, cf_size _ _ _ _, _, _, rfl, rfl, ⟨by decide, by decide, by decide⟩, ?_⟩
  refine ⟨1, 8, rfl, ⟨by decide, by decide, by decide, by decide⟩, ?_⟩
  refine for_range (lo := 1) (n := 7) (fun i σ H' => ∃ v2 v3 v4 : Option V, σ = [some (.ref c), some (.ref bd), v2, v3, v4, none, none, none, none] ∧ Ex H H' ∧ Bun i H H' bd (bunM h i)) ⟨none, none, none, rfl, e0, [], fun _ => 0, fun _ => [], hb0, Nat.le_refl 0, fun k _ => .inl ⟨valV_nil, rfl⟩, (fun i j _ _ h => by cases h), (fun k _ => ⟨rfl, fun j r ss h => by cases h⟩), (fun k _ h => by cases h)⟩ ?_ ?_
  · rintro i σ H1 hi ⟨v2, v3, v4, rfl, e1, hB⟩
    have e0 : (1 : Int) + (i : Int) = ((i + 1 : Nat) : Int) := by omega
    refine ⟨_, rfl, c, CC, dx, _, _, rfl, e1 _ _ h1, T.clC, T.nC_size, cf_size _ _ _ _, 3, rfl, by decide, by decide, fun Dl hD => lc_rngF hD (fun s => bitM (i + 1) s != 0) (fun s => .int (s : Int)) (by decide) (fun x => rfl) (fun s H2 hs e => ?_) (fun s H2 hs _ e => ev_var rfl) (fun H2 e2 hL => ?_)⟩
    · intro H3 e3 Q' q'
      rw [e0]
      exact ⟨_, rfl, _, rfl, _, _, rfl, rfl, (by omega), _, _, rfl, rfl, _, rfl, q' H3 (Ex.refl H3)⟩
    have hL' : H2 Dl = some (.lst ((signsM (i + 1)).map V.int)) := by
      rw [hL]
      unfold signsM
      rw [List.map_map]
      rfl
    refine ⟨_, rfl, _, rfl, c, Dl, h, signsM (i + 1), rfl, hC.mono (e1.trans e2), sqL hL', Nat.lt_of_le_of_lt signsM_len (by decide), signsM_3, fun H3 e3 => ?_⟩
    have hB3 := hB.mono (e2.trans e3)
    have hL3 := e3 _ _ hL'
    have e13 := (e1.trans e2).trans e3
    have lstep : ∀ k : Nat, bunM h (i + 1) k = bunM h i k ++ (if decide (levelM h (signsM (i + 1)) = .int (k : Int)) = true then [signsM (i + 1)] else []) := by
      intro k
      unfold bunM
      rw [List.range_succ, List.filter_append, List.map_append]
      congr 1
      rw [List.filter_cons]
      split
      · rfl
      · rfl
    rcases levelM_is h (signsM (i + 1)) with hv | ⟨k, hk, hv⟩
    · rw [hv]
      refine ⟨_, rfl, rfl, false, rfl, ?_⟩
      refine ⟨_, _, _, rfl, e13, ?_⟩
      have : bunM h (i + 1) = bunM h i := by
        funext k
        rw [lstep k, hv, decide_eq_false (by intro e; cases e)]
        simp
      rw [this]
      exact hB3.wide (Nat.le_succ i)
    · rw [hv]
      refine ⟨_, rfl, rfl, true, rfl, ?_⟩
      have eL : ∀ j : Nat, bunM h (i + 1) j = bunM h i j ++ (if j = k then [signsM (i + 1)] else []) := by
        intro j
        rw [lstep j, hv]
        by_cases e : j = k
        · rw [if_pos e, e, decide_eq_true rfl, if_pos rfl]
        · rw [if_neg e, decide_eq_false (by intro z; exact e (by have := V.int.inj z; omega)), if_neg (by decide)]
      obtain ⟨kvs, la, rs, hX⟩ := hB3
      refine ⟨_, rfl, bd, rfl, .inl ⟨kvs, .inl hX.hb⟩, _, rfl, by show 0 ≤ sizeLine; decide, fun p0 np => ⟨kvs, .inl (k : Int), (Ex.new np) _ _ hX.hb, rfl, sz_lt (by have := hX.hl; omega), fun v hv2 => ?_, fun hn => ?_⟩⟩
      · rcases hX.h3 k (by omega) with ⟨x, _⟩ | ⟨x, y⟩
        · rw [hv2] at x
          cases x
        obtain rfl : v = .ref (la k) := by
          rw [hv2] at x
          exact Option.some.inj x
        have en : Ex H3 (upd H3 p0 (.lst [])) := Ex.new np
        generalize (upd H3 p0 (.lst [])) = H4 at en
        refine ⟨.inl ⟨rfl, _, sqL (en _ _ y)⟩, _, rfl, la k, _, _, rfl, rfl, en _ _ y, ?_, ?_⟩
        · rw [List.length_map, (hX.h5 k (by omega)).1]
          unfold bunM
          rw [List.length_map]
          have := List.length_filter_le (fun j : Nat => decide (levelM h (signsM (j + 1)) = .int (k : Int))) (List.range i)
          rw [List.length_range] at this
          exact sz_lt (by omega)
        · exact ⟨_, _, _, rfl, (e13.trans en).mut (hX.h6 k (by omega) x), (hX.mono en).more (by omega) x (en _ _ hL3) (signsM_ne hi) eL |>.wide (Nat.le_succ i)⟩
      · have nH : H p0 = none := by
          cases hz : H p0 with
          | none => rfl
          | some o =>
            have := e13 _ _ hz
            rw [np] at this
            cases this
        have hA := hX.add (by omega) hn np nH
        have nbH : H bd = none := nb
        have eA : Ex H (upd (upd H3 p0 (.lst [])) bd (.dK (putK kvs (.inl (k : Int)) (.ref p0)))) := (e13.of_new np).mut nbH
        have hp0 : (upd (upd H3 p0 (.lst [])) bd (.dK (putK kvs (.inl (k : Int)) (.ref p0)))) p0 = some (.lst []) := by rw [upd_ne (ne_of_none hX.hb np).symm, upd_same]
        have hS : (upd (upd H3 p0 (.lst [])) bd (.dK (putK kvs (.inl (k : Int)) (.ref p0)))) Dl = some (.lst ((signsM (i + 1)).map V.int)) := by
          rw [upd_ne (ne_of hL3 hX.hb (by intro e; cases e)), upd_ne (ne_of_none hL3 np)]
          exact hL3
        have hrk : rs k = [] := by
          rcases hX.h3 k (by omega) with ⟨_, x⟩ | ⟨x, _⟩
          · exact x
          · rw [hn] at x
            cases x
        have hM := hA.more (k := k) (S := Dl) (by omega) (by rw [valV_put, if_pos rfl, if_pos rfl]) hS (signsM_ne hi) eL
        rw [hrk, if_pos rfl] at hM
        generalize (upd (upd H3 p0 (.lst [])) bd (.dK (putK kvs (.inl (k : Int)) (.ref p0)))) = H4 at eA hp0 hM
        exact ⟨.inl ⟨rfl, _, sqL hp0⟩, _, rfl, p0, _, _, rfl, rfl, hp0, sz_lt (by decide), _, _, _, rfl, eA.mut nH, hM⟩
  rintro σ H1 ⟨v2, v3, v4, rfl, e1, kvs, la, rs, hX⟩
  refine ⟨by show 0 ≤ sizeLine; decide, fun fl nf => ?_⟩
  have en : Ex H1 (upd H1 fl (.lst [])) := Ex.new nf
  have hf0 : (upd H1 fl (.lst [])) fl = some (.lst (([] : List Addr).map V.ref)) := upd_same
  have nHf : H fl = none := by
    cases hz : H fl with
    | none => rfl
    | some o =>
      have := e1 _ _ hz
      rw [nf] at this
      cases this
  have e2 := e1.trans en
  generalize (upd H1 fl (.lst [])) = H2 at en hf0 e2
  refine ⟨_, rfl, c, CC, dx, _, _, rfl, e2 _ _ h1, T.clC, T.nC_longest, cf_longest _ _ _ _, 2, rfl, by decide, by decide, ?_⟩
  refine for_range (lo := 0) (n := 2) (fun i σ H' => ∃ v4 v6 v7 : Option V, σ = [some (.ref c), some (.ref bd), v2, v3, v4, some (.ref fl), v6, v7, none] ∧ ExB fl H1 H' ∧ ∃ ps, H' fl = some (.lst (ps.map V.ref)) ∧
    RowsJ H1 H' ps ((List.range i).flatMap fun lv => (bunM h 7 lv).flatMap fun l => ((bunM h 7 (lv + 1)).filter fun hv => condM l hv).map fun hv => (l, hv))) ⟨v4, none, none, rfl, ExB.of en, [], hf0, rfl, fun i p l h a => by cases a⟩ ?_ ?_
  · rintro i σ H3 hi ⟨v4, v6, v7, rfl, b3, ps, hps, hrows⟩
    have e0 : (0 : Int) + (i : Int) = ((i : Nat) : Int) := Int.zero_add _
    have hX3 := hX.monoB b3 nf
    refine ⟨_, rfl, bd, rfl, .inl ⟨kvs, .inl hX3.hb⟩, _, rfl, by show 0 ≤ sizeLine; decide, fun p0 np => ⟨valV kvs (.inl (i : Int)), .inl ⟨kvs, .inl (i : Int), .inl ((Ex.new np) _ _ hX3.hb), by rw [e0]; rfl, rfl⟩, ?_⟩⟩
    have b4 := b3.ex (Ex.new np (o := .lst []))
    obtain ⟨g, eg, hg, ngf⟩ := hX.got (k := i) (by omega) b4 nf upd_same (ne_of_none hps np).symm
    rw [eg]
    refine ⟨g, rfl, ⟨_, sqL hg⟩, ?_⟩
    have hps4 := (Ex.new np (o := .lst [])) _ _ hps
    have hrows4 := hrows.mono (fun q xs hq => hq) (ExB.of (Ex.new np (o := .lst []))) hps
    generalize (upd H3 p0 (.lst [])) = H4 at hg b4 hps4 hrows4
    generalize hRi : ((List.range i).flatMap fun lv => (bunM h 7 lv).flatMap fun l => ((bunM h 7 (lv + 1)).filter fun hv => condM l hv).map fun hv => (l, hv)) = Ri at hrows4
    have h5i := hX.h5 i (by omega)
    have h5j := hX.h5 (i + 1) (by omega)
    refine for_list (K := K) (a := g) (xs := (rs i).map V.ref) (fun j σ H' => ∃ v6 v7 : Option V, σ = [some (.ref c), some (.ref bd), v2, v3, some (.int (i : Int)), some (.ref fl), v6, v7, none] ∧ ExB fl H4 H' ∧ ∃ ps, H' fl = some (.lst (ps.map V.ref)) ∧
      RowsJ H1 H' ps (Ri ++ ((bunM h 7 i).take j).flatMap fun l => ((bunM h 7 (i + 1)).filter fun hv => condM l hv).map fun hv => (l, hv))) ⟨v6, v7, by rw [e0]; rfl, ExB.of (Ex.refl H4), ps, hps4, by rw [List.take_zero, List.flatMap_nil, List.append_nil]; exact hrows4⟩
      (fun j σ H' _ ⟨_, _, _, b, _⟩ => sqL (b _ _ hg ngf)) ?_ ?_
    · rintro j y σ H5 hj ⟨v6, v7, rfl, b5, ps, hps5, hrows5⟩
      obtain ⟨r, hr, rfl⟩ := get_ref hj
      have hjl : j < (bunM h 7 i).length := by
        rw [← h5i.1]
        exact (List.getElem?_eq_some_iff.mp hr).1
      have hbj := List.getElem?_eq_getElem hjl
      have hr1 := (h5i.2 j r _ hr hbj).1
      generalize (bunM h 7 i)[j] = lt at hbj hr1
      have b15 := b4.trans b5
      have hX5 := hX.monoB b15 nf
      have e01 : (i : Int) + 1 = ((i + 1 : Nat) : Int) := rfl
      refine ⟨_, rfl, bd, rfl, .inl ⟨kvs, .inl hX5.hb⟩, _, rfl, _, _, rfl, rfl, by show 0 ≤ sizeLine; decide, fun p1 np1 => ⟨valV kvs (.inl ((i + 1 : Nat) : Int)), .inl ⟨kvs, .inl ((i + 1 : Nat) : Int), .inl ((Ex.new np1) _ _ hX5.hb), rfl, rfl⟩, ?_⟩⟩
      have b6 := b15.ex (Ex.new np1 (o := .lst []))
      obtain ⟨g2, eg2, hg2, ngf2⟩ := hX.got (k := i + 1) (by omega) b6 nf upd_same (ne_of_none hps5 np1).symm
      rw [eg2]
      refine ⟨g2, rfl, ⟨_, sqL hg2⟩, ?_⟩
      have b56 : ExB fl H5 (upd H5 p1 (.lst [])) := ExB.of (Ex.new np1)
      have hps6 := (Ex.new np1 (o := .lst [])) _ _ hps5
      have hrows6 := hrows5.mono (fun q xs hq => hq) b56 hps5
      generalize (upd H5 p1 (.lst [])) = H6 at hg2 b6 b56 hps6 hrows6
      refine for_list (K := K) (a := g2) (xs := (rs (i + 1)).map V.ref) (fun m σ H' => ∃ v7 : Option V, σ = [some (.ref c), some (.ref bd), v2, v3, some (.int (i : Int)), some (.ref fl), some (.ref r), v7, none] ∧ ExB fl H6 H' ∧ ∃ ps, H' fl = some (.lst (ps.map V.ref)) ∧
        RowsJ H1 H' ps (Ri ++ (((bunM h 7 i).take j).flatMap fun l => ((bunM h 7 (i + 1)).filter fun hv => condM l hv).map fun hv => (l, hv)) ++ ((((bunM h 7 (i + 1)).take m).filter fun hv => condM lt hv).map fun hv => (lt, hv)))) ⟨v7, rfl, ExB.of (Ex.refl H6), ps, hps6, by rw [List.take_zero, List.filter_nil, List.map_nil, List.append_nil]; exact hrows6⟩
        (fun j σ H' _ ⟨_, _, b, _⟩ => sqL (b _ _ hg2 ngf2)) ?_ ?_
      · rintro m y σ H7 hm ⟨v7, rfl, b7, ps, hps7, hrows7⟩
        obtain ⟨r2, hr2, rfl⟩ := get_ref hm
        have hml : m < (bunM h 7 (i + 1)).length := by
          rw [← h5j.1]
          exact (List.getElem?_eq_some_iff.mp hr2).1
        have hbm := List.getElem?_eq_getElem hml
        have hr21 := (h5j.2 m r2 _ hr2 hbm).1
        generalize (bunM h 7 (i + 1))[m] = hv at hbm hr21
        have b17 := b6.trans b7
        have hr7 := b17 _ _ hr1 (ne_of_none hr1 nf)
        have hr27 := b17 _ _ hr21 (ne_of_none hr21 nf)
        refine ⟨_, rfl, r, _, rfl, .inl (sqL hr7), _, rfl, r2, _, rfl, .inl (sqL hr27), _, _, rfl, rfl, ?_⟩
        have es : ((((bunM h 7 (i + 1)).take (m + 1)).filter fun hv => condM lt hv).map fun hv => (lt, hv)) = ((((bunM h 7 (i + 1)).take m).filter fun hv => condM lt hv).map fun hv => (lt, hv)) ++ (if condM lt hv = true then [(lt, hv)] else []) := by
          rw [take_snoc hbm, List.filter_append, List.map_append, List.filter_cons]
          split <;> rfl
        have ec : condM lt hv = (decide (V.int (if (((hv.map V.int).length : Nat) : Int) < (((lt.map V.int).length : Nat) : Int) then (((hv.map V.int).length : Nat) : Int) else (((lt.map V.int).length : Nat) : Int)) = V.int 1) && !(hv.any fun s => inV (.int s) (lt.map V.int))) := rfl
        refine ⟨_, rfl, ?_⟩
        cases hd : decide (V.int (if (((hv.map V.int).length : Nat) : Int) < (((lt.map V.int).length : Nat) : Int) then (((hv.map V.int).length : Nat) : Int) else (((lt.map V.int).length : Nat) : Int)) = V.int 1) with
        | false =>
          rw [hd] at ec
          rw [es, ec]
          refine ⟨_, rfl, b7, ps, hps7, ?_⟩
          simpa using hrows7
        | true =>
          rw [hd] at ec
          refine ⟨_, rfl, r2, rfl, ⟨_, sqL hr27⟩, fun Dl hD => lc_ints hD (sqL hr27) (fun s => .bl (inV (.int s) (lt.map V.int))) (Nat.lt_of_le_of_lt (bunM_len (List.mem_of_getElem? hbm)) (by decide)) (fun x => rfl) (fun s H8 hs e => ?_) (fun H8 e8 hL => ?_)⟩
          · intro H9 e9 Q' q'
            exact ⟨_, rfl, _, rfl, r, _, rfl, .inl (sqL ((e.trans e9) _ _ hr7)), rfl, flat_ints lt, q' H9 (Ex.refl H9)⟩
          · rw [map_bl] at hL
            refine ⟨Dl, _, rfl, sqL hL, _, rfl, ?_⟩
            have ea : (hv.map fun s => inV (.int s) (lt.map V.int)).any id = hv.any fun s => inV (.int s) (lt.map V.int) := by rw [List.any_map]; rfl
            rw [ea]
            cases ha : hv.any fun s => inV (.int s) (lt.map V.int) with
            | true =>
              rw [ha] at ec
              rw [es, ec]
              refine ⟨_, rfl, b7.ex e8, ps, e8 _ _ hps7, ?_⟩
              have := hrows7.mono (fun q xs hq => hq) (ExB.of e8) hps7
              simpa using this
            | false =>
              rw [ha] at ec
              rw [es, ec]
              have hps8 := e8 _ _ hps7
              have hrows8 := hrows7.mono (fun q xs hq => hq) (ExB.of e8) hps7
              refine ⟨_, rfl, .inl ⟨rfl, _, sqL hps8⟩, _, rfl, _, rfl, by show 2 ≤ sizeLine; decide, fun t nt => ?_⟩
              have hps9 := (Ex.new nt (o := .tup [.ref r, .ref r2])) _ _ hps8
              have nft : fl ≠ t := ne_of_none hps8 nt
              refine ⟨fl, _, _, rfl, rfl, hps9, ?_, ?_⟩
              · rw [List.length_map, hrows8.1, List.length_append, List.length_append, List.length_map]
                have z1 := flat_le (l := (bunM h 7 i).take j) (c := 7) (f := fun l => ((bunM h 7 (i + 1)).filter fun hv => condM l hv).map fun hv => (l, hv)) fun x _ => by
                  rw [List.length_map]
                  exact Nat.le_trans (List.length_filter_le _ _) bunM_many
                have z2 := List.length_filter_le (fun hv => condM lt hv) ((bunM h 7 (i + 1)).take m)
                have z3 : ((bunM h 7 (i + 1)).take m).length ≤ 7 := by
                  rw [List.length_take]
                  have : (bunM h 7 (i + 1)).length ≤ 7 := bunM_many
                  omega
                have z4 : ((bunM h 7 i).take j).length ≤ 7 := by
                  rw [List.length_take]
                  have : (bunM h 7 i).length ≤ 7 := bunM_many
                  omega
                have z5 : Ri.length ≤ 98 := by
                  rw [← hRi]
                  have := flat_le (l := List.range i) (c := 49) (f := fun lv => (bunM h 7 lv).flatMap fun l => ((bunM h 7 (lv + 1)).filter fun hv => condM l hv).map fun hv => (l, hv)) fun x _ => by
                    have := flat_le (l := bunM h 7 x) (c := 7) (f := fun l => ((bunM h 7 (x + 1)).filter fun hv => condM l hv).map fun hv => (l, hv)) fun y _ => by
                      rw [List.length_map]
                      exact Nat.le_trans (List.length_filter_le _ _) bunM_many
                    have : (bunM h 7 x).length ≤ 7 := bunM_many
                    omega
                  rw [List.length_range] at this
                  omega
                exact sz_lt (by omega)
              refine ⟨_, rfl, (b7.ex (e8.of_new nt)).put, ps ++ [t], ?_, ?_⟩
              · rw [upd_same, List.map_append]
                rfl
              · have := hrows8.mono (fun q xs hq => hq) ((ExB.of (Ex.new nt (o := .tup [.ref r, .ref r2]))).put (o := .lst (ps.map V.ref ++ [V.ref t]))) hps8
                have := this.snoc (p := t) (a := r) (b := r2) (l := lt) (k := hv) (by rw [upd_ne nft.symm, upd_same]) hr1 hr21
                simpa using this
      · rintro σ H7 ⟨v7, rfl, b7, ps, hps7, hrows7⟩
        refine ⟨_, _, rfl, b56.trans b7 |> b5.trans, ps, hps7, ?_⟩
        rw [take_snoc hbj, List.flatMap_append]
        have et : (bunM h 7 (i + 1)).take ((rs (i + 1)).map V.ref).length = bunM h 7 (i + 1) := List.take_of_length_le (by rw [List.length_map, h5j.1]; exact Nat.le_refl _)
        rw [et] at hrows7
        simpa using hrows7
    · rintro σ H5 ⟨v6, v7, rfl, b5, ps, hps5, hrows5⟩
      refine ⟨_, _, _, rfl, b4.trans b5, ps, hps5, ?_⟩
      rw [List.range_succ, List.flatMap_append, hRi]
      rw [List.take_of_length_le (by rw [List.length_map, h5i.1]; exact Nat.le_refl _)] at hrows5
      simpa using hrows5
  rintro σ H3 ⟨v4, v6, v7, rfl, b3, ps, hps, hrows⟩
  refine ⟨_, rfl, q fl ps H3 (fun b o hb => b3 _ _ (e1 _ _ hb) (ne_of_none hb nHf)) hps (hrows.mono (fun q xs hq => b3 _ _ hq (ne_of_none hq nf)) (ExB.of (Ex.refl H3)) hps)⟩
end
end LJ

set_option maxHeartbeats 4000000
namespace LJ
open PySem PySem.Spec PyProof.Rows L2 Evl
def mn (i j : Int) : Int := if j < i then j else i
/-- what a sign changes -/
def chM (h o s : Int) : Int := (if inV (.int s) [.int h] = true then 1 else 0) - (if inV (.int s) [.int o] = true then 1 else 0)
/-- one part of a walk: change, least change, how often -/
def stepW (a : Int × Int) (p : Int × Int × Int) : Int × Int := (a.1 + p.1 * p.2.2, mn a.2 (a.1 + p.2.1 + mn 0 p.1 * (p.2.2 - 1)))
def walkM (l : List (Int × Int × Int)) : Int × Int := l.foldl stepW (0, 0)
theorem walkM_snoc (l : List (Int × Int × Int)) (p : Int × Int × Int) : walkM (l ++ [p]) = stepW (walkM l) p := by
  unfold walkM
  rw [List.foldl_append]
  rfl
/-- the change and the least change of a part -/
def PartH (H : Hp) (dch : Addr) (h o : Int) (v : V) (c lo : Int) : Prop :=
  (∃ s, v = .int s ∧ c = chM h o s ∧ lo = mn 0 c) ∨ (∃ nm kvs t, v = .str nm ∧ H dch = some (.dK kvs) ∧ valV kvs (.inr nm) = some (.ref t) ∧ H t = some (.tup [.int c, .int lo]))
theorem PartH.mono {H H' : Hp} {dch : Addr} {h o c lo : Int} {v : V} (e : Ex H H') (q : PartH H dch h o v c lo) : PartH H' dch h o v c lo := by
  rcases q with q | ⟨nm, kvs, t, h1, h2, h3, h4⟩
  · exact .inl q
  · exact .inr ⟨nm, kvs, t, h1, e _ _ h2, h3, e _ _ h4⟩
/-- a row's walk as far as a part sees it -/
structure RL (CR : Addr) (H : Hp) (x dch : Addr) (h o : Int) : Prop where
  ex : ∃ dx fs la lb, H x = some (.ins CR dx fs) ∧ fs.lookup ("light" : Str) = some (.ref la) ∧ fs.lookup ("heavy" : Str) = some (.ref lb) ∧ fs.lookup ("changes" : Str) = some (.ref dch) ∧ H la = some (.lst [.int h]) ∧ H lb = some (.lst [.int o]) ∧
    fs.lookup ("change_of" : Str) = none
theorem RL.mono {CR x dch : Addr} {H H' : Hp} {h o : Int} (e : Ex H H') (q : RL CR H x dch h o) : RL CR H' x dch h o := by
  obtain ⟨⟨dx, fs, la, lb, h1, h2, h3, h4, h5, h6, h7⟩⟩ := q
  exact ⟨⟨dx, fs, la, lb, e _ _ h1, h2, h3, h4, e _ _ h5, e _ _ h6, h7⟩⟩
section
variable {P : Program} {w : World} {K : PySem.W.Frag} {mg : Str → Option Value} {base : Heap} {CC CT CR : Addr}
def spChange (CR : Addr) : Sp := fun vs H Q _ => ∃ (x dch : Addr) (v : V) (h o c lo : Int), vs = [.ref x, v] ∧ RL CR H x dch h o ∧ PartH H dch h o v c lo ∧ ∀ t H2, Ex H H2 → H2 t = some (.tup [.int c, .int lo]) → Q (.ref t) H2
theorem ok_change_of (T : Txt K mg CC CT CR) (D : Dm K CR "change_of" "RowWalk.change_of" s_RowWalk_change_of ["self", "part"]) : C8.Met P w K mg base 1 CR "change_of" (spChange CR) [] := by
  refine D.met sc_RowWalk_change_of (fun vs H Q E h => ?_) (fun f cdv A outer s H vs Q E hr h => ?_)
  · obtain ⟨x, dch, v, h, o, c, lo, rfl, _⟩ := h
    rfl
  obtain ⟨x, dch, v, h, o, c, lo, rfl, ⟨⟨dx, fs, la, lb, hx, f1, f2, f3, hla, hlb, _⟩⟩, hP, q⟩ := h
  refine ⟨_, (pss_cons
      (ps_if (pt_val (pe_callB call_isi (by rfl) T.f_isinstance boot_isinstance (pa_cons (pv 1) (pa_cons (pe_bltn (v := .ty "str") (by rfl) T.f_str boot_str rfl) pa_nil)))) (pss_one
        (ps_ret (pe_dget (hu_of hr) (pe_fld (pv 0) rfl) (pv 1) (fun _ _ => rfl)))) pss_nil)
      (pss_cons
      (ps_set (i := 2) sc_RowWalk_change_of.nd rfl (Or.inl rfl) (pe_op op_sub (pe_callTy call_int1 (by rfl) T.f_int boot_int (pa_cons (pe_cmpR op_in_seq (pv 1) (pe_fld (pv 0) rfl) (by rfl)) pa_nil)) (pe_callTy call_int1 (by rfl) T.f_int boot_int (pa_cons (pe_cmpR op_in_seq (pv 1) (pe_fld (pv 0) rfl) (by rfl)) pa_nil))))
      (pss_one
      (ps_ret (pe_tup (pa_cons (pv 2) (pa_cons (pe_callB (call_min2 rfl) (by rfl) T.f_min boot_min (pa_cons pe_int (pa_cons (pv 2) pa_nil))) pa_nil))))))), ?_⟩
  rcases hP with ⟨s, rfl, rfl, rfl⟩ | ⟨nm, kvs, t, rfl, hd, hv, ht⟩
  · refine ⟨_, rfl, _, _, _, _, false, rfl, .ty "str", .base (.int s), kit_int_str, false, rfl, ?_⟩
    refine ⟨_, rfl, _, rfl, x, CR, dx, _, _, rfl, hx, T.clR, T.nR_light, f1, la, _, rfl, .inl (sqL hla), rfl, rfl, .inr ⟨_, rfl, ?_⟩⟩
    refine ⟨_, rfl, _, rfl, x, CR, dx, _, _, rfl, hx, T.clR, T.nR_heavy, f2, lb, _, rfl, .inl (sqL hlb), rfl, rfl, .inr ⟨_, rfl, ?_⟩⟩
    refine ⟨_, _, rfl, rfl, ?_⟩
    exact ⟨_, rfl, _, rfl, _, _, rfl, by show 2 ≤ sizeLine; decide, fun t nt => q t _ (Ex.new nt) upd_same⟩
  · refine ⟨_, rfl, _, _, _, _, true, rfl, .ty "str", .base (.str nm), kit_str_str, true, rfl, ?_⟩
    exact ⟨_, rfl, x, CR, dx, _, _, rfl, hx, T.clR, T.nR_changes, f3, _, rfl, dch, _, rfl, .inl ⟨kvs, .inr nm, .inl hd, rfl, hv.symm⟩, q t H (Ex.refl H) ht⟩
/-- parts and what each is worth: change, least change, how often -/
def spWalked (CR : Addr) : Sp := fun vs H Q _ => ∃ (x dch t : Addr) (h o : Int) (l : List (V × Int)) (cs : List (Int × Int × Int)), vs = [.ref x, .ref t] ∧ RL CR H x dch h o ∧ PartsT H t l ∧ l.length = cs.length ∧
  (∀ (i : Nat) (v : V) (n : Int) (p : Int × Int × Int), l[i]? = some (v, n) → cs[i]? = some p → p.2.2 = n ∧ PartH H dch h o v p.1 p.2.1 ∧ -1000 < p.1 ∧ p.1 < 1000) ∧ ∀ a H2, Ex H H2 → H2 a = some (.tup [.int (walkM cs).1, .int (walkM cs).2]) → Q (.ref a) H2
theorem ok_walked (T : Txt K mg CC CT CR) (D : Dm K CR "walked" "RowWalk.walked" s_RowWalk_walked ["self", "parts"]) (m_change_of : C8.Met P w K mg base 1 CR "change_of" (spChange CR) []) :
    C8.Met P w K mg base 2 CR "walked" (spWalked CR) [] := by
  refine D.met sc_RowWalk_walked (fun vs H Q E h => ?_) (fun f cdv A outer s H vs Q E hr h => ?_)
  · obtain ⟨x, dch, t, h, o, l, cs, rfl, _⟩ := h
    rfl
  obtain ⟨x, dch, t, h, o, l, cs, rfl, hR, ⟨ps, hps, hpl⟩, hlen, hc, q⟩ := h
  refine ⟨_, (pss_cons
      (ps_asg (pe_tup (pa_cons pe_int (pa_cons pe_int pa_nil))) (pg_tup rfl (pgs_cons (pg_name (i := 2) sc_RowWalk_walked.nd rfl (Or.inl rfl)) (pgs_cons (pg_name (i := 3) sc_RowWalk_walked.nd rfl (Or.inl rfl)) pgs_nil))))
      (pss_cons
      (ps_for PassesOwn.never rfl (pi_tup (pv 1)) (pg_tup rfl (pgs_cons (pg_name (i := 4) sc_RowWalk_walked.nd rfl (Or.inl rfl)) (pgs_cons (pg_name (i := 5) sc_RowWalk_walked.nd rfl (Or.inl rfl)) pgs_nil))) (pss_cons
        (ps_asg (C8.pe_mt m_change_of hr (by decide) (pv 0) (pa_cons (pv 4) pa_nil)) (pg_tup rfl (pgs_cons (pg_name (i := 6) sc_RowWalk_walked.nd rfl (Or.inl rfl)) (pgs_cons (pg_name (i := 7) sc_RowWalk_walked.nd rfl (Or.inl rfl)) pgs_nil))))
        (pss_cons
        (ps_set (i := 3) sc_RowWalk_walked.nd rfl (Or.inl rfl) (pe_callB (call_min2 rfl) (by rfl) T.f_min boot_min (pa_cons (pv 3) (pa_cons (pe_op op_add (pe_op op_add (pv 2) (pv 7)) (pe_op op_mul (pe_callB (call_min2 rfl) (by rfl) T.f_min boot_min (pa_cons pe_int (pa_cons (pv 6) pa_nil))) (pe_op op_sub (pv 5) pe_int))) pa_nil))))
        (pss_one
        (ps_aug (i := 2) sc_RowWalk_walked.nd rfl (Or.inl rfl) (pe_op op_mul (pv 6) (pv 5)) ip_add)))))
      (pss_one
      (ps_ret (pe_tup (pa_cons (pv 2) (pa_cons (pv 3) pa_nil))))))), ?_⟩
  obtain ⟨dx, fs, la, lb, hx, f1, f2, f3, hla, hlb, f4⟩ := hR.ex
  refine ⟨by show 2 ≤ sizeLine; decide, fun t0 n0 => ?_⟩
  have e0 : Ex H (upd H t0 (.tup [.int 0, .int 0])) := Ex.new n0
  have h0 : (upd H t0 (.tup [.int 0, .int 0])) t0 = some (.tup [.int 0, .int 0]) := upd_same
  generalize (upd H t0 (.tup [.int 0, .int 0])) = H0 at e0 h0
  refine ⟨t0, _, rfl, sqT h0, rfl, _, _, rfl, _, _, rfl, rfl, ?_⟩
  refine ⟨_, rfl, t, rfl, ⟨_, sqT (e0 _ _ hps)⟩, ?_⟩
  refine for_tup (K := K) (a := t) (xs := ps.map V.ref) (fun i σ H' => ∃ (v4 v5 v6 v7 : Option V), σ = [some (.ref x), some (.ref t), some (.int (walkM (cs.take i)).1), some (.int (walkM (cs.take i)).2), v4, v5, v6, v7] ∧ Ex H H')
    ⟨none, none, none, none, rfl, e0⟩ (fun i σ H' _ ⟨_, _, _, _, _, e⟩ => sqT (e _ _ hps)) ?_ ?_
  · rintro i y σ H2 hi ⟨v4, v5, v6, v7, rfl, e2⟩
    obtain ⟨p, hp, rfl⟩ := get_ref hi
    have hlt : i < l.length := by
      rw [← hpl.1]
      exact (List.getElem?_eq_some_iff.mp hp).1
    have hlt2 : i < cs.length := by omega
    have hpH := hpl.2 i p l[i].1 l[i].2 hp (List.getElem?_eq_getElem hlt)
    have hcc2 := hc i l[i].1 l[i].2 cs[i] (List.getElem?_eq_getElem hlt) (List.getElem?_eq_getElem hlt2)
    generalize l[i].1 = v at hpH hcc2
    generalize l[i].2 = n at hpH hcc2
    have hci := List.getElem?_eq_getElem hlt2
    generalize cs[i] = c at hcc2 hci
    obtain ⟨rfl, hP, hb1, hb2⟩ := hcc2
    refine ⟨p, _, rfl, sqT (e2 _ _ hpH), rfl, _, _, rfl, _, _, rfl, rfl, ?_⟩
    refine ⟨_, rfl, x, dx, fs, rfl, e2 _ _ hx, f4, _, rfl, x, dch, v, h, o, c.1, c.2.1, rfl, hR.mono e2, hP.mono e2, fun t2 H3 e3 ht2 => ?_⟩
    refine ⟨t2, _, rfl, sqT ht2, rfl, _, _, rfl, _, _, rfl, rfl, ?_⟩
    have bm : -1000 < mn 0 c.1 ∧ mn 0 c.1 < 1000 := by
      unfold mn
      split <;> omega
    refine ⟨_, rfl, _, rfl, _, rfl, _, _, rfl, rfl, _, rfl, _, _, rfl, _, rfl, _, _, rfl, rfl, _, _, rfl, rfl, .inl ?_, _, _, rfl, rfl, _, _, rfl, ?_⟩
    · show -(2 ^ 64) < mn 0 c.1 ∧ mn 0 c.1 < 2 ^ 64
      omega
    refine ⟨_, rfl, _, rfl, _, rfl, _, _, rfl, rfl, .inl ⟨by omega, by omega⟩, _, _, rfl, rfl, ?_⟩
    have es : walkM (cs.take (i + 1)) = stepW (walkM (cs.take i)) c := by rw [take_snoc hci, walkM_snoc]
    rw [es]
    exact ⟨_, _, _, _, rfl, e2.trans e3⟩
  · rintro σ H2 ⟨v4, v5, v6, v7, rfl, e2⟩
    rw [List.take_of_length_le (by rw [List.length_map, hpl.1, hlen]; exact Nat.le_refl _)]
    exact ⟨_, rfl, _, rfl, by show 2 ≤ sizeLine; decide, fun a na => q a _ (e2.of_new na) upd_same⟩
end
end LJ

set_option maxHeartbeats 4000000
namespace LJ
open PySem PySem.Spec PyProof.Rows L2 Evl
abbrev rf1 (tx d : Addr) : List (Str × V) := putF "told_rules" (.ref d) (putF "text" (.ref tx) [])
def rf (tx d la lb dch : Addr) : List (Str × V) := putF "changes" (.ref dch) (putF "heavy" (.ref lb) (putF "light" (.ref la) (rf1 tx d)))
theorem rf_changes (tx d la lb dch : Addr) : (rf tx d la lb dch).lookup ("changes" : Str) = some (.ref dch) := by
  unfold rf
  rw [lookup_putF, if_pos rfl]
theorem rf_heavy (tx d la lb dch : Addr) : (rf tx d la lb dch).lookup ("heavy" : Str) = some (.ref lb) := by
  unfold rf
  rw [lookup_putF, if_neg (by decide +kernel), lookup_putF, if_pos rfl]
theorem rf_light (tx d la lb dch : Addr) : (rf tx d la lb dch).lookup ("light" : Str) = some (.ref la) := by
  unfold rf
  rw [lookup_putF, if_neg (by decide +kernel), lookup_putF, if_neg (by decide +kernel), lookup_putF, if_pos rfl]
theorem rf_told_rules (tx d la lb dch : Addr) : (rf tx d la lb dch).lookup ("told_rules" : Str) = some (.ref d) := by
  unfold rf rf1
  rw [lookup_putF, if_neg (by decide +kernel), lookup_putF, if_neg (by decide +kernel), lookup_putF, if_neg (by decide +kernel), lookup_putF, if_pos rfl]
theorem rf_text (tx d la lb dch : Addr) : (rf tx d la lb dch).lookup ("text" : Str) = some (.ref tx) := by
  unfold rf rf1
  rw [lookup_putF, if_neg (by decide +kernel), lookup_putF, if_neg (by decide +kernel), lookup_putF, if_neg (by decide +kernel), lookup_putF, if_neg (by decide +kernel), lookup_putF, if_pos rfl]
theorem rf_none (tx d la lb dch : Addr) {z : Str} (h : (z == "changes") = false ∧ (z == "heavy") = false ∧ (z == "light") = false ∧ (z == "told_rules") = false ∧ (z == "text") = false) : (rf tx d la lb dch).lookup z = none := by
  obtain ⟨h1, h2, h3, h4, h5⟩ := h
  unfold rf rf1
  rw [lookup_putF, if_neg (by intro e; rw [beq_iff_eq.mpr e] at h1; cases h1), lookup_putF, if_neg (by intro e; rw [beq_iff_eq.mpr e] at h2; cases h2), lookup_putF, if_neg (by intro e; rw [beq_iff_eq.mpr e] at h3; cases h3), lookup_putF, if_neg (by intro e; rw [beq_iff_eq.mpr e] at h4; cases h4),
    lookup_putF, if_neg (by intro e; rw [beq_iff_eq.mpr e] at h5; cases h5)]
  rfl
/-- the parts of the block, as a row sees them -/
def loopC (h o : Int) (ss : List Int) : List (Int × Int × Int) := ss.map fun s => (chM h o s, mn 0 (chM h o s), 1)
def w1 (h o : Int) (ss : List Int) : Int × Int := walkM (loopC h o ss)
def w2 (h o : Int) (ss : List Int) (R : Int) : Int × Int := walkM [((w1 h o ss).1, (w1 h o ss).2, R)]
theorem chM_b (h o s : Int) : -1 ≤ chM h o s ∧ chM h o s ≤ 1 := by
  unfold chM
  split <;> split <;> omega
theorem w1_b (h o : Int) (ss : List Int) : -(ss.length : Int) ≤ (w1 h o ss).1 ∧ (w1 h o ss).1 ≤ ss.length := by
  have key : ∀ (l : List Int) (a : Int × Int) (k : Int), -k ≤ a.1 → a.1 ≤ k → -(k + l.length) ≤ ((loopC h o l).foldl stepW a).1 ∧ ((loopC h o l).foldl stepW a).1 ≤ k + l.length := by
    intro l
    induction l with
    | nil =>
      intro a k h1 h2
      have e : ((([] : List Int).length : Nat) : Int) = 0 := rfl
      rw [e]
      show -(k + 0) ≤ a.1 ∧ a.1 ≤ k + 0
      omega
    | cons s l ih =>
      intro a k h1 h2
      have hs := chM_b h o s
      have := ih (stepW a (chM h o s, mn 0 (chM h o s), 1)) (k + 1) (by show -(k + 1) ≤ a.1 + chM h o s * 1; omega) (by show a.1 + chM h o s * 1 ≤ k + 1; omega)
      have e : (((s :: l).length : Nat) : Int) = (l.length : Int) + 1 := by rw [List.length_cons]; omega
      rw [e]
      have z : (loopC h o (s :: l)).foldl stepW a = (loopC h o l).foldl stepW (stepW a (chM h o s, mn 0 (chM h o s), 1)) := rfl
      rw [z]
      omega
  have := key ss (0, 0) 0 (by decide) (by decide)
  have e : w1 h o ss = (loopC h o ss).foldl stepW (0, 0) := rfl
  rw [e]
  omega
structure RowAt (CT CR : Addr) (H : Hp) (x : Addr) (h o : Int) (ss : List Int) (R : Int) : Prop where
  ex : ∃ dx tx d la lb dch tl tt c1 c2 : Addr, H x = some (.ins CR dx (rf tx d la lb dch)) ∧ TextAt CT H tx ss R ∧ H d = some (.dK (two tl tt)) ∧ RulesC H tl tt ss R ∧ H la = some (.lst [.int h]) ∧ H lb = some (.lst [.int o]) ∧
    H dch = some (.dK (two c1 c2)) ∧ H c1 = some (.tup [.int (w1 h o ss).1, .int (w1 h o ss).2]) ∧ H c2 = some (.tup [.int (w2 h o ss R).1, .int (w2 h o ss R).2])
section
variable {P : Program} {w : World} {K : PySem.W.Frag} {mg : Str → Option Value} {base : Heap} {CC CT CR : Addr}
def spRowI (CT CR : Addr) : Sp := fun vs H Q _ => ∃ (x dx tx la lb : Addr) (h o : Int) (ss : List Int) (R : Int), vs = [.ref x, .ref tx, .ref la, .ref lb] ∧ H x = some (.ins CR dx []) ∧ tx ≠ x ∧ TextAt CT H tx ss R ∧ H la = some (.lst [.int h]) ∧ H lb = some (.lst [.int o]) ∧ ss.length ≤ 40 ∧
  ∀ H', ExB x H H' → RowAt CT CR H' x h o ss R → Q .non H'
theorem ok_RowWalk_init (T : Txt K mg CC CT CR) (D : Dk K mg "RowWalk" CR "RowWalk.__init__" s_RowWalk_init ["self", "text", "light", "heavy"] []) {prop prg : Addr} {fdR : FuncData} (prR : PropOf K CT "rules" prop prg) (FRules : FnOk P w K mg base C8.CX0 1 prg fdR ["self"] (spRules CT)) (bRules : Binds K fdR ["self"] [])
    (c_from_below : C8.Cal P w K mg base 1 "from_below" (spFrom K) []) (m_walked : C8.Met P w K mg base 2 CR "walked" (spWalked CR) []) :
    C8.Mak P w K mg base 3 "RowWalk" CR (spRowI CT CR) [] := by
  refine D.mak sc_RowWalk_init (fun vs H Q E h => ?_) (fun f cdv A outer s H vs Q E hr h => ?_)
  · obtain ⟨x, dx, tx, la, lb, h, o, ss, R, rfl, _⟩ := h
    rfl
  obtain ⟨x, dx, tx, la, lb, h, o, ss, R, rfl, hx, ntx, hT, hla, hlb, h40, q⟩ := h
  refine ⟨_, (pss_cons
      (ps_fld (pv 0) (pv 1) rfl)
      (pss_cons
      (ps_fld (pv 0) (pe_prop (pv 1) T.clT prR FRules (hr.mono (by decide)) bRules .nil (C8.pass0 (E := C8.E0)) rfl) rfl)
      (pss_cons
      (ps_fld (pv 0) (pv 2) rfl)
      (pss_cons
      (ps_fld (pv 0) (pv 3) rfl)
      (pss_cons
      (ps_fld (pv 0) pe_dnewK rfl)
      (pss_one
      (ps_for PassesOwn.never rfl (pi_list (C8.pe_c c_from_below hr (by decide) (by rfl) (pa_cons (pe_fld (pv 0) rfl) pa_nil))) (pg_name (i := 4) sc_RowWalk_init.nd rfl (Or.inl rfl)) (pss_one
        (ps_dput (hu_of hr) (pe_fld (pv 0) rfl) (pv 4) (C8.pe_mt m_walked hr (by decide) (pv 0) (pa_cons (pe_dget (hu_of hr) (pe_fld (pv 0) rfl) (pv 4) (fun _ _ => rfl)) pa_nil)) rfl))))))))), ?_⟩
  obtain ⟨⟨dt, d0, dc, tl, tt, l1, l2, t1, t2, t3, t4, t5, t6⟩⟩ := id hT
  refine ⟨_, rfl, _, rfl, x, CR, dx, [], rfl, hx, T.clR, T.nR_text, by show 0 < 1000; decide, ?_⟩
  have b1 : ExB x H (upd H x (.ins CR dx (putF "text" (.ref tx) []))) := (ExB.of (Ex.refl H)).put
  have hx1 : (upd H x (.ins CR dx (putF "text" (.ref tx) []))) x = some (.ins CR dx (putF "text" (.ref tx) [])) := upd_same
  generalize (upd H x (.ins CR dx (putF "text" (.ref tx) []))) = H1 at b1 hx1
  have nd0 : d0 ≠ x := ne_of t2 hx (by intro e; cases e)
  refine ⟨_, rfl, tx, dt, _, rfl, b1 _ _ t1 ntx, tx, dt, d0, _, _, rfl, b1 _ _ t1 ntx, (tf_not _ _ _ (by decide +kernel)).trans (tf4_own_rules _ _), b1 _ _ t2 nd0, fun d nd => ?_⟩
  have nxd : x ≠ d := ne_of_none hx1 nd
  refine ⟨_, rfl, x, CR, dx, _, rfl, by rw [upd_ne nxd]; exact hx1, T.clR, T.nR_told_rules, by show 1 < 1000; decide, ?_⟩
  refine ⟨_, rfl, _, rfl, x, CR, dx, _, rfl, upd_same, T.clR, T.nR_light, by show 2 < 1000; decide, ?_⟩
  refine ⟨_, rfl, _, rfl, x, CR, dx, _, rfl, upd_same, T.clR, T.nR_heavy, by show 3 < 1000; decide, ?_⟩
  rw [upd_upd, upd_upd]
  have b2 : ExB x H (upd (upd H1 d (.dK (two tl tt))) x (.ins CR dx (putF "heavy" (.ref lb) (putF "light" (.ref la) (rf1 tx d))))) := (b1.ex (Ex.new nd)).put
  have hx2 : (upd (upd H1 d (.dK (two tl tt))) x (.ins CR dx (putF "heavy" (.ref lb) (putF "light" (.ref la) (rf1 tx d))))) x = some (.ins CR dx (putF "heavy" (.ref lb) (putF "light" (.ref la) (rf1 tx d)))) := upd_same
  have hd2 : (upd (upd H1 d (.dK (two tl tt))) x (.ins CR dx (putF "heavy" (.ref lb) (putF "light" (.ref la) (rf1 tx d))))) d = some (.dK (two tl tt)) := by rw [upd_ne nxd.symm, upd_same]
  generalize (upd (upd H1 d (.dK (two tl tt))) x (.ins CR dx (putF "heavy" (.ref lb) (putF "light" (.ref la) (rf1 tx d))))) = H2 at b2 hx2 hd2
  have nHd : H d = none := by
    cases hz : H d with
    | none => rfl
    | some o =>
      have := b1 d o hz nxd.symm
      rw [nd] at this
      cases this
  refine fun dch nch => ?_
  have nxc : x ≠ dch := ne_of_none hx2 nch
  refine ⟨_, rfl, x, CR, dx, putF "heavy" (.ref lb) (putF "light" (.ref la) (rf1 tx d)), rfl, by rw [upd_ne nxc]; exact hx2, T.clR, T.nR_changes, by show 4 < 1000; decide, ?_⟩
  show tSeq _ _ _ _ (upd (upd H2 dch (.dK [])) x (.ins CR dx (rf tx d la lb dch)))
  have nHc : H dch = none := by
    cases hz : H dch with
    | none => rfl
    | some o =>
      have := b2 dch o hz nxc.symm
      rw [nch] at this
      cases this
  have ndc : d ≠ dch := ne_of_none hd2 nch
  have b3 : ExB x H (upd (upd H2 dch (.dK [])) x (.ins CR dx (rf tx d la lb dch))) := (b2.ex (Ex.new nch)).put
  have hx3 : (upd (upd H2 dch (.dK [])) x (.ins CR dx (rf tx d la lb dch))) x = some (.ins CR dx (rf tx d la lb dch)) := upd_same
  have hc3 : (upd (upd H2 dch (.dK [])) x (.ins CR dx (rf tx d la lb dch))) dch = some (.dK []) := by rw [upd_ne nxc.symm, upd_same]
  have hd3 : (upd (upd H2 dch (.dK [])) x (.ins CR dx (rf tx d la lb dch))) d = some (.dK (two tl tt)) := by rw [upd_ne nxd.symm, upd_ne ndc]; exact hd2
  generalize (upd (upd H2 dch (.dK [])) x (.ins CR dx (rf tx d la lb dch))) = H3 at b3 hx3 hc3 hd3
  have hRC3 : RulesC H3 tl tt ss R := ⟨t3.loop.monoN b3 hx (fun _ e => by cases e), t3.top.monoN b3 hx (fun _ e => by cases e)⟩
  refine ⟨_, rfl, x, CR, dx, _, _, rfl, hx3, T.clR, T.nR_told_rules, rf_told_rules _ _ _ _ _, d, tl, tt, ss, R, rfl, hd3, hRC3, fun l H4 e4 hl => ?_⟩
  have hx4 := e4 _ _ hx3
  have hc4 := e4 _ _ hc3
  have hd4 := e4 _ _ hd3
  have hRC4 := hRC3.mono e4
  have b4 := b3.ex e4
  have hla4 := b4 _ _ hla (ne_of hla hx (by intro e; cases e))
  have hlb4 := b4 _ _ hlb (ne_of hlb hx (by intro e; cases e))
  clear hx3 hc3 hd3 b3 e4
  refine ⟨l, rfl, ⟨_, sqL hl⟩, ?_⟩
  have nlc : l ≠ dch := ne_of hl hc4 (by intro e; cases e)
  refine for_list (K := K) (a := l) (xs := [.str "LOOP", .str "TOP"]) (fun i σ H' => ∃ v4 : Option V, σ = [some (.ref x), some (.ref tx), some (.ref la), some (.ref lb), v4] ∧ ExB dch H4 H' ∧ ∃ kvs, H' dch = some (.dK kvs) ∧ (i = 0 → kvs = []) ∧
    (i = 1 → ∃ c1, kvs = [(kL, .ref c1)] ∧ H' c1 = some (.tup [.int (w1 h o ss).1, .int (w1 h o ss).2])) ∧ (i = 2 → ∃ c1 c2, kvs = two c1 c2 ∧ H' c1 = some (.tup [.int (w1 h o ss).1, .int (w1 h o ss).2]) ∧ H' c2 = some (.tup [.int (w2 h o ss R).1, .int (w2 h o ss R).2])))
    ⟨_, rfl, ExB.of (Ex.refl _), [], hc4, fun _ => rfl, fun h => absurd h (by decide), fun h => absurd h (by decide)⟩ (fun i σ H' _ ⟨_, _, b, _⟩ => sqL (b _ _ hl nlc)) ?_ ?_
  · rintro i y σ H5 hi ⟨v4, rfl, b5, kvs, hk, k0, k1, _⟩
    have hlt := (List.getElem?_eq_some_iff.mp hi).1
    have ci : i = 0 ∨ i = 1 := by
      have : ([V.str "LOOP", V.str "TOP"] : List V).length = 2 := rfl
      omega
    have hx5 := b5 _ _ hx4 nxc
    have hd5 := b5 _ _ hd4 ndc
    have hRC5 : RulesC H5 tl tt ss R := ⟨hRC4.loop.monoN b5 hc4 (fun _ e => by cases e), hRC4.top.monoN b5 hc4 (fun _ e => by cases e)⟩
    have hla5 := b5 _ _ hla4 (ne_of hla4 hc4 (by intro e; cases e))
    have hlb5 := b5 _ _ hlb4 (ne_of hlb4 hc4 (by intro e; cases e))
    have hRL : RL CR H5 x dch h o := ⟨⟨dx, _, la, lb, hx5, rf_light _ _ _ _ _, rf_heavy _ _ _ _ _, rf_changes _ _ _ _ _, hla5, hlb5, rf_none _ _ _ _ _ (by decide +kernel)⟩⟩
    rcases ci with rfl | rfl
    · obtain rfl := k0 rfl
      obtain rfl : V.str "LOOP" = y := Option.some.inj hi
      refine ⟨_, rfl, x, dx, _, rfl, hx5, rf_none _ _ _ _ _ (by decide +kernel), _, rfl, x, CR, dx, _, _, rfl, hx5, T.clR, T.nR_told_rules, rf_told_rules _ _ _ _ _, _, rfl, d, .ref tl, rfl, .inl ⟨two tl tt, kL, .inl hd5, rfl, (two_L tl tt).symm⟩, x, dch, tl, h, o, loopP ss, loopC h o ss, rfl, hRL, hRC5.loop, ?_, ?_, fun a H6 e6 ha => ?_⟩
      · unfold loopP loopC
        rw [List.length_map, List.length_map]
      · intro i v n p hi hp
        unfold loopP at hi
        unfold loopC at hp
        rw [List.getElem?_map] at hi hp
        cases hs : ss[i]? with
        | none =>
          rw [hs] at hi
          cases hi
        | some s =>
          rw [hs] at hi hp
          cases hi
          cases hp
          exact ⟨rfl, .inl ⟨s, rfl, rfl, rfl⟩, by have := chM_b h o s; show -1000 < chM h o s; omega, by have := chM_b h o s; show chM h o s < 1000; omega⟩
      · have hk6 := e6 _ _ hk
        have hka : a ≠ dch := ne_of ha hk6 (by intro e; cases e)
        refine ⟨_, rfl, x, CR, dx, _, _, rfl, e6 _ _ hx5, T.clR, T.nR_changes, rf_changes _ _ _ _ _, _, rfl, dch, _, rfl, DPut.k (k := kL) hk6 (sz_lt (by decide)), ?_⟩
        exact ⟨_, rfl, (b5.ex e6).put, _, upd_same, fun h => absurd h (by decide), fun _ => ⟨a, rfl, by rw [upd_ne hka]; exact ha⟩, fun h => absurd h (by decide)⟩
    · obtain ⟨c1, rfl, hc1⟩ := k1 rfl
      obtain rfl : V.str "TOP" = y := Option.some.inj hi
      refine ⟨_, rfl, x, dx, _, rfl, hx5, rf_none _ _ _ _ _ (by decide +kernel), _, rfl, x, CR, dx, _, _, rfl, hx5, T.clR, T.nR_told_rules, rf_told_rules _ _ _ _ _, _, rfl, d, .ref tt, rfl, .inl ⟨two tl tt, kT, .inl hd5, rfl, (two_T tl tt).symm⟩, x, dch, tt, h, o, topP R, [((w1 h o ss).1, (w1 h o ss).2, R)], rfl, hRL, hRC5.top, rfl, ?_, fun a H6 e6 ha => ?_⟩
      · intro i v n p hi hp
        have i0 : i = 0 := by
          have := (List.getElem?_eq_some_iff.mp hi).1
          have l1 : (topP R).length = 1 := rfl
          omega
        subst i0
        cases hi
        cases hp
        have wb := w1_b h o ss
        exact ⟨rfl, .inr ⟨"LOOP", _, c1, rfl, hk, valV_pos rfl, hc1⟩, by show -1000 < (w1 h o ss).1; omega, by show (w1 h o ss).1 < 1000; omega⟩
      · have hk6 := e6 _ _ hk
        have hka : a ≠ dch := ne_of ha hk6 (by intro e; cases e)
        have hkl : c1 ≠ dch := ne_of hc1 hk (by intro e; cases e)
        refine ⟨_, rfl, x, CR, dx, _, _, rfl, e6 _ _ hx5, T.clR, T.nR_changes, rf_changes _ _ _ _ _, _, rfl, dch, _, rfl, DPut.k (k := kT) hk6 (sz_lt (by show 1 < 100000; decide)), ?_⟩
        refine ⟨_, rfl, (b5.ex e6).put, _, upd_same, fun h => absurd h (by decide), fun h => absurd h (by decide), fun _ => ⟨c1, a, ?_, by rw [upd_ne hkl]; exact e6 _ _ hc1, by rw [upd_ne hka]; exact ha⟩⟩
        rw [putK_new _ (valV_neg (fun e => lt_ne (Sum.inr.inj e)))]
        rfl
  rintro σ H5 ⟨v4, rfl, b5, kvs, hk, _, _, k2⟩
  obtain ⟨c1, c2, rfl, hc1, hc2⟩ := k2 rfl
  have bh : ExB x H H5 := fun b o hb nb => b5 _ _ (b4 _ _ hb nb) (ne_of_none hb nHc)
  have kp : ∀ {q : Addr} {u : HO}, H q = some u → (∀ fs, u ≠ .ins CR dx fs) → H5 q = some u := fun {q u} hq hn => bh _ _ hq (ne_of hq hx (hn _))
  refine q _ bh ⟨⟨dx, tx, d, la, lb, dch, tl, tt, c1, c2, b5 _ _ hx4 nxc, ⟨⟨dt, d0, dc, tl, tt, l1, l2, bh _ _ t1 ntx, kp t2 (fun _ e => by cases e), ⟨t3.loop.monoN bh hx (fun _ e => by cases e), t3.top.monoN bh hx (fun _ e => by cases e)⟩, kp t4 (fun _ e => by cases e), kp t5 (fun _ e => by cases e), kp t6 (fun _ e => by cases e)⟩⟩,
    b5 _ _ hd4 ndc, ⟨t3.loop.monoN bh hx (fun _ e => by cases e), t3.top.monoN bh hx (fun _ e => by cases e)⟩, kp hla (fun _ e => by cases e), kp hlb (fun _ e => by cases e), hk, hc1, hc2⟩⟩
end
end LJ

set_option maxHeartbeats 4000000
namespace LJ
open PySem PySem.Spec PyProof.Rows L2 Evl
/-- a part as the entering sees it: the part, change, least change, how often, its size -/
structure PD where
  v : V
  c : Int
  lo : Int
  n : Int
  z : Int
def turnsM (p : PD) (start : Int) : Int := if start + p.lo < 0 then 0 else (start + p.lo) / (-p.c) + 1
def entM : List PD → Int → Int → Option (V × Int × Int)
  | [], _, _ => none
  | p :: l, st, sz => if st + p.lo + mn 0 p.c * (p.n - 1) < 0 then some (p.v, st + turnsM p st * p.c, sz + turnsM p st * p.z) else entM l (st + p.c * p.n) (sz + p.n * p.z)
def PartZ (H : Hp) (dc : Addr) (v : V) (z : Int) : Prop := (∃ s, v = .int s ∧ z = 1) ∨ (∃ nm kvs l cs, v = .str nm ∧ H dc = some (.dK kvs) ∧ valV kvs (.inr nm) = some (.ref l) ∧ H l = some (.lst (List.map V.int cs)) ∧ z = cs.sum)
theorem PartZ.mono {H H' : Hp} {dc : Addr} {z : Int} {v : V} (e : Ex H H') (q : PartZ H dc v z) : PartZ H' dc v z := by
  rcases q with q | ⟨nm, kvs, l, cs, h1, h2, h3, h4, h5⟩
  · exact .inl q
  · exact .inr ⟨nm, kvs, l, cs, h1, e _ _ h2, h3, e _ _ h4, h5⟩
section
variable {P : Program} {w : World} {K : PySem.W.Frag} {mg : Str → Option Value} {base : Heap} {CC CT CR : Addr}
def spEnt (CT CR : Addr) : Sp := fun vs H Q _ => ∃ (x dx tx d la lb dch t dc : Addr) (kvs : List (Key × V)) (nm : Str) (start h o : Int) (l : List (V × Int)) (cs : List PD) (r : V × Int × Int), vs = [.ref x, .str nm, .int start] ∧ H x = some (.ins CR dx (rf tx d la lb dch)) ∧ RL CR H x dch h o ∧ TL CT H tx dc ∧
  H d = some (.dK kvs) ∧ valV kvs (.inr nm) = some (.ref t) ∧ PartsT H t l ∧ l.length = cs.length ∧
  (∀ (i : Nat) (v : V) (n : Int) (p : PD), l[i]? = some (v, n) → cs[i]? = some p → p.v = v ∧ p.n = n ∧ 1 ≤ n ∧ PartH H dch h o v p.c p.lo ∧ PartZ H dc v p.z ∧ -1000 < p.c ∧ p.c < 1000 ∧ -1000 < p.z ∧ p.z < 1000) ∧ entM cs start 0 = some r ∧
  ∀ a H2, Ex H H2 → H2 a = some (.tup [r.1, .int r.2.1, .int r.2.2]) → Q (.ref a) H2
theorem ok_entered (T : Txt K mg CC CT CR) (D : Dm K CR "entered" "RowWalk.entered" s_RowWalk_entered ["self", "name", "start"]) (m_change_of : C8.Met P w K mg base 1 CR "change_of" (spChange CR) []) (m_size_of : C8.Met P w K mg base 1 CT "size_of" (spSize CT) []) :
    C8.Met P w K mg base 2 CR "entered" (spEnt CT CR) [] := by
  refine D.met sc_RowWalk_entered (fun vs H Q E h => ?_) (fun f cdv A outer s H vs Q E hr h => ?_)
  · obtain ⟨x, dx, tx, d, la, lb, dch, t, dc, kvs, nm, start, h, o, l, cs, r, rfl, _⟩ := h
    rfl
  obtain ⟨x, dx, tx, d, la, lb, dch, t, dc, kvs, nm, start, h, o, l, cs, r, rfl, hx, hR, hT, hd, hv, ⟨ps, hps, hpl⟩, hlen, hc, hr0, q⟩ := h
  refine ⟨_, (pss_cons
      (ps_set (i := 3) sc_RowWalk_entered.nd rfl (Or.inl rfl) pe_int)
      (pss_cons
      (ps_for PassesOwn.never rfl (pi_tup (pe_dget (hu_of hr) (pe_fld (pv 0) rfl) (pv 1) (fun _ _ => rfl))) (pg_tup rfl (pgs_cons (pg_name (i := 4) sc_RowWalk_entered.nd rfl (Or.inl rfl)) (pgs_cons (pg_name (i := 5) sc_RowWalk_entered.nd rfl (Or.inl rfl)) pgs_nil))) (pss_cons
        (ps_asg (C8.pe_mt m_change_of hr (by decide) (pv 0) (pa_cons (pv 4) pa_nil)) (pg_tup rfl (pgs_cons (pg_name (i := 6) sc_RowWalk_entered.nd rfl (Or.inl rfl)) (pgs_cons (pg_name (i := 7) sc_RowWalk_entered.nd rfl (Or.inl rfl)) pgs_nil))))
        (pss_cons
        (ps_if (pt_cmpR op_lt (pe_op op_add (pe_op op_add (pv 2) (pv 7)) (pe_op op_mul (pe_callB (call_min2 rfl) (by rfl) T.f_min boot_min (pa_cons pe_int (pa_cons (pv 6) pa_nil))) (pe_op op_sub (pv 5) pe_int))) pe_int (nomark _)) (pss_cons
          (ps_set (i := 8) sc_RowWalk_entered.nd rfl (Or.inl rfl) (pe_ifExp (pt_cmpR op_lt (pe_op op_add (pv 2) (pv 7)) pe_int (nomark _)) pe_int (pe_op op_add (pe_op op_fdiv (pe_op op_add (pv 2) (pv 7)) (pe_un un_neg (pv 6))) pe_int)))
          (pss_one
          (ps_ret (pe_tup (pa_cons (pv 4) (pa_cons (pe_op op_add (pv 2) (pe_op op_mul (pv 8) (pv 6))) (pa_cons (pe_op op_add (pv 3) (pe_op op_mul (pv 8) (C8.pe_mt m_size_of hr (by decide) (pe_fld (pv 0) rfl) (pa_cons (pv 4) pa_nil)))) pa_nil))))))) pss_nil)
        (pss_cons
        (ps_aug (i := 2) sc_RowWalk_entered.nd rfl (Or.inl rfl) (pe_op op_mul (pv 6) (pv 5)) ip_add)
        (pss_one
        (ps_aug (i := 3) sc_RowWalk_entered.nd rfl (Or.inl rfl) (pe_op op_mul (pv 5) (C8.pe_mt m_size_of hr (by decide) (pe_fld (pv 0) rfl) (pa_cons (pv 4) pa_nil))) ip_add))))))
      (pss_one
      (ps_ret (pe_tup (pa_cons (pv 1) (pa_cons (pv 2) (pa_cons (pv 3) pa_nil)))))))), ?_⟩
  refine ⟨_, rfl, x, CR, dx, _, _, rfl, hx, T.clR, T.nR_told_rules, rf_told_rules _ _ _ _ _, _, rfl, d, .ref t, rfl, .inl ⟨kvs, .inr nm, .inl hd, rfl, hv.symm⟩, t, rfl, ⟨_, sqT hps⟩, ?_⟩
  refine for_tup (K := K) (a := t) (xs := ps.map V.ref) (fun i σ H' => ∃ (st sz : Int) (v4 v5 v6 v7 : Option V), σ = [some (.ref x), some (.str nm), some (.int st), some (.int sz), v4, v5, v6, v7, none] ∧ Ex H H' ∧ entM (cs.drop i) st sz = some r)
    ⟨start, 0, none, none, none, none, rfl, Ex.refl H, hr0⟩ (fun i σ H' _ ⟨_, _, _, _, _, _, _, e, _⟩ => sqT (e _ _ hps)) ?_ ?_
  · rintro i y σ H2 hi ⟨st, sz, v4, v5, v6, v7, rfl, e2, hent⟩
    obtain ⟨p, hp, rfl⟩ := get_ref hi
    have hlt : i < l.length := by
      rw [← hpl.1]
      exact (List.getElem?_eq_some_iff.mp hp).1
    have hlt2 : i < cs.length := by omega
    have hpH := hpl.2 i p l[i].1 l[i].2 hp (List.getElem?_eq_getElem hlt)
    have hcc2 := hc i l[i].1 l[i].2 cs[i] (List.getElem?_eq_getElem hlt) (List.getElem?_eq_getElem hlt2)
    rw [List.drop_eq_getElem_cons hlt2] at hent
    generalize l[i].1 = v at hpH hcc2
    generalize l[i].2 = n at hpH hcc2
    generalize cs[i] = c at hcc2 hent
    obtain ⟨rfl, rfl, hn, hP, hZ, hb1, hb2, hb3, hb4⟩ := hcc2
    refine ⟨p, _, rfl, sqT (e2 _ _ hpH), rfl, _, _, rfl, _, _, rfl, rfl, ?_⟩
    refine ⟨_, rfl, x, dx, _, rfl, e2 _ _ hx, rf_none _ _ _ _ _ (by decide +kernel), _, rfl, x, dch, c.v, h, o, c.c, c.lo, rfl, hR.mono e2, hP.mono e2, fun t2 H3 e3 ht2 => ?_⟩
    refine ⟨t2, _, rfl, sqT ht2, rfl, _, _, rfl, _, _, rfl, rfl, ?_⟩
    have bm : -1000 < mn 0 c.c ∧ mn 0 c.c < 1000 := by
      unfold mn
      split <;> omega
    have e23 := e2.trans e3
    refine ⟨_, rfl, _, rfl, _, _, rfl, rfl, _, rfl, _, _, rfl, _, rfl, _, _, rfl, rfl, _, _, rfl, rfl, .inl ?_, _, _, rfl, rfl, _, _, rfl, rfl, _, rfl, ?_⟩
    · show -(2 ^ 64) < mn 0 c.c ∧ mn 0 c.c < 2 ^ 64
      omega
    unfold entM at hent
    have hid : (if c.c < 0 then c.c else 0) = mn 0 c.c := rfl
    rw [hid]
    cases hdd : decide (st + c.lo + mn 0 c.c * (c.n - 1) < 0) with
    | true =>
      have hlt0 := of_decide_eq_true hdd
      rw [if_pos hlt0] at hent
      obtain rfl := Option.some.inj hent
      refine ⟨_, rfl, _, rfl, _, _, rfl, rfl, _, _, rfl, rfl, _, rfl, ?_⟩
      have hT3 := hT.mono e23
      obtain ⟨dxt, fst, htx, _, _, _, _, hn4⟩ := id hT3
      have hx3 := e23 _ _ hx
      cases hd2 : decide (st + c.lo < 0) with
      | true =>
        have ht : turnsM c st = 0 := by
          unfold turnsM
          rw [if_pos (of_decide_eq_true hd2)]
        rw [ht] at q
        refine ⟨_, rfl, _, rfl, _, rfl, _, rfl, _, _, rfl, rfl, .inl ⟨by decide, by decide⟩, _, _, rfl, rfl, ?_⟩
        rcases hZ.mono e23 with ⟨sv, z1, z2⟩ | ⟨nm2, kvs2, l2, cs2, z1, z2, z3, z4, z5⟩
        · rw [z2] at q hb3 hb4
          refine ⟨_, rfl, _, rfl, _, rfl, x, CR, dx, _, _, rfl, hx3, T.clR, T.nR_text, rf_text _ _ _ _ _, tx, dxt, fst, rfl, htx, hn4, _, rfl, tx, dc, c.v, rfl, hT3, .inl ⟨sv, z1, ?_⟩⟩
          refine ⟨_, _, rfl, rfl, .inl ⟨by decide, by decide⟩, _, _, rfl, rfl, by show 3 ≤ sizeLine; decide, fun a na => ?_⟩
          exact q a _ (e23.of_new na) upd_same
        · rw [z5] at q hb3 hb4
          refine ⟨_, rfl, _, rfl, _, rfl, x, CR, dx, _, _, rfl, hx3, T.clR, T.nR_text, rf_text _ _ _ _ _, tx, dxt, fst, rfl, htx, hn4, _, rfl, tx, dc, c.v, rfl, hT3, .inr ⟨nm2, kvs2, l2, cs2, z1, z2, z3, z4, ?_⟩⟩
          refine ⟨_, _, rfl, rfl, .inl ⟨by decide, by decide⟩, _, _, rfl, rfl, by show 3 ≤ sizeLine; decide, fun a na => ?_⟩
          exact q a _ (e23.of_new na) upd_same
      | false =>
        have hn2 := of_decide_eq_false hd2
        have hneg : c.c < 0 := by
          refine Decidable.byContradiction fun hge => ?_
          have : mn 0 c.c = 0 := by
            unfold mn
            rw [if_neg hge]
          rw [this] at hlt0
          omega
        have ht : turnsM c st = (st + c.lo) / (-c.c) + 1 := by
          unfold turnsM
          rw [if_neg hn2]
        rw [ht] at q
        refine ⟨_, rfl, _, rfl, _, _, rfl, rfl, _, rfl, _, rfl, _, _, rfl, rfl, ⟨by omega, by omega⟩, _, _, rfl, rfl, ?_⟩
        refine ⟨_, rfl, _, rfl, _, rfl, _, rfl, _, _, rfl, rfl, .inr ⟨by omega, by omega⟩, _, _, rfl, rfl, ?_⟩
        rcases hZ.mono e23 with ⟨sv, z1, z2⟩ | ⟨nm2, kvs2, l2, cs2, z1, z2, z3, z4, z5⟩
        · rw [z2] at q hb3 hb4
          refine ⟨_, rfl, _, rfl, _, rfl, x, CR, dx, _, _, rfl, hx3, T.clR, T.nR_text, rf_text _ _ _ _ _, tx, dxt, fst, rfl, htx, hn4, _, rfl, tx, dc, c.v, rfl, hT3, .inl ⟨sv, z1, ?_⟩⟩
          refine ⟨_, _, rfl, rfl, .inr ⟨by omega, by omega⟩, _, _, rfl, rfl, by show 3 ≤ sizeLine; decide, fun a na => ?_⟩
          exact q a _ (e23.of_new na) upd_same
        · rw [z5] at q hb3 hb4
          refine ⟨_, rfl, _, rfl, _, rfl, x, CR, dx, _, _, rfl, hx3, T.clR, T.nR_text, rf_text _ _ _ _ _, tx, dxt, fst, rfl, htx, hn4, _, rfl, tx, dc, c.v, rfl, hT3, .inr ⟨nm2, kvs2, l2, cs2, z1, z2, z3, z4, ?_⟩⟩
          refine ⟨_, _, rfl, rfl, .inr ⟨by omega, by omega⟩, _, _, rfl, rfl, by show 3 ≤ sizeLine; decide, fun a na => ?_⟩
          exact q a _ (e23.of_new na) upd_same
    | false =>
      have hlt0 := of_decide_eq_false hdd
      rw [if_neg hlt0] at hent
      refine ⟨_, rfl, _, rfl, _, rfl, _, _, rfl, rfl, .inl ⟨by omega, by omega⟩, _, _, rfl, rfl, ?_⟩
      have hT3 := hT.mono e23
      obtain ⟨dxt, fst, htx, _, _, _, _, hn4⟩ := id hT3
      have hx3 := e23 _ _ hx
      rcases hZ.mono e23 with ⟨sv, z1, z2⟩ | ⟨nm2, kvs2, l2, cs2, z1, z2, z3, z4, z5⟩
      · rw [z2] at hent hb3 hb4
        refine ⟨_, rfl, _, rfl, _, rfl, x, CR, dx, _, _, rfl, hx3, T.clR, T.nR_text, rf_text _ _ _ _ _, tx, dxt, fst, rfl, htx, hn4, _, rfl, tx, dc, c.v, rfl, hT3, .inl ⟨sv, z1, ?_⟩⟩
        refine ⟨_, _, rfl, rfl, .inr ⟨by omega, by omega⟩, _, _, rfl, rfl, ?_⟩
        exact ⟨_, _, _, _, _, _, rfl, e23, hent⟩
      · rw [z5] at hent hb3 hb4
        refine ⟨_, rfl, _, rfl, _, rfl, x, CR, dx, _, _, rfl, hx3, T.clR, T.nR_text, rf_text _ _ _ _ _, tx, dxt, fst, rfl, htx, hn4, _, rfl, tx, dc, c.v, rfl, hT3, .inr ⟨nm2, kvs2, l2, cs2, z1, z2, z3, z4, ?_⟩⟩
        refine ⟨_, _, rfl, rfl, .inr ⟨by omega, by omega⟩, _, _, rfl, rfl, ?_⟩
        exact ⟨_, _, _, _, _, _, rfl, e23, hent⟩
  · rintro σ H2 ⟨st, sz, v4, v5, v6, v7, rfl, e2, hent⟩
    rw [List.drop_of_length_le (by rw [List.length_map, hpl.1, hlen]; exact Nat.le_refl _)] at hent
    cases hent
def topPD (h o : Int) (ss : List Int) (R : Int) : List PD := [⟨.str "LOOP", (w1 h o ss).1, (w1 h o ss).2, R, (cntL ss).sum⟩]
def loopPD (h o : Int) (ss : List Int) : List PD := ss.map fun s => ⟨.int s, chM h o s, mn 0 (chM h o s), 1, 1⟩
theorem cntL_sum {ss : List Int} (h : ∀ s ∈ ss, 0 ≤ s ∧ s ≤ 2) : (cntL ss).sum = ss.length := by
  have key : ∀ (l : List Int) (a b c : Int), (∀ s ∈ l, 0 ≤ s ∧ s ≤ 2) → ((l.map fun s => ((1 : Int), ind s)).foldl (fun a p => addm p.1 a p.2) [a, b, c]).sum = a + b + c + l.length := by
    intro l
    induction l with
    | nil =>
      intro a b c _
      show a + (b + (c + 0)) = a + b + c + (0 : Nat)
      omega
    | cons s l ih =>
      intro a b c hl
      have hs := hl s List.mem_cons_self
      have c3 : s = 0 ∨ s = 1 ∨ s = 2 := by omega
      have hl2 : ∀ t ∈ l, 0 ≤ t ∧ t ≤ 2 := fun t ht => hl t (List.mem_cons_of_mem _ ht)
      rw [List.length_cons]
      rcases c3 with rfl | rfl | rfl
      · have := ih (a + 1 * 1) (b + 1 * 0) (c + 1 * 0) hl2
        refine Eq.trans this ?_
        omega
      · have := ih (a + 1 * 0) (b + 1 * 1) (c + 1 * 0) hl2
        refine Eq.trans this ?_
        omega
      · have := ih (a + 1 * 0) (b + 1 * 0) (c + 1 * 1) hl2
        refine Eq.trans this ?_
        omega
  have := key ss 0 0 0 h
  refine Eq.trans this ?_
  omega
def spFirst (CT CR : Addr) : Sp := fun vs H Q _ => ∃ (x : Addr) (start h o : Int) (ss : List Int) (R : Int), vs = [.ref x, .int start] ∧ RowAt CT CR H x h o ss R ∧ ss.length ≤ 40 ∧ (∀ s ∈ ss, 0 ≤ s ∧ s ≤ 2) ∧ 1 ≤ R ∧
  ((0 ≤ start + (w2 h o ss R).2 ∧ RetV .non H Q) ∨ (start + (w2 h o ss R).2 < 0 ∧ ∃ s1 z1 sv s2 z2, entM (topPD h o ss R) start 0 = some (.str "LOOP", s1, z1) ∧ entM (loopPD h o ss) s1 0 = some (.int sv, s2, z2) ∧ RetV (.int (0 + z1 + z2 + 1)) H Q))
theorem ok_first_below (T : Txt K mg CC CT CR) (D : Dm K CR "first_below" "RowWalk.first_below" s_RowWalk_first_below ["self", "start"]) (m_entered : C8.Met P w K mg base 2 CR "entered" (spEnt CT CR) []) :
    C8.Met P w K mg base 3 CR "first_below" (spFirst CT CR) [] := by
  refine D.met sc_RowWalk_first_below (fun vs H Q E h => ?_) (fun f cdv A outer s H vs Q E hr h => ?_)
  · obtain ⟨x, start, h, o, ss, R, rfl, _⟩ := h
    rfl
  obtain ⟨x, start, h, o, ss, R, rfl, ⟨⟨dx, tx, d, la, lb, dch, tl, tt, c1, c2, hx, hT, hd, hRC, hla, hlb, hdch, hc1, hc2⟩⟩, h40, h012, hR1, q⟩ := h
  refine ⟨_, (pss_cons
      (ps_if (pt_cmpR op_ge (pe_op op_add (pv 1) (pe_ix ix_tup (pe_dget (hu_of hr) (pe_fld (pv 0) rfl) (pe_fld (pe_fld (pv 0) rfl) rfl) (fun _ _ => rfl)) pe_int (fun _ _ => rfl))) pe_int (nomark _)) (pss_one
        (ps_ret pe_non)) pss_nil)
      (pss_cons
      (ps_par (i := 2) (j := 3) (by rfl) sc_RowWalk_first_below.nd rfl rfl (by decide) rfl rfl (pa_cons (pe_fld (pe_fld (pv 0) rfl) rfl) (pa_cons pe_int pa_nil)) (by rfl))
      (pss_cons
      (ps_while PassesOwn.never (pt_val (pe_callB call_isi (by rfl) T.f_isinstance boot_isinstance (pa_cons (pv 2) (pa_cons (pe_bltn (v := .ty "str") (by rfl) T.f_str boot_str rfl) pa_nil)))) (pss_cons
        (ps_asg (C8.pe_mt m_entered hr (by decide) (pv 0) (pa_cons (pv 2) (pa_cons (pv 1) pa_nil))) (pg_tup rfl (pgs_cons (pg_name (i := 2) sc_RowWalk_first_below.nd rfl (Or.inl rfl)) (pgs_cons (pg_name (i := 1) sc_RowWalk_first_below.nd rfl (Or.inl rfl)) (pgs_cons (pg_name (i := 4) sc_RowWalk_first_below.nd rfl (Or.inl rfl)) pgs_nil)))))
        (pss_one
        (ps_aug (i := 3) sc_RowWalk_first_below.nd rfl (Or.inl rfl) (pv 4) ip_add))))
      (pss_one
      (ps_ret (pe_op op_add (pv 3) pe_int)))))), ?_⟩
  obtain ⟨⟨dt, d0, dc, tl0, tt0, l1, l2, t1, t2, t3, t4, t5, t6⟩⟩ := hT
  have hroot : (tf d0 dc (cntT ss R).sum).lookup ("root" : Str) = some (.str "TOP") := (tf_not _ _ _ (by decide +kernel)).trans (tf4_root _ _)
  refine ⟨_, rfl, _, rfl, x, CR, dx, _, _, rfl, hx, T.clR, T.nR_changes, rf_changes _ _ _ _ _, _, rfl, x, CR, dx, _, _, rfl, hx, T.clR, T.nR_text, rf_text _ _ _ _ _, tx, CT, dt, _, _, rfl, t1, T.clT, T.nT_root, hroot, dch, .ref c2, rfl, .inl ⟨two c1 c2, kT, .inl hdch, rfl, (two_T c1 c2).symm⟩, ?_⟩
  refine ⟨c2, _, _, .int (w2 h o ss R).2, rfl, rfl, sqT hc2, rfl, _, _, rfl, rfl, _, _, rfl, rfl, _, rfl, ?_⟩
  rcases q with ⟨q0, q⟩ | ⟨q0, s1, z1, sv, s2, z2, E1, E2, q⟩
  · rw [decide_eq_true q0]
    exact q H (Ex.refl H)
  rw [decide_eq_false (by omega)]
  refine ⟨_, rfl, x, CR, dx, _, _, rfl, hx, T.clR, T.nR_text, rf_text _ _ _ _ _, tx, CT, dt, _, _, rfl, t1, T.clT, T.nT_root, hroot, _, _, rfl, ?_⟩
  have wb := w1_b h o ss
  have hsz := cntL_sum h012
  refine ⟨fun m σ H' => ∃ (v : V) (st sz : Int) (v4 : Option V), σ = [some (.ref x), some (.int st), some v, some (.int sz), v4] ∧ Ex H H' ∧
    ((m = 2 ∧ v = .str "TOP" ∧ st = start ∧ sz = 0) ∨ (m = 1 ∧ v = .str "LOOP" ∧ st = s1 ∧ sz = 0 + z1) ∨ (m = 0 ∧ v = .int sv ∧ st = s2 ∧ sz = 0 + z1 + z2)), ⟨2, _, _, _, none, rfl, Ex.refl H, .inl ⟨rfl, rfl, rfl, rfl⟩⟩, ?_⟩
  rintro m σ H1 ⟨v, st, sz, v4, rfl, e1, ⟨rfl, rfl, rfl, rfl⟩ | ⟨rfl, rfl, rfl, rfl⟩ | ⟨rfl, rfl, rfl, rfl⟩⟩
  · refine ⟨_, rfl, _, _, _, _, true, rfl, .ty "str", .base (.str _), kit_str_str, true, rfl, ?_⟩
    refine ⟨fun σ' H' => ∃ m', m' < 2 ∧ _, fun σ' H' h => h, ?_⟩
    have hRL : RL CR H1 x dch h o := ⟨⟨dx, _, la, lb, e1 _ _ hx, rf_light _ _ _ _ _, rf_heavy _ _ _ _ _, rf_changes _ _ _ _ _, e1 _ _ hla, e1 _ _ hlb, rf_none _ _ _ _ _ (by decide +kernel)⟩⟩
    refine ⟨_, rfl, x, dx, _, rfl, e1 _ _ hx, rf_none _ _ _ _ _ (by decide +kernel), _, rfl, _, rfl, x, dx, tx, d, la, lb, dch, tt, dc, two tl tt, "TOP", st, h, o, topP R, topPD h o ss R, _, rfl, e1 _ _ hx, hRL, TL.of5 (e1 _ _ t1), e1 _ _ hd, two_T tl tt, hRC.top.mono e1, rfl, ?_, E1, fun a H2 e2 ha => ?_⟩
    · intro i v n p hi hp
      have i0 : i = 0 := by
        have := (List.getElem?_eq_some_iff.mp hi).1
        have l1 : (topP R).length = 1 := rfl
        omega
      subst i0
      cases hi
      cases hp
      refine ⟨rfl, rfl, hR1, .inr ⟨"LOOP", two c1 c2, c1, rfl, e1 _ _ hdch, two_L c1 c2, e1 _ _ hc1⟩, .inr ⟨"LOOP", two l1 l2, l1, cntL ss, rfl, e1 _ _ t4, two_L l1 l2, e1 _ _ t5, rfl⟩, ?_, ?_, ?_, ?_⟩
      · show -1000 < (w1 h o ss).1
        omega
      · show (w1 h o ss).1 < 1000
        omega
      · show -1000 < (cntL ss).sum
        omega
      · show (cntL ss).sum < 1000
        omega
    refine ⟨a, _, rfl, sqT ha, rfl, _, _, rfl, _, _, rfl, _, _, rfl, rfl, ?_⟩
    refine ⟨_, rfl, _, rfl, _, _, rfl, rfl, ?_⟩
    exact ⟨1, by decide, _, _, _, _, rfl, e1.trans e2, .inr (.inl ⟨rfl, rfl, rfl, rfl⟩)⟩
  · refine ⟨_, rfl, _, _, _, _, true, rfl, .ty "str", .base (.str _), kit_str_str, true, rfl, ?_⟩
    refine ⟨fun σ' H' => ∃ m', m' < 1 ∧ _, fun σ' H' h => h, ?_⟩
    have hRL : RL CR H1 x dch h o := ⟨⟨dx, _, la, lb, e1 _ _ hx, rf_light _ _ _ _ _, rf_heavy _ _ _ _ _, rf_changes _ _ _ _ _, e1 _ _ hla, e1 _ _ hlb, rf_none _ _ _ _ _ (by decide +kernel)⟩⟩
    refine ⟨_, rfl, x, dx, _, rfl, e1 _ _ hx, rf_none _ _ _ _ _ (by decide +kernel), _, rfl, _, rfl, x, dx, tx, d, la, lb, dch, tl, dc, two tl tt, "LOOP", st, h, o, loopP ss, loopPD h o ss, _, rfl, e1 _ _ hx, hRL, TL.of5 (e1 _ _ t1), e1 _ _ hd, two_L tl tt, hRC.loop.mono e1, ?_, ?_, E2, fun a H2 e2 ha => ?_⟩
    · unfold loopP loopPD
      rw [List.length_map, List.length_map]
    · intro i v n p hi hp
      unfold loopP at hi
      unfold loopPD at hp
      rw [List.getElem?_map] at hi hp
      cases hs : ss[i]? with
      | none =>
        rw [hs] at hi
        cases hi
      | some s =>
        rw [hs] at hi hp
        cases hi
        cases hp
        have cb := chM_b h o s
        refine ⟨rfl, rfl, by decide, .inl ⟨s, rfl, rfl, rfl⟩, .inl ⟨s, rfl, rfl⟩, ?_, ?_, show (-1000 : Int) < 1 by decide, show (1 : Int) < 1000 by decide⟩
        · show -1000 < chM h o s
          omega
        · show chM h o s < 1000
          omega
    refine ⟨a, _, rfl, sqT ha, rfl, _, _, rfl, _, _, rfl, _, _, rfl, rfl, ?_⟩
    refine ⟨_, rfl, _, rfl, _, _, rfl, rfl, ?_⟩
    exact ⟨0, by decide, _, _, _, _, rfl, e1.trans e2, .inr (.inr ⟨rfl, rfl, rfl, rfl⟩)⟩
  · refine ⟨_, rfl, _, _, _, _, false, rfl, .ty "str", .base (.int _), kit_int_str, false, rfl, ?_⟩
    exact ⟨_, rfl, _, _, rfl, rfl, q H1 e1⟩
end
end LJ

set_option maxHeartbeats 4000000
namespace LJ
open PySem PySem.Spec PyProof.Rows L2 Evl
/-- what the law adds for a sign -/
def dS (h o s : Int) : Int := (if decide (V.int s = V.int o) = true then 1 else 0) - (if decide (V.int s = V.int h) = true then 1 else 0)
def pre (h o : Int) (ss : List Int) (i : Nat) : Int := ((ss.take i).map (dS h o)).sum
theorem pre_zero (h o : Int) (ss : List Int) : pre h o ss 0 = 0 := rfl
theorem pre_cons (h o s : Int) (ss : List Int) (i : Nat) : pre h o (s :: ss) (i + 1) = dS h o s + pre h o ss i := by
  unfold pre
  rw [List.take_succ_cons, List.map_cons, List.sum_cons]
theorem pre_succ {h o : Int} {ss : List Int} {i : Nat} {s : Int} (hs : ss[i]? = some s) : pre h o ss (i + 1) = pre h o ss i + dS h o s := by
  unfold pre
  rw [take_snoc hs, List.map_append, List.sum_append]
  simp
def walkL (h o : Int) (ss : List Int) : List Int := (List.range ss.length).map fun i => pre h o ss (i + 1)
theorem in1 (s h : Int) : inV (.int s) [.int h] = decide (V.int s = V.int h) := by
  show ((h == s) || false) = decide (V.int s = V.int h)
  by_cases e : s = h
  · subst e
    rw [decide_eq_true rfl]
    simp
  · rw [decide_eq_false (fun z => e (V.int.inj z))]
    have : (h == s) = false := by
      rw [beq_eq_false_iff_ne]
      exact fun z => e z.symm
    rw [this]
    rfl
theorem chM_neg (h o s : Int) : chM h o s = - dS h o s := by
  unfold chM dS
  rw [in1, in1]
  omega
/-- the first index behind which the walk is above st -/
def fi (h o : Int) : List Int → Int → Option Nat
  | [], _ => none
  | s :: l, st => if st < dS h o s then some 0 else (fi h o l (st - dS h o s)).map (· + 1)
theorem fi_some {h o : Int} : ∀ {ss : List Int} {st : Int} {i : Nat}, fi h o ss st = some i → i < ss.length ∧ st < pre h o ss (i + 1) ∧ ∀ j, j < i → ¬ st < pre h o ss (j + 1)
  | [], _, _, e => by cases e
  | s :: l, st, i, e => by
    unfold fi at e
    by_cases c : st < dS h o s
    · rw [if_pos c] at e
      cases e
      refine ⟨Nat.zero_lt_succ _, ?_, fun j hj => by omega⟩
      rw [pre_cons, pre_zero]
      omega
    · rw [if_neg c] at e
      cases hf : fi h o l (st - dS h o s) with
      | none =>
        rw [hf] at e
        cases e
      | some k =>
        rw [hf] at e
        obtain rfl : k + 1 = i := Option.some.inj e
        obtain ⟨a, b, d⟩ := fi_some hf
        refine ⟨by rw [List.length_cons]; omega, ?_, fun j hj => ?_⟩
        · rw [pre_cons]
          omega
        · cases j with
          | zero =>
            rw [pre_cons, pre_zero]
            omega
          | succ j =>
            have := d j (by omega)
            rw [pre_cons]
            omega
theorem fi_none {h o : Int} : ∀ {ss : List Int} {st : Int}, fi h o ss st = none → ∀ j, j < ss.length → ¬ st < pre h o ss (j + 1)
  | [], _, _, j, hj => by cases hj
  | s :: l, st, e, j, hj => by
    unfold fi at e
    by_cases c : st < dS h o s
    · rw [if_pos c] at e
      cases e
    · rw [if_neg c] at e
      cases hf : fi h o l (st - dS h o s) with
      | some k =>
        rw [hf] at e
        cases e
      | none =>
        cases j with
        | zero =>
          rw [pre_cons, pre_zero]
          omega
        | succ j =>
          have := fi_none hf j (by rw [List.length_cons] at hj; omega)
          rw [pre_cons]
          omega
theorem filt_head {h o : Int} {ss : List Int} {st : Int} {i : Nat} {p : Nat → Bool} (e : fi h o ss st = some i) (hp : ∀ j, p j = decide (st < pre h o ss (j + 1))) : ((List.range ss.length).filter p)[0]? = some i := by
  obtain ⟨a, b, c⟩ := fi_some e
  rw [← List.head?_eq_getElem?, List.head?_filter, List.find?_range_eq_some]
  refine ⟨by rw [hp, decide_eq_true b], List.mem_range.mpr a, fun j hj => by rw [hp, decide_eq_false (c j hj)]; rfl⟩
/-- what the law's function answers, mx the greatest of its walk -/
def spotM (lead : Int) (h o : Int) (ss : List Int) (R b : Int) : V := if R ≤ b then .non else .int (b * ss.length + ((fi h o ss (lead - b * pre h o ss ss.length)).getD 0 : Nat) + 1)
def passedM (lead mx : Int) (h o : Int) (ss : List Int) (R : Int) : V :=
  if mx ≤ lead then (if pre h o ss ss.length ≤ 0 then .non else spotM lead h o ss R ((lead - mx) / pre h o ss ss.length + 1)) else spotM lead h o ss R 0
theorem ent_loop {h o : Int} : ∀ {ss : List Int} {st : Int} {sz : Int} {i : Nat}, 0 ≤ st → fi h o ss st = some i → ∃ sv s2, entM (loopPD h o ss) st sz = some (.int sv, s2, sz + i)
  | [], _, _, _, _, e => by cases e
  | s :: l, st, sz, i, h0, e => by
    have hc := chM_neg h o s
    unfold fi at e
    show ∃ sv s2, entM (⟨.int s, chM h o s, mn 0 (chM h o s), 1, 1⟩ :: loopPD h o l) st sz = _
    unfold entM
    have z : st + mn 0 (chM h o s) + mn 0 (chM h o s) * ((1 : Int) - 1) = st + mn 0 (chM h o s) := by omega
    show ∃ sv s2, (if st + mn 0 (chM h o s) + mn 0 (chM h o s) * ((1 : Int) - 1) < 0 then _ else _) = _
    rw [z]
    by_cases c : st < dS h o s
    · rw [if_pos c] at e
      cases e
      have cc : st + mn 0 (chM h o s) < 0 := by
        unfold mn
        split <;> omega
      rw [if_pos cc]
      have tz : turnsM ⟨.int s, chM h o s, mn 0 (chM h o s), 1, 1⟩ st = 0 := by
        unfold turnsM
        rw [if_pos cc]
      rw [tz]
      refine ⟨s, st + 0 * chM h o s, ?_⟩
      show some (V.int s, st + 0 * chM h o s, sz + 0 * 1) = some (V.int s, st + 0 * chM h o s, sz + ((0 : Nat) : Int))
      have : sz + 0 * 1 = sz + ((0 : Nat) : Int) := by omega
      rw [this]
    · rw [if_neg c] at e
      have cc : ¬ st + mn 0 (chM h o s) < 0 := by
        unfold mn
        split <;> omega
      rw [if_neg cc]
      cases hf : fi h o l (st - dS h o s) with
      | none =>
        rw [hf] at e
        cases e
      | some k =>
        rw [hf] at e
        obtain rfl : k + 1 = i := Option.some.inj e
        have e1 : st + chM h o s * 1 = st - dS h o s := by omega
        obtain ⟨sv, s2, x⟩ := ent_loop (ss := l) (st := st - dS h o s) (sz := sz + 1 * 1) (i := k) (by omega) hf
        refine ⟨sv, s2, ?_⟩
        show entM (loopPD h o l) (st + chM h o s * 1) (sz + 1 * 1) = _
        rw [e1, x]
        have : sz + 1 * 1 + (k : Int) = sz + ((k + 1 : Nat) : Int) := by omega
        rw [this]
theorem walk_facts {h o : Int} {ss : List Int} : ∀ i, i ≤ ss.length → (walkM (loopC h o (ss.take i))).1 = - pre h o ss i ∧ (∀ j, j ≤ i → (walkM (loopC h o (ss.take i))).2 ≤ - pre h o ss j) ∧ ∃ j, j ≤ i ∧ (walkM (loopC h o (ss.take i))).2 = - pre h o ss j
  | 0, _ => by
    refine ⟨by rw [pre_zero]; rfl, fun j hj => ?_, 0, Nat.le_refl 0, by rw [pre_zero]; rfl⟩
    obtain rfl : j = 0 := by omega
    rw [pre_zero]
    show (0 : Int) ≤ -0
    decide
  | i + 1, hi => by
    obtain ⟨a, b, k, hk, c⟩ := walk_facts (h := h) (o := o) (ss := ss) i (by omega)
    have hs := List.getElem?_eq_getElem (show i < ss.length by omega)
    have hp := pre_succ (h := h) (o := o) hs
    have hc := chM_neg h o ss[i]
    have ew : walkM (loopC h o (ss.take (i + 1))) = stepW (walkM (loopC h o (ss.take i))) (chM h o ss[i], mn 0 (chM h o ss[i]), 1) := by
      rw [take_snoc hs, ← walkM_snoc]
      unfold loopC
      rw [List.map_append]
      rfl
    rw [ew]
    generalize walkM (loopC h o (ss.take i)) = W at a b c
    have e1 : (stepW W (chM h o ss[i], mn 0 (chM h o ss[i]), 1)).1 = W.1 + chM h o ss[i] * 1 := rfl
    have e2 : (stepW W (chM h o ss[i], mn 0 (chM h o ss[i]), 1)).2 = mn W.2 (W.1 + mn 0 (chM h o ss[i]) + mn 0 (chM h o ss[i]) * (1 - 1)) := rfl
    rw [e1, e2]
    have b0 := b i (Nat.le_refl i)
    have e3 : W.1 + mn 0 (chM h o ss[i]) + mn 0 (chM h o ss[i]) * (1 - 1) = W.1 + mn 0 (chM h o ss[i]) := by omega
    rw [e3]
    refine ⟨by omega, fun j hj => ?_, ?_⟩
    · by_cases ej : j = i + 1
      · subst ej
        unfold mn
        split <;> split at * <;> omega
      · have := b j (by omega)
        unfold mn
        split <;> split at * <;> omega
    · by_cases hm : W.1 + mn 0 (chM h o ss[i]) < W.2
      · have em : mn W.2 (W.1 + mn 0 (chM h o ss[i])) = W.1 + mn 0 (chM h o ss[i]) := by
          unfold mn at *
          rw [if_pos hm]
        rw [em]
        have : mn 0 (chM h o ss[i]) = chM h o ss[i] := by
          unfold mn at *
          split at hm
          · rename_i z
            rw [if_pos z]
          · omega
        rw [this]
        exact ⟨i + 1, Nat.le_refl _, by omega⟩
      · have em : mn W.2 (W.1 + mn 0 (chM h o ss[i])) = W.2 := by
          unfold mn at *
          rw [if_neg hm]
        rw [em]
        exact ⟨k, by omega, c⟩
def IsMax (m : Int) (l : List Int) : Prop := m ∈ l ∧ ∀ y ∈ l, y ≤ m
theorem mem_walk {h o : Int} {ss : List Int} {m : Int} : m ∈ walkL h o ss ↔ ∃ i, i < ss.length ∧ m = pre h o ss (i + 1) := by
  unfold walkL
  rw [List.mem_map]
  constructor
  · rintro ⟨i, hi, rfl⟩
    exact ⟨i, List.mem_range.mp hi, rfl⟩
  · rintro ⟨i, hi, rfl⟩
    exact ⟨i, List.mem_range.mpr hi, rfl⟩
theorem fi_ex {h o : Int} {ss : List Int} {st m : Int} (hm : m ∈ walkL h o ss) (hl : st < m) : ∃ i, fi h o ss st = some i := by
  obtain ⟨j, hj, rfl⟩ := mem_walk.mp hm
  cases hf : fi h o ss st with
  | some i => exact ⟨i, rfl⟩
  | none => exact absurd hl (fi_none hf j hj)
/-- the program's way and the law's way answer alike -/
theorem plain {h o : Int} {ss : List Int} {R start mx : Int} (h0 : 0 ≤ start) (hR : 1 ≤ R) (hn : 0 < ss.length) (h012 : ∀ s ∈ ss, 0 ≤ s ∧ s ≤ 2) (hm : IsMax mx (walkL h o ss)) :
    (0 ≤ start + (w2 h o ss R).2 ∧ passedM start mx h o ss R = .non) ∨ (start + (w2 h o ss R).2 < 0 ∧ ∃ s1 z1 sv s2 z2, entM (topPD h o ss R) start 0 = some (.str "LOOP", s1, z1) ∧ entM (loopPD h o ss) s1 0 = some (.int sv, s2, z2) ∧ passedM start mx h o ss R = .int (0 + z1 + z2 + 1)) := by
  obtain ⟨f1, f2, j, hj, f3⟩ := walk_facts (h := h) (o := o) (ss := ss) ss.length (Nat.le_refl _)
  rw [List.take_length] at f1 f2 f3
  have f1 : (w1 h o ss).1 = - pre h o ss ss.length := f1
  have f2 : ∀ j, j ≤ ss.length → (w1 h o ss).2 ≤ - pre h o ss j := f2
  have f3 : (w1 h o ss).2 = - pre h o ss j := f3
  have hlo0 : (w1 h o ss).2 ≤ 0 := by
    have := f2 0 (Nat.zero_le _)
    rw [pre_zero] at this
    omega
  have hlom : (w1 h o ss).2 ≤ - mx := by
    obtain ⟨i, hi, e⟩ := mem_walk.mp hm.1
    rw [e]
    exact f2 (i + 1) hi
  have hlo : (w1 h o ss).2 = 0 ∨ (w1 h o ss).2 = - mx := by
    cases j with
    | zero => exact .inl (by rw [f3, pre_zero]; rfl)
    | succ j =>
      have := hm.2 _ (mem_walk.mpr ⟨j, hj, rfl⟩)
      exact .inr (by omega)
  have hnow : pre h o ss ss.length ≤ mx := by
    have : ss.length = ss.length - 1 + 1 := by omega
    exact hm.2 _ (mem_walk.mpr ⟨ss.length - 1, by omega, by rw [← this]⟩)
  have hz := cntL_sum h012
  have ew2 : (w2 h o ss R).2 = mn 0 (0 + (w1 h o ss).2 + mn 0 (w1 h o ss).1 * (R - 1)) := rfl
  have etop : entM (topPD h o ss R) start 0 = if start + (w1 h o ss).2 + mn 0 (w1 h o ss).1 * (R - 1) < 0 then some (.str "LOOP", start + turnsM ⟨.str "LOOP", (w1 h o ss).1, (w1 h o ss).2, R, (cntL ss).sum⟩ start * (w1 h o ss).1, 0 + turnsM ⟨.str "LOOP", (w1 h o ss).1, (w1 h o ss).2, R, (cntL ss).sum⟩ start * (cntL ss).sum) else none := rfl
  generalize hlw : (w1 h o ss).2 = low at *
  generalize hcw : (w1 h o ss).1 = c at *
  generalize hpw : pre h o ss ss.length = now at *
  subst f1
  by_cases hA : mx ≤ start
  · by_cases hB : now ≤ 0
    · left
      have : mn 0 (-now) = 0 := by
        unfold mn
        rw [if_neg (by omega)]
      rw [ew2, this]
      refine ⟨?_, by unfold passedM; rw [if_pos hA, hpw, if_pos hB]⟩
      unfold mn
      split <;> omega
    · have hlm : low = - mx := by omega
      have hmn : mn 0 (-now) = -now := by
        unfold mn
        rw [if_pos (by omega)]
      have epv : passedM start mx h o ss R = spotM start h o ss R ((start - mx) / now + 1) := by
        unfold passedM
        rw [if_pos hA, hpw, if_neg hB]
      generalize hq : (start - mx) / now = t at *
      have hnp : 0 < now := by omega
      have q1 : t * now ≤ start - mx := by
        rw [← hq]
        exact Int.ediv_mul_le _ (by omega)
      have q2 : start - mx < (t + 1) * now := by
        rw [← hq]
        exact Int.lt_ediv_add_one_mul_self _ hnp
      have q2' : start - mx < t * now + now := by
        rw [Int.add_mul, Int.one_mul] at q2
        exact q2
      by_cases hC : R ≤ t + 1
      · left
        refine ⟨?_, by rw [epv]; unfold spotM; rw [if_pos hC]⟩
        have : (R - 1) * now ≤ t * now := Int.mul_le_mul_of_nonneg_right (by omega) (by omega)
        rw [ew2, hmn]
        have e : -now * (R - 1) = -((R - 1) * now) := by rw [Int.neg_mul, Int.mul_comm]
        rw [e]
        unfold mn
        split <;> omega
      · right
        have r1 : (t + 1) * now ≤ (R - 1) * now := Int.mul_le_mul_of_nonneg_right (by omega) (by omega)
        have e : -now * (R - 1) = -((R - 1) * now) := by rw [Int.neg_mul, Int.mul_comm]
        have cond : start + low + mn 0 (-now) * (R - 1) < 0 := by
          rw [hmn, e]
          omega
        have ht : turnsM ⟨.str "LOOP", -now, low, R, (cntL ss).sum⟩ start = t + 1 := by
          unfold turnsM
          show (if start + low < 0 then 0 else (start + low) / (- -now) + 1) = t + 1
          rw [if_neg (by omega), Int.neg_neg, hlm, ← hq]
          rfl
        rw [if_pos cond, ht] at etop
        have s1e : start + (t + 1) * -now = start - (t + 1) * now := by rw [Int.mul_neg]; rfl
        have e4 : (t + 1) * now = t * now + now := by rw [Int.add_mul, Int.one_mul]
        have hs1 : 0 ≤ start - (t + 1) * now := by omega
        obtain ⟨i, hi⟩ := fi_ex (h := h) (o := o) (ss := ss) (st := start - (t + 1) * now) hm.1 (by omega)
        obtain ⟨sv, s2, x⟩ := ent_loop (sz := 0) hs1 hi
        refine ⟨?_, _, _, sv, s2, _, etop, by rw [s1e]; exact x, ?_⟩
        · rw [ew2]
          unfold mn at cond ⊢
          split at cond <;> split <;> omega
        · rw [epv]
          unfold spotM
          rw [if_neg hC, hpw, hi, hz]
          simp
  · right
    have hlm : low = - mx := by omega
    have hneg : mn 0 (-now) * (R - 1) ≤ 0 := by
      have : mn 0 (-now) ≤ 0 := by
        unfold mn
        split <;> omega
      exact Int.mul_nonpos_of_nonpos_of_nonneg this (by omega)
    have cond : start + low + mn 0 (-now) * (R - 1) < 0 := by omega
    have ht : turnsM ⟨.str "LOOP", -now, low, R, (cntL ss).sum⟩ start = 0 := by
      unfold turnsM
      show (if start + low < 0 then 0 else (start + low) / (- -now) + 1) = 0
      rw [if_pos (by omega)]
    rw [if_pos cond, ht] at etop
    obtain ⟨i, hi⟩ := fi_ex (h := h) (o := o) (ss := ss) (st := start) hm.1 (by omega)
    obtain ⟨sv, s2, x⟩ := ent_loop (sz := 0) h0 hi
    have s1e : start + 0 * -now = start := by omega
    refine ⟨?_, _, _, sv, s2, _, etop, by rw [s1e]; exact x, ?_⟩
    · rw [ew2]
      unfold mn at cond ⊢
      split at cond <;> split <;> omega
    · unfold passedM
      rw [if_neg hA]
      unfold spotM
      have e0 : start - 0 * pre h o ss ss.length = start := by omega
      rw [if_neg (by omega), e0, hi, hz]
      simp
end LJ

set_option maxHeartbeats 4000000
namespace LJ
open PySem PySem.Spec PyProof.Rows L2 Evl
def othersM (h : Int) : List Int := if h = 0 then [1, 2] else if h = 1 then [0, 2] else [0, 1]
theorem rows_others {h : Int} (h3 : h = 0 ∨ h = 1 ∨ h = 2) : rowsM h = (othersM h).map fun o => ([h], [o]) := by
  rcases h3 with rfl | rfl | rfl
  · exact rowsM_at.1
  · exact rowsM_at.2.1
  · exact rowsM_at.2.2
theorem others_in {h o : Int} (m : o ∈ othersM h) : o = 0 ∨ o = 1 ∨ o = 2 := by
  unfold othersM at m
  split at m
  · simp only [List.mem_cons, List.not_mem_nil, or_false] at m
    omega
  · split at m <;> (simp only [List.mem_cons, List.not_mem_nil, or_false] at m; omega)
/-- the count of a sign -/
def cn (a b c s : Int) : Int := if s = 0 then a else if s = 1 then b else c
theorem cn_at {a b c s : Int} (hs : s = 0 ∨ s = 1 ∨ s = 2) : atI ([a, b, c].map V.int) s = some (.int (cn a b c s)) := by
  rcases hs with rfl | rfl | rfl <;> rfl
def intOf : V → Option Int
  | .int k => some k
  | _ => none
/-- a least of a list, or None -/
def IsRes (v : V) (l : List Int) : Prop := (l = [] ∧ v = .non) ∨ ∃ m, v = .int m ∧ m ∈ l ∧ ∀ y ∈ l, m ≤ y
theorem IsRes.one {v u : V} {l : List Int} (a : IsRes v l) (b : IsRes u l) : v = u := by
  rcases a with ⟨e, rfl⟩ | ⟨m, rfl, hm, hl⟩ <;> rcases b with ⟨e2, rfl⟩ | ⟨n, rfl, hn, hk⟩
  · rfl
  · rw [e] at hn
    cases hn
  · rw [e2] at hm
    cases hm
  · have := hl n hn
    have := hk m hm
    have : m = n := by omega
    rw [this]
theorem cost_least {a b c h : Int} (h3 : h = 0 ∨ h = 1 ∨ h = 2) (hg : a ≤ cn a b c h ∧ b ≤ cn a b c h ∧ c ≤ cn a b c h) : costL [a, b, c] (lens h) = least3 a b c := by
  rcases h3 with rfl | rfl | rfl
  · have e : cn a b c 0 = a := rfl
    rw [e] at hg
    show a * 1 + (b * 2 + (c * 2 + 0)) = least3 a b c
    unfold least3
    split <;> split <;> omega
  · have e : cn a b c 1 = b := rfl
    rw [e] at hg
    show a * 2 + (b * 1 + (c * 2 + 0)) = least3 a b c
    unfold least3
    split <;> split <;> omega
  · have e : cn a b c 2 = c := rfl
    rw [e] at hg
    show a * 2 + (b * 2 + (c * 1 + 0)) = least3 a b c
    unfold least3
    split <;> split <;> omega
section
variable {P : Program} {w : World} {K : PySem.W.Frag} {mg : Str → Option Value} {base : Heap} {CC CT CR : Addr}
/-- what is found for the other signs -/
def foundL (a b c h R : Int) (ss : List Int) (mx : Int → Int) (os : List Int) : List Int := os.filterMap fun o => intOf (passedM (cn a b c h - cn a b c o) (mx o) h o ss R)
def spLost (K : PySem.W.Frag) (CC CT : Addr) : Sp := fun vs H Q _ => ∃ (p q tx : Addr) (a b c h R : Int) (ss : List Int) (mx : Int → Int), vs = [.ref p, .ref q, .ref tx] ∧ CodeAt CC H p h ∧ SqL K H q ([a, b, c].map V.int) ∧ TextAt CT H tx ss R ∧ 0 ≤ a ∧ 0 ≤ b ∧ 0 ≤ c ∧
  (a ≤ cn a b c h ∧ b ≤ cn a b c h ∧ c ≤ cn a b c h) ∧ 0 < ss.length ∧ ss.length ≤ 40 ∧ (∀ s ∈ ss, 0 ≤ s ∧ s ≤ 2) ∧ 1 ≤ R ∧ (∀ o ∈ othersM h, IsMax (mx o) (walkL h o ss)) ∧ ∀ v, IsRes v (foundL a b c h R ss mx (othersM h)) → RetV v H Q
theorem ok_first_lost (T : Txt K mg CC CT CR) (D : Df K mg "first_lost" "first_lost" s_first_lost ["code", "counts", "text"]) (c_check_code : C8.Cal P w K mg base 3 "check_code" (spPair K CC) []) (c_cost : C8.Cal P w K mg base 4 "cost" (spCost K CC) [])
    (c_cost_of : C8.Cal P w K mg base 1 "cost_of" (spCostOf K) []) (c_rows_of : C8.Cal P w K mg base 2 "rows_of" (spRowsOf K CC) []) (k_RowWalk : C8.Mak P w K mg base 3 "RowWalk" CR (spRowI CT CR) []) (m_first_below : C8.Met P w K mg base 3 CR "first_below" (spFirst CT CR) []) :
    C8.Cal P w K mg base 5 "first_lost" (spLost K CC CT) [] := by
  refine D.cal sc_first_lost (fun vs H Q E h => ?_) (fun f cdv A outer s H vs Q E hr h => ?_)
  · obtain ⟨p, q, tx, a, b, c, h, R, ss, mx, rfl, _⟩ := h
    rfl
  obtain ⟨p, q, tx, a, b, c, h, R, ss, mx, rfl, hC, hS, hT, ha, hb, hc, hg, hs0, h40, h012, hR, hmx, qq⟩ := h
  refine ⟨_, (pss_cons
      (ps_if (pt_cmpR op_gt (pe_fld (pv 0) rfl) (C8.pe_gc (by rfl) T.c_MOST_FOR_ROWS) (nomark _)) (pss_one
        ps_never) pss_nil)
      (pss_cons
      (ps_expr (C8.pe_c c_check_code hr (by decide) (by rfl) (pa_cons (pv 0) (pa_cons (pv 1) pa_nil))))
      (pss_cons
      (ps_if (pt_cmpR op_ne (pe_fld (pv 0) rfl) (pe_fld (pv 2) rfl) (nomark _)) (pss_one
        ps_never) pss_nil)
      (pss_cons
      (ps_if (pt_cmpR op_ne (C8.pe_c c_cost hr (by decide) (by rfl) (pa_cons (pv 0) (pa_cons (pv 1) pa_nil))) (C8.pe_c c_cost_of hr (by decide) (by rfl) (pa_cons (pv 1) pa_nil)) (nomark _)) (pss_one
        ps_never) pss_nil)
      (pss_cons
      (ps_set (i := 3) sc_first_lost.nd rfl (Or.inl rfl) (pe_lst pa_nil))
      (pss_cons
      (ps_for PassesOwn.never rfl (pi_list (C8.pe_c c_rows_of hr (by decide) (by rfl) (pa_cons (pv 0) pa_nil))) (pg_tup rfl (pgs_cons (pg_name (i := 4) sc_first_lost.nd rfl (Or.inl rfl)) (pgs_cons (pg_name (i := 5) sc_first_lost.nd rfl (Or.inl rfl)) pgs_nil))) (pss_cons
        (ps_set (i := 6) sc_first_lost.nd rfl (Or.inl rfl) (pe_op op_sub (pe_callB (cr_sum rfl) (by rfl) T.f_sum boot_sum (pa_cons (pe_lc (own := [("sign", 8)]) (g := gName 8) (tt := tYes) rfl sc_first_lost.nd (pi_list (pv 4)) (blkOk_by (own := [("sign", 8)]) (N := ["code", "counts", "text", "found", "light", "heavy", "start", "size", "sign"]) (sc := C8.fnScope s_first_lost) (by decide +kernel)) (fun _ _ _ _ _ => (pg_name (i := 8) sc_first_lost.nd rfl (Or.inl rfl))) (fun _ _ _ _ _ => pts_nil) (fun _ _ _ _ _ => (pe_ix (ix_listK (K := K) rfl) (pv 1) (pv 8) (fun _ _ => rfl)))) pa_nil)) (pe_callB (cr_sum rfl) (by rfl) T.f_sum boot_sum (pa_cons (pe_lc (own := [("sign", 8)]) (g := gName 8) (tt := tYes) rfl sc_first_lost.nd (pi_list (pv 5)) (blkOk_by (own := [("sign", 8)]) (N := ["code", "counts", "text", "found", "light", "heavy", "start", "size", "sign"]) (sc := C8.fnScope s_first_lost) (by decide +kernel)) (fun _ _ _ _ _ => (pg_name (i := 8) sc_first_lost.nd rfl (Or.inl rfl))) (fun _ _ _ _ _ => pts_nil) (fun _ _ _ _ _ => (pe_ix (ix_listK (K := K) rfl) (pv 1) (pv 8) (fun _ _ => rfl)))) pa_nil))))
        (pss_cons
        (ps_set (i := 7) sc_first_lost.nd rfl (Or.inl rfl) (C8.pe_mt m_first_below hr (by decide) (C8.pe_mk k_RowWalk hr (by decide) (by rfl) (pa_cons (pv 2) (pa_cons (pv 4) (pa_cons (pv 5) pa_nil)))) (pa_cons (pv 6) pa_nil)))
        (pss_one
        (ps_if (pt_cmpR op_notN (pv 7) pe_non (nomark _)) (pss_one
          (ps_expr (pe_bm PySem.F.plainAttrs_list PySem.F.slot_list_append PySem.F.type_list_append mt_append (pv 3) (pa_cons (pv 7) pa_nil)))) pss_nil)))))
      (pss_one
      (ps_ret (pe_ifExp (pt_truthK (K := K) rfl (pv 3) (by intro _; rfl)) (pe_callB (cr_min rfl) (by rfl) T.f_min boot_min (pa_cons (pv 3) pa_nil)) pe_non))))))))), ?_⟩
  obtain ⟨⟨dx, lt, wt, h1, h2⟩, h3⟩ := id hC
  obtain ⟨⟨dt, d0, dc, tl0, tt0, l1, l2, t1, t2, t3, t4, t5, t6⟩⟩ := id hT
  have hpos : ∀ n ∈ [a, b, c], (0 : Int) ≤ n := by
    intro n hn
    simp only [List.mem_cons, List.not_mem_nil, or_false] at hn
    omega
  have hsg : (tf d0 dc (cntT ss R).sum).lookup ("signs" : Str) = some (.int 3) := (tf_not _ _ _ (by decide +kernel)).trans (tf4_signs _ _)
  refine ⟨_, rfl, p, CC, dx, _, _, rfl, h1, T.clC, T.nC_size, cf_size _ _ _ _, _, _, rfl, rfl, false, rfl, ?_⟩
  refine ⟨_, rfl, _, rfl, p, q, h, [a, b, c], rfl, hC, hS, rfl, hpos, fun H1 e1 => ?_⟩
  refine ⟨_, rfl, p, CC, dx, _, _, rfl, e1 _ _ h1, T.clC, T.nC_size, cf_size _ _ _ _, _, rfl, tx, CT, dt, _, _, rfl, e1 _ _ t1, T.clT, T.nT_signs, hsg, rfl, false, rfl, ?_⟩
  refine ⟨_, rfl, _, rfl, p, q, h, [a, b, c], rfl, hC.mono e1, ex_l e1 hS, rfl, hpos, fun H2 e2 => ?_⟩
  have e02 := e1.trans e2
  refine ⟨_, rfl, q, a, b, c, rfl, ex_l e02 hS, fun H3 e3 => ?_⟩
  have e03 := e02.trans e3
  rw [cost_least h3 hg]
  refine ⟨rfl, _, rfl, ?_⟩
  rw [decide_eq_true rfl]
  refine ⟨by show 0 ≤ sizeLine; decide, fun fl nf => ?_⟩
  have nHf : H fl = none := by
    cases hz : H fl with
    | none => rfl
    | some o =>
      have := e03 _ _ hz
      rw [nf] at this
      cases this
  have e4 : Ex H (upd H3 fl (.lst [])) := e03.of_new nf
  have hf4 : (upd H3 fl (.lst [])) fl = some (.lst []) := upd_same
  generalize (upd H3 fl (.lst [])) = H4 at e4 hf4
  refine ⟨_, rfl, p, h, rfl, hC.mono e4, fun rl ps H5 e5 hrl hrows => ?_⟩
  rw [rows_others h3] at hrows
  have hf5 := e5 _ _ hf4
  have e05 := e4.trans e5
  obtain ⟨hlen, hrow⟩ := hrows
  have hlen : ps.length = (othersM h).length := by rw [hlen, List.length_map]
  have ho2 : (othersM h).length = 2 := by
    unfold othersM
    split
    · rfl
    · split <;> rfl
  have nrl : rl ≠ fl := ne_of hrl hf5 (by
    intro e
    cases hp : ps with
    | nil =>
      rw [hp, ho2] at hlen
      cases hlen
    | cons x l =>
      rw [hp] at e
      cases e)
  refine ⟨rl, rfl, ⟨_, sqL hrl⟩, ?_⟩
  refine for_list (K := K) (a := rl) (xs := ps.map V.ref) (fun i σ H' => ∃ v4 v5 v6 v7 : Option V, σ = [some (.ref p), some (.ref q), some (.ref tx), some (.ref fl), v4, v5, v6, v7, none] ∧ ExB fl H5 H' ∧ H' fl = some (.lst ((foundL a b c h R ss mx ((othersM h).take i)).map V.int)))
    ⟨none, none, none, none, rfl, ExB.of (Ex.refl H5), by rw [List.take_zero]; exact hf5⟩ (fun i σ H' _ ⟨_, _, _, _, _, bb, _⟩ => sqL (bb _ _ hrl nrl)) ?_ ?_
  · rintro i y σ H6 hi ⟨v4, v5, v6, v7, rfl, b6, hf6⟩
    obtain ⟨pr, hpr, rfl⟩ := get_ref hi
    have hlt : i < (othersM h).length := by
      rw [← hlen]
      exact (List.getElem?_eq_some_iff.mp hpr).1
    have hoi := List.getElem?_eq_getElem hlt
    generalize (othersM h)[i] = o at hoi
    obtain ⟨la, lb, r1, r2, r3⟩ := hrow i pr [h] [o] hpr (by rw [List.getElem?_map, hoi]; rfl)
    have ho := List.mem_of_getElem? hoi
    have ho3 := others_in ho
    have npr : pr ≠ fl := ne_of r1 hf5 (by intro e; cases e)
    have nla : la ≠ fl := ne_of r2 hf5 (by intro e; cases e)
    have nlb : lb ≠ fl := ne_of r3 hf5 (by intro e; cases e)
    have r1' := b6 _ _ r1 npr
    have r2' := b6 _ _ r2 nla
    have r3' := b6 _ _ r3 nlb
    have b06 : Ex H H6 := fun x o hx => b6 _ _ (e05 _ _ hx) (ne_of_none hx nHf)
    refine ⟨pr, _, rfl, sqT r1', rfl, _, _, rfl, _, _, rfl, rfl, ?_⟩
    have hS6 := ex_l b06 hS
    refine ⟨_, rfl, la, rfl, ⟨_, sqL r2'⟩, fun Dl hD => lc_ints (ns := [h]) hD (sqL r2') (fun s => .int (cn a b c s)) (by show 1 < 100000; decide) (fun x => rfl) (fun s H7 hs e => ?_) (fun H7 e7 hL => ?_)⟩
    · obtain rfl := List.mem_singleton.mp hs
      exact ev_op (ev_var rfl) (ev_var rfl) (rv_ixL (ex_l e hS6) (cn_at h3))
    rw [map_int] at hL
    refine ⟨Dl, _, rfl, sqL hL, ?_⟩
    refine ⟨_, rfl, lb, rfl, ⟨_, sqL (e7 _ _ r3')⟩, fun Dm hDm => lc_ints (ns := [o]) hDm (sqL (e7 _ _ r3')) (fun s => .int (cn a b c s)) (by show 1 < 100000; decide) (fun x => rfl) (fun s H8 hs e => ?_) (fun H8 e8 hM => ?_)⟩
    · obtain rfl := List.mem_singleton.mp hs
      exact ev_op (ev_var rfl) (ev_var rfl) (rv_ixL (ex_l (e7.trans e) hS6) (cn_at ho3))
    rw [map_int] at hM
    refine ⟨Dm, _, rfl, sqL hM, _, _, rfl, rfl, ?_⟩
    have est : ([h].map fun s => cn a b c s).sum - ([o].map fun s => cn a b c s).sum = cn a b c h - cn a b c o := by
      show (cn a b c h + 0) - (cn a b c o + 0) = _
      omega
    have e68 := e7.trans e8
    have e08 := b06.trans e68
    have hTx := hT.mono e08
    have hpl := plain (h := h) (o := o) (ss := ss) (R := R) (start := cn a b c h - cn a b c o) (mx := mx o) (by
      have : cn a b c o ≤ cn a b c h := by
        rcases ho3 with rfl | rfl | rfl
        · exact hg.1
        · exact hg.2.1
        · exact hg.2.2
      omega) hR hs0 h012 (hmx o ho)
    have estep : foundL a b c h R ss mx ((othersM h).take (i + 1)) = foundL a b c h R ss mx ((othersM h).take i) ++ (intOf (passedM (cn a b c h - cn a b c o) (mx o) h o ss R)).toList := by
      unfold foundL
      rw [take_snoc hoi, List.filterMap_append]
      congr 1
    rw [← est] at hpl
    refine ⟨_, rfl, _, rfl, _, rfl, fun x dx2 nx nd ndx => ?_⟩
    have ex8 : Ex H8 (upd (upd H8 dx2 (.own x)) x (.ins CR dx2 [])) := (Ex.new nd).of_new (by rw [upd_ne ndx.symm]; exact nx)
    refine ⟨x, dx2, tx, la, lb, h, o, ss, R, rfl, upd_same, ne_of_none (e08 _ _ t1) nx, hTx.mono ex8, ex8 _ _ (e68 _ _ r2'), ex8 _ _ (e68 _ _ r3'), h40, fun H9 b9 hRow => ?_⟩
    have e9 : Ex H8 H9 := b9.made nx nd
    obtain ⟨⟨dxr, txr, dr, lar, lbr, dchr, tlr, ttr, c1r, c2r, hxr, _⟩⟩ := id hRow
    have b59 : ExB fl H5 H9 := b6.ex (e68.trans e9)
    have hf9 := e9 _ _ (e68 _ _ hf6)
    rcases hpl with ⟨p0, pe⟩ | ⟨p0, s1, z1, sv, s2, z2, E1, E2, pe⟩
    · rw [est] at pe
      refine ⟨rfl, x, dxr, _, rfl, hxr, rf_none _ _ _ _ _ (by decide +kernel), _, rfl, x, _, h, o, ss, R, rfl, hRow, h40, h012, hR, .inl ⟨p0, fun H10 e10 => ?_⟩⟩
      refine ⟨_, rfl, rfl, false, rfl, ?_⟩
      refine ⟨_, _, _, _, rfl, b59.ex e10, ?_⟩
      rw [estep, pe]
      simpa [intOf] using e10 _ _ hf9
    · rw [est] at pe
      refine ⟨rfl, x, dxr, _, rfl, hxr, rf_none _ _ _ _ _ (by decide +kernel), _, rfl, x, _, h, o, ss, R, rfl, hRow, h40, h012, hR, .inr ⟨p0, s1, z1, sv, s2, z2, E1, E2, fun H10 e10 => ?_⟩⟩
      refine ⟨_, rfl, rfl, true, rfl, ?_⟩
      have hf10 := e10 _ _ hf9
      refine ⟨_, rfl, .inl ⟨rfl, _, sqL hf10⟩, _, rfl, fl, _, _, rfl, rfl, hf10, ?_, ?_⟩
      · rw [List.length_map]
        have z1 := List.length_filterMap_le (fun o => intOf (passedM (cn a b c h - cn a b c o) (mx o) h o ss R)) ((othersM h).take i)
        have z2 : ((othersM h).take i).length ≤ 2 := by
          rw [List.length_take, ho2]
          exact Nat.min_le_right _ _
        exact sz_lt (Nat.lt_of_le_of_lt (Nat.le_trans z1 z2) (by decide))
      refine ⟨_, _, _, _, rfl, (b59.ex e10).put, ?_⟩
      rw [upd_same, estep, pe, List.map_append]
      rfl
  · rintro σ H6 ⟨v4, v5, v6, v7, rfl, b6, hf6⟩
    rw [List.take_of_length_le (by rw [List.length_map, hlen]; exact Nat.le_refl _)] at hf6
    have b06 : Ex H H6 := fun x o hx => b6 _ _ (e05 _ _ hx) (ne_of_none hx nHf)
    generalize hF : foundL a b c h R ss mx (othersM h) = F at hf6 qq
    cases F with
    | nil =>
      refine ⟨_, rfl, false, .inl ⟨_, sqL hf6, rfl⟩, ?_⟩
      exact qq _ (.inl ⟨rfl, rfl⟩) H6 b06
    | cons x F =>
      refine ⟨_, rfl, true, .inl ⟨_, sqL hf6, rfl⟩, ?_⟩
      refine ⟨_, rfl, fl, x :: F, rfl, sqL hf6, Nat.zero_lt_succ _, fun m hm hl => ?_⟩
      exact qq _ (.inr ⟨m, rfl, hm, hl⟩) H6 b06
end
end LJ

set_option maxHeartbeats 4000000
namespace LJ
open PySem PySem.Spec PyProof.Rows L2 Evl
abbrev kC : Key := .inr ("cells" : Str)
abbrev kA : Key := .inr ("at" : Str)
abbrev kR : Key := .inr ("rest" : Str)
theorem nCA : ¬ kC = kA := fun e => by
  have := Sum.inr.inj e
  revert this
  decide +kernel
theorem nCR : ¬ kC = kR := fun e => by
  have := Sum.inr.inj e
  revert this
  decide +kernel
theorem nAR : ¬ kA = kR := fun e => by
  have := Sum.inr.inj e
  revert this
  decide +kernel
theorem nRA : ¬ kR = kA := fun e => nAR e.symm
/-- the pen, N numbers drawn -/
structure PenX (H : Hp) (pd : Addr) (N : Nat) (ca : Addr) (cells : List Int) (kvs : List (Key × V)) (at_ rest : Int) : Prop where
  hk : H pd = some (.dK kvs)
  v1 : valV kvs kC = some (.ref ca)
  v2 : valV kvs kA = some (.int at_)
  v3 : valV kvs kR = some (.int rest)
  len : kvs.length ≤ 3 + 2 * N
  a0 : 0 ≤ at_
  a1 : at_ ≤ N
  r0 : 0 ≤ rest
  hc : H ca = some (.lst (cells.map V.int))
def PenAt (H : Hp) (pd ca : Addr) (N : Nat) : Prop := ∃ cells kvs at_ rest, PenX H pd N ca cells kvs at_ rest
theorem PenAt.mono {H H' : Hp} {pd ca : Addr} {N : Nat} (e : Ex H H') (h : PenAt H pd ca N) : PenAt H' pd ca N := by
  obtain ⟨cells, kvs, at_, rest, h1, h2, h3, h4, h5, h6, h7, h8, h9⟩ := h
  exact ⟨cells, kvs, at_, rest, e _ _ h1, h2, h3, h4, h5, h6, h7, h8, e _ _ h9⟩
theorem PenAt.wide {H : Hp} {pd ca : Addr} {N M : Nat} (h : PenAt H pd ca N) (hn : N ≤ M) : PenAt H pd ca M := by
  obtain ⟨cells, kvs, at_, rest, h1, h2, h3, h4, h5, h6, h7, h8, h9⟩ := h
  exact ⟨cells, kvs, at_, rest, h1, h2, h3, h4, by omega, h6, by omega, h8, h9⟩
theorem dp_ints {K : PySem.W.Frag} {H : Hp} : ∀ ns : List Int, DpAll K H (ns.map V.int) (ns.map PyData.int)
  | [] => .nil
  | n :: ns => .cons (.int n) (dp_ints ns)
theorem eqv_nil (ns : List Int) : PyData.eqv (.list (ns.map PyData.int)) (.list []) = ns.isEmpty := by
  cases ns <;> rfl
theorem atI_mod {ns : List Int} {i : Int} (h : ns ≠ []) : ∃ c, atI (ns.map V.int) (i % (((ns.map V.int).length : Nat) : Int)) = some (.int c) := by
  rw [List.length_map]
  have hl : 0 < ns.length := by
    cases ns with
    | nil => exact absurd rfl h
    | cons x l => exact Nat.zero_lt_succ _
  have h1 : 0 ≤ i % (ns.length : Int) := Int.emod_nonneg _ (by omega)
  have h2 : i % (ns.length : Int) < ns.length := Int.emod_lt_of_pos _ (by omega)
  obtain ⟨j, hj⟩ := Int.eq_ofNat_of_zero_le h1
  rw [hj] at h2 ⊢
  have hj2 : j < ns.length := by omega
  exact ⟨ns[j], atI_nat (by rw [List.getElem?_map, List.getElem?_eq_getElem hj2]; rfl)⟩
theorem PenAt.put {H : Hp} {pd ca x : Addr} {N : Nat} {o : HO} (h : PenAt H pd ca N) (n1 : pd ≠ x) (n2 : ca ≠ x) : PenAt (upd H x o) pd ca N := by
  obtain ⟨cells, kvs, at_, rest, h1, h2, h3, h4, h5, h6, h7, h8, h9⟩ := h
  exact ⟨cells, kvs, at_, rest, by rw [upd_ne n1]; exact h1, h2, h3, h4, h5, h6, h7, h8, by rw [upd_ne n2]; exact h9⟩
theorem PenAt.new {H : Hp} {pd ca x : Addr} {N : Nat} (h : PenAt H pd ca N) (n : H x = none) : pd ≠ x ∧ ca ≠ x := by
  obtain ⟨cells, kvs, at_, rest, h1, h2, h3, h4, h5, h6, h7, h8, h9⟩ := h
  exact ⟨ne_of_none h1 n, ne_of_none h9 n⟩
theorem PenAt.lst {H : Hp} {pd ca x : Addr} {N : Nat} {xs : List V} (h : PenAt H pd ca N) (n : H x = some (.lst xs)) : x ≠ pd := by
  obtain ⟨cells, kvs, at_, rest, h1, h2, h3, h4, h5, h6, h7, h8, h9⟩ := h
  exact ne_of n h1 (by intro e; cases e)
section
variable {P : Program} {w : World} {K : PySem.W.Frag} {mg : Str → Option Value} {base : Heap} {CC CT CR : Addr}
def spPen (K : PySem.W.Frag) : Sp := fun vs H Q _ => ∃ (a : Addr) (ns : List Int), vs = [.ref a] ∧ SqL K H a (ns.map V.int) ∧ ∀ pd ca H2, Ex H H2 → H pd = none → PenAt H2 pd ca 0 → Q (.ref pd) H2
theorem ok_law_pen (T : Txt K mg CC CT CR) (D : Df K mg "_law_pen" "_law_pen" s_law_pen ["_law_script"]) : C8.Cal P w K mg base 1 "_law_pen" (spPen K) [] := by
  refine D.cal sc_law_pen (fun vs H Q E h => ?_) (fun f cdv A outer s H vs Q E hr h => ?_)
  · obtain ⟨a, ns, rfl, _⟩ := h
    rfl
  obtain ⟨a, ns, rfl, hS, q⟩ := h
  refine ⟨_, (pss_one
      (ps_ret (pe_disp (pps_cons pe_str (pe_callTy call_list_of (by rfl) T.f_list boot_list (pa_cons (pe_slice sl_list (pv 0) po_none (po_some pe_int)) pa_nil)) (pps_cons pe_str pe_int (pps_cons pe_str pe_int pps_nil))) (by rfl) (by rfl) (fun z => by cases z) (by decide)))), ?_⟩
  refine fun pd npd => ?_
  have e0 : Ex H (upd H pd (.dK [])) := Ex.new npd
  have h0 : (upd H pd (.dK [])) pd = some (.dK []) := upd_same
  generalize (upd H pd (.dK [])) = H0 at e0 h0
  refine ⟨_, rfl, 63, rfl, a, _, rfl, ex_l e0 hS, fun p np => ?_⟩
  obtain ⟨ms, hms⟩ : ∃ ms : List Int, cutV (ns.map V.int) none (some 63) = ms.map V.int := by
    unfold cutV
    exact ⟨_, by rw [← List.map_drop, ← List.map_take]⟩
  rw [hms]
  have e1 : Ex H0 (upd H0 p (.lst (ms.map V.int))) := Ex.new np
  have hp1 : (upd H0 p (.lst (ms.map V.int))) p = some (.lst (ms.map V.int)) := upd_same
  generalize (upd H0 p (.lst (ms.map V.int))) = H1 at e1 hp1
  refine ⟨p, _, rfl, .inl (sqL hp1), fun l nl => ?_⟩
  have e2 : Ex H1 (upd H1 l (.lst (ms.map V.int))) := Ex.new nl
  have hl2 : (upd H1 l (.lst (ms.map V.int))) l = some (.lst (ms.map V.int)) := upd_same
  have hpd2 := e2 _ _ (e1 _ _ h0)
  generalize (upd H1 l (.lst (ms.map V.int))) = H2 at e2 hl2 hpd2
  refine ⟨hpd2, [(kC, .ref l), (kA, .int 0), (kR, .int 0)], rfl, by show 3 ≤ 15; decide, ?_⟩
  have em : mergeK [] [(kC, V.ref l), (kA, .int 0), (kR, .int 0)] = putK (putK (putK [] kC (.ref l)) kA (.int 0)) kR (.int 0) := rfl
  rw [em]
  have z1 := length_putK ([] : List (Key × V)) kC (.ref l)
  have z2 := length_putK (putK ([] : List (Key × V)) kC (.ref l)) kA (.int 0)
  have z3 := length_putK (putK (putK ([] : List (Key × V)) kC (.ref l)) kA (.int 0)) kR (.int 0)
  have z0 : ([] : List (Key × V)).length = 0 := rfl
  refine q pd l _ (((e0.trans e1).trans e2).mut npd) npd ⟨ms, _, 0, 0, upd_same, ?_, ?_, ?_, by omega, by decide, by decide, by decide, ?_⟩
  · rw [valV_put, if_neg nCR, valV_put, if_neg nCA, valV_put, if_pos rfl]
  · rw [valV_put, if_neg nAR, valV_put, if_pos rfl]
  · rw [valV_put, if_pos rfl]
  · rw [upd_ne (ne_of hl2 hpd2 (by intro e; cases e))]
    exact hl2
def spDraw : Sp := fun vs H Q _ => ∃ (pd ca : Addr) (m : Int) (N : Nat), vs = [.ref pd, .int m] ∧ PenAt H pd ca N ∧ N < 10000 ∧ 0 < m ∧ m < 1073741824 ∧ ∀ r H2, ExB pd H H2 → PenAt H2 pd ca (N + 1) → 0 ≤ r → r < m → Q (.int r) H2
theorem ok_law_draw (T : Txt K mg CC CT CR) (D : Df K mg "_law_draw" "_law_draw" s_law_draw ["_law_pen_here", "_law_many"]) : C8.Cal P w K mg base 1 "_law_draw" spDraw [] := by
  refine D.cal sc_law_draw (fun vs H Q E h => ?_) (fun f cdv A outer s H vs Q E hr h => ?_)
  · obtain ⟨pd, ca, m, N, rfl, _⟩ := h
    rfl
  obtain ⟨pd, ca, m, N, rfl, ⟨cells, kvs, at_, rest, hP⟩, hN, m0, m1, q⟩ := h
  refine ⟨_, (pss_cons
      (ps_if (pt_cmpR op_gt (pe_dget (hu_of hr) (pv 0) pe_str (fun _ _ => rfl)) pe_int (nomark _)) (pss_cons
        (ps_set (i := 2) sc_law_draw.nd rfl (Or.inl rfl) (pe_op op_mod (pe_callTy call_int1 (by rfl) T.f_int boot_int (pa_cons (pe_dget (hu_of hr) (pv 0) pe_str (fun _ _ => rfl)) pa_nil)) (pv 1)))
        (pss_cons
        (ps_dput (hu_of hr) (pv 0) pe_str (pe_op op_fdiv (pe_dget (hu_of hr) (pv 0) pe_str (fun _ _ => rfl)) (pv 1)) rfl)
        (pss_one
        (ps_ret (pv 2))))) pss_nil)
      (pss_cons
      (ps_set (i := 3) sc_law_draw.nd rfl (Or.inl rfl) (pe_dget (hu_of hr) (pv 0) pe_str (fun _ _ => rfl)))
      (pss_cons
      (ps_dput (hu_of hr) (pv 0) pe_str (pe_op op_add (pv 3) pe_int) rfl)
      (pss_cons
      (ps_if (pt_cmpR (op_eqD hr.units) (pe_dget (hu_of hr) (pv 0) pe_str (fun _ _ => rfl)) (pe_lst pa_nil) (nomark _)) (pss_one
        (ps_ret (pe_op op_mod (pe_callTy call_int1 (by rfl) T.f_int boot_int (pa_cons (pe_op op_add (pe_op op_mul pe_int (pv 3)) pe_int) pa_nil)) (pv 1)))) pss_nil)
      (pss_cons
      (ps_set (i := 4) sc_law_draw.nd rfl (Or.inl rfl) (pe_ix ix_list (pe_dget (hu_of hr) (pv 0) pe_str (fun _ _ => rfl)) (pe_op op_mod (pe_callTy call_int1 (by rfl) T.f_int boot_int (pa_cons (pv 3) pa_nil)) (pe_callB call_len_seq (by rfl) T.f_len boot_len (pa_cons (pe_dget (hu_of hr) (pv 0) pe_str (fun _ _ => rfl)) pa_nil))) (fun _ _ => rfl)))
      (pss_cons
      (ps_if (PW.pt (pw_and (pt_cmpR op_lt (pv 3) (pe_callB call_len_seq (by rfl) T.f_len boot_len (pa_cons (pe_dget (hu_of hr) (pv 0) pe_str (fun _ _ => rfl)) pa_nil)) (nomark _)) (pw_and1 (pt_cmpR op_ge (pe_callB call_abs (by rfl) T.f_abs boot_abs (pa_cons (pv 4) pa_nil)) (pe_op op_pow pe_int pe_int) (nomark _))))) (pss_cons
        (ps_dput (hu_of hr) (pv 0) pe_str (pe_op op_fdiv (pe_op op_sub (pe_callB call_abs (by rfl) T.f_abs boot_abs (pa_cons (pv 4) pa_nil)) (pe_op op_pow pe_int pe_int)) (pv 1)) rfl)
        (pss_one
        (ps_ret (pe_op op_mod (pe_callTy call_int1 (by rfl) T.f_int boot_int (pa_cons (pe_op op_sub (pe_callB call_abs (by rfl) T.f_abs boot_abs (pa_cons (pv 4) pa_nil)) (pe_op op_pow pe_int pe_int)) pa_nil)) (pv 1))))) pss_nil)
      (pss_cons
      (ps_set (i := 5) sc_law_draw.nd rfl (Or.inl rfl) (pe_op op_add (pe_op op_mul (pe_op op_mod (pe_callTy call_int1 (by rfl) T.f_int boot_int (pa_cons (pv 4) pa_nil)) pe_int) pe_int) (pe_op op_mul (pe_op op_mul pe_int (pv 3)) (pv 3))))
      (pss_cons
      (ps_set (i := 5) sc_law_draw.nd rfl (Or.inl rfl) (pe_op op_mod (pe_callTy call_int1 (by rfl) T.f_int boot_int (pa_cons (pe_op op_add (pe_op op_add (pv 5) (pe_op op_mul pe_int (pv 3))) pe_int) pa_nil)) pe_int))
      (pss_cons
      (ps_set (i := 5) sc_law_draw.nd rfl (Or.inl rfl) (pe_op op_mod (pe_callTy call_int1 (by rfl) T.f_int boot_int (pa_cons (pe_op op_add (pe_op op_add (pe_op op_add (pe_op op_mul (pv 5) (pv 5)) (pe_op op_mul pe_int (pv 5))) (pe_op op_mul pe_int (pv 3))) pe_int) pa_nil)) pe_int))
      (pss_one
      (ps_ret (pe_op op_mod (pe_callTy call_int1 (by rfl) T.f_int boot_int (pa_cons (pe_op op_fdiv (pe_op op_mod (pe_callTy call_int1 (by rfl) T.f_int boot_int (pa_cons (pe_op op_mul (pv 5) (pe_op op_add (pv 5) pe_int)) pa_nil)) pe_int) pe_int) pa_nil)) (pv 1))))))))))))), ?_⟩
  refine ⟨_, rfl, pd, .int rest, rfl, .inl ⟨kvs, kR, .inl hP.hk, rfl, hP.v3.symm⟩, _, _, rfl, rfl, _, rfl, ?_⟩
  cases hd : decide (0 < rest) with
  | true =>
    refine ⟨_, rfl, pd, .int rest, rfl, .inl ⟨kvs, kR, .inl hP.hk, rfl, hP.v3.symm⟩, .inl ⟨_, rfl, ?_⟩⟩
    refine ⟨_, rfl, _, _, rfl, rfl, m0, ?_⟩
    refine ⟨_, rfl, pd, .int rest, rfl, .inl ⟨kvs, kR, .inl hP.hk, rfl, hP.v3.symm⟩, _, rfl, _, _, rfl, rfl, ⟨m0, m1⟩, ?_⟩
    refine ⟨_, rfl, pd, _, rfl, DPut.k (k := kR) hP.hk (sz_lt (by have := hP.len; omega)), ?_⟩
    refine ⟨_, rfl, q _ _ ((ExB.of (Ex.refl H)).put) ?_ (Int.emod_nonneg _ (by omega)) (Int.emod_lt_of_pos _ m0)⟩
    exact ⟨cells, _, at_, _, upd_same, by rw [valV_put, if_neg nCR]; exact hP.v1, by rw [valV_put, if_neg nAR]; exact hP.v2, by rw [valV_put, if_pos rfl], Nat.le_trans (length_putK kvs kR _) (by have := hP.len; omega), hP.a0, by have := hP.a1; omega, Int.ediv_nonneg hP.r0 (by omega),
      by rw [upd_ne (ne_of hP.hc hP.hk (by intro e; cases e))]; exact hP.hc⟩
  | false =>
    refine ⟨_, rfl, pd, .int at_, rfl, .inl ⟨kvs, kA, .inl hP.hk, rfl, hP.v2.symm⟩, ?_⟩
    refine ⟨_, rfl, _, _, rfl, rfl, _, rfl, pd, _, rfl, DPut.k (k := kA) hP.hk (sz_lt (by have := hP.len; omega)), ?_⟩
    have nca : ca ≠ pd := ne_of hP.hc hP.hk (by intro e; cases e)
    have b1 : ExB pd H (upd H pd (.dK (putK kvs kA (.int (at_ + 1))))) := (ExB.of (Ex.refl H)).put
    have hP1 : PenX (upd H pd (.dK (putK kvs kA (.int (at_ + 1))))) pd (N + 1) ca cells (putK kvs kA (.int (at_ + 1))) (at_ + 1) rest := by
      refine ⟨upd_same, by rw [valV_put, if_neg nCA]; exact hP.v1, by rw [valV_put, if_pos rfl], by rw [valV_put, if_neg nRA]; exact hP.v3, Nat.le_trans (length_putK kvs kA _) (by have := hP.len; omega), by have := hP.a0; omega, by have := hP.a1; omega, hP.r0, by rw [upd_ne nca]; exact hP.hc⟩
    have q1 : ∀ r H2, Ex (upd H pd (.dK (putK kvs kA (.int (at_ + 1))))) H2 → 0 ≤ r → r < m → Q (.int r) H2 := fun r H2 e => q r H2 (b1.ex e) (PenAt.mono e ⟨cells, _, _, _, hP1⟩)
    have a0 := hP.a0
    have a1 := hP.a1
    show tSeq _ _ _ _ (upd H pd (.dK (putK kvs kA (.int (at_ + 1)))))
    generalize (upd H pd (.dK (putK kvs kA (.int (at_ + 1))))) = H1 at b1 hP1 q1
    have hl1 : (putK kvs kA (.int (at_ + 1))).length ≤ 3 + 2 * N + 1 := Nat.le_trans (length_putK kvs kA _) (by have := hP.len; omega)
    generalize (putK kvs kA (.int (at_ + 1))) = kvs1 at hP1 hl1
    have dC : ∀ {H'}, Ex H1 H' → DGet H' pd (.str "cells") (some (.ref ca)) := fun {H'} e => .inl ⟨kvs1, kC, .inl (e _ _ hP1.hk), rfl, hP1.v1.symm⟩
    refine ⟨_, rfl, pd, .ref ca, rfl, dC (Ex.refl _), by show 0 ≤ sizeLine; decide, fun p np => ?_⟩
    have e2 : Ex H1 (upd H1 p (.lst [])) := Ex.new np
    have hp2 : (upd H1 p (.lst [])) p = some (.lst []) := upd_same
    generalize (upd H1 p (.lst [])) = H2 at e2 hp2
    have hc2 := e2 _ _ hP1.hc
    refine ⟨_, _, .lst (sqL hc2) (dp_ints cells), .lst (sqL hp2) .nil, PySem.W.ke_shaped_ints cells, rfl, _, rfl, ?_⟩
    rw [eqv_nil]
    cases cells with
    | nil =>
      refine ⟨_, rfl, _, _, rfl, rfl, .inl ⟨by decide, by decide⟩, _, _, rfl, rfl, .inl ⟨_, rfl, ?_⟩⟩
      refine ⟨_, rfl, _, _, rfl, rfl, m0, ?_⟩
      exact q1 _ _ e2 (Int.emod_nonneg _ (by omega)) (Int.emod_lt_of_pos _ m0)
    | cons cell0 cells0 =>
      generalize hcl : cell0 :: cells0 = cells at *
      have hne : cells ≠ [] := by
        rw [← hcl]
        exact fun e => by cases e
      have hem : cells.isEmpty = false := by
        rw [← hcl]
        rfl
      rw [hem]
      have hlen : (0 : Int) < (((cells.map V.int).length : Nat) : Int) := by
        rw [List.length_map, ← hcl, List.length_cons]
        omega
      obtain ⟨cell, hcell⟩ := atI_mod (i := at_) hne
      refine ⟨_, rfl, pd, .ref ca, rfl, dC e2, _, rfl, .inl ⟨_, rfl, ?_⟩⟩
      refine ⟨_, rfl, pd, .ref ca, rfl, dC e2, ca, _, rfl, .inl (sqL hc2), _, _, rfl, rfl, hlen, ?_⟩
      refine ⟨ca, _, _, .int cell, rfl, rfl, sqL hc2, hcell, ?_⟩
      refine ⟨_, rfl, _, rfl, pd, .ref ca, rfl, dC e2, ca, _, rfl, .inl (sqL hc2), _, _, rfl, rfl, _, rfl, ?_⟩
      cases hd3 : decide (at_ < (((cells.map V.int).length : Nat) : Int)) with
      | false =>
        refine ⟨_, rfl, .inl ⟨_, rfl, _, _, rfl, rfl, show (0 : Int) < 4294966981 by decide, _, _, rfl, rfl, .inr ⟨by decide, by decide⟩, _, rfl, _, _, rfl, rfl, .inl ⟨by decide, by decide⟩, _, rfl, _, _, rfl, rfl, .inr ⟨by omega, by omega⟩, _, _, rfl, rfl, ?_⟩⟩
        refine ⟨_, rfl, _, rfl, _, _, rfl, rfl, .inl ⟨by decide, by decide⟩, _, _, rfl, rfl, _, _, rfl, rfl, .inl ⟨_, rfl, _, _, rfl, rfl, show (0 : Int) < 4294966943 by decide, ?_⟩⟩
        generalize hB : (cell % 4294966981 * 48149 + 15077 * at_ * at_ + 929 * at_ + 19) % 4294966943 = B
        have B0 : 0 ≤ B := by rw [← hB]; exact Int.emod_nonneg _ (by decide)
        have B1 : B < 4294966943 := by rw [← hB]; exact Int.emod_lt_of_pos _ (by decide)
        refine ⟨_, rfl, _, rfl, _, _, rfl, rfl, .inl ⟨by omega, by omega⟩, _, rfl, _, _, rfl, rfl, .inl ⟨by decide, by decide⟩, _, _, rfl, rfl, _, rfl, _, _, rfl, rfl, .inl ⟨by decide, by decide⟩, _, _, rfl, rfl, _, _, rfl, rfl, .inl ⟨_, rfl, _, _, rfl, rfl, show (0 : Int) < 4294966927 by decide, ?_⟩⟩
        generalize hC : (B * B + 30000329 * B + 37 * at_ + 13) % 4294966927 = C
        have C0 : 0 ≤ C := by rw [← hC]; exact Int.emod_nonneg _ (by decide)
        have C1 : C < 4294966927 := by rw [← hC]; exact Int.emod_lt_of_pos _ (by decide)
        refine ⟨_, rfl, _, rfl, _, _, rfl, rfl, _, _, rfl, rfl, .inl ⟨by omega, by omega⟩, .inl ⟨_, rfl, _, _, rfl, rfl, show (0 : Int) < 4294966909 by decide, _, _, rfl, rfl, ⟨by decide, by decide⟩, .inl ⟨_, rfl, _, rfl, _, _, rfl, rfl, m0, ?_⟩⟩⟩
        exact q1 _ _ e2 (Int.emod_nonneg _ (by omega)) (Int.emod_lt_of_pos _ m0)
      | true =>
        refine ⟨_, rfl, _, rfl, _, _, rfl, rfl, ⟨by decide, by decide, by decide⟩, _, _, rfl, rfl, _, rfl, ?_⟩
        cases hd4 : decide ((10 : Int) ^ (18 : Int).toNat ≤ (if cell < 0 then -cell else cell)) with
        | false =>
          refine ⟨_, rfl, .inl ⟨_, rfl, _, _, rfl, rfl, show (0 : Int) < 4294966981 by decide, _, _, rfl, rfl, .inr ⟨by decide, by decide⟩, _, rfl, _, _, rfl, rfl, .inl ⟨by decide, by decide⟩, _, rfl, _, _, rfl, rfl, .inr ⟨by omega, by omega⟩, _, _, rfl, rfl, ?_⟩⟩
          refine ⟨_, rfl, _, rfl, _, _, rfl, rfl, .inl ⟨by decide, by decide⟩, _, _, rfl, rfl, _, _, rfl, rfl, .inl ⟨_, rfl, _, _, rfl, rfl, show (0 : Int) < 4294966943 by decide, ?_⟩⟩
          generalize hB : (cell % 4294966981 * 48149 + 15077 * at_ * at_ + 929 * at_ + 19) % 4294966943 = B
          have B0 : 0 ≤ B := by rw [← hB]; exact Int.emod_nonneg _ (by decide)
          have B1 : B < 4294966943 := by rw [← hB]; exact Int.emod_lt_of_pos _ (by decide)
          refine ⟨_, rfl, _, rfl, _, _, rfl, rfl, .inl ⟨by omega, by omega⟩, _, rfl, _, _, rfl, rfl, .inl ⟨by decide, by decide⟩, _, _, rfl, rfl, _, rfl, _, _, rfl, rfl, .inl ⟨by decide, by decide⟩, _, _, rfl, rfl, _, _, rfl, rfl, .inl ⟨_, rfl, _, _, rfl, rfl, show (0 : Int) < 4294966927 by decide, ?_⟩⟩
          generalize hC : (B * B + 30000329 * B + 37 * at_ + 13) % 4294966927 = C
          have C0 : 0 ≤ C := by rw [← hC]; exact Int.emod_nonneg _ (by decide)
          have C1 : C < 4294966927 := by rw [← hC]; exact Int.emod_lt_of_pos _ (by decide)
          refine ⟨_, rfl, _, rfl, _, _, rfl, rfl, _, _, rfl, rfl, .inl ⟨by omega, by omega⟩, .inl ⟨_, rfl, _, _, rfl, rfl, show (0 : Int) < 4294966909 by decide, _, _, rfl, rfl, ⟨by decide, by decide⟩, .inl ⟨_, rfl, _, rfl, _, _, rfl, rfl, m0, ?_⟩⟩⟩
          exact q1 _ _ e2 (Int.emod_nonneg _ (by omega)) (Int.emod_lt_of_pos _ m0)
        | true =>
          have h18 := of_decide_eq_true hd4
          have h18' : (0 : Int) ≤ (if cell < 0 then -cell else cell) - (10 : Int) ^ (18 : Int).toNat := by omega
          refine ⟨_, rfl, _, rfl, _, _, rfl, rfl, ⟨by decide, by decide, by decide⟩, _, _, rfl, rfl, _, rfl, _, _, rfl, rfl, ⟨m0, m1⟩, _, rfl, pd, _, rfl, DPut.k (k := kR) (e2 _ _ hP1.hk) (sz_lt (by omega)), ?_⟩
          refine ⟨_, rfl, _, rfl, _, _, rfl, rfl, ⟨by decide, by decide, by decide⟩, _, _, rfl, rfl, .inl ⟨_, rfl, _, rfl, _, _, rfl, rfl, m0, ?_⟩⟩
          refine q _ _ ((b1.ex e2).put) ?_ (Int.emod_nonneg _ (by omega)) (Int.emod_lt_of_pos _ m0)
          exact ⟨cells, _, at_ + 1, _, upd_same, by rw [valV_put, if_neg nCR]; exact hP1.v1, by rw [valV_put, if_neg nAR]; exact hP1.v2, by rw [valV_put, if_pos rfl], Nat.le_trans (length_putK kvs1 kR _) (by omega), by omega, by omega, Int.ediv_nonneg h18' (by omega),
            by rw [upd_ne (ne_of hc2 (e2 _ _ hP1.hk) (by intro e; cases e))]; exact hc2⟩
end
end LJ

set_option maxHeartbeats 4000000
namespace LJ
open PySem PySem.Spec PyProof.Rows L2 Evl
theorem IsMax.one {m n : Int} {l : List Int} (a : IsMax m l) (b : IsMax n l) : m = n := by
  have := a.2 n b.1
  have := b.2 m a.1
  omega
theorem pre_b {h o : Int} {ss : List Int} : ∀ i, i ≤ ss.length → -(i : Int) ≤ pre h o ss i ∧ pre h o ss i ≤ i
  | 0, _ => by
    rw [pre_zero]
    decide
  | i + 1, hi => by
    have := pre_b (h := h) (o := o) (ss := ss) i (by omega)
    rw [pre_succ (List.getElem?_eq_getElem (show i < ss.length by omega))]
    have c := chM_neg h o ss[i]
    have b := chM_b h o ss[i]
    omega
theorem walkL_len (h o : Int) (ss : List Int) : (walkL h o ss).length = ss.length := by
  unfold walkL
  rw [List.length_map, List.length_range]
theorem walkL_at {h o : Int} {ss : List Int} {i : Nat} (hi : i < ss.length) : (walkL h o ss)[i]? = some (pre h o ss (i + 1)) := by
  unfold walkL
  rw [List.getElem?_map, List.getElem?_range hi]
  rfl
section
variable {P : Program} {w : World} {K : PySem.W.Frag} {mg : Str → Option Value} {base : Heap} {CC CT CR : Addr}
def spPick (K : PySem.W.Frag) : Sp := fun vs H Q _ => ∃ (pd ca a : Addr) (ns : List Int) (N : Nat), vs = [.ref pd, .ref a] ∧ PenAt H pd ca N ∧ N < 10000 ∧ H a = some (.lst (ns.map V.int)) ∧ 0 < ns.length ∧ ns.length < 1000 ∧ ∀ r H2, ExB pd H H2 → PenAt H2 pd ca (N + 1) → r ∈ ns → Q (.int r) H2
theorem ok_law_pick (T : Txt K mg CC CT CR) (D : Df K mg "_law_pick" "_law_pick" s_law_pick ["_law_pen_here", "_law_items"]) (c_law_draw : C8.Cal P w K mg base 1 "_law_draw" spDraw []) : C8.Cal P w K mg base 2 "_law_pick" (spPick K) [] := by
  refine D.cal sc_law_pick (fun vs H Q E h => ?_) (fun f cdv A outer s H vs Q E hr h => ?_)
  · obtain ⟨pd, ca, a, ns, N, rfl, _⟩ := h
    rfl
  obtain ⟨pd, ca, a, ns, N, rfl, hP, hN, ha, hn0, hn1, q⟩ := h
  refine ⟨_, (pss_one
      (ps_ret (pe_ix ix_list (pv 1) (C8.pe_c c_law_draw hr (by decide) (by rfl) (pa_cons (pv 0) (pa_cons (pe_callB call_len_seq (by rfl) T.f_len boot_len (pa_cons (pv 1) pa_nil)) pa_nil))) (fun _ _ => rfl)))), ?_⟩
  obtain ⟨cells, kvs, at_, rest, hX⟩ := id hP
  have hl : (ns.map V.int).length = ns.length := List.length_map ..
  refine ⟨_, rfl, _, rfl, _, rfl, a, _, rfl, .inl (sqL ha), pd, ca, _, N, rfl, hP, hN, by rw [hl]; omega, by rw [hl]; omega, fun r H2 b2 hP2 r0 r1 => ?_⟩
  rw [hl] at r1
  have ha2 := b2 _ _ ha (ne_of ha hX.hk (by intro e; cases e))
  obtain ⟨j, rfl⟩ := Int.eq_ofNat_of_zero_le r0
  have hj : j < ns.length := by omega
  refine ⟨a, _, _, .int ns[j], rfl, rfl, sqL ha2, atI_nat (by rw [List.getElem?_map, List.getElem?_eq_getElem hj]; rfl), ?_⟩
  exact q _ H2 b2 hP2 (List.getElem_mem hj)
def spPassed (K : PySem.W.Frag) : Sp := fun vs H Q _ => ∃ (a : Addr) (lead h o R : Int) (ss : List Int), vs = [.int lead, .ref a, .int h, .int o, .int R] ∧ SqL K H a (ss.map V.int) ∧ 0 < ss.length ∧ ss.length ≤ 40 ∧ 0 ≤ lead ∧ ∀ mx, IsMax mx (walkL h o ss) → RetV (passedM lead mx h o ss R) H Q
theorem ok_law_passed (T : Txt K mg CC CT CR) (D : Df K mg "_law_passed" "_law_passed" s_law_passed ["_law_lead", "_law_signs", "_law_head", "_law_other", "_law_rounds"]) : C8.Cal P w K mg base 1 "_law_passed" (spPassed K) [] := by
  refine D.cal sc_law_passed (fun vs H Q E h => ?_) (fun f cdv A outer s H vs Q E hr h => ?_)
  · obtain ⟨a, lead, h, o, R, ss, rfl, _⟩ := h
    rfl
  obtain ⟨a, lead, h, o, R, ss, rfl, hS, hn, h40, h0, q⟩ := h
  refine ⟨_, (pss_cons
      (ps_asg (pe_tup (pa_cons pe_int (pa_cons (pe_lst pa_nil) pa_nil))) (pg_tup rfl (pgs_cons (pg_name (i := 5) sc_law_passed.nd rfl (Or.inr rfl)) (pgs_cons (pg_name (i := 6) sc_law_passed.nd rfl (Or.inl rfl)) pgs_nil))))
      (pss_cons
      (ps_for PassesOwn.never rfl (pi_list (pv 1)) (pg_name (i := 7) sc_law_passed.nd rfl (Or.inl rfl)) (pss_cons
        (ps_set (i := 5) sc_law_passed.nd rfl (Or.inr rfl) (pe_op op_sub (pe_op op_add (pv 5) (pe_callTy call_int1 (by rfl) T.f_int boot_int (pa_cons (pe_cmpR op_eq (pv 7) (pv 3) (nomark _)) pa_nil))) (pe_callTy call_int1 (by rfl) T.f_int boot_int (pa_cons (pe_cmpR op_eq (pv 7) (pv 2) (nomark _)) pa_nil))))
        (pss_one
        (ps_expr (pe_bm PySem.F.plainAttrs_list PySem.F.slot_list_append PySem.F.type_list_append mt_append (pv 6) (pa_cons (pv 5) pa_nil))))))
      (pss_cons
      (ps_set (i := 8) sc_law_passed.nd rfl (Or.inr rfl) pe_int)
      (pss_cons
      (ps_if (pt_cmpR op_le (pe_callB (cr_max rfl) (by rfl) T.f_max boot_max (pa_cons (pv 6) pa_nil)) (pv 0) (nomark _)) (pss_cons
        (ps_if (pt_cmpR op_le (pv 5) pe_int (nomark _)) (pss_one
          (ps_ret pe_non)) pss_nil)
        (pss_one
        (ps_set (i := 8) sc_law_passed.nd rfl (Or.inr rfl) (pe_op op_add (pe_op op_fdiv (pe_op op_sub (pv 0) (pe_callB (cr_max rfl) (by rfl) T.f_max boot_max (pa_cons (pv 6) pa_nil))) (pv 5)) pe_int)))) pss_nil)
      (pss_cons
      (ps_if (pt_cmpR op_ge (pv 8) (pv 4) (nomark _)) (pss_one
        (ps_ret pe_non)) pss_nil)
      (pss_cons
      (ps_setLc (i := 9) (own := [("_law_at", 10), ("_law_step", 11)]) rfl sc_law_passed.nd rfl rfl (sw_true rfl rfl rfl (by decide +kernel)) (pi_enum (by rfl) T.f_enumerate (pa_cons (pv 6) pa_nil)) (blkOk_by (own := [("_law_at", 10), ("_law_step", 11)]) (N := ["_law_lead", "_law_signs", "_law_head", "_law_other", "_law_rounds", "_law_now", "_law_walk", "_law_sign", "_law_begin", "_law_spots", "_law_at", "_law_step"]) (sc := C8.fnScope s_law_passed) (by decide +kernel)) (fun _ _ _ _ _ => (pg_tupK (K := K) (n := 2) rfl rfl (pgs_cons (pg_name (i := 10) sc_law_passed.nd rfl (Or.inl rfl)) (pgs_cons (pg_name (i := 11) sc_law_passed.nd rfl (Or.inl rfl)) pgs_nil)))) (fun _ _ _ _ _ => (pts_one (pt_cmpR op_gt (pe_op op_add (pe_op op_mul (pv 8) (pv 5)) (pv 11)) (pv 0) (nomark _)))) (fun _ _ _ _ _ => (pv 10)))
      (pss_one
      (ps_ret (pe_op op_add (pe_op op_add (pe_op op_mul (pv 8) (pe_callB call_len_seq (by rfl) T.f_len boot_len (pa_cons (pv 1) pa_nil))) (pe_ix ix_list (pv 9) pe_int (fun _ _ => rfl))) pe_int))))))))), ?_⟩
  refine ⟨by show 0 ≤ sizeLine; decide, fun wl nw => ⟨by show 2 ≤ sizeLine; decide, fun t nt => ?_⟩⟩
  refine ⟨t, _, rfl, sqT upd_same, rfl, _, _, rfl, _, _, rfl, rfl, ?_⟩
  have e1 : Ex H (upd (upd H wl (.lst [])) t (.tup [.int 0, .ref wl])) := (Ex.new nw).of_new nt
  have hw1 : (upd (upd H wl (.lst [])) t (.tup [.int 0, .ref wl])) wl = some (.lst (((walkL h o ss).take 0).map V.int)) := (Ex.new nt) _ _ upd_same
  generalize (upd (upd H wl (.lst [])) t (.tup [.int 0, .ref wl])) = H1 at e1 hw1
  refine ⟨_, rfl, a, rfl, ⟨_, ex_l e1 hS⟩, ?_⟩
  refine for_list (K := K) (a := a) (xs := ss.map V.int) (fun i σ H' => ∃ v7 : Option V, σ = [some (.int lead), some (.ref a), some (.int h), some (.int o), some (.int R), some (.int (pre h o ss i)), some (.ref wl), v7, none, none, none, none] ∧ Ex H H' ∧ H' wl = some (.lst (((walkL h o ss).take i).map V.int)))
    ⟨none, rfl, e1, hw1⟩ (fun i σ H' _ ⟨_, _, e, _⟩ => ex_l e hS) ?_ ?_
  · rintro i y σ H2 hi ⟨v7, rfl, e2, hw2⟩
    obtain ⟨s, hs, rfl⟩ := get_int hi
    have hlt := (List.getElem?_eq_some_iff.mp hs).1
    refine ⟨_, rfl, _, rfl, _, rfl, rfl, .inr ⟨_, rfl, _, _, rfl, rfl, _, rfl, _, rfl, rfl, .inr ⟨_, rfl, _, _, rfl, rfl, ?_⟩⟩⟩
    refine ⟨_, rfl, .inl ⟨rfl, _, sqL hw2⟩, _, rfl, wl, _, _, rfl, rfl, hw2, ?_, ?_⟩
    · rw [List.length_map, List.length_take, walkL_len]
      exact sz_lt (by omega)
    have ep : pre h o ss (i + 1) = pre h o ss i + (if decide (V.int s = V.int o) = true then 1 else 0) - (if decide (V.int s = V.int h) = true then 1 else 0) := by
      rw [pre_succ hs]
      unfold dS
      omega
    refine ⟨_, by rw [ep]; rfl, e2.mut nw, ?_⟩
    rw [upd_same, take_snoc (walkL_at hlt), List.map_append, ep]
    rfl
  rintro σ H2 ⟨v7, rfl, e2, hw2⟩
  have el : (walkL h o ss).take (ss.map V.int).length = walkL h o ss := List.take_of_length_le (by rw [List.length_map, walkL_len]; exact Nat.le_refl _)
  rw [el] at hw2
  have eln : (ss.map V.int).length = ss.length := List.length_map ..
  rw [eln]
  have hpb := pre_b (h := h) (o := o) (ss := ss) ss.length (Nat.le_refl _)
  refine ⟨_, rfl, wl, walkL h o ss, rfl, sqL hw2, by rw [walkL_len]; exact hn, fun m hm hle => ?_⟩
  have hM : IsMax m (walkL h o ss) := ⟨hm, hle⟩
  have q1 := q m hM
  refine ⟨_, rfl, _, _, rfl, rfl, _, rfl, ?_⟩
  cases hd : decide (m ≤ lead) with
  | true =>
    have hml := of_decide_eq_true hd
    refine ⟨_, rfl, _, _, rfl, rfl, _, rfl, ?_⟩
    cases hd2 : decide (pre h o ss ss.length ≤ 0) with
    | true =>
      have e : passedM lead m h o ss R = .non := by
        unfold passedM
        rw [if_pos hml, if_pos (of_decide_eq_true hd2)]
      rw [e] at q1
      exact q1 H2 e2
    | false =>
      have hnow := of_decide_eq_false hd2
      have e : passedM lead m h o ss R = spotM lead h o ss R ((lead - m) / pre h o ss ss.length + 1) := by
        unfold passedM
        rw [if_pos hml, if_neg hnow]
      rw [e] at q1
      refine ⟨_, rfl, _, rfl, wl, walkL h o ss, rfl, sqL hw2, by rw [walkL_len]; exact hn, fun m2 hm2 hle2 => ?_⟩
      obtain rfl := hM.one ⟨hm2, hle2⟩
      refine ⟨_, _, rfl, rfl, _, rfl, _, _, rfl, rfl, ⟨by omega, by omega⟩, _, _, rfl, rfl, ?_⟩
      have hlt := Int.lt_ediv_add_one_mul_self (lead - m) (show 0 < pre h o ss ss.length by omega)
      have hst : lead - ((lead - m) / pre h o ss ss.length + 1) * pre h o ss ss.length < m := by
        exact Int.lt_of_sub_neg (by omega)
      obtain ⟨i0, hi0⟩ := fi_ex (h := h) (o := o) (ss := ss) hm hst
      refine ⟨_, rfl, _, rfl, _, _, rfl, rfl, _, rfl, ?_⟩
      unfold spotM at q1
      cases hd3 : decide (R ≤ (lead - m) / pre h o ss ss.length + 1) with
      | true =>
        rw [if_pos (of_decide_eq_true hd3)] at q1
        exact q1 H2 e2
      | false =>
        rw [if_neg (of_decide_eq_false hd3), hi0] at q1
        refine ⟨_, rfl, wl, _, rfl, sqL hw2, fun Dl hD => lc_ev walk_enum hD (fun H' e => sqL (e _ _ hw2)) (fun i => ((List.range i).filter fun j => decide (lead < ((lead - m) / pre h o ss ss.length + 1) * pre h o ss ss.length + pre h o ss (j + 1))).map fun (j : Nat) => V.int (j : Int)) rfl (fun i hi => ?_) ?_ (fun H3 e3 hL => ?_)⟩
        · rw [List.length_map, walkL_len] at hi
          rw [List.length_map]
          have := List.length_filter_le (fun j => decide (lead < ((lead - m) / pre h o ss ss.length + 1) * pre h o ss ss.length + pre h o ss (j + 1))) (List.range i)
          rw [List.length_range] at this
          omega
        · intro i x H4 H5 hi e4 y
          obtain ⟨tp, u, z, rfl, ht, rfl, e5, hu, hz⟩ := ypair_new y
          obtain ⟨st, hst2, rfl⟩ := get_int hz
          rw [List.length_map, walkL_len] at hi
          have est : st = pre h o ss (i + 1) := by
            rw [walkL_at hi] at hst2
            exact (Option.some.inj hst2).symm
          cases hu
          subst est
          refine ⟨e5, _, decide (lead < ((lead - m) / pre h o ss ss.length + 1) * pre h o ss ss.length + pre h o ss (i + 1)), fun Qs qs => ⟨tp, _, rfl, sqT upd_same, rfl, _, _, rfl, _, _, rfl, rfl, qs⟩, rfl, fun H6 e6 Q' q' => ?_, fun hb => ⟨.int (i : Int), ev_var rfl, ?_⟩, fun hb => ?_⟩
          · exact ⟨_, rfl, _, rfl, _, _, rfl, rfl, .inr ⟨by omega, by omega⟩, _, rfl, _, _, rfl, rfl, _, rfl, _, _, rfl, rfl, _, rfl, q' H6 (Ex.refl H6)⟩
          · rw [List.range_succ, List.filter_append, List.map_append, List.filter_cons, hb]
            rfl
          · rw [List.range_succ, List.filter_append, List.map_append, List.filter_cons, hb]
            simp
        · rw [List.length_map, walkL_len] at hL
          have hh := filt_head (p := fun j => decide (lead < ((lead - m) / pre h o ss ss.length + 1) * pre h o ss ss.length + pre h o ss (j + 1))) hi0 (fun j => by
            by_cases c : lead < ((lead - m) / pre h o ss ss.length + 1) * pre h o ss ss.length + pre h o ss (j + 1)
            · rw [decide_eq_true c, decide_eq_true (by omega)]
            · rw [decide_eq_false c, decide_eq_false (by omega)])
          refine ⟨_, rfl, _, rfl, a, _, rfl, .inl (ex_l (e2.trans e3) hS), _, _, rfl, rfl, .inr ?_, _, rfl, Dl, _, _, .int (i0 : Int), rfl, rfl, sqL hL, atI_nat (j := 0) (by rw [List.getElem?_map, hh]; rfl), _, _, rfl, rfl, _, _, rfl, rfl, ?_⟩
          · rw [eln]
            constructor <;> omega
          · have := q1 H3 (e2.trans e3)
            rw [eln]
            exact this
  | false =>
    have hml := of_decide_eq_false hd
    have e : passedM lead m h o ss R = spotM lead h o ss R 0 := by
      unfold passedM
      rw [if_neg hml]
    rw [e] at q1
    have hst : lead - (0) * pre h o ss ss.length < m := by
      omega
    obtain ⟨i0, hi0⟩ := fi_ex (h := h) (o := o) (ss := ss) hm hst
    refine ⟨_, rfl, _, rfl, _, _, rfl, rfl, _, rfl, ?_⟩
    unfold spotM at q1
    cases hd3 : decide (R ≤ 0) with
    | true =>
      rw [if_pos (of_decide_eq_true hd3)] at q1
      exact q1 H2 e2
    | false =>
      rw [if_neg (of_decide_eq_false hd3), hi0] at q1
      refine ⟨_, rfl, wl, _, rfl, sqL hw2, fun Dl hD => lc_ev walk_enum hD (fun H' e => sqL (e _ _ hw2)) (fun i => ((List.range i).filter fun j => decide (lead < (0) * pre h o ss ss.length + pre h o ss (j + 1))).map fun (j : Nat) => V.int (j : Int)) rfl (fun i hi => ?_) ?_ (fun H3 e3 hL => ?_)⟩
      · rw [List.length_map, walkL_len] at hi
        rw [List.length_map]
        have := List.length_filter_le (fun j => decide (lead < (0) * pre h o ss ss.length + pre h o ss (j + 1))) (List.range i)
        rw [List.length_range] at this
        omega
      · intro i x H4 H5 hi e4 y
        obtain ⟨tp, u, z, rfl, ht, rfl, e5, hu, hz⟩ := ypair_new y
        obtain ⟨st, hst2, rfl⟩ := get_int hz
        rw [List.length_map, walkL_len] at hi
        have est : st = pre h o ss (i + 1) := by
          rw [walkL_at hi] at hst2
          exact (Option.some.inj hst2).symm
        cases hu
        subst est
        refine ⟨e5, _, decide (lead < (0) * pre h o ss ss.length + pre h o ss (i + 1)), fun Qs qs => ⟨tp, _, rfl, sqT upd_same, rfl, _, _, rfl, _, _, rfl, rfl, qs⟩, rfl, fun H6 e6 Q' q' => ?_, fun hb => ⟨.int (i : Int), ev_var rfl, ?_⟩, fun hb => ?_⟩
        · exact ⟨_, rfl, _, rfl, _, _, rfl, rfl, .inr ⟨by omega, by omega⟩, _, rfl, _, _, rfl, rfl, _, rfl, _, _, rfl, rfl, _, rfl, q' H6 (Ex.refl H6)⟩
        · rw [List.range_succ, List.filter_append, List.map_append, List.filter_cons, hb]
          rfl
        · rw [List.range_succ, List.filter_append, List.map_append, List.filter_cons, hb]
          simp
      · rw [List.length_map, walkL_len] at hL
        have hh := filt_head (p := fun j => decide (lead < (0) * pre h o ss ss.length + pre h o ss (j + 1))) hi0 (fun j => by
          by_cases c : lead < (0) * pre h o ss ss.length + pre h o ss (j + 1)
          · rw [decide_eq_true c, decide_eq_true (by omega)]
          · rw [decide_eq_false c, decide_eq_false (by omega)])
        refine ⟨_, rfl, _, rfl, a, _, rfl, .inl (ex_l (e2.trans e3) hS), _, _, rfl, rfl, .inr ?_, _, rfl, Dl, _, _, .int (i0 : Int), rfl, rfl, sqL hL, atI_nat (j := 0) (by rw [List.getElem?_map, hh]; rfl), _, _, rfl, rfl, _, _, rfl, rfl, ?_⟩
        · rw [eln]
          constructor <;> omega
        · have := q1 H3 (e2.trans e3)
          rw [eln]
          exact this
end
end LJ

set_option maxHeartbeats 4000000
namespace LJ
open PySem PySem.Spec PyProof.Rows L2 Evl
theorem PartsIn.snoc {H : Hp} {ps : List Addr} {l : List (V × Int)} {p : Addr} {v : V} {n : Int} (h : PartsIn H ps l) (hp : H p = some (.tup [v, .int n])) : PartsIn H (ps ++ [p]) (l ++ [(v, n)]) := by
  refine ⟨by rw [List.length_append, List.length_append, h.1]; rfl, fun i q u k hq hx => ?_⟩
  by_cases hi : i < ps.length
  · rw [List.getElem?_append_left hi] at hq
    rw [List.getElem?_append_left (by rw [← h.1]; exact hi)] at hx
    exact h.2 i q u k hq hx
  · rw [List.getElem?_append_right (by omega)] at hq
    rw [List.getElem?_append_right (by rw [← h.1]; omega), ← h.1] at hx
    have lt := (List.getElem?_eq_some_iff.mp hq).1
    have l1 : [p].length = 1 := rfl
    have j0 : i - ps.length = 0 := by omega
    rw [j0] at hq hx
    cases hq
    cases hx
    exact hp
theorem PartsIn.monoN {d : Addr} {H H' : Hp} {ps : List Addr} {l : List (V × Int)} {o : HO} (e : ExB d H H') (hd : H d = some o) (no : ∀ xs, HO.tup xs ≠ o) (h : PartsIn H ps l) : PartsIn H' ps l :=
  ⟨h.1, fun i p v n a b => e _ _ (h.2 i p v n a b) (ne_of (h.2 i p v n a b) hd (no _))⟩
theorem passedM_is (lead mx h o R : Int) (ss : List Int) : passedM lead mx h o ss R = .non ∨ ∃ k, passedM lead mx h o ss R = .int k := by
  unfold passedM spotM
  split
  · split
    · exact .inl rfl
    · split
      · exact .inl rfl
      · exact .inr ⟨_, rfl⟩
  · split
    · exact .inl rfl
    · exact .inr ⟨_, rfl⟩
theorem max_ex : ∀ l : List Int, l ≠ [] → ∃ m, IsMax m l
  | [], h => absurd rfl h
  | [x], _ => ⟨x, List.mem_singleton.mpr rfl, fun y hy => by rw [List.mem_singleton.mp hy]; exact Int.le_refl x⟩
  | x :: y :: l, _ => by
    obtain ⟨m, hm, hl⟩ := max_ex (y :: l) (fun e => by cases e)
    by_cases c : m ≤ x
    · refine ⟨x, List.mem_cons_self, fun z hz => ?_⟩
      rcases List.mem_cons.mp hz with e | e
      · omega
      · have := hl z e
        omega
    · refine ⟨m, List.mem_cons_of_mem _ hm, fun z hz => ?_⟩
      rcases List.mem_cons.mp hz with e | e
      · omega
      · exact hl z e
theorem others_list {h : Int} (h3 : h = 0 ∨ h = 1 ∨ h = 2) : (((List.range 3).filter fun (i : Nat) => !decide (V.int (i : Int) = V.int h)).map fun (i : Nat) => V.int (i : Int)) = (othersM h).map V.int := by
  rcases h3 with rfl | rfl | rfl <;> rfl
theorem lens_list {h : Int} : ((List.range 3).map fun (i : Nat) => V.int (if decide (V.int (i : Int) = V.int h) = true then 1 else 2)) = (lens h).map V.int := by
  have k : ∀ i : Int, (if decide (V.int i = V.int h) = true then (1 : Int) else 2) = if i = h then 1 else 2 := by
    intro i
    by_cases e : i = h
    · rw [if_pos e, e, decide_eq_true rfl, if_pos rfl]
    · rw [if_neg e, decide_eq_false (fun z => e (V.int.inj z)), if_neg (by decide)]
  show [V.int _, V.int _, V.int _] = [V.int _, V.int _, V.int _]
  rw [k, k, k]
  rfl
section
variable {P : Program} {w : World} {K : PySem.W.Frag} {mg : Str → Option Value} {base : Heap} {CC CT CR : Addr}
def spLaw (K : PySem.W.Frag) : Sp := fun vs H Q _ => ∃ (a : Addr) (ns : List Int), vs = [.ref a] ∧ SqL K H a (ns.map V.int) ∧ ∀ H2, Q (.bl true) H2
theorem fn_law (T : Txt K mg CC CT CR) {f : Addr} {fd : FuncData} (F : C8.Fun K "law" "law" s_law f fd) (c_law_pen : C8.Cal P w K mg base 1 "_law_pen" (spPen K) []) (c_law_draw : C8.Cal P w K mg base 1 "_law_draw" spDraw []) (c_law_pick : C8.Cal P w K mg base 2 "_law_pick" (spPick K) [])
    (c_law_passed : C8.Cal P w K mg base 1 "_law_passed" (spPassed K) []) (c_first_lost : C8.Cal P w K mg base 5 "first_lost" (spLost K CC CT) []) (k_Text : C8.Mak P w K mg base 4 "Text" CT (spTextI K CT) []) (k_Code : C8.Mak P w K mg base 3 "Code" CC (spCodeI K CC) [.non]) :
    FnOk P w K mg base C8.CX0 6 f fd ["_law_script"] (spLaw K) := by
  refine C8.fn0 F sc_law (fun vs H Q E h => ?_) (fun cdv A outer s H vs Q E hr h => ?_)
  · obtain ⟨a, ns, rfl, _⟩ := h
    rfl
  obtain ⟨a, ns, rfl, hS, q⟩ := h
  refine ⟨_, (pss_cons
      (ps_set (i := 1) sc_law.nd rfl (Or.inr rfl) (C8.pe_c c_law_pen hr (by decide) (by rfl) (pa_cons (pv 0) pa_nil)))
      (pss_cons
      (ps_for PassesOwn.never rfl (pi_range1 (by rfl) T.f_range (pa_cons pe_int pa_nil)) (pg_name (i := 2) sc_law.nd rfl (Or.inl rfl)) (pss_cons
        (ps_set (i := 3) sc_law.nd rfl (Or.inr rfl) (C8.pe_c c_law_draw hr (by decide) (by rfl) (pa_cons (pv 1) (pa_cons pe_int pa_nil))))
        (pss_cons
        (ps_set (i := 4) sc_law.nd rfl (Or.inr rfl) (pe_lc (own := [("_law_k", 11)]) (g := gName 11) (tt := tYes) rfl sc_law.nd (pi_range1 (by rfl) T.f_range (pa_cons (pe_op op_add pe_int (C8.pe_c c_law_draw hr (by decide) (by rfl) (pa_cons (pv 1) (pa_cons pe_int pa_nil)))) pa_nil)) (blkOk_by (own := [("_law_k", 11)]) (N := ["_law_script", "_law_pen_here", "_law_turn", "_law_head", "_law_signs", "_law_rounds", "_law_base", "_law_text", "_law_others", "_law_found", "_law_code", "_law_k", "_law_sign", "_law_size"]) (sc := C8.fnScope s_law) (by decide +kernel)) (fun _ _ _ _ _ => (pg_name (i := 11) sc_law.nd rfl (Or.inl rfl))) (fun _ _ _ _ _ => pts_nil) (fun _ _ _ _ _ => (C8.pe_c c_law_draw hr (by decide) (by rfl) (pa_cons (pv 1) (pa_cons pe_int pa_nil))))))
        (pss_cons
        (ps_set (i := 5) sc_law.nd rfl (Or.inr rfl) (pe_op op_add (pe_op op_pow pe_int pe_int) (C8.pe_c c_law_draw hr (by decide) (by rfl) (pa_cons (pv 1) (pa_cons pe_int pa_nil)))))
        (pss_cons
        (ps_set (i := 6) sc_law.nd rfl (Or.inr rfl) (pe_lc (own := [("_law_sign", 12)]) (g := gName 12) (tt := tYes) rfl sc_law.nd (pi_range1 (by rfl) T.f_range (pa_cons pe_int pa_nil)) (blkOk_by (own := [("_law_sign", 12)]) (N := ["_law_script", "_law_pen_here", "_law_turn", "_law_head", "_law_signs", "_law_rounds", "_law_base", "_law_text", "_law_others", "_law_found", "_law_code", "_law_k", "_law_sign", "_law_size"]) (sc := C8.fnScope s_law) (by decide +kernel)) (fun _ _ _ _ _ => (pg_name (i := 12) sc_law.nd rfl (Or.inl rfl))) (fun _ _ _ _ _ => pts_nil) (fun _ _ _ _ _ => (C8.pe_c c_law_draw hr (by decide) (by rfl) (pa_cons (pv 1) (pa_cons (pe_op op_pow pe_int pe_int) pa_nil))))))
        (pss_cons
        (ps_asg (pe_op op_add (pe_callB (cr_max rfl) (by rfl) T.f_max boot_max (pa_cons (pv 6) pa_nil)) (C8.pe_c c_law_pick hr (by decide) (by rfl) (pa_cons (pv 1) (pa_cons (pe_lst (pa_cons pe_int (pa_cons pe_int (pa_cons pe_int (pa_cons (pe_op op_add (pe_op op_pow pe_int pe_int) (C8.pe_c c_law_draw hr (by decide) (by rfl) (pa_cons (pv 1) (pa_cons (pe_op op_pow pe_int pe_int) pa_nil)))) (pa_cons (pe_op op_pow pe_int pe_int) pa_nil)))))) pa_nil)))) (pg_sub (pv 6) (pv 3) set_list))
        (pss_cons
        (ps_set (i := 7) sc_law.nd rfl (Or.inl rfl) (C8.pe_mk k_Text hr (by decide) (by rfl) (pa_cons pe_int (pa_cons (pe_disp (pps_cons pe_str (pe_lc (own := [("_law_sign", 12)]) (g := gName 12) (tt := tYes) rfl sc_law.nd (pi_list (pv 4)) (blkOk_by (own := [("_law_sign", 12)]) (N := ["_law_script", "_law_pen_here", "_law_turn", "_law_head", "_law_signs", "_law_rounds", "_law_base", "_law_text", "_law_others", "_law_found", "_law_code", "_law_k", "_law_sign", "_law_size"]) (sc := C8.fnScope s_law) (by decide +kernel)) (fun _ _ _ _ _ => (pg_name (i := 12) sc_law.nd rfl (Or.inl rfl))) (fun _ _ _ _ _ => pts_nil) (fun _ _ _ _ _ => (pe_tup (pa_cons (pv 12) (pa_cons pe_int pa_nil))))) (pps_cons pe_str (pe_lst (pa_cons (pe_tup (pa_cons pe_str (pa_cons (pv 5) pa_nil))) pa_nil)) pps_nil)) (by rfl) (by rfl) (fun z => by cases z) (by decide)) (pa_cons pe_str pa_nil)))))
        (pss_cons
        (ps_setLc (i := 8) (own := [("_law_sign", 12)]) (g := gName 12) rfl sc_law.nd rfl rfl (sw_true rfl rfl rfl (by decide +kernel)) (pi_range1 (by rfl) T.f_range (pa_cons pe_int pa_nil)) (blkOk_by (own := [("_law_sign", 12)]) (N := ["_law_script", "_law_pen_here", "_law_turn", "_law_head", "_law_signs", "_law_rounds", "_law_base", "_law_text", "_law_others", "_law_found", "_law_code", "_law_k", "_law_sign", "_law_size"]) (sc := C8.fnScope s_law) (by decide +kernel)) (fun _ _ _ _ _ => (pg_name (i := 12) sc_law.nd rfl (Or.inl rfl))) (fun _ _ _ _ _ => (pts_one (pt_cmpR op_ne (pv 12) (pv 3) (nomark _)))) (fun _ _ _ _ _ => (pv 12)))
        (pss_cons
        (ps_setLc (i := 9) (own := [("_law_sign", 12)]) (g := gName 12) (tt := tYes) rfl sc_law.nd rfl rfl (sw_true rfl rfl rfl (by decide +kernel)) (pi_list (pv 8)) (blkOk_by (own := [("_law_sign", 12)]) (N := ["_law_script", "_law_pen_here", "_law_turn", "_law_head", "_law_signs", "_law_rounds", "_law_base", "_law_text", "_law_others", "_law_found", "_law_code", "_law_k", "_law_sign", "_law_size"]) (sc := C8.fnScope s_law) (by decide +kernel)) (fun _ _ _ _ _ => (pg_name (i := 12) sc_law.nd rfl (Or.inl rfl))) (fun _ _ _ _ _ => pts_nil) (fun _ _ _ _ _ => (C8.pe_c c_law_passed hr (by decide) (by rfl) (pa_cons (pe_op op_sub (pe_ix (ix_listK (K := K) rfl) (pv 6) (pv 3) (fun _ _ => rfl)) (pe_ix (ix_listK (K := K) rfl) (pv 6) (pv 12) (fun _ _ => rfl))) (pa_cons (pv 4) (pa_cons (pv 3) (pa_cons (pv 12) (pa_cons (pv 5) pa_nil))))))))
        (pss_cons
        (ps_setLc (i := 9) (own := [("_law_size", 13)]) (g := gName 13) rfl sc_law.nd rfl rfl (sw_true rfl rfl rfl (by decide +kernel)) (pi_list (pv 9)) (blkOk_by (own := [("_law_size", 13)]) (N := ["_law_script", "_law_pen_here", "_law_turn", "_law_head", "_law_signs", "_law_rounds", "_law_base", "_law_text", "_law_others", "_law_found", "_law_code", "_law_k", "_law_sign", "_law_size"]) (sc := C8.fnScope s_law) (by decide +kernel)) (fun _ _ _ _ _ => (pg_name (i := 13) sc_law.nd rfl (Or.inl rfl))) (fun _ _ _ _ _ => (pts_one (pt_cmpR op_notN (pv 13) pe_non (nomark _)))) (fun _ _ _ _ _ => (pv 13)))
        (pss_cons
        (ps_set (i := 10) sc_law.nd rfl (Or.inl rfl) (C8.pe_mk k_Code hr (by decide) (by rfl) (pa_cons (pe_lc (own := [("_law_sign", 12)]) (g := gName 12) (tt := tYes) rfl sc_law.nd (pi_range1 (by rfl) T.f_range (pa_cons pe_int pa_nil)) (blkOk_by (own := [("_law_sign", 12)]) (N := ["_law_script", "_law_pen_here", "_law_turn", "_law_head", "_law_signs", "_law_rounds", "_law_base", "_law_text", "_law_others", "_law_found", "_law_code", "_law_k", "_law_sign", "_law_size"]) (sc := C8.fnScope s_law) (by decide +kernel)) (fun _ _ _ _ _ => (pg_name (i := 12) sc_law.nd rfl (Or.inl rfl))) (fun _ _ _ _ _ => pts_nil) (fun _ _ _ _ _ => (pe_ifExp (pt_cmpR op_eq (pv 12) (pv 3) (nomark _)) pe_int pe_int))) pa_nil)))
        (pss_one
        (ps_if (pt_cmpR op_ne (C8.pe_c c_first_lost hr (by decide) (by rfl) (pa_cons (pv 10) (pa_cons (pv 6) (pa_cons (pv 7) pa_nil)))) (pe_ifExp (pt_cmpR (op_neD hr.units) (pv 9) (pe_lst pa_nil) (nomark _)) (pe_callB (cr_min rfl) (by rfl) T.f_min boot_min (pa_cons (pv 9) pa_nil)) pe_non) (nomark _)) (pss_one
          (ps_ret pe_bl)) pss_nil)))))))))))))
      (pss_one
      (ps_ret pe_bl)))), ?_⟩
  refine ⟨_, rfl, a, ns, rfl, hS, fun pd ca H1 _ _ hP1 => ?_⟩
  refine ⟨3, rfl, by decide, by decide, ?_⟩
  refine for_range (lo := 0) (n := 3) (fun i σ H' => ∃ v2 v3 v4 v5 v6 v7 v8 v9 v10 : Option V, σ = [some (.ref a), some (.ref pd), v2, v3, v4, v5, v6, v7, v8, v9, v10, none, none, none] ∧ PenAt H' pd ca (20 * i)) ⟨none, none, none, none, none, none, none, none, none, rfl, hP1⟩ ?_ ?_
  · rintro i σ H2 hi ⟨v2, v3, v4, v5, v6, v7, v8, v9, v10, rfl, hP2⟩
    generalize hN : 20 * i = N at hP2
    have hN4 : N ≤ 40 := by omega
    refine ⟨_, rfl, pd, ca, 3, N, rfl, hP2, by omega, by decide, by decide, fun h H3 _ hP3 h0 h3 => ?_⟩
    refine ⟨_, rfl, pd, ca, 7, N + 1, rfl, hP3, by omega, by decide, by decide, fun r H4 _ hP4 r0 r7 => ?_⟩
    refine ⟨_, _, rfl, rfl, _, rfl, by omega, by omega, fun sl nsl => ?_⟩
    obtain ⟨k, rfl⟩ := Int.eq_ofNat_of_zero_le r0
    have ek : (1 + (k : Int)).toNat = k + 1 := by omega
    rw [ek]
    have nps := (hP4.new nsl).1
    have ncs := (hP4.new nsl).2
    have hsl4 : (upd H4 sl (.lst [])) sl = some (.lst []) := upd_same
    refine lc_it (walk_range (lo := 0) (n := k + 1)) (fun i H' => PenAt H' pd ca (N + 2 + i) ∧ ∃ ss : List Int, H' sl = some (.lst (ss.map V.int)) ∧ ss.length = i ∧ ∀ s ∈ ss, 0 ≤ s ∧ s ≤ 2) ⟨hP4.put (hP4.new nsl).1 (hP4.new nsl).2, [], hsl4, rfl, fun s hs => by cases hs⟩ (fun i H' _ _ => trivial) ?_ ?_
    · rintro j x H5 H6 hj ⟨hP5, ss, hss, hlen, h012⟩ ⟨rfl, rfl⟩
      refine ⟨rfl, _, rfl, pd, ca, 3, N + 2 + j, rfl, hP5, by omega, by decide, by decide, fun r H7 b7 hP7 r0 r3 => ?_⟩
      refine ⟨_, b7 _ _ hss (nps.symm), ?_, hP7.put nps ncs, ss ++ [r], ?_, ?_, ?_⟩
      · rw [List.length_map, hlen]
        exact sz_lt (by omega)
      · rw [upd_same, List.map_append]
        rfl
      · rw [List.length_append, hlen]
        rfl
      · intro s hs
        rcases List.mem_append.mp hs with hs | hs
        · exact h012 s hs
        · have := List.mem_singleton.mp hs
          omega
    rintro H5 ⟨hP5, ss, hss, hlen, h012⟩
    -- the rounds
    refine ⟨_, _, rfl, rfl, ⟨by decide, by decide, by decide⟩, _, rfl, pd, ca, 1000, N + 2 + (k + 1), rfl, hP5, by omega, by decide, by decide, fun r2 H6 b6 hP6 r20 r21 => ?_⟩
    refine ⟨_, _, rfl, rfl, ?_⟩
    have hss6 := b6 _ _ hss nps.symm
    have hR : 1 ≤ (10 : Int) ^ (22 : Int).toNat + r2 := by
      have : (0 : Int) < (10 : Int) ^ (22 : Int).toNat := by decide
      omega
    show gName 5 (.int ((10 : Int) ^ (22 : Int).toNat + r2)) _ H6 _
    generalize (10 : Int) ^ (22 : Int).toNat + r2 = R at hR
    -- the counts
    refine ⟨3, rfl, by decide, by decide, fun bl nbl => ?_⟩
    have npb := (hP6.new nbl).1
    have ncb := (hP6.new nbl).2
    have nsb : sl ≠ bl := ne_of_none hss6 nbl
    refine lc_it (walk_range (lo := 0) (n := 3)) (fun i H' => PenAt H' pd ca (N + 2 + (k + 1) + 1 + i) ∧ H' sl = some (.lst (ss.map V.int)) ∧ ∃ bs : List Int, H' bl = some (.lst (bs.map V.int)) ∧ bs.length = i ∧ ∀ s ∈ bs, 0 ≤ s) ⟨hP6.put npb ncb, by rw [upd_ne nsb]; exact hss6, [], upd_same, rfl, fun s hs => by cases hs⟩ (fun i H' _ _ => trivial) ?_ ?_
    · rintro j x H7 H8 hj ⟨hP7, hss7, bs, hbs, hbl, hb0⟩ ⟨rfl, rfl⟩
      refine ⟨rfl, _, rfl, _, _, rfl, rfl, ⟨by decide, by decide, by decide⟩, pd, ca, (10 : Int) ^ (9 : Int).toNat, N + 2 + (k + 1) + 1 + j, rfl, hP7, by omega, by decide, by decide, fun r H9 b9 hP9 r0 _ => ?_⟩
      refine ⟨_, b9 _ _ hbs npb.symm, ?_, hP9.put npb ncb, by rw [upd_ne nsb]; exact b9 _ _ hss7 nps.symm, bs ++ [r], ?_, ?_, ?_⟩
      · rw [List.length_map, hbl]
        exact sz_lt (by omega)
      · rw [upd_same, List.map_append]
        rfl
      · rw [List.length_append, hbl]
        rfl
      · intro s hs
        rcases List.mem_append.mp hs with hs | hs
        · exact hb0 s hs
        · have := List.mem_singleton.mp hs
          omega
    rintro H7 ⟨hP7, hss7, bs, hbs, hbl, hb0⟩
    obtain ⟨x0, x1, x2, rfl⟩ : ∃ x0 x1 x2 : Int, bs = [x0, x1, x2] := by
      match bs, hbl with
      | [x0, x1, x2], _ => exact ⟨x0, x1, x2, rfl⟩
    have p0 := hb0 x0 (by simp)
    have p1 := hb0 x1 (by simp)
    have p2 := hb0 x2 (by simp)
    -- the short sign leads
    refine ⟨_, rfl, bl, [x0, x1, x2], rfl, sqL hbs, by show 0 < 3; decide, fun m hm hle => ?_⟩
    refine ⟨_, rfl, _, _, rfl, rfl, ⟨by decide, by decide, by decide⟩, _, rfl, _, _, rfl, rfl, ⟨by decide, by decide, by decide⟩, pd, ca, (10 : Int) ^ (6 : Int).toNat, N + 2 + (k + 1) + 1 + 3, rfl, hP7, by omega, by decide, by decide, fun r3 H8 b8 hP8 r30 r31 => ?_⟩
    refine ⟨_, _, rfl, rfl, _, _, rfl, rfl, ⟨by decide, by decide, by decide⟩, by show 5 ≤ sizeLine; decide, fun il nil => ?_⟩
    have hss8 := b8 _ _ hss7 nps.symm
    have hbs8 := b8 _ _ hbs npb.symm
    refine ⟨pd, ca, il, [0, 1, 5, (10 : Int) ^ (6 : Int).toNat + r3, (10 : Int) ^ (20 : Int).toNat], N + 2 + (k + 1) + 1 + 3 + 1, rfl, hP8.put (hP8.new nil).1 (hP8.new nil).2, by omega, upd_same, by show 0 < 5; decide, by show 5 < 1000; decide, fun ad H9 b9 hP9 had => ?_⟩
    have ad0 : 0 ≤ ad := by
      have t6 : (0 : Int) < (10 : Int) ^ (6 : Int).toNat := by decide
      have t20 : (0 : Int) < (10 : Int) ^ (20 : Int).toNat := by decide
      simp only [List.mem_cons, List.not_mem_nil, or_false] at had
      omega
    have hss9 := b9 _ _ ((Ex.new nil) _ _ hss8) nps.symm
    have hbs9 := b9 _ _ ((Ex.new nil) _ _ hbs8) npb.symm
    have h3' : h = 0 ∨ h = 1 ∨ h = 2 := by omega
    obtain ⟨j, hj⟩ : ∃ j : Nat, ixN 3 h = some j ∧ (j : Int) = h := by
      rcases h3' with rfl | rfl | rfl
      · exact ⟨0, rfl, rfl⟩
      · exact ⟨1, rfl, rfl⟩
      · exact ⟨2, rfl, rfl⟩
    refine ⟨_, _, rfl, rfl, _, rfl, _, rfl, bl, _, h, j, rfl, rfl, hbs9, hj.1, ?_⟩
    obtain ⟨c0, c1, c2, hset, g0, g1, g2, gg⟩ : ∃ c0 c1 c2 : Int, (([x0, x1, x2].map V.int).set j (.int (m + ad))) = [c0, c1, c2].map V.int ∧ 0 ≤ c0 ∧ 0 ≤ c1 ∧ 0 ≤ c2 ∧ (c0 ≤ cn c0 c1 c2 h ∧ c1 ≤ cn c0 c1 c2 h ∧ c2 ≤ cn c0 c1 c2 h) := by
      have l0 := hle x0 (by simp)
      have l1 := hle x1 (by simp)
      have l2 := hle x2 (by simp)
      obtain ⟨_, hj2⟩ := hj
      rcases h3' with rfl | rfl | rfl
      · obtain rfl : j = 0 := by omega
        exact ⟨m + ad, x1, x2, rfl, by omega, p1, p2, (by show m + ad ≤ m + ad ∧ x1 ≤ m + ad ∧ x2 ≤ m + ad; omega)⟩
      · obtain rfl : j = 1 := by omega
        exact ⟨x0, m + ad, x2, rfl, p0, by omega, p2, (by show x0 ≤ m + ad ∧ m + ad ≤ m + ad ∧ x2 ≤ m + ad; omega)⟩
      · obtain rfl : j = 2 := by omega
        exact ⟨x0, x1, m + ad, rfl, p0, p1, by omega, (by show x0 ≤ m + ad ∧ x1 ≤ m + ad ∧ m + ad ≤ m + ad; omega)⟩
    rw [hset]
    have hss10 : (upd H9 bl (.lst ([c0, c1, c2].map V.int))) sl = some (.lst (ss.map V.int)) := by rw [upd_ne nsb]; exact hss9
    have hbs10 : (upd H9 bl (.lst ([c0, c1, c2].map V.int))) bl = some (.lst ([c0, c1, c2].map V.int)) := upd_same
    have hP10 := (hP9.put (o := .lst ([c0, c1, c2].map V.int)) npb ncb).wide (M := 20 * (i + 1)) (by omega)
    generalize (upd H9 bl (.lst ([c0, c1, c2].map V.int))) = H10 at hss10 hbs10 hP10
    clear hbs9 hss9 hbs8 hss8 hbs hss7 hss6 hss
    -- the text
    refine fun dd ndd => ?_
    have e11 : Ex H10 (upd H10 dd (.dK [])) := Ex.new ndd
    have hdd11 : (upd H10 dd (.dK [])) dd = some (.dK []) := upd_same
    generalize (upd H10 dd (.dK [])) = H11 at e11 hdd11
    have hss11 := e11 _ _ hss10
    refine ⟨_, rfl, sl, rfl, ⟨_, sqL hss11⟩, fun Dl hDl => ?_⟩
    refine lc_it (walk_list (xs := ss.map V.int)) (fun i H' => Ex H11 H' ∧ ∃ ps : List Addr, H' Dl = some (.lst (ps.map V.ref)) ∧ PartsIn H' ps (loopP (ss.take i))) ⟨Ex.new hDl, [], upd_same, rfl, fun i p v n a => by cases a⟩ (fun i H' _ ⟨e, _⟩ => sqL (e _ _ hss11)) ?_ ?_
    · rintro j2 x H12 H13 hj2 ⟨e12, ps, hps, hpi⟩ ⟨rfl, hx⟩
      obtain ⟨sv, hsv, rfl⟩ := get_int hx
      refine ⟨rfl, _, rfl, by show 2 ≤ sizeLine; decide, fun tp ntp => ?_⟩
      have etp : Ex H13 (upd H13 tp (.tup [.int sv, .int 1])) := Ex.new ntp
      have hps2 := etp _ _ hps
      refine ⟨_, hps2, ?_, (e12.trans etp).mut hDl, ps ++ [tp], ?_, ?_⟩
      · rw [List.length_map, hpi.1]
        unfold loopP
        rw [List.length_map, List.length_take]
        exact sz_lt (by omega)
      · rw [upd_same, List.map_append]
        rfl
      · have el : loopP (ss.take (j2 + 1)) = loopP (ss.take j2) ++ [(V.int sv, 1)] := by
          unfold loopP
          rw [take_snoc hsv, List.map_append]
          rfl
        rw [el]
        exact PartsIn.monoN (ExB.of (Ex.refl _)).put hps2 (fun _ e => by cases e) ((hpi.mono etp).snoc upd_same)
    rintro H12 ⟨e12, ps, hps, hpi⟩
    rw [List.take_of_length_le (by rw [List.length_map]; exact Nat.le_refl _)] at hpi
    refine ⟨_, rfl, by show 2 ≤ sizeLine; decide, fun tq ntq => ⟨by show 1 ≤ sizeLine; decide, fun lb nlb => ?_⟩⟩
    have e13 : Ex H12 (upd (upd H12 tq (.tup [.str "LOOP", .int R])) lb (.lst [.ref tq])) := (Ex.new ntq).of_new nlb
    have hlb : (upd (upd H12 tq (.tup [.str "LOOP", .int R])) lb (.lst [.ref tq])) lb = some (.lst [.ref tq]) := upd_same
    have htq : (upd (upd H12 tq (.tup [.str "LOOP", .int R])) lb (.lst [.ref tq])) tq = some (.tup [.str "LOOP", .int R]) := (Ex.new nlb) _ _ upd_same
    generalize (upd (upd H12 tq (.tup [.str "LOOP", .int R])) lb (.lst [.ref tq])) = H13 at e13 hlb htq
    have hdd13 := e13 _ _ (e12 _ _ hdd11)
    have hps13 := e13 _ _ hps
    refine ⟨hdd13, two Dl lb, rfl, by show 2 ≤ 15; decide, ?_⟩
    have em : mergeK [] (two Dl lb) = two Dl lb := by
      show putK (putK [] kL (.ref Dl)) kT (.ref lb) = _
      rw [putK_new (kvs := []) _ valV_nil]
      rw [putK_new _ (valV_neg (fun e => lt_ne (Sum.inr.inj e)))]
      rfl
    rw [em]
    have bd : ExB dd H13 (upd H13 dd (.dK (two Dl lb))) := (ExB.of (Ex.refl _)).put
    have hdd14 : (upd H13 dd (.dK (two Dl lb))) dd = some (.dK (two Dl lb)) := upd_same
    have hDl14 := bd _ _ hps13 (ne_of hps13 hdd13 (by intro e; cases e))
    have hlb14 := bd _ _ hlb (ne_of hlb hdd13 (by intro e; cases e))
    have hpi14 := PartsIn.monoN bd hdd13 (fun _ e => by cases e) (hpi.mono e13)
    have hq14 : PartsIn (upd H13 dd (.dK (two Dl lb))) [tq] (topP R) := PartsIn.snoc (ps := []) (l := []) ⟨rfl, fun i p v n a => by cases a⟩ (bd _ _ htq (ne_of htq hdd13 (by intro e; cases e)))
    have e14 : Ex H10 (upd H13 dd (.dK (two Dl lb))) := ((e11.trans e12).trans e13).mut ndd
    generalize (upd H13 dd (.dK (two Dl lb))) = H14 at hdd14 hDl14 hlb14 hpi14 hq14 e14
    refine fun tx tdx ntx ntdx ntt => ?_
    have ex : Ex H14 (upd (upd H14 tdx (.own tx)) tx (.ins CT tdx [])) := (Ex.new ntdx).of_new (by rw [upd_ne ntt.symm]; exact ntx)
    refine ⟨tx, tdx, dd, Dl, lb, tq, ps, ss, R, rfl, upd_same, ex _ _ hdd14, ex _ _ hDl14, hpi14.mono ex, ex _ _ hlb14, hq14.mono ex, by omega, h012, hR, fun H15 b15 hT => ⟨rfl, ?_⟩⟩
    have e15 : Ex H10 H15 := e14.trans (b15.made ntx ntdx)
    -- the other signs
    have hbs15 := e15 _ _ hbs10
    have hss15 := e15 _ _ hss10
    have hP15 := hP10.mono e15
    clear hbs10 hss10 hP10 e15
    refine ⟨3, rfl, by decide, by decide, fun D1 hD1 => lc_rngF (n := 3) hD1 (fun i => !decide (V.int (i : Int) = V.int h)) (fun i => .int (i : Int)) (by decide) (fun x => rfl) (fun j5 H16 hj e => ?_) (fun j5 H16 hj _ e => ev_var rfl) (fun H16 e16 hL1 => ?_)⟩
    · intro H17 e17 Q' q'
      exact ⟨_, rfl, _, rfl, rfl, _, rfl, q' H17 (Ex.refl H17)⟩
    rw [others_list h3'] at hL1
    obtain ⟨mx, hmx⟩ : ∃ mx : Int → Int, ∀ o, IsMax (mx o) (walkL h o ss) :=
      have ex : ∀ o, ∃ m, IsMax m (walkL h o ss) := fun o => max_ex _ (fun e => by
        have := walkL_len h o ss
        rw [e, hlen] at this
        cases this)
      ⟨fun o => Classical.choose (ex o), fun o => Classical.choose_spec (ex o)⟩
    have len2 : (othersM h).length = 2 := by
      unfold othersM
      split
      · rfl
      · split <;> rfl
    have le_o : ∀ o ∈ othersM h, cn c0 c1 c2 o ≤ cn c0 c1 c2 h := by
      intro o ho
      rcases others_in ho with rfl | rfl | rfl
      · exact gg.1
      · exact gg.2.1
      · exact gg.2.2
    refine ⟨_, rfl, D1, rfl, ⟨_, sqL hL1⟩, fun D2 hD2 => lc_ints (ns := othersM h) hD2 (sqL hL1) (fun o => passedM (cn c0 c1 c2 h - cn c0 c1 c2 o) (mx o) h o ss R) (by rw [len2]; decide) (fun x => rfl) (fun o H17 ho e17 => ?_) (fun H17 e17 hL2 => ?_)⟩
    · intro H18 e18 Q' q'
      have e168 := (e16.trans e17).trans e18
      have := le_o o ho
      refine ⟨_, rfl, _, rfl, bl, _, h, _, rfl, rfl, sqL (e168 _ _ hbs15), cn_at h3', _, rfl, _, rfl, bl, _, o, _, rfl, rfl, sqL (e168 _ _ hbs15), cn_at (others_in ho), _, _, rfl, rfl, _, rfl, _, rfl, _, rfl, _, rfl, sl, _, h, o, R, ss, rfl, sqL (e168 _ _ hss15), by omega, by omega, by omega, fun m' hm' => ?_⟩
      rw [hm'.one (hmx o)]
      exact fun H19 e19 => q' H19 e19
    have pv_len : ((othersM h).map fun o => passedM (cn c0 c1 c2 h - cn c0 c1 c2 o) (mx o) h o ss R).length = 2 := by rw [List.length_map, len2]
    refine ⟨_, rfl, D2, rfl, ⟨_, sqL hL2⟩, fun D3 hD3 => lc_ev (walk_list (xs := (othersM h).map fun o => passedM (cn c0 c1 c2 h - cn c0 c1 c2 o) (mx o) h o ss R)) hD3 (fun H' e => sqL (e _ _ hL2)) (fun i => (foundL c0 c1 c2 h R ss mx ((othersM h).take i)).map V.int) rfl (fun i hi => ?_) ?_ (fun H18 e18 hL3 => ?_)⟩
    · rw [List.length_map]
      have z1 := List.length_filterMap_le (fun o => intOf (passedM (cn c0 c1 c2 h - cn c0 c1 c2 o) (mx o) h o ss R)) ((othersM h).take i)
      have z2 : ((othersM h).take i).length ≤ 2 := by
        rw [List.length_take, len2]
        exact Nat.min_le_right _ _
      exact Nat.lt_of_le_of_lt (Nat.le_trans z1 z2) (by decide)
    · rintro j6 x H18 H19 hj e18 ⟨rfl, hx⟩
      rw [List.getElem?_map] at hx
      cases ho : (othersM h)[j6]? with
      | none =>
        rw [ho] at hx
        cases hx
      | some o =>
        rw [ho] at hx
        obtain rfl : passedM (cn c0 c1 c2 h - cn c0 c1 c2 o) (mx o) h o ss R = x := Option.some.inj hx
        have estep : foundL c0 c1 c2 h R ss mx ((othersM h).take (j6 + 1)) = foundL c0 c1 c2 h R ss mx ((othersM h).take j6) ++ (intOf (passedM (cn c0 c1 c2 h - cn c0 c1 c2 o) (mx o) h o ss R)).toList := by
          unfold foundL
          rw [take_snoc ho, List.filterMap_append]
          congr 1
        rcases passedM_is (cn c0 c1 c2 h - cn c0 c1 c2 o) (mx o) h o R ss with hp | ⟨kk, hp⟩
        · rw [hp] at estep ⊢
          refine ⟨Ex.refl _, _, false, fun Qs q => q, rfl, fun H20 e20 Q' q' => ⟨_, rfl, rfl, _, rfl, q' H20 (Ex.refl H20)⟩, (fun hb => by cases hb), fun _ => ?_⟩
          rw [estep]
          simp [intOf]
        · rw [hp] at estep ⊢
          refine ⟨Ex.refl _, _, true, fun Qs q => q, rfl, fun H20 e20 Q' q' => ⟨_, rfl, rfl, _, rfl, q' H20 (Ex.refl H20)⟩, fun _ => ⟨.int kk, ev_var rfl, ?_⟩, (fun hb => by cases hb)⟩
          rw [estep, List.map_append]
          rfl
    have et : (othersM h).take ((othersM h).map fun o => passedM (cn c0 c1 c2 h - cn c0 c1 c2 o) (mx o) h o ss R).length = othersM h := List.take_of_length_le (by rw [List.length_map]; exact Nat.le_refl _)
    rw [et] at hL3
    -- the code
    refine ⟨3, rfl, by decide, by decide, fun D4 hD4 => lc_rng (n := 3) hD4 (fun i => .int (if decide (V.int (i : Int) = V.int h) = true then 1 else 2)) (by decide) (fun x => rfl) (fun j7 H19 hj e => ?_) (fun H19 e19 hL4 => ?_)⟩
    · intro H20 e20 Q' q'
      refine ⟨_, rfl, _, rfl, rfl, _, rfl, ?_⟩
      cases hdd : decide (V.int (j7 : Int) = V.int h) with
      | true =>
        rw [hdd] at q'
        exact q' H20 (Ex.refl H20)
      | false =>
        rw [hdd] at q'
        exact q' H20 (Ex.refl H20)
    rw [lens_list] at hL4
    refine fun cx cdx ncx ncdx ncc => ?_
    have ex2 : Ex H19 (upd (upd H19 cdx (.own cx)) cx (.ins CC cdx [])) := (Ex.new ncdx).of_new (by rw [upd_ne ncc.symm]; exact ncx)
    refine ⟨cx, cdx, D4, h, rfl, upd_same, sqL (ex2 _ _ hL4), ne_of_none hL4 ncx, h3', fun H20 b20 hC => ⟨rfl, ?_⟩⟩
    have e1519 := ((e16.trans e17).trans e18).trans e19
    have e20 : Ex H19 H20 := b20.made ncx ncdx
    have e1520 := e1519.trans e20
    have hL3' := e20 _ _ (e19 _ _ hL3)
    refine ⟨_, rfl, _, rfl, _, rfl, cx, bl, tx, c0, c1, c2, h, R, ss, mx, rfl, hC, sqL (e1520 _ _ hbs15), hT.mono e1520, g0, g1, g2, gg, by omega, by omega, h012, hR, fun o _ => hmx o, fun v hv H21 e21 => ?_⟩
    have hL3'' := e21 _ _ hL3'
    have hP21 := (hP15.mono e1520).mono e21
    refine ⟨_, rfl, by show 0 ≤ sizeLine; decide, fun p np => ?_⟩
    have e22 : Ex H21 (upd H21 p (.lst [])) := Ex.new np
    have hp22 : (upd H21 p (.lst [])) p = some (.lst []) := upd_same
    generalize (upd H21 p (.lst [])) = H22 at e22 hp22
    have hL22 := e22 _ _ hL3''
    have hP22 := hP21.mono e22
    refine ⟨_, _, .lst (sqL hL22) (dp_ints _), .lst (sqL hp22) .nil, PySem.W.ke_shaped_ints _, rfl, _, rfl, ?_⟩
    rw [eqv_nil]
    generalize foundL c0 c1 c2 h R ss mx (othersM h) = F at hv hL22
    cases F with
    | nil =>
      have : v = .non := hv.one (.inl ⟨rfl, rfl⟩)
      subst this
      refine ⟨rfl, false, rfl, ?_⟩
      exact ⟨_, _, _, _, _, _, _, _, _, rfl, hP22⟩
    | cons x F =>
      refine ⟨_, rfl, D3, x :: F, rfl, sqL hL22, Nat.zero_lt_succ _, fun m hm hle => ?_⟩
      have : v = .int m := hv.one (.inr ⟨m, rfl, hm, hle⟩)
      subst this
      refine ⟨rfl, _, rfl, ?_⟩
      rw [decide_eq_true rfl]
      exact ⟨_, _, _, _, _, _, _, _, _, rfl, hP22⟩
  · rintro σ H2 ⟨v2, v3, v4, v5, v6, v7, v8, v9, v10, rfl, hP2⟩
    exact q H2
end
end LJ

set_option maxHeartbeats 4000000
/-! What the head tells: each def by its place, the property's getter; all promises in a chain. -/
namespace LJ
open PySem PySem.Spec PyProof.Rows L2 Evl
/-! ### a property in the Hook -/
/-- where the getter stands -/
def getterA (K : PySem.W.Frag) (C f : Str) : Addr := match PySem.W.recIn K (He.ma K (He.ga K C) f) "property" with
  | some (.ref g :: _) => g
  | _ => 0
def isGetter (K : PySem.W.Frag) (C f : Str) : Bool := match PySem.W.recIn K (He.ma K (He.ga K C) f) "property" with
  | some (.ref _ :: _) => true
  | _ => false
def propB (K : PySem.W.Frag) (C f : Str) : Bool := He.eqO (PySem.W.findIn K (.ref (He.ga K C)) f) (some (some (.ref (He.ma K (He.ga K C) f)))) && (He.eqO (PySem.W.specialIn K (.ref (He.ma K (He.ga K C) f)) "__get__") (some (some (.builtin "property.__get__"))) &&
  (decide (PySem.W.takesIn K (.ref (He.ma K (He.ga K C) f)) = some true) && isGetter K C f))
theorem propB_ok {K : PySem.W.Frag} {C f : Str} (h : propB K C f = true) : PropOf K (He.ga K C) f (He.ma K (He.ga K C) f) (getterA K C f) := by
  obtain ⟨h1, h⟩ := He.ba h
  obtain ⟨h2, h⟩ := He.ba h
  obtain ⟨h3, h4⟩ := He.ba h
  refine ⟨He.eqO_ok h1, He.eqO_ok h2, of_decide_eq_true h3, ?_⟩
  unfold isGetter at h4
  unfold getterA
  split at h4
  · rename_i g rest e
    rw [e]
    exact ⟨rest, rfl⟩
  · cases h4
/-- the def at an address -/
def fnWA (K : PySem.W.Frag) (a : Addr) : He.FnW := match K.lookup a with
  | some ⟨_, _, .func fd, _⟩ => some (fd.name, fd.qualname, fd.params, fd.body, fd.scope, fd.globals, fd.closure, fd.builtins)
  | _ => none
def okA (K : PySem.W.Frag) (a : Addr) (qual : Str) : Bool := PySem.W.keepIn K (.ref a) && (match K.lookup a with
  | some ⟨_, _, .func fd, _⟩ => PySem.W.codeIn K fd.code qual && (He.dflB K fd.defaults [] && He.kwdB K fd.kwdefaults [])
  | _ => false)
theorem funD_at {K : PySem.W.Frag} {a : Addr} {x qual : Str} {ps : Arguments} {body : List Stmt} {sc : Scope} (e : fnWA K a = some (x, qual, ps, .stmts body, sc, mainGlobals, [], builtinsNs)) (c : okA K a qual = true) : ∃ fd, FunD K x qual ps body sc [] [] a fd := by
  obtain ⟨kp, c2⟩ := He.ba c
  unfold fnWA at e
  cases q : K.lookup a with
  | none =>
    rw [q] at c2
    cases c2
  | some o =>
    obtain ⟨oc, od, dt, osl⟩ := o
    rw [q] at c2 e
    cases dt with
    | func fd =>
      obtain ⟨n1, n2, n3, n4, n5, n6, n7, n8, n9, n10, n11, n12, n13, n14, n15⟩ := fd
      have e2 : (some (n1, n2, n3, n4, n5, n6, n7, n15) : He.FnW) = some (x, qual, ps, .stmts body, sc, mainGlobals, [], builtinsNs) := e
      simp only [Option.some.injEq, Prod.mk.injEq] at e2
      obtain ⟨h1, h2, h3, h4, h5, h6, h7, h8⟩ := e2
      subst h1 h2 h3 h4 h5 h6 h7 h8
      have c3 : (PySem.W.codeIn K n13 _ && (He.dflB K n8 [] && He.kwdB K n9 [])) = true := c2
      obtain ⟨k1, k2⟩ := He.ba c3
      obtain ⟨k3, k4⟩ := He.ba k2
      exact ⟨_, ⟨oc, od, n8, n9, n10, n11, n12, n13, n14, osl, rfl, q, k1, He.dflB_ok k3, He.kwdB_ok k4⟩, kp⟩
    | _ => cases c2
abbrev AlP : Type := He.AlD × Bool × He.FnW
def obsP (fa : List He.Fa) (fn : List He.DefD) (C f : Str) (d : He.DefD) (K : PySem.W.Frag) : AlP := (He.obsD fa fn K, propB K C f && okA K (getterA K C f) d.qual, fnWA K (getterA K C f))
def valP (fn : List He.DefD) (d : He.DefD) : AlP := (He.valD fn, true, d.val)
def SaysP (fa : List He.Fa) (fn : List He.DefD) (C f : Str) (d : He.DefD) (K : PySem.W.Frag) : Prop := obsP fa fn C f d K = valP fn d
def obsPG (n : Nat) (fa : List He.Fa) (fn : List He.DefD) (C f : Str) (d : He.DefD) (g : Addr → Option Obj) : AlP := obsP fa fn C f d (He.frG g (He.asD g n))
def hookP (n : Nat) (fa : List He.Fa) (fn : List He.DefD) (C f : Str) (d : He.DefD) : PySem.W.Hook where
  α := AlP
  obs := fun s => obsPG n fa fn C f d s.heap.get?
  val := fun _ => valP fn d
  says := fun _ h => ∃ K : PySem.W.Frag, K.In h ∧ SaysP fa fn C f d K
  of := fun _ _ e => ⟨_, He.frG_in, e⟩
  keeps := fun _ _ _ ⟨K, hK, c⟩ k => ⟨K, PySem.W.Frag.In.keeps hK k, c⟩
theorem obsPG_eq {n : Nat} {fa : List He.Fa} {fn : List He.DefD} {C f : Str} {d : He.DefD} {g : Addr → Option Obj} {s : Shared} (h : ∀ a, g a = s.heap.get? a) : obsPG n fa fn C f d g = (hookP n fa fn C f d).obs s := by
  have e : g = s.heap.get? := funext h
  rw [e] <;> rfl
theorem SaysP.d {fa : List He.Fa} {fn : List He.DefD} {C f : Str} {d : He.DefD} {K : PySem.W.Frag} (c : SaysP fa fn C f d K) : He.SaysD fa fn K := congrArg (fun z : AlP => z.1) c
theorem SaysP.p {fa : List He.Fa} {fn : List He.DefD} {C f : Str} {d : He.DefD} {K : PySem.W.Frag} (c : SaysP fa fn C f d K) : PropOf K (He.ga K C) f (He.ma K (He.ga K C) f) (getterA K C f) ∧ ∃ fd, FunD K d.name d.qual d.params d.body d.scope [] [] (getterA K C f) fd := by
  have e1 : (propB K C f && okA K (getterA K C f) d.qual) = true := congrArg (fun z : AlP => z.2.1) c
  have e2 : fnWA K (getterA K C f) = d.val := congrArg (fun z : AlP => z.2.2) c
  obtain ⟨h1, h2⟩ := He.ba e1
  exact ⟨propB_ok h1, funD_at e2 h2⟩
/-! ### the text's defs as data -/
def mkD (p : Str × Option Str) (x qual : Str) (st : Stmt) (dfl : List He.Dv) : He.DefD := ⟨p, x, qual, C8.fnArgs st, C8.fnBody st, C8.fnScope st, dfl, []⟩
theorem fun_of {K : PySem.W.Frag} {x qual : Str} {st : Stmt} {dvs : List V} {f : Addr} {fd : FuncData} (F : FunD K x qual (C8.fnArgs st) (C8.fnBody st) (C8.fnScope st) dvs [] f fd) : C8.Fun K x qual st f fd := by
  obtain ⟨oc, od, dV, kV, doc, pm, an, cdv, ct, osl, h1, h2, h3, _⟩ := F.ex
  exact ⟨oc, od, dV, kV, doc, pm, an, cdv, ct, osl, h1, h2, h3⟩
def dd_is_whole_codes : He.DefD := mkD ("is_whole_codes", none) "is_whole" "is_whole" s_is_whole_codes []
def dd_two_to : He.DefD := mkD ("two_to", none) "two_to" "two_to" s_two_to []
def dd_check_signs : He.DefD := mkD ("check_signs", none) "check_signs" "check_signs" s_check_signs []
def dd_check_counts : He.DefD := mkD ("check_counts", none) "check_counts" "check_counts" s_check_counts []
def dd_bits_of : He.DefD := mkD ("bits_of", none) "bits_of" "bits_of" s_bits_of []
def dd_canonical : He.DefD := mkD ("canonical", none) "canonical" "canonical" s_canonical []
def dd_Code_init : He.DefD := mkD ("Code", some "__init__") "__init__" "Code.__init__" s_Code_init [.non]
def dd_check_pair : He.DefD := mkD ("check_pair", none) "check_pair" "check_pair" s_check_pair []
def dd_cost : He.DefD := mkD ("cost", none) "cost" "cost" s_cost []
def dd_cost_of : He.DefD := mkD ("cost_of", none) "cost_of" "cost_of" s_cost_of []
def dd_check_code : He.DefD := mkD ("check_code", none) "check_code" "check_code" s_check_code []
def dd_level_of : He.DefD := mkD ("level_of", none) "level_of" "level_of" s_level_of []
def dd_is_whole_common : He.DefD := mkD ("is_whole_common", none) "is_whole" "is_whole" s_is_whole_common []
def dd_is_name : He.DefD := mkD ("is_name", none) "is_name" "is_name" s_is_name []
def dd_is_part : He.DefD := mkD ("is_part", none) "is_part" "is_part" s_is_part []
def dd_is_rule : He.DefD := mkD ("is_rule", none) "is_rule" "is_rule" s_is_rule []
def dd_names_below : He.DefD := mkD ("names_below", none) "names_below" "names_below" s_names_below []
def dd_from_below : He.DefD := mkD ("from_below", none) "from_below" "from_below" s_from_below []
def dd_Text_init : He.DefD := mkD ("Text", some "__init__") "__init__" "Text.__init__" s_Text_init []
def dd_Text_counts_of : He.DefD := mkD ("Text", some "counts_of") "counts_of" "Text.counts_of" s_Text_counts_of []
def dd_Text_summed : He.DefD := mkD ("Text", some "summed") "summed" "Text.summed" s_Text_summed []
def dd_Text_size_of : He.DefD := mkD ("Text", some "size_of") "size_of" "Text.size_of" s_Text_size_of []
def dd_rows_of : He.DefD := mkD ("rows_of", none) "rows_of" "rows_of" s_rows_of []
def dd_RowWalk_init : He.DefD := mkD ("RowWalk", some "__init__") "__init__" "RowWalk.__init__" s_RowWalk_init []
def dd_RowWalk_change_of : He.DefD := mkD ("RowWalk", some "change_of") "change_of" "RowWalk.change_of" s_RowWalk_change_of []
def dd_RowWalk_walked : He.DefD := mkD ("RowWalk", some "walked") "walked" "RowWalk.walked" s_RowWalk_walked []
def dd_RowWalk_first_below : He.DefD := mkD ("RowWalk", some "first_below") "first_below" "RowWalk.first_below" s_RowWalk_first_below []
def dd_RowWalk_entered : He.DefD := mkD ("RowWalk", some "entered") "entered" "RowWalk.entered" s_RowWalk_entered []
def dd_first_lost : He.DefD := mkD ("first_lost", none) "first_lost" "first_lost" s_first_lost []
def dd_law_pen : He.DefD := mkD ("_law_pen", none) "_law_pen" "_law_pen" s_law_pen []
def dd_law_draw : He.DefD := mkD ("_law_draw", none) "_law_draw" "_law_draw" s_law_draw []
def dd_law_pick : He.DefD := mkD ("_law_pick", none) "_law_pick" "_law_pick" s_law_pick []
def dd_law_passed : He.DefD := mkD ("_law_passed", none) "_law_passed" "_law_passed" s_law_passed []
def dd_law : He.DefD := mkD ("law", none) "law" "law" s_law []
def dd_Text_rules : He.DefD := mkD ("Text", some "rules") "rules" "Text.rules" s_Text_rules []
def theFn_0 : List He.DefD := [dd_is_whole_codes, dd_two_to, dd_check_signs, dd_check_counts, dd_bits_of, dd_canonical, dd_Code_init, dd_check_pair, dd_cost, dd_cost_of, dd_check_code, dd_level_of, dd_is_whole_common, dd_is_name, dd_is_part, dd_is_rule, dd_names_below, dd_from_below, dd_Text_init, dd_Text_counts_of]
def theFn_1 : List He.DefD := [dd_Text_summed, dd_Text_size_of, dd_rows_of, dd_RowWalk_init, dd_RowWalk_change_of, dd_RowWalk_walked, dd_RowWalk_first_below, dd_RowWalk_entered, dd_first_lost, dd_law_pen, dd_law_draw, dd_law_pick, dd_law_passed, dd_law]
def theFn : List He.DefD := theFn_0 ++ theFn_1
def theFa_0 : List He.Fa := [.glo "is_whole_codes", .glo "two_to", .glo "check_signs", .glo "check_counts", .glo "bits_of", .glo "canonical", .glo "check_pair", .glo "cost", .glo "cost_of", .glo "check_code", .glo "level_of", .glo "is_whole_common", .glo "is_name", .glo "is_part", .glo "is_rule", .glo "names_below", .glo "from_below", .glo "rows_of", .glo "first_lost", .glo "_law_pen"]
def theFa_1 : List He.Fa := [.glo "_law_draw", .glo "_law_pick", .glo "_law_passed", .glo "law", .glo "Code", .glo "Text", .glo "RowWalk", .free "len", .free "isinstance", .free "min", .free "max", .free "sum", .free "sorted", .free "list", .free "tuple", .free "dict", .free "int", .free "str", .free "bool", .free "abs"]
def theFa_2 : List He.Fa := [.free "all", .free "any", .free "range", .free "enumerate", .free "zip", .int "MOST_SIGNS_codes" 26, .int "MOST_LENGTH" 25, .str "CAPITALS" "ABCDEFGHIJKLMNOPQRSTUVWXYZ", .int "MOST_SIGNS_grown" 26, .int "MOST_RULES" 300, .int "MOST_PARTS" 40, .int "MOST_NAME" 8, .int "MOST_FOR_ROWS" 8, .cls "Code", .cls "Text", .cls "RowWalk", .noat "Code" "lengths", .noat "Code" "words", .noat "Code" "size", .noat "Code" "longest"]
def theFa_3 : List He.Fa := [.noat "Text" "signs", .noat "Text" "root", .noat "Text" "own_rules", .noat "Text" "own_counts", .noat "Text" "size", .noat "RowWalk" "text", .noat "RowWalk" "told_rules", .noat "RowWalk" "light", .noat "RowWalk" "heavy", .noat "RowWalk" "changes", .meth "Text" "counts_of", .meth "Text" "summed", .meth "Text" "size_of", .meth "RowWalk" "change_of", .meth "RowWalk" "walked", .meth "RowWalk" "first_below", .meth "RowWalk" "entered", .mkr "Code", .mkr "Text", .mkr "RowWalk"]
def theFa : List He.Fa := theFa_0 ++ theFa_1 ++ theFa_2 ++ theFa_3
section
variable {K : PySem.W.Frag} {h : Heap} {mg : Str → Option Value}
abbrev aC (K : PySem.W.Frag) : Addr := He.ga K "Code"
abbrev aT (K : PySem.W.Frag) : Addr := He.ga K "Text"
abbrev aR (K : PySem.W.Frag) : Addr := He.ga K "RowWalk"
theorem con_int {x : Str} {i : Int} (h : ∃ t, mg x = some (.int i t)) : ∃ u, mg x = some u ∧ RelV (.int i) u := by
  obtain ⟨t, e⟩ := h
  exact ⟨_, e, t, rfl⟩
theorem con_str {x z : Str} (h : ∃ t, mg x = some (.str z t)) : ∃ u, mg x = some u ∧ RelV (.str z) u := by
  obtain ⟨t, e⟩ := h
  exact ⟨_, e, t, rfl⟩
theorem txt_of (X : K.In h) (G : h.Ns mainGlobals mg) (c : He.SaysD theFa theFn K) : Txt K mg (aC K) (aT K) (aR K) := by
  constructor
  · exact He.free_ok X G (c.fact 27 (f := .free "len") rfl)
  · exact He.free_ok X G (c.fact 28 (f := .free "isinstance") rfl)
  · exact He.free_ok X G (c.fact 29 (f := .free "min") rfl)
  · exact He.free_ok X G (c.fact 30 (f := .free "max") rfl)
  · exact He.free_ok X G (c.fact 31 (f := .free "sum") rfl)
  · exact He.free_ok X G (c.fact 32 (f := .free "sorted") rfl)
  · exact He.free_ok X G (c.fact 33 (f := .free "list") rfl)
  · exact He.free_ok X G (c.fact 34 (f := .free "tuple") rfl)
  · exact He.free_ok X G (c.fact 35 (f := .free "dict") rfl)
  · exact He.free_ok X G (c.fact 36 (f := .free "int") rfl)
  · exact He.free_ok X G (c.fact 37 (f := .free "str") rfl)
  · exact He.free_ok X G (c.fact 38 (f := .free "bool") rfl)
  · exact He.free_ok X G (c.fact 39 (f := .free "abs") rfl)
  · exact He.free_ok X G (c.fact 40 (f := .free "all") rfl)
  · exact He.free_ok X G (c.fact 41 (f := .free "any") rfl)
  · exact He.free_ok X G (c.fact 42 (f := .free "range") rfl)
  · exact He.free_ok X G (c.fact 43 (f := .free "enumerate") rfl)
  · exact He.free_ok X G (c.fact 44 (f := .free "zip") rfl)
  · exact con_int (He.int_ok X G (c.fact 45 (f := .int "MOST_SIGNS_codes" 26) rfl))
  · exact con_int (He.int_ok X G (c.fact 46 (f := .int "MOST_LENGTH" 25) rfl))
  · exact con_str (He.str_ok X G (c.fact 47 (f := .str "CAPITALS" "ABCDEFGHIJKLMNOPQRSTUVWXYZ") rfl))
  · exact con_int (He.int_ok X G (c.fact 48 (f := .int "MOST_SIGNS_grown" 26) rfl))
  · exact con_int (He.int_ok X G (c.fact 49 (f := .int "MOST_RULES" 300) rfl))
  · exact con_int (He.int_ok X G (c.fact 50 (f := .int "MOST_PARTS" 40) rfl))
  · exact con_int (He.int_ok X G (c.fact 51 (f := .int "MOST_NAME" 8) rfl))
  · exact con_int (He.int_ok X G (c.fact 52 (f := .int "MOST_FOR_ROWS" 8) rfl))
  · exact He.cls_ok (c.fact 53 (f := .cls "Code") rfl)
  · exact He.cls_ok (c.fact 54 (f := .cls "Text") rfl)
  · exact He.cls_ok (c.fact 55 (f := .cls "RowWalk") rfl)
  · exact He.noat_ok (c.fact 56 (f := .noat "Code" "lengths") rfl)
  · exact He.noat_ok (c.fact 57 (f := .noat "Code" "words") rfl)
  · exact He.noat_ok (c.fact 58 (f := .noat "Code" "size") rfl)
  · exact He.noat_ok (c.fact 59 (f := .noat "Code" "longest") rfl)
  · exact He.noat_ok (c.fact 60 (f := .noat "Text" "signs") rfl)
  · exact He.noat_ok (c.fact 61 (f := .noat "Text" "root") rfl)
  · exact He.noat_ok (c.fact 62 (f := .noat "Text" "own_rules") rfl)
  · exact He.noat_ok (c.fact 63 (f := .noat "Text" "own_counts") rfl)
  · exact He.noat_ok (c.fact 64 (f := .noat "Text" "size") rfl)
  · exact He.noat_ok (c.fact 65 (f := .noat "RowWalk" "text") rfl)
  · exact He.noat_ok (c.fact 66 (f := .noat "RowWalk" "told_rules") rfl)
  · exact He.noat_ok (c.fact 67 (f := .noat "RowWalk" "light") rfl)
  · exact He.noat_ok (c.fact 68 (f := .noat "RowWalk" "heavy") rfl)
  · exact He.noat_ok (c.fact 69 (f := .noat "RowWalk" "changes") rfl)
theorem df_is_whole_codes (X : K.In h) (G : h.Ns mainGlobals mg) (c : He.SaysD theFa theFn K) : Df K mg "is_whole_codes" "is_whole" s_is_whole_codes ["value", "least"] := by
  obtain ⟨fd, F⟩ := c.def_ 0 (d := dd_is_whole_codes) rfl
  exact ⟨_, fd, fun_of F, He.glo_ok X G (c.fact 0 (f := .glo "is_whole_codes") rfl), F.kp, FunD.bindsN F (fun _ _ _ _ _ _ us hl => match us, hl with | [_, _], _ => rfl)⟩
theorem df_two_to (X : K.In h) (G : h.Ns mainGlobals mg) (c : He.SaysD theFa theFn K) : Df K mg "two_to" "two_to" s_two_to ["many"] := by
  obtain ⟨fd, F⟩ := c.def_ 1 (d := dd_two_to) rfl
  exact ⟨_, fd, fun_of F, He.glo_ok X G (c.fact 1 (f := .glo "two_to") rfl), F.kp, FunD.bindsN F (fun _ _ _ _ _ _ us hl => match us, hl with | [_], _ => rfl)⟩
theorem df_check_signs (X : K.In h) (G : h.Ns mainGlobals mg) (c : He.SaysD theFa theFn K) : Df K mg "check_signs" "check_signs" s_check_signs ["many"] := by
  obtain ⟨fd, F⟩ := c.def_ 2 (d := dd_check_signs) rfl
  exact ⟨_, fd, fun_of F, He.glo_ok X G (c.fact 2 (f := .glo "check_signs") rfl), F.kp, FunD.bindsN F (fun _ _ _ _ _ _ us hl => match us, hl with | [_], _ => rfl)⟩
theorem df_check_counts (X : K.In h) (G : h.Ns mainGlobals mg) (c : He.SaysD theFa theFn K) : Df K mg "check_counts" "check_counts" s_check_counts ["counts"] := by
  obtain ⟨fd, F⟩ := c.def_ 3 (d := dd_check_counts) rfl
  exact ⟨_, fd, fun_of F, He.glo_ok X G (c.fact 3 (f := .glo "check_counts") rfl), F.kp, FunD.bindsN F (fun _ _ _ _ _ _ us hl => match us, hl with | [_], _ => rfl)⟩
theorem df_bits_of (X : K.In h) (G : h.Ns mainGlobals mg) (c : He.SaysD theFa theFn K) : Df K mg "bits_of" "bits_of" s_bits_of ["number", "size"] := by
  obtain ⟨fd, F⟩ := c.def_ 4 (d := dd_bits_of) rfl
  exact ⟨_, fd, fun_of F, He.glo_ok X G (c.fact 4 (f := .glo "bits_of") rfl), F.kp, FunD.bindsN F (fun _ _ _ _ _ _ us hl => match us, hl with | [_, _], _ => rfl)⟩
theorem df_canonical (X : K.In h) (G : h.Ns mainGlobals mg) (c : He.SaysD theFa theFn K) : Df K mg "canonical" "canonical" s_canonical ["lengths"] := by
  obtain ⟨fd, F⟩ := c.def_ 5 (d := dd_canonical) rfl
  exact ⟨_, fd, fun_of F, He.glo_ok X G (c.fact 5 (f := .glo "canonical") rfl), F.kp, FunD.bindsN F (fun _ _ _ _ _ _ us hl => match us, hl with | [_], _ => rfl)⟩
theorem dk_Code (X : K.In h) (G : h.Ns mainGlobals mg) (c : He.SaysD theFa theFn K) : Dk K mg "Code" (aC K) "Code.__init__" s_Code_init ["self", "lengths", "words"] [.non] := by
  obtain ⟨fd, F⟩ := c.def_ 6 (d := dd_Code_init) rfl
  obtain ⟨ds, hv, hb⟩ := FunD.binds1 (ps := ["self", "lengths", "words"]) F 2 0 (fun e => by cases e) rfl (fun T kV doc pm an cdv ct us its hl hl2 => match us, hl, its, hl2 with | [_, _], _, [_], _ => ⟨_, rfl, rfl⟩)
  exact ⟨_, fd, ds, He.mkr_ok (c.fact 77 (f := .mkr "Code") rfl), He.glo_ok X G (c.fact 24 (f := .glo "Code") rfl), fun_of F, hb, hv⟩
theorem df_check_pair (X : K.In h) (G : h.Ns mainGlobals mg) (c : He.SaysD theFa theFn K) : Df K mg "check_pair" "check_pair" s_check_pair ["code", "counts"] := by
  obtain ⟨fd, F⟩ := c.def_ 7 (d := dd_check_pair) rfl
  exact ⟨_, fd, fun_of F, He.glo_ok X G (c.fact 6 (f := .glo "check_pair") rfl), F.kp, FunD.bindsN F (fun _ _ _ _ _ _ us hl => match us, hl with | [_, _], _ => rfl)⟩
theorem df_cost (X : K.In h) (G : h.Ns mainGlobals mg) (c : He.SaysD theFa theFn K) : Df K mg "cost" "cost" s_cost ["code", "counts"] := by
  obtain ⟨fd, F⟩ := c.def_ 8 (d := dd_cost) rfl
  exact ⟨_, fd, fun_of F, He.glo_ok X G (c.fact 7 (f := .glo "cost") rfl), F.kp, FunD.bindsN F (fun _ _ _ _ _ _ us hl => match us, hl with | [_, _], _ => rfl)⟩
theorem df_cost_of (X : K.In h) (G : h.Ns mainGlobals mg) (c : He.SaysD theFa theFn K) : Df K mg "cost_of" "cost_of" s_cost_of ["counts"] := by
  obtain ⟨fd, F⟩ := c.def_ 9 (d := dd_cost_of) rfl
  exact ⟨_, fd, fun_of F, He.glo_ok X G (c.fact 8 (f := .glo "cost_of") rfl), F.kp, FunD.bindsN F (fun _ _ _ _ _ _ us hl => match us, hl with | [_], _ => rfl)⟩
theorem df_check_code (X : K.In h) (G : h.Ns mainGlobals mg) (c : He.SaysD theFa theFn K) : Df K mg "check_code" "check_code" s_check_code ["code", "counts"] := by
  obtain ⟨fd, F⟩ := c.def_ 10 (d := dd_check_code) rfl
  exact ⟨_, fd, fun_of F, He.glo_ok X G (c.fact 9 (f := .glo "check_code") rfl), F.kp, FunD.bindsN F (fun _ _ _ _ _ _ us hl => match us, hl with | [_, _], _ => rfl)⟩
theorem df_level_of (X : K.In h) (G : h.Ns mainGlobals mg) (c : He.SaysD theFa theFn K) : Df K mg "level_of" "level_of" s_level_of ["code", "signs"] := by
  obtain ⟨fd, F⟩ := c.def_ 11 (d := dd_level_of) rfl
  exact ⟨_, fd, fun_of F, He.glo_ok X G (c.fact 10 (f := .glo "level_of") rfl), F.kp, FunD.bindsN F (fun _ _ _ _ _ _ us hl => match us, hl with | [_, _], _ => rfl)⟩
theorem df_is_whole_common (X : K.In h) (G : h.Ns mainGlobals mg) (c : He.SaysD theFa theFn K) : Df K mg "is_whole_common" "is_whole" s_is_whole_common ["value", "least", "most"] := by
  obtain ⟨fd, F⟩ := c.def_ 12 (d := dd_is_whole_common) rfl
  exact ⟨_, fd, fun_of F, He.glo_ok X G (c.fact 11 (f := .glo "is_whole_common") rfl), F.kp, FunD.bindsN F (fun _ _ _ _ _ _ us hl => match us, hl with | [_, _, _], _ => rfl)⟩
theorem df_is_name (X : K.In h) (G : h.Ns mainGlobals mg) (c : He.SaysD theFa theFn K) : Df K mg "is_name" "is_name" s_is_name ["value"] := by
  obtain ⟨fd, F⟩ := c.def_ 13 (d := dd_is_name) rfl
  exact ⟨_, fd, fun_of F, He.glo_ok X G (c.fact 12 (f := .glo "is_name") rfl), F.kp, FunD.bindsN F (fun _ _ _ _ _ _ us hl => match us, hl with | [_], _ => rfl)⟩
theorem df_is_part (X : K.In h) (G : h.Ns mainGlobals mg) (c : He.SaysD theFa theFn K) : Df K mg "is_part" "is_part" s_is_part ["signs", "rules", "value"] := by
  obtain ⟨fd, F⟩ := c.def_ 14 (d := dd_is_part) rfl
  exact ⟨_, fd, fun_of F, He.glo_ok X G (c.fact 13 (f := .glo "is_part") rfl), F.kp, FunD.bindsN F (fun _ _ _ _ _ _ us hl => match us, hl with | [_, _, _], _ => rfl)⟩
theorem df_is_rule (X : K.In h) (G : h.Ns mainGlobals mg) (c : He.SaysD theFa theFn K) : Df K mg "is_rule" "is_rule" s_is_rule ["signs", "rules", "value"] := by
  obtain ⟨fd, F⟩ := c.def_ 15 (d := dd_is_rule) rfl
  exact ⟨_, fd, fun_of F, He.glo_ok X G (c.fact 14 (f := .glo "is_rule") rfl), F.kp, FunD.bindsN F (fun _ _ _ _ _ _ us hl => match us, hl with | [_, _, _], _ => rfl)⟩
theorem df_names_below (X : K.In h) (G : h.Ns mainGlobals mg) (c : He.SaysD theFa theFn K) : Df K mg "names_below" "names_below" s_names_below ["rules", "name"] := by
  obtain ⟨fd, F⟩ := c.def_ 16 (d := dd_names_below) rfl
  exact ⟨_, fd, fun_of F, He.glo_ok X G (c.fact 15 (f := .glo "names_below") rfl), F.kp, FunD.bindsN F (fun _ _ _ _ _ _ us hl => match us, hl with | [_, _], _ => rfl)⟩
theorem df_from_below (X : K.In h) (G : h.Ns mainGlobals mg) (c : He.SaysD theFa theFn K) : Df K mg "from_below" "from_below" s_from_below ["rules"] := by
  obtain ⟨fd, F⟩ := c.def_ 17 (d := dd_from_below) rfl
  exact ⟨_, fd, fun_of F, He.glo_ok X G (c.fact 16 (f := .glo "from_below") rfl), F.kp, FunD.bindsN F (fun _ _ _ _ _ _ us hl => match us, hl with | [_], _ => rfl)⟩
theorem dk_Text (X : K.In h) (G : h.Ns mainGlobals mg) (c : He.SaysD theFa theFn K) : Dk K mg "Text" (aT K) "Text.__init__" s_Text_init ["self", "signs", "rules", "root"] [] := by
  obtain ⟨fd, F⟩ := c.def_ 18 (d := dd_Text_init) rfl
  exact ⟨_, fd, [], He.mkr_ok (c.fact 78 (f := .mkr "Text") rfl), He.glo_ok X G (c.fact 25 (f := .glo "Text") rfl), fun_of F, FunD.bindsN F (fun _ _ _ _ _ _ us hl => match us, hl with | [_, _, _, _], _ => rfl), .nil⟩
theorem dm_Text_counts_of (c : He.SaysD theFa theFn K) : Dm K (aT K) "counts_of" "Text.counts_of" s_Text_counts_of ["self", "part"] := by
  obtain ⟨fd, F⟩ := c.def_ 19 (d := dd_Text_counts_of) rfl
  exact ⟨_, fd, He.cls_ok (c.fact 54 (f := .cls "Text") rfl), He.meth_ok (c.fact 70 (f := .meth "Text" "counts_of") rfl), fun_of F, FunD.bindsN F (fun _ _ _ _ _ _ us hl => match us, hl with | [_, _], _ => rfl)⟩
theorem dm_Text_summed (c : He.SaysD theFa theFn K) : Dm K (aT K) "summed" "Text.summed" s_Text_summed ["self", "parts"] := by
  obtain ⟨fd, F⟩ := c.def_ 20 (d := dd_Text_summed) rfl
  exact ⟨_, fd, He.cls_ok (c.fact 54 (f := .cls "Text") rfl), He.meth_ok (c.fact 71 (f := .meth "Text" "summed") rfl), fun_of F, FunD.bindsN F (fun _ _ _ _ _ _ us hl => match us, hl with | [_, _], _ => rfl)⟩
theorem dm_Text_size_of (c : He.SaysD theFa theFn K) : Dm K (aT K) "size_of" "Text.size_of" s_Text_size_of ["self", "part"] := by
  obtain ⟨fd, F⟩ := c.def_ 21 (d := dd_Text_size_of) rfl
  exact ⟨_, fd, He.cls_ok (c.fact 54 (f := .cls "Text") rfl), He.meth_ok (c.fact 72 (f := .meth "Text" "size_of") rfl), fun_of F, FunD.bindsN F (fun _ _ _ _ _ _ us hl => match us, hl with | [_, _], _ => rfl)⟩
theorem df_rows_of (X : K.In h) (G : h.Ns mainGlobals mg) (c : He.SaysD theFa theFn K) : Df K mg "rows_of" "rows_of" s_rows_of ["code"] := by
  obtain ⟨fd, F⟩ := c.def_ 22 (d := dd_rows_of) rfl
  exact ⟨_, fd, fun_of F, He.glo_ok X G (c.fact 17 (f := .glo "rows_of") rfl), F.kp, FunD.bindsN F (fun _ _ _ _ _ _ us hl => match us, hl with | [_], _ => rfl)⟩
theorem dk_RowWalk (X : K.In h) (G : h.Ns mainGlobals mg) (c : He.SaysD theFa theFn K) : Dk K mg "RowWalk" (aR K) "RowWalk.__init__" s_RowWalk_init ["self", "text", "light", "heavy"] [] := by
  obtain ⟨fd, F⟩ := c.def_ 23 (d := dd_RowWalk_init) rfl
  exact ⟨_, fd, [], He.mkr_ok (c.fact 79 (f := .mkr "RowWalk") rfl), He.glo_ok X G (c.fact 26 (f := .glo "RowWalk") rfl), fun_of F, FunD.bindsN F (fun _ _ _ _ _ _ us hl => match us, hl with | [_, _, _, _], _ => rfl), .nil⟩
theorem dm_RowWalk_change_of (c : He.SaysD theFa theFn K) : Dm K (aR K) "change_of" "RowWalk.change_of" s_RowWalk_change_of ["self", "part"] := by
  obtain ⟨fd, F⟩ := c.def_ 24 (d := dd_RowWalk_change_of) rfl
  exact ⟨_, fd, He.cls_ok (c.fact 55 (f := .cls "RowWalk") rfl), He.meth_ok (c.fact 73 (f := .meth "RowWalk" "change_of") rfl), fun_of F, FunD.bindsN F (fun _ _ _ _ _ _ us hl => match us, hl with | [_, _], _ => rfl)⟩
theorem dm_RowWalk_walked (c : He.SaysD theFa theFn K) : Dm K (aR K) "walked" "RowWalk.walked" s_RowWalk_walked ["self", "parts"] := by
  obtain ⟨fd, F⟩ := c.def_ 25 (d := dd_RowWalk_walked) rfl
  exact ⟨_, fd, He.cls_ok (c.fact 55 (f := .cls "RowWalk") rfl), He.meth_ok (c.fact 74 (f := .meth "RowWalk" "walked") rfl), fun_of F, FunD.bindsN F (fun _ _ _ _ _ _ us hl => match us, hl with | [_, _], _ => rfl)⟩
theorem dm_RowWalk_first_below (c : He.SaysD theFa theFn K) : Dm K (aR K) "first_below" "RowWalk.first_below" s_RowWalk_first_below ["self", "start"] := by
  obtain ⟨fd, F⟩ := c.def_ 26 (d := dd_RowWalk_first_below) rfl
  exact ⟨_, fd, He.cls_ok (c.fact 55 (f := .cls "RowWalk") rfl), He.meth_ok (c.fact 75 (f := .meth "RowWalk" "first_below") rfl), fun_of F, FunD.bindsN F (fun _ _ _ _ _ _ us hl => match us, hl with | [_, _], _ => rfl)⟩
theorem dm_RowWalk_entered (c : He.SaysD theFa theFn K) : Dm K (aR K) "entered" "RowWalk.entered" s_RowWalk_entered ["self", "name", "start"] := by
  obtain ⟨fd, F⟩ := c.def_ 27 (d := dd_RowWalk_entered) rfl
  exact ⟨_, fd, He.cls_ok (c.fact 55 (f := .cls "RowWalk") rfl), He.meth_ok (c.fact 76 (f := .meth "RowWalk" "entered") rfl), fun_of F, FunD.bindsN F (fun _ _ _ _ _ _ us hl => match us, hl with | [_, _, _], _ => rfl)⟩
theorem df_first_lost (X : K.In h) (G : h.Ns mainGlobals mg) (c : He.SaysD theFa theFn K) : Df K mg "first_lost" "first_lost" s_first_lost ["code", "counts", "text"] := by
  obtain ⟨fd, F⟩ := c.def_ 28 (d := dd_first_lost) rfl
  exact ⟨_, fd, fun_of F, He.glo_ok X G (c.fact 18 (f := .glo "first_lost") rfl), F.kp, FunD.bindsN F (fun _ _ _ _ _ _ us hl => match us, hl with | [_, _, _], _ => rfl)⟩
theorem df_law_pen (X : K.In h) (G : h.Ns mainGlobals mg) (c : He.SaysD theFa theFn K) : Df K mg "_law_pen" "_law_pen" s_law_pen ["_law_script"] := by
  obtain ⟨fd, F⟩ := c.def_ 29 (d := dd_law_pen) rfl
  exact ⟨_, fd, fun_of F, He.glo_ok X G (c.fact 19 (f := .glo "_law_pen") rfl), F.kp, FunD.bindsN F (fun _ _ _ _ _ _ us hl => match us, hl with | [_], _ => rfl)⟩
theorem df_law_draw (X : K.In h) (G : h.Ns mainGlobals mg) (c : He.SaysD theFa theFn K) : Df K mg "_law_draw" "_law_draw" s_law_draw ["_law_pen_here", "_law_many"] := by
  obtain ⟨fd, F⟩ := c.def_ 30 (d := dd_law_draw) rfl
  exact ⟨_, fd, fun_of F, He.glo_ok X G (c.fact 20 (f := .glo "_law_draw") rfl), F.kp, FunD.bindsN F (fun _ _ _ _ _ _ us hl => match us, hl with | [_, _], _ => rfl)⟩
theorem df_law_pick (X : K.In h) (G : h.Ns mainGlobals mg) (c : He.SaysD theFa theFn K) : Df K mg "_law_pick" "_law_pick" s_law_pick ["_law_pen_here", "_law_items"] := by
  obtain ⟨fd, F⟩ := c.def_ 31 (d := dd_law_pick) rfl
  exact ⟨_, fd, fun_of F, He.glo_ok X G (c.fact 21 (f := .glo "_law_pick") rfl), F.kp, FunD.bindsN F (fun _ _ _ _ _ _ us hl => match us, hl with | [_, _], _ => rfl)⟩
theorem df_law_passed (X : K.In h) (G : h.Ns mainGlobals mg) (c : He.SaysD theFa theFn K) : Df K mg "_law_passed" "_law_passed" s_law_passed ["_law_lead", "_law_signs", "_law_head", "_law_other", "_law_rounds"] := by
  obtain ⟨fd, F⟩ := c.def_ 32 (d := dd_law_passed) rfl
  exact ⟨_, fd, fun_of F, He.glo_ok X G (c.fact 22 (f := .glo "_law_passed") rfl), F.kp, FunD.bindsN F (fun _ _ _ _ _ _ us hl => match us, hl with | [_, _, _, _, _], _ => rfl)⟩
theorem glo_law (X : K.In h) (G : h.Ns mainGlobals mg) (c : He.SaysD theFa theFn K) : mg ("law" : Str) = some (.ref (He.fAd K dd_law.at_)) ∧ ∃ fd, FunD K dd_law.name dd_law.qual dd_law.params dd_law.body dd_law.scope (dd_law.dvs K) (dd_law.kws K) (He.fAd K dd_law.at_) fd := ⟨He.glo_ok X G (c.fact 23 (f := .glo "law") rfl), c.def_ 33 rfl⟩
end
end LJ

set_option maxHeartbeats 4000000
namespace LJ
open PySem PySem.Spec PyProof.Rows L2 Evl
theorem law_fn {P : Program} {w : World} {K : PySem.W.Frag} {h : Heap} {mg : Str → Option Value} {f : Addr} (X : K.In h) (G : h.Ns mainGlobals mg) (hf : mg ("law" : Str) = some (.ref f)) (c : SaysP theFa theFn "Text" "rules" dd_Text_rules K) :
    ∃ fd : FuncData, (∀ (s : Shared) (v : Value), BindsTo s fd ⟨[v], []⟩ [("_law_script", v)]) ∧ ∀ base : Heap, FnOk P w K mg base C8.CX0 6 f fd ["_law_script"] (spLaw K) := by
  have d := c.d
  obtain ⟨pr, fdR, FR⟩ := c.p
  have T := txt_of X G d
  obtain ⟨gl, fd, F⟩ := glo_law X G d
  have e := hf.symm.trans gl
  cases e
  refine ⟨fd, fun s v => FunD.bindsA (ps := ["_law_script"]) F (fun _ _ _ _ _ _ us hl => match us, hl with | [_], _ => rfl) s [v] rfl, fun base => ?_⟩
  have FRules : FnOk P w K mg base C8.CX0 1 (getterA K "Text" "rules") fdR ["self"] (spRules (aT K)) := fn_rules T (fun_of FR)
  have bRules : Binds K fdR ["self"] [] := FunD.bindsN FR fun _ _ _ _ _ _ us hl => match us, hl with | [_], _ => rfl
  have c_is_whole_codes := ok_is_whole_codes (P := P) (w := w) (base := base) T (df_is_whole_codes X G d)
  have c_two_to := ok_two_to (P := P) (w := w) (base := base) T (df_two_to X G d)
  have c_check_signs := ok_check_signs (P := P) (w := w) (base := base) T (df_check_signs X G d)
  have c_bits_of := ok_bits_of (P := P) (w := w) (base := base) T (df_bits_of X G d)
  have c_check_counts := ok_check_counts T (df_check_counts X G d) c_check_signs c_is_whole_codes
  have c_check_pair := ok_check_pair T (df_check_pair X G d) c_check_counts
  have c_check_code := ok_check_code T (df_check_code X G d) c_check_counts
  have c_cost := ok_cost T (df_cost X G d) c_check_pair
  have c_cost_of := ok_cost_of (P := P) (w := w) (base := base) T (df_cost_of X G d)
  have c_level_of := ok_level_of (P := P) (w := w) (base := base) T (df_level_of X G d)
  have c_canonical := ok_canonical T (df_canonical X G d) c_two_to c_bits_of
  have k_Code := ok_Code_init T (dk_Code X G d) c_check_signs c_is_whole_codes c_two_to c_canonical
  have c_is_whole_common := ok_is_whole_common (P := P) (w := w) (base := base) T (df_is_whole_common X G d)
  have c_is_name := ok_is_name (P := P) (w := w) (base := base) T (df_is_name X G d)
  have c_is_part := ok_is_part T (df_is_part X G d) c_is_whole_common
  have c_is_rule := ok_is_rule T (df_is_rule X G d) c_is_part
  have c_names_below := ok_names_below (P := P) (w := w) (base := base) T (df_names_below X G d)
  have c_from_below := ok_from_below (P := P) (w := w) (base := base) T (df_from_below X G d)
  have m_counts_of := ok_counts_of (P := P) (w := w) (base := base) T (dm_Text_counts_of d)
  have m_summed := ok_summed T (dm_Text_summed d) m_counts_of
  have m_size_of := ok_size_of (P := P) (w := w) (base := base) T (dm_Text_size_of d)
  have k_Text := ok_Text_init T (dk_Text X G d) c_is_whole_common c_is_name c_is_rule c_names_below c_from_below m_summed
  have c_rows_of := ok_rows_of T (df_rows_of X G d) c_level_of
  have m_change_of := ok_change_of (P := P) (w := w) (base := base) T (dm_RowWalk_change_of d)
  have m_walked := ok_walked T (dm_RowWalk_walked d) m_change_of
  have k_RowWalk := ok_RowWalk_init T (dk_RowWalk X G d) pr FRules bRules c_from_below m_walked
  have m_entered := ok_entered T (dm_RowWalk_entered d) m_change_of m_size_of
  have m_first_below := ok_first_below T (dm_RowWalk_first_below d) m_entered
  have c_first_lost := ok_first_lost T (df_first_lost X G d) c_check_code c_cost c_cost_of c_rows_of k_RowWalk m_first_below
  have c_law_pen := ok_law_pen (P := P) (w := w) (base := base) T (df_law_pen X G d)
  have c_law_draw := ok_law_draw (P := P) (w := w) (base := base) T (df_law_draw X G d)
  have c_law_pick := ok_law_pick T (df_law_pick X G d) c_law_draw
  have c_law_passed := ok_law_passed (P := P) (w := w) (base := base) T (df_law_passed X G d)
  exact fn_law T (fun_of F) c_law_pen c_law_draw c_law_pick c_law_passed c_first_lost k_Text k_Code
end LJ

set_option maxHeartbeats 0
/-! The head: the top's run by the kernel, the law behind it. -/
namespace LJ
open PySem PySem.Spec PyProof.Rows L2 Evl
abbrev theRow : PySem.W.OpenRow := PySem.W.OpenLaw.row PySem.Challenge.rw_leastjoined_k60_whole_far_losses
abbrev theHook : PySem.W.Hook := hookP 6 theFa theFn "Text" "rules" dd_Text_rules
def theOb (s : PySem.W.SharedT) : AlP := obsPG 6 theFa theFn "Text" "rules" dd_Text_rules (HandSHeadRun.getT s)
theorem theOb_eq (s : PySem.W.SharedT) : theOb s = theHook.obs s.abs := obsPG_eq (HandSHeadRun.getT_eq s)
def loose0 : List Str := ["_wall", "JoinsError", "TooMany", "BadCount", "BadLength", "NotFull", "BadWord", "Begins", "OtherSize", "BadSize", "NotLeast", "BadRule", "Ring", "NoRule", "BadPlace", "MOST_SIGNS_codes", "MOST_LENGTH", "is_whole", "is_whole_codes", "two_to", "check_signs", "check_counts", "bits_of", "canonical", "is_word", "checked_words", "Code", "check_pair", "cost", "cost_of"]
def loose1 : List Str := ["check_code", "level_of", "is_whole_common", "CAPITALS", "MOST_SIGNS_grown", "MOST_RULES", "MOST_PARTS", "MOST_NAME", "MOST_CUT", "MOST_FOR_ROWS", "is_name", "is_part", "is_rule", "names_below", "from_below", "Text", "rows_of", "RowWalk", "first_lost", "_law_pen", "_law_draw", "_law_pick", "_law_passed"]
def looseAll : List Str := loose0 ++ loose1
theorem theRun (w : World) : HandSHeadRun.RunEq theRow (PySem.W.view theRow.prog [61]) theHook theOb 7000 looseAll w := by
  intro os
  kernel_rfl
end LJ

set_option maxHeartbeats 0
open PySem PySem.W PySem.Calls PyProof.Rows
theorem PySem.Challenge.cw_leastjoined_k60_whole_far_losses_holds : PySem.Challenge.rw_leastjoined_k60_whole_far_losses.Holds := by
  w_on; o_law
  refine HandSHeadRun.head_any (r := OpenLaw.row PySem.Challenge.rw_leastjoined_k60_whole_far_losses) (q := view (OpenLaw.row PySem.Challenge.rw_leastjoined_k60_whole_far_losses).prog [61]) (H := LJ.theHook) (ob := LJ.theOb) (M := 7000) (loose := LJ.looseAll)
    (d := HandSHeadRun.topDef (OpenLaw.row PySem.Challenge.rw_leastjoined_k60_whole_far_losses).prog 61) (kwd := []) LJ.theOb_eq
    (by kernel_rfl) (fun s => by kernel_rfl) LJ.theRun (by kernel_rfl) (by kernel_rfl) (by kernel_rfl) (by rfl) (by first | assumption | decide +kernel) (by decide +kernel) ⟨rfl, rfl, rfl, rfl, rfl, by decide +kernel⟩ ?hw ?hc
  case hw => w_witness2
  case hc =>
    refine L2.walk_ofE (l := PySem.Challenge.rw_leastjoined_k60_whole_far_losses) (n := 63) (k := 6) (x := "_law_script") (CX := C8.CX0) rfl (by decide) (by kernel_rfl) ⟨rfl, by decide, by decide⟩ ?F (fun _ _ _ _ z => z)
    intro w mg fa h Y G hmg0
    obtain ⟨K, KX, c⟩ := Y
    have hmg : mg ("law" : PySem.Str) = some (.ref fa) := by
      have e : (HandSHeadRun.topDef (OpenLaw.row PySem.Challenge.rw_leastjoined_k60_whole_far_losses).prog 61).name = ("law" : PySem.Str) := by kernel_rfl
      rw [← e]
      exact hmg0
    obtain ⟨fd, hb, hF⟩ := LJ.law_fn (P := (PySem.Challenge.rw_leastjoined_k60_whole_far_losses).prog) (w := w) KX G hmg c
    exact ⟨K, fd, LJ.spLaw K, KX, hb, fun H a ns hl _ hS => ⟨a, ns, rfl, hS, fun _ => rfl⟩, fun base _ _ => hF base⟩
