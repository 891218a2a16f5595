import PyProof.Rows.All
import Wide.All
import OpenK.AllK
import Wide.FinOn
import PyProof.ReprRoads
import PyProof.ReprBulk
import PyProof.Draws
import KE.GoesMore
import HandS.ForMost
import HandS.Zip
import HandS.Walk
import HandS.TupMul
import HandS.TupAny
import HandS.Strs
import HandS.CallLocal
import HandS.Defaults
import HandS.HeadEnd
import HandS.More
import HandS.Head0
import HandS.Head1
import HandS.Head2
import HandS.HeadHook1
import HandS.HeadHook2
import PySem.Challenge.RW_rightage_k15_whole_within_is_having
set_option Elab.async false
set_option linter.all false
set_option maxRecDepth 100000
set_option maxHeartbeats 0
/-! own rules beside the layer: repr of data, enumerate of a tuple, a tuple times one, a def that asks the guards -/
namespace K15
open L2 PySem PyProof.Rows PySem.Spec

/-! ### repr -/
def rShow (K : PySem.W.Frag) : List V → Hp → VK → Prop := fun xs H Q =>
  ∃ a d, xs = [V.ref a] ∧ Dp K H (V.ref a) d ∧ d.showable = true ∧ d.hasDict = false ∧ d.depth ≤ 60 ∧
    d.shown.length ≤ sizeLine ∧ Q (.str d.shown) H
theorem call_show {X : Cx} (hg : X.A.guards = some []) (hu : X.A.units + 64 < cLine) :
    CallR X (.builtin "repr") (rShow X.K) := by
  intro pins s σ H xs us Q I rel want
  obtain ⟨a, d, rfl, hd, hs, hn, hdep, hz, q⟩ := want
  cases rel with
  | cons r0 rr =>
    cases rr
    obtain ⟨as, rd⟩ := Dp.reads I d _ _ hd r0
    cases r0
    refine repr_of_reads' rd hs (PyData.noDict_hsm hn) hg (by omega) (fun _ _ e => e) (fun hp u tk keeps => ?_) hz
    exact ⟨.str d.shown, H, I.kept keeps, ⟨u, rfl⟩, q⟩

/-! ### a tuple times a number from 1 on -/
theorem tmul_one (l : Addr) (items : Array Value) (n : Nat) (dd : Option Addr) (sl : Array (Option Value)) (u : Tok) :
    Meets (Builtin.«tuple.__mul__» ⟨[.ref l, .int 1 u], []⟩)
      (fun _ R s => s.heap.get? l = some { cls := .type "tuple", dict := dd, data := .seq items n, slots := sl } ∧ R (.ok (.ret (.ref l))) s) :=
  .of_wp fun prog w A R s want => by
    obtain ⟨heap0, gens0, drawn0, tok0, os0⟩ := s
    obtain ⟨at_l, fin⟩ := want
    have f1 := AutoSeq1.idx_int
    have one : (items.isEmpty || (1 : Int) == 1) = true := by simp
    wp_walk using wpAny_loadPart' at_l
    repeat (first
      | (refine wpAny_ite_true (decide_eq_true one) ?_; wp_walk using wpAny_loadPart' at_l)
      | (refine wpAny_ite_false (by decide) ?_; wp_walk using wpAny_loadPart' at_l))
    exact ⟨_, rfl, fin⟩

def rTimes (K : PySem.W.Frag) : R2 := fun x y H Q => ∃ l k xs, x = V.ref l ∧ y = V.int k ∧ SqT K H l xs ∧ xs ≠ [] ∧
  1 ≤ k ∧ k ≤ 1000 ∧ xs.length ≤ 1000 ∧ (k = 1 → Q (.ref l) H) ∧
  (k ≠ 1 → ∀ p, H p = none → Q (.ref p) (upd H p (.tup (List.replicate k.toNat xs).flatten)))
theorem op_times {X : Cx} : OpR X (binaryOp .Mult) (rTimes X.K) := by
  intro pins s σ H x y v u Q I rx ry want
  obtain ⟨l, k, xs, rfl, rfl, hT, hne, h1, h2, hz, qa, qb⟩ := want
  by_cases hk : k = 1
  · subst hk
    cases rx
    obtain ⟨t, rfl⟩ := ry
    obtain ⟨its, r, ⟨⟨cls, dd, data, sl⟩, ho, hc, n, hd⟩, size⟩ := I.tuple hT
    simp only at hc hd
    subst hc hd
    refine wpAny_binaryOp_repeat_ref (T := "tuple") (U := "int") (by decide) ⟨_, ho, rfl⟩ (fun s' => typeIs_int s' 1 t)
      noFill_tuple_mul F.fills_int_mul F.slot_int_rmul repeat_tuple F.slot_int_index.lookup ?_
    refine call_meets F.slot_int_rmul (typeIs_int s 1 t) F.entry_int_rmul (F.args_int_rmul_2 _ _)
      (int_rmul_tuple 1 t l its.toArray n dd sl) ⟨ho, rfl, ⟨_, ho, rfl⟩, ?_⟩
    refine call_meets F.slot_tuple_mul ⟨_, ho, rfl⟩ F.entry_tuple_mul (F.args_tuple_mul_2 _ _)
      (tmul_one l its.toArray n dd sl t) ⟨ho, ?_⟩
    exact ⟨.ref l, H, I, rfl, qa rfl⟩
  · exact op_repT pins s σ H _ _ v u Q I rx ry ⟨l, k, xs, rfl, rfl, hT, hne, by omega, h2, hz, qb hk⟩

/-! ### enumerate of a tuple -/
theorem meets_enumT (a : Addr) (items : Array Value) (n : Nat) (dct : Option Addr) (sl : Array (Option Value)) :
    Meets (Builtin.«enumerate.__new__» ⟨[.type "enumerate", .ref a], []⟩)
      (fun _ R s => s.heap.get? a = some { cls := .type "tuple", dict := dct, data := .seq items n, slots := sl } ∧
        R (.ok (.ret (.ref (s.heap.push { cls := .type "tuple_iterator", data := .fields #[.ref a, .int 0 0] }).objs.size)))
          { s with heap := ((s.heap.push { cls := .type "tuple_iterator", data := .fields #[.ref a, .int 0 0] }).push { cls := .type "enumerate", data := .fields #[.none, .bool false, .ref s.heap.objs.size, rawInt 0, .none, .none] }) }) :=
  .of_wp fun prog w A R s want => by
    obtain ⟨heap0, gens0, drawn0, tok0, os0⟩ := s
    obtain ⟨at_a, fin⟩ := want
    have hsub := sub_enumerate
    have isT : Heap.IsTuple (Shared.heap ⟨heap0, gens0, drawn0, tok0, os0⟩) a items := ⟨_, at_a, rfl, n, rfl⟩
    wp_walk using wpAny_loadPart' at_a
    refine wpAny_stack_any fun rows => wpAny_pure ?_
    split
    · rename_i c _ _ _ _ _
      cases (c == Value.type "enumerate") <;>
        (wp_walk using wpAny_loadPart' at_a, wpAny_pyIter_tuple isT; exact ⟨_, rfl, fin⟩)
    · wp_walk using wpAny_loadPart' at_a, wpAny_pyIter_tuple isT
      exact ⟨_, rfl, fin⟩
theorem call_enumT {prog : Program} {w : World} {A : Around} {E : Value → Shared → Prop} {s : Shared} {a : Addr} {items : Array Value} {Q : Value → Shared → Prop}
    (isT : s.heap.IsTuple a items)
    (fin : ∀ hp, IsEnum hp (s.heap.objs.size + 1) s.heap.objs.size 0 .none → hp.IsTupleIter s.heap.objs.size a 0 →
      (∀ b o, s.heap.get? b = some o → hp.get? b = some o) → Q (.ref (s.heap.objs.size + 1)) { s with heap := hp }) :
    wpAny (model prog w) A (call (.type "enumerate") [.ref a]) Q E s := by
  obtain ⟨⟨c, dct, dt, sl⟩, hl, hc, n, hd⟩ := isT
  simp only at hc hd
  subst hc hd
  refine callType_new F.called_enumerate (by decide) (F.typeCall_enumerate_1 _) (F.newCall_enumerate_1 _)
    (fun obj => F.args_object_init_2 obj _) F.entry_enumerate_new (meets_enumT a items n dct sl) ⟨hl, ?_⟩
  have hz : (s.heap.push { cls := .type "tuple_iterator", data := .fields #[.ref a, .int 0 0] }).objs.size = s.heap.objs.size + 1 :=
    Heap.size_push ..
  show _ ∧ _
  rw [hz]
  have he := Heap.get?_push_size (s.heap.push { cls := .type "tuple_iterator", data := .fields #[.ref a, .int 0 0] })
      rfl (o := { cls := .type "enumerate", data := .fields #[.none, .bool false, .ref s.heap.objs.size, rawInt 0, .none, .none] })
  rw [hz] at he
  refine ⟨⟨_, he, rfl⟩, fin _ he ?_ ?_⟩
  · exact ⟨_, Heap.get?_push_of_some _ (Heap.get?_push_size _ rfl), rfl, rfl⟩
  · exact fun b o x => Heap.get?_push_of_some _ (Heap.get?_push_of_some _ x)

/-- the tuple at a, item by item, each in a new pair with its place -/
def IteT (K : PySem.W.Frag) (a : Addr) : It where
  go := fun i H => ∃ (xs : List V) (x : V), SqT K H a xs ∧ xs[i]? = some x
  yld := fun i H v H' => ∃ T x, v = V.ref T ∧ H T = none ∧ H' = upd H T (.tup [.int (i : Nat), x]) ∧
    ∀ xs, SqT K H a xs → xs[i]? = some x
  stop := fun i H => ∃ xs : List V, SqT K H a xs ∧ xs.length = i
theorem turn_enumT {P : Program} {w : World} {K : PySem.W.Frag} {elts : List Expr} {kk : Nat} {tpos : Pos} (a e it : Addr) (hae : a ≠ it) :
    Turn P w K (.Tuple elts kk tpos) (IteT K a) [e, it] e
      (fun i h => (∃ old, IsEnum h e it ((i : Nat) : Int) old) ∧ h.IsTupleIter it a i ∧ e ≠ it) where
  mem := by simp
  obj := fun i h st b hb => by
    obtain ⟨⟨before, he⟩, ⟨o, ho, hc, hd⟩, _⟩ := st
    rcases (by simpa using hb : b = e ∨ b = it) with z | z
    · exact ⟨_, z ▸ he, fun v q => by cases q⟩
    · exact ⟨o, z ▸ ho, fun v q => by rw [hd] at q; cases q⟩
  keep := fun i h h' st k => by
    obtain ⟨⟨old, he⟩, hi, hne⟩ := st
    exact ⟨⟨old, k e (by simp) _ he⟩, hi.at fun o q => k it (by simp) o q, hne⟩
  item := by
    intro X eP ew eK hc i pins s σ H E I hf stands hg
    subst eP ew eK
    obtain ⟨⟨before, he⟩, hit, hne⟩ := stands
    obtain ⟨xs, x, hq, hx⟩ := hg
    obtain ⟨its, rv, isT, hz⟩ := I.tuple hq
    obtain ⟨u, hu, relU⟩ := rv.get hx
    have hlt : i < its.toArray.size := by
      have := (List.getElem?_eq_some_iff.mp hu).1
      simpa using this
    have la : a < s.heap.objs.size := by
      obtain ⟨o, ho, _⟩ := id isT
      exact Heap.lt_size ho
    have below : e < s.heap.objs.size := Heap.lt_size he
    have hil : it < s.heap.objs.size := by
      obtain ⟨_, q, _⟩ := hit
      exact Heap.lt_size q
    have hea : e ≠ a := by
      rintro rfl
      obtain ⟨o, ho, ht, _⟩ := id isT
      have he2 : s.heap.get? e = _ := he
      rw [ho] at he2
      have e3 := Option.some.inj he2
      rw [e3] at ht
      exact absurd (show Value.type "enumerate" = Value.type "tuple" from ht) (by decide)
    refine wpAny_pyNext_enum_itemD (Draws.tuple (prog := X.prog) (w := X.w) (A := X.A.in1) (I.ok.hd hc) it a hae its.toArray) he ⟨hit, isT⟩ hlt hne
      (by simp [hne, hea]) fun y hp tk py out st2 newT hsz keeps => ?_
    have ey : y = u := by
      have e1 : its.toArray[i]? = some u := by simpa using hu
      have e2 : its.toArray[i]? = some y := py
      rw [e1] at e2
      exact (Option.some.inj e2).symm
    subst ey
    refine ⟨_, rfl, wpAny_letOwnedTupleGo_enum (s := { s with heap := hp, toks := tk + 1 }) out fun h2 he' sb => ?_⟩
    have newT2 : h2.get? s.heap.objs.size = some { cls := .type "tuple", data := .seq #[.int i tk, y] } :=
      (sb.2 _ (Nat.ne_of_gt below)).trans newT
    have new : ObjOk X.prog X.w (upd H s.heap.objs.size (.tup [.int (i : Nat), x])) h2 s.heap.objs.size (.tup [.int (i : Nat), x]) :=
      ⟨by show 2 ≤ sizeLine; decide, [.int i tk, y], .cons ⟨_, rfl⟩ (.cons relU .nil), ⟨_, newT2, rfl, _, rfl⟩⟩
    have I1 : Inv X pins σ (upd H s.heap.objs.size (.tup [.int (i : Nat), x])) { s with heap := h2, toks := tk + 1 } := by
      refine I.turnedNew (ch := [e, it]) (fun b ob hb q => ?_) hf (Nat.le_refl _) new
      exact (sb.2 b (fun z => hb (by simp [z]))).trans (keeps b ob (fun z => hb (by simp [z])) (fun z => hb (by simp [z])) q)
    refine ⟨.ref s.heap.objs.size, _, I1, rfl, ⟨_, x, rfl, I.hok.fresh (Nat.le_refl _), rfl, fun ys hy => ?_⟩, ⟨⟨y, ?_⟩, ?_, hne⟩, fun b hb => ?_⟩
    · rw [I.tuple_inj hy hq]
      exact hx
    · rw [show ((i + 1 : Nat) : Int) = (i : Int) + 1 by omega]
      exact he'
    · exact st2.1.at fun o q => (sb.2 it (Ne.symm hne)).trans q
    · have inside : b < s.heap.objs.size := by
        rcases (by simpa using hb : b = e ∨ b = it) with z | z
        · exact z ▸ below
        · exact z ▸ hil
      rw [upd_ne (Nat.ne_of_lt inside)]
      exact (hf b hb).1
  done := by
    intro X eP ew eK hc i pins s σ H E I hf stands hg
    subst eP ew eK
    obtain ⟨⟨before, he⟩, hit, hne⟩ := stands
    obtain ⟨xs, hq, hx⟩ := hg
    obtain ⟨its, rv, isT, hz⟩ := I.tuple hq
    obtain ⟨k0, k1, k2, k3, k4, k5⟩ := hf it (by simp)
    have hl := rv.length
    have hn : i = its.toArray.size := by
      rw [List.size_toArray]
      omega
    subst hn
    refine wpAny_pyNext_enum_endD (Draws.tuple (prog := X.prog) (w := X.w) (A := X.A.in1) (I.ok.hd hc) it a hae its.toArray) he ⟨hit, isT⟩
      fun hp eb => ⟨rfl, I.turned (t' := s.toks) (fun b o hb q => eb b o hb q) k0 k1 k3 k4 k5⟩
  self := fun A i s Q E stands fin => by
    obtain ⟨⟨_, he⟩, _⟩ := stands
    exact wpAny_pyIter_enum he fin
def iEnumT (K : PySem.W.Frag) (ta : TA) : TI := fun σ H R => ta σ H fun vs H1 => ∃ a xs, vs = [V.ref a] ∧ SqT K H1 a xs ∧ R (IteT K a) H1
theorem pi_enumT {X : Cx} {e : Expr} {ta : TA} {p pos tpos : Pos} {elts : List Expr} {kk : Nat} (hg : Gl X "enumerate")
    (hm : X.mg "enumerate" = none) (ha : PA X [e] ta) (hs : starEach [e] X.env = [(false, eval e X.env)] := by rfl) :
    PI X (.Tuple elts kk tpos) (.Call (.Name "enumerate" p) [e] [] pos) (iEnumT X.K ta) := by
  refine ⟨fun pins s σ H R I want => ?_⟩
  refine Call_ (ld_blt I hg hm boot_enumerate (PyProof.Rows.callWith_type1 (thn (ha.run pos pins s σ H _ I want) ?_) hs rfl))
  rintro us s1 ⟨vs, H1, I1, r1, a, xs, rfl, hq, q⟩
  cases r1 with
  | cons r rr =>
    cases rr
    cases r
    obtain ⟨its, rv, isT, hz⟩ := I1.tuple hq
    have la : a < s1.heap.objs.size := by
      obtain ⟨o, ho, _⟩ := id isT
      exact Heap.lt_size ho
    refine call_enumT isT fun hp he hit keeps => wpAny_pyIter_enum he ?_
    have I2 : Inv X pins σ H1 { s1 with heap := hp } := I1.kept (t' := s1.toks) keeps
    refine ⟨s1.heap.objs.size + 1, [s1.heap.objs.size + 1, s1.heap.objs.size], _, _, H1, rfl, I2,
      turn_enumT a (s1.heap.objs.size + 1) s1.heap.objs.size (Nat.ne_of_lt la), ⟨⟨.none, he⟩, hit, Nat.succ_ne_self _⟩, fun b hb => ?_, q⟩
    have young : s1.heap.objs.size ≤ b := by
      rcases (by simpa using hb : b = s1.heap.objs.size + 1 ∨ b = s1.heap.objs.size) with z | z
      · exact z ▸ Nat.le_add_right _ _
      · exact z ▸ Nat.le_refl _
    exact I1.fpOk young (I1.hok.fresh young)
theorem walk_enumT {K : PySem.W.Frag} {a : Addr} {xs : List V} :
    Walk (IteT K a) xs.length (fun H => SqT K H a xs) (YPair (fun i => some (.int (i : Nat))) (fun i => xs[i]?)) := by
  refine ⟨fun i _ hi q => ⟨xs, xs[i], q, by simp [hi]⟩, fun _ q => ⟨xs, q, rfl⟩, fun i H v H' _ q y => ?_⟩
  obtain ⟨T, x, w1, w2, w3, w4⟩ := y
  exact ⟨T, .int (i : Nat), x, w1, w2, w3, rfl, w4 xs q⟩
/-- zip of two tuples of one length -/
theorem walk_zipT {K : PySem.W.Frag} {a b : Addr} {xs ys : List V} {n : Nat} (hx : xs.length = n) (hy : ys.length = n) :
    Walk (RZ.ItzT K a b) n (fun H => SqT K H a xs ∧ SqT K H b ys) (YPair (fun i => xs[i]?) (fun i => ys[i]?)) := by
  subst hx
  refine ⟨fun i _ hi q => ⟨xs, ys, xs[i], ys[i], q.1, q.2, by simp [hi], by simp⟩, fun _ q => ⟨xs, ys, q.1, q.2, .inl (Nat.le_refl _)⟩, fun i H v H' _ q y => ?_⟩
  obtain ⟨T, x, z, w1, w2, w3, w4, w5⟩ := y
  exact ⟨T, x, z, w1, w2, w3, w4 xs q.1, w5 ys q.2⟩

/-! ### tuple(a list): the new tuple is known to the object; a method of such a tuple -/
def rTupF (K : PySem.W.Frag) : List V → Hp → VK → Prop := fun xs H Q => ∃ p ys, xs = [V.ref p] ∧ SqL K H p ys ∧
  ∀ l (ob : Obj), H l = none → ob.dict = none → Q (.ref l) (upd H l (.frz ob (.tup ys)))
theorem call_tupF {X : Cx} : CallR X (.type "tuple") (rTupF X.K) := by
  intro pins s σ H xs us Q I rel want
  obtain ⟨p, ys, rfl, hq, q⟩ := want
  cases rel with
  | cons r0 rr =>
    cases rr
    cases r0
    obtain ⟨its, rv, plain, hz⟩ := I.list hq
    have hlen := rv.length
    refine call_tuple_list plain.isList (fun hp kp => ?_) (by simp only [List.size_toArray] <;> omega)
    have I1 : Inv X pins σ H { s with heap := hp } := I.kept (t' := s.toks) kp
    have here : (hp.push { cls := .type "tuple", data := .seq its.toArray }).get? hp.objs.size = some { cls := .type "tuple", data := .seq its.toArray } := Heap.get?_push_size _ rfl
    have new : ObjOk X.prog X.w (upd H hp.objs.size (.frz { cls := .type "tuple", data := .seq its.toArray } (.tup ys)))
        (hp.push { cls := .type "tuple", data := .seq its.toArray }) hp.objs.size (.frz { cls := .type "tuple", data := .seq its.toArray } (.tup ys)) :=
      ⟨here, hz, its, rv, IsTup.new _ _⟩
    have I2 : Inv X pins σ (upd H hp.objs.size (.frz { cls := .type "tuple", data := .seq its.toArray } (.tup ys)))
        { s with heap := hp.push { cls := .type "tuple", data := .seq its.toArray } } :=
      I1.laid (t' := s.toks) (fun b o q2 => Heap.get?_push_of_some _ q2) (Nat.le_refl _) new
    exact ⟨.ref hp.objs.size, _, I2, rfl, q _ _ (I1.hok.fresh (Nat.le_refl _)) rfl⟩
/-- o.m(..) of a tuple that is known to the object -/
def tBMF (K : PySem.W.Frag) (r : V → List V → Hp → VK → Prop) (to : TE) (t : TA) : TE := fun σ H Q => to σ H fun x H1 =>
  (∃ (p : Addr) (ob : Obj) (ys : List V), x = .ref p ∧ H1 p = some (.frz ob (.tup ys)) ∧ ob.dict = none) ∧ t σ H1 fun xs H2 => r x xs H2 Q
theorem pe_bmF {X : Cx} {o e : Expr} {es : List Expr} {to : TE} {t : TA} {name : Str} {apos cpos : Pos} {id : String} {r : V → List V → Hp → VK → Prop}
    (slot : Slot "tuple" name id) (hty : typeOf (.builtin id) = pure (.type "method_descriptor")) (hm : MtR X id r) (ho : PE X o to) (ha : PA X (e :: es) t)
    (whole : attributeBase o name X.env (eval o X.env) = eval o X.env := by rfl)
    (few : ((backTo cpos (starEach (e :: es) X.env)).all (fun x => !x.1) && (backToKw cpos (keywordEach [] X.env)).all (fun x => x.1.isSome)
      && decide ((e :: es).length + ([] : List Keyword).length + (if ([] : List Keyword).isEmpty then 0 else 1) < 30)) = true := by rfl) (line : (apos.endLine == cpos.line) = true := by rfl) (hs : starEach (e :: es) X.env = (false, eval e X.env) :: starEach es X.env := by rfl)
    (plain : (backTo cpos (starEach es X.env)).any (·.1) = false := by rfl) :
    PE X (.Call (.Attribute o name apos) (e :: es) [] cpos) (tBMF X.K r to t) := by
  refine ⟨fun pins s σ H Q I want => ?_⟩
  refine wpAny_Call_method_late whole few line rfl (thn (ho.run pins s σ H _ I want) ?_)
  rintro v s1 ⟨x, H1, I1, r1, ⟨p, ob, ys, rfl, hp, hd⟩, q1⟩
  obtain ⟨e1, z, its, rv, isT⟩ := I1.hok p _ hp
  have r2 := r1
  cases r1
  refine ⟨"tuple", id, F.plainAttrs_tuple, slot, hty, ?_, fun a ea => ?_, ?_⟩
  · exact isT.typeIs
  · cases ea
    exact ⟨ob, e1, hd⟩
  have args := ha.run cpos pins s1 σ H1 _ I1 q1
  rw [hs] at args ⊢
  refine Calls.callWith_builtin (by show (false || (backTo cpos (starEach es X.env)).any (·.1)) = false; rw [plain] <;> rfl) (Calls.evalArgs_plain ?_)
  exact thn args fun us s2 ⟨vs, H2, I2, r3, q2⟩ => hm pins s2 σ H2 (.ref p) vs (.ref p) us Q I2 rfl r3 q2
end K15

/-! a def that asks that no guard of a repr stands around (repr is called in it), and the law's end for such a def -/
namespace K15
open L2 PySem PyProof.Rows PySem.Spec

structure FnG (P : Program) (w : World) (K : PySem.W.Frag) (mg : Str → Option Value) (base : Heap) (k : Nat) (f : Addr) (fd : FuncData)
    (ps : List Str) (sp : Sp) : Prop where
  len : ∀ us H Q E, sp us H Q E → us.length = ps.length
  run : ∀ (A : Around) (outer : List Env) (s : Shared) (H : Hp) (args : Args) (us : List Value) (vs : List V) (Q : VK) (E : XK),
    A.guards = some [] → Room k A → Env0 P w K mg base A outer s H → BindsTo s fd args (ps.zip us) → Vals vs us → sp vs H Q E →
    codeAny (model P w) A (.call (.ref f) args) (CR CX0 outer P w H s Q E) s

section
variable {P : Program} {w : World} {K : PySem.W.Frag} {mg : Str → Option Value} {base : Heap} {x qual : Str} {params : Arguments}
  {body : List Stmt} {scope : Scope} {dvs : List V} {kws : List (Str × V)} {f : Addr} {fd : FuncData}
theorem okG {N ps : List Str} {k : Nat} {sp : Sp} (F : FunD K x qual params body scope dvs kws f fd) (S : FnScope N ps scope)
    (len : ∀ us H Q E, sp us H Q E → us.length = ps.length)
    (hbody : ∀ (cdv : Value) (A : Around) (outer : List Env) (s : Shared) (H : Hp) (vs : List V) (Q : VK) (E : XK),
      A.guards = some [] → Room k (A.deeper (envOfC qual scope s.heap.objs.size f cdv)) → sp vs H Q E →
      ∃ t, PSs (cxOf CX0 P w K mg base N qual scope f cdv A outer s H E) body t ∧
        t { nx := fun _ H2 => Q .non H2, rt := Q } (start N vs) H) : FnG P w K mg base (k + 1) f fd ps sp := by
  obtain ⟨oc, od, dV, kV, doc, pm, an, cdv, ct, osl, rfl, lk, rec, _, _⟩ := F.ex
  refine ⟨len, fun A outer s H args us vs Q E hg hr e0 hb r hsp => ?_⟩
  have hl := len _ _ _ _ hsp
  have KX : K.In s.heap := e0.mod.kin.keeps fun b o q => (e0.bs b o q).1
  have lim : s.heap.NoLimit := e0.mod.nolimit.keeps fun b o q => (e0.bs b o q).1
  have kinds : ∀ y ∈ ps.zip us, scope.names.lookup y.1 = some .local ∨
      (scope.names.lookup y.1 = some .cell ∧ ((cellsFrom (s.heap.objs.size + 1) scope.names []).lookup y.1).isSome = true) := by
    rintro ⟨n, v⟩ hy
    rcases S.par n (List.of_mem_zip hy).1 with own | own
    · exact .inl own
    · exact .inr ⟨own, PySem.W.cellsFrom_some _ _ _ (.inl own)⟩
  refine codeAny_call_function hr.depth (KX _ _ lk) rfl S.co S.gen rfl (PySem.W.codeRec_of KX rec) (hb _ _ _ _ ?_)
  refine wpAny_newFunctionEnv_cells S.kind kinds fun env he s1 inC => ?_
  subst he
  refine ⟨lim.keeps inC.toInCall.keep, codeAny_func ?_⟩
  obtain ⟨t, ht, hq⟩ := hbody cdv A outer s H vs Q E hg (hr.deeper _) hsp
  have I : Inv (cxOf CX0 P w K mg base N qual scope f cdv A outer s H E) [] (start N vs) H s1 := inv_start S hr.hd e0 hl r inC
  refine wpAny_mono (ht.run [] s1 (start N vs) H _ I hq) (fun fl s2 hs => ?_) fun e s2 hs => hs
  cases fl with
  | ret u =>
    obtain ⟨v, σ2, H2, J, rv, q⟩ := hs
    exact ⟨v, H2, J.os, J.bare, J.base, J.hok, rv, q⟩
  | next =>
    obtain ⟨σ2, H2, J, q⟩ := hs
    exact ⟨V.non, H2, J.os, J.bare, J.base, J.hok, rfl, q⟩
  | brk =>
    obtain ⟨_, _, _, q⟩ := hs
    exact False.elim q
  | cont =>
    obtain ⟨_, _, _, q⟩ := hs
    exact False.elim q
end

section
variable {X : Cx} {k : Nat} {f : Addr} {fd : FuncData} {ps : List Str} {sp : Sp} {x : Str} {p pos : Pos} {e : Expr} {es : List Expr} {t : TA}
theorem pe_callG (F : FnG X.prog X.w X.K X.mg X.base k f fd ps sp) (hgu : X.A.guards = some []) (hr : Room k X.A) (hg : Gl X x)
    (hm : X.mg x = some (.ref f)) (hk : PySem.W.keepIn X.K (.ref f) = true) (hb : Binds X.K fd ps []) (ha : PA X (e :: es) t)
    (hdb : (x == ("__debug__" : Str)) = false := by decide)
    (first : starEach (e :: es) X.env = (false, eval e X.env) :: starEach es X.env := by rfl)
    (stars : (backTo pos (starEach es X.env)).any (·.1) = false := by rfl) :
    PE X (.Call (.Name x p) (e :: es) [] pos) (tCall sp [] E0 t) := by
  refine ⟨fun pins s σ H Q I want => ?_⟩
  refine wpAny_Call_Name_kw (ld_glob I hg hm (Q := _) ?_ hdb)
  refine PySem.W.callWith_K (h₀ := X.base) I.ok.mod.kin hk (thn (ha.run pos pins s σ H _ I want) ?_) first stars
  rintro us s1 ⟨vs, H1, I1, r, q⟩
  refine ⟨I1.kIn, ?_⟩
  have r2 : Vals (vs ++ []) (us ++ []) := r.append .nil
  have hl : (us ++ []).length = ps.length := by
    rw [← r2.length]
    exact F.len _ _ _ _ q
  refine wpAny_call (codeAny_mono (F.run X.A X.stack s1 H1 ⟨us, []⟩ (us ++ []) (vs ++ []) Q E0 hgu hr I1.env0 (hb s1 us I1.kIn hl) r2 q) ?_)
  intro res s2 hq
  cases res with
  | error ex => exact False.elim hq
  | ok fl =>
    cases fl with
    | ret u => exact I1.after hq
    | next => exact False.elim hq
    | brk => exact False.elim hq
    | cont => exact False.elim hq
end

/-! ### the end -/
theorem endG {P : Program} {w : World} {K : PySem.W.Frag} {mg mb : Str → Option Value} {k : Nat} {fa a : Addr} {fd : FuncData} {x : Str} {sp : Sp}
    {s₁ : Shared} {vs : List Value} {ns : List Int} (KX : K.In s₁.heap) (hns : s₁.heap.Ns mainGlobals mg) (hb : s₁.heap.Ns builtinsNs mb)
    (hbb : ∀ y : Str, y ≠ "__name__" → mb y = bootBuiltins y) (hlim : s₁.heap.NoLimit) (hg : s₁.gens = #[])
    (ha : s₁.heap.get? a = some { cls := .type "list", data := .seq vs.toArray }) (hi : IntsAre vs ns) (hl : ns.length ≤ sizeLine)
    (hr : Room k callerA) (F : ∀ base : Heap, K.In base → base.Ns mainGlobals mg → FnG P w K mg base k fa fd [x] sp)
    (hbind : ∀ (s : Shared) (u : Value), BindsTo s fd ⟨[u], []⟩ [(x, u)])
    (hsp : ∀ H : Hp, Only H → SqL K H a (ns.map V.int) → sp [.ref a] H (fun v _ => v = .bl true) fun _ _ _ => False) :
    codeAny (model P w) callerA (.call (.ref fa) ⟨[.ref a], []⟩)
      (fun r s2 => r = .ok (.ret (.bool true)) ∧ OldK s₁.heap s2.heap ∧ s2.os = s₁.os ∧ AllBare s2.gens) s₁ := by
  have rv := vals_ints hi
  have lenV := hi.length
  have core : ∀ H : Hp, Only H → SqL K H a (ns.map V.int) → HOk P w H s₁.heap → (∀ b, H b ≠ none → b = a) →
      (H a ≠ none → K.lookup a = none) → codeAny (model P w) callerA (.call (.ref fa) ⟨[.ref a], []⟩)
        (fun r s2 => r = .ok (.ret (.bool true)) ∧ OldK s₁.heap s2.heap ∧ s2.os = s₁.os ∧ AllBare s2.gens) s₁ := by
    intro H hO hS hok hA hK
    have toBase : ∀ {b : Addr} {o : Obj}, s₁.heap.get? b = some o → H b = none → (hidT s₁.heap H).get? b = some o :=
      fun q n => hidT_get q n
    have notA : ∀ {b : Addr} {o : Obj} {es : Array DictEntry} {ep : Nat}, s₁.heap.get? b = some o → o.data = .dict es ep → H b = none := by
      intro b o es ep q d
      cases hb : H b with
      | none => rfl
      | some u =>
        have q2 : b = a := hA b (by rw [hb]; simp)
        subst q2
        rw [ha] at q
        cases q
        cases (show Data.seq vs.toArray _ = Data.dict es ep from d)
    have nsB : ∀ {b : Addr} {m : Str → Option Value}, s₁.heap.Ns b m → (hidT s₁.heap H).Ns b m := by
      rintro b m ⟨o, es, ep, q, d, r⟩
      exact ⟨o, es, ep, toBase q (notA q d), d, r⟩
    have kB : K.In (hidT s₁.heap H) := by
      intro b o q
      refine toBase (KX b o q) ?_
      cases hb : H b with
      | none => rfl
      | some u =>
        have q2 : b = a := hA b (by rw [hb]; simp)
        subst q2
        rw [hK (by rw [hb]; simp)] at q
        cases q
    have hM : Mod K mg (hidT s₁.heap H) := ⟨kB, nsB hns, ⟨mb, nsB hb, hbb⟩, let ⟨mc, h1, h2⟩ := hlim; ⟨mc, nsB h1, h2⟩⟩
    have nofr : ∀ b : Addr, b ∉ frs [] := fun b z => absurd (show b ∈ ([] : List Addr) from z) (by simp)
    have e0 : Env0 P w K mg (hidT s₁.heap H) callerA [] s₁ H :=
      ⟨rfl, hM, fun b o q => of_hidT q, Nat.le_of_eq (hidT_size _ _), trivial, fun b z => absurd z (nofr b), hok, .of_eq hg⟩
    refine codeAny_mono ((F _ kB (nsB hns)).run callerA [] s₁ H ⟨[.ref a], []⟩ [.ref a] [.ref a] _ _ rfl hr e0 (hbind s₁ (.ref a)) (.cons rfl .nil) (hsp H hO hS)) ?_
    intro r s2 hq
    cases r with
    | error ex => exact False.elim hq
    | ok fl =>
      cases fl with
      | next => exact False.elim hq
      | brk => exact False.elim hq
      | cont => exact False.elim hq
      | ret u =>
        obtain ⟨v, H2, os, bare, un, hok2, r2, q⟩ := hq
        have q2 : v = .bl true := q
        subst q2
        obtain rfl : u = Value.bool true := r2
        refine ⟨rfl, OldK.of_keep fun b o q => ?_, os, bare⟩
        cases hb : H b with
        | none => exact un.keep b o q hb (nofr b) (by simp)
        | some u =>
          rcases hO b with z | ⟨known, xs, z⟩
          · rw [hb] at z
            cases z
          · have z2 := un.frzs b known _ z
            obtain ⟨e1, _⟩ := hok b _ z
            obtain ⟨e2, _⟩ := hok2 b _ z2
            rw [q] at e1
            cases e1
            exact e2
  cases hk : K.lookup a with
  | some o =>
    have q := KX a o hk
    rw [ha] at q
    cases q
    refine core (fun _ => none) (fun _ => .inl rfl) (.inr ⟨_, vs.toArray, _, hk, rfl, rfl, rfl, ?_, by simpa using rv⟩) (fun b u z => ?_)
      (fun b z => absurd rfl z) fun z => absurd rfl z
    · rw [List.size_toArray, lenV]
      exact hl
    · cases (show (none : Option HO) = some u from z)
  | none =>
    refine core (fun b => if b = a then some (.frz { cls := .type "list", data := .seq vs.toArray } (.lst (ns.map V.int))) else none)
      (fun b => ?_) (.inl (.inr ⟨{ cls := .type "list", data := .seq vs.toArray }, if_pos rfl⟩)) (fun b u z => ?_) (fun b z => ?_) fun _ => hk
    · by_cases hb : b = a
      · refine .inr ⟨_, _, if_pos hb⟩
      · exact .inl (if_neg hb)
    · by_cases hb : b = a
      · have z2 := (if_pos hb).symm.trans z
        cases z2
        subst hb
        exact ⟨ha, (by rw [List.length_map]; exact hl), vs, _, rv, ha⟩
      · have z2 := (if_neg hb).symm.trans z
        cases z2
    · by_cases hb : b = a
      · exact hb
      · exact absurd (if_neg hb) z

theorem walkG {l : PySem.W.OpenLaw} {n k : Nat} {q : Program} {loose : List Str} {XP : (Str → Option Value) → Heap → Prop} {YP : World → Heap → Prop}
    {d : DefRec} {x : Str} (hn : l.most = some n) (hn2 : n ≤ sizeLine) (hdf : d.params.defaults = []) (hr : Room k callerA)
    (F : ∀ (w : World) (mg : Str → Option Value) (fa : Addr) (hp : Heap), YP w hp → hp.Ns mainGlobals mg → mg d.name = some (.ref fa) →
      ∃ (K : PySem.W.Frag) (fd : FuncData) (sp : Sp), K.In hp ∧ (∀ (s : Shared) (v : Value), BindsTo s fd ⟨[v], []⟩ [(x, v)]) ∧
        (∀ (H : Hp) (a : Addr) (ns : List Int), ns.length ≤ n → Only H → SqL K H a (ns.map V.int) →
          sp [.ref a] H (fun v _ => v = .bl true) fun _ _ _ => False) ∧
        ∀ base : Heap, K.In base → base.Ns mainGlobals mg → FnG l.prog w K mg base k fa fd [x] sp) :
    PySem.W.WalkO q loose XP YP l.row.toRowW d [] (fun f us => PySem.call f us) := by
  refine Att.attach_call hn hdf fun w s₀ s₁ mg mb fa o pm cd doc a vs ns G Y ho hd hcd hmg hobj hints hlen hgen => ?_
  obtain ⟨K, fd, sp, KX, binds, hsp, keeps⟩ := F w mg fa _ Y G.T.g hmg
  exact endG KX G.T.g G.T.b G.T.builtins G.T.nolimit hgen hobj hints (Nat.le_trans hlen hn2) hr keeps binds fun H hO hS => hsp H a ns hlen hO hS
end K15

/-! the text by places; the pool, the tables, the worlds in the heap -/
namespace K15
open L2 PySem PyProof.Rows PySem.Spec

/-! ### the text -/
def top (i : Nat) : Stmt := PySem.Challenge.pw_rightage_k15_whole_within_is_having.main.body.getD i (.Pass ⟨0, 0, 0, 0⟩)
abbrev sGreater : Stmt := top 1
abbrev sLesser : Stmt := top 2
abbrev sPutT : Stmt := top 3
abbrev sBoth : Stmt := top 4
abbrev sEither : Stmt := top 5
abbrev sWithin : Stmt := top 6
abbrev sPool : Stmt := top 8
abbrev sDraw : Stmt := top 9
abbrev sAny : Stmt := top 10
abbrev sSame : Stmt := top 11
abbrev sWay : Stmt := top 12
abbrev sWorld : Stmt := top 13
abbrev sOrigin : Stmt := top 14
abbrev sStair : Stmt := top 15
abbrev sTable : Stmt := top 16
abbrev sEmpty : Stmt := top 17
abbrev sStands : Stmt := top 18
abbrev sHas : Stmt := top 19
abbrev sPut : Stmt := top 20
abbrev sAllHad : Stmt := top 21
abbrev sLaw : Stmt := top 22

abbrev FnP (K : PySem.W.Frag) (x : Str) (st : Stmt) (f : Addr) (fd : FuncData) : Prop := FunD K x x (defArgs st) (defBody st) (defScope st) [] [] f fd
/-- a def of the text: as it stands, where its name leads, how it binds -/
structure Fn (K : PySem.W.Frag) (mg : Str → Option Value) (x : Str) (st : Stmt) (ps : List Str) (f : Addr) (fd : FuncData) : Prop where
  F : FnP K x st f fd
  g : mg x = some (.ref f)
  b : Binds K fd ps []
/-- the built-ins' names are free -/
structure Txt (mg : Str → Option Value) : Prop where
  len : mg "len" = none
  max : mg "max" = none
  min : mg "min" = none
  zip : mg "zip" = none
  tuple : mg "tuple" = none
  range : mg "range" = none
  int : mg "int" = none
  list : mg "list" = none
  enumerate : mg "enumerate" = none
  repr : mg "repr" = none

section
variable {X : Cx} {k : Nat} {f : Addr} {fd : FuncData} {ps : List Str} {sp : Sp} {x : Str} {st : Stmt} {p pos : Pos} {e : Expr} {es : List Expr} {t : TA}
theorem pcall (D : Fn X.K X.mg x st ps f fd) (G : FnOk X.prog X.w X.K X.mg X.base CX0 k f fd ps sp) (hr : Room k X.A) (hg : Gl X x)
    (ha : PA X (e :: es) t) (hdb : (x == ("__debug__" : Str)) = false := by decide)
    (he : starEach (e :: es) X.env = (false, eval e X.env) :: starEach es X.env := by rfl)
    (hpl : (backTo pos (starEach es X.env)).any (·.1) = false := by rfl) : PE X (.Call (.Name x p) (e :: es) [] pos) (tCall sp [] E0 t) :=
  pe_call G hr hg D.g D.F.kp D.b .nil pass0 ha hdb he hpl
end

section
variable {P : Program} {w : World} {K : PySem.W.Frag} {mg : Str → Option Value} {base : Heap} {x : Str} {st : Stmt} {f : Addr} {fd : FuncData}
/-- a def of the text by its body, no exception leaves it -/
theorem okN {N ps : List Str} {k : Nat} {sp : Sp} (F : FnP K x st f fd) (S : FnScope N ps (defScope st)) (len : ∀ vs H Q E, sp vs H Q E → vs.length = ps.length)
    (hbody : ∀ (cdv : Value) (A : Around) (outer : List Env) (s : Shared) (H : Hp) (vs : List V) (Q : VK) (E : XK),
      Room k (A.deeper (envOfC x (defScope st) s.heap.objs.size f cdv)) → sp vs H Q E →
      ∃ t, PSs (cxOf CX0 P w K mg base N x (defScope st) f cdv A outer s H E).nox (defBody st) t ∧
        t { nx := fun _ H2 => Q .non H2, rt := Q } (start N vs) H) : FnOk P w K mg base CX0 (k + 1) f fd ps sp :=
  F.ok S len fun cdv A outer s H vs Q E hr h =>
    let ⟨t, a, q⟩ := hbody cdv A outer s H vs Q E hr h
    ⟨t, a.nox, q⟩
end

/-! ### the pool: a list [great, rest, number, count]; great and the pool itself are written, rest is read -/
structure Pl where
  p : Addr
  g : Addr
  r : Addr
structure Pool (P : Pl) (N : Int) (H : Hp) : Prop where
  pg : P.p ≠ P.g
  pr : P.p ≠ P.r
  gr : P.g ≠ P.r
  gs : ∃ gs : List Int, H P.g = some (.lst (gs.map V.int))
  rs : ∃ rs : List Int, H P.r = some (.lst (rs.map V.int))
  at_ : ∃ a c : Int, H P.p = some (.lst [.ref P.g, .ref P.r, .int a, .int c]) ∧ 0 ≤ a ∧ a < 2147483647 ∧ 0 ≤ c ∧ c ≤ N
theorem Pool.mono {P : Pl} {N M : Int} {H : Hp} (h : Pool P N H) (k : N ≤ M) : Pool P M H := by
  obtain ⟨a, c, e, h1, h2, h3, h4⟩ := h.at_
  exact ⟨h.pg, h.pr, h.gr, h.gs, h.rs, a, c, e, h1, h2, h3, by omega⟩
theorem Pool.pLst {P : Pl} {N : Int} {H : Hp} (h : Pool P N H) : ∃ xs, H P.p = some (.lst xs) := by
  obtain ⟨a, c, e, _⟩ := h.at_
  exact ⟨_, e⟩
theorem Pool.ne {P : Pl} {N : Int} {H : Hp} (h : Pool P N H) {l : Addr} (n : H l = none) : l ≠ P.p ∧ l ≠ P.g ∧ l ≠ P.r := by
  obtain ⟨xs, e⟩ := h.pLst
  obtain ⟨gs, e2⟩ := h.gs
  obtain ⟨rs, e3⟩ := h.rs
  exact ⟨(ne_of_none e n).symm, (ne_of_none e2 n).symm, (ne_of_none e3 n).symm⟩
theorem Pool.neF {P : Pl} {N : Int} {H : Hp} (h : Pool P N H) {l : Addr} {ob : Obj} {u : HO} (n : H l = some (.frz ob u)) : l ≠ P.p ∧ l ≠ P.g := by
  obtain ⟨ys, e⟩ := h.pLst
  obtain ⟨gs, e2⟩ := h.gs
  exact ⟨ne_of n e (by intro z; cases z), ne_of n e2 (by intro z; cases z)⟩
theorem Pool.neT {P : Pl} {N : Int} {H : Hp} (h : Pool P N H) {l : Addr} {xs : List V} (n : H l = some (.tup xs)) : l ≠ P.p ∧ l ≠ P.g := by
  obtain ⟨ys, e⟩ := h.pLst
  obtain ⟨gs, e2⟩ := h.gs
  exact ⟨ne_of n e (by intro z; cases z), ne_of n e2 (by intro z; cases z)⟩
/-- from H to H2: the pool is drawn from at most k times, other things are made anew, nothing else is changed -/
structure Stp (P : Pl) (k : Int) (H H2 : Hp) : Prop where
  keep : ∀ b o, b ≠ P.p → b ≠ P.g → H b = some o → H2 b = some o
  pool : ∀ N, Pool P N H → Pool P (N + k) H2
  free : ∀ b, H2 b = none → H b = none
  tups : ∀ b xs, H b = some (.tup xs) → H2 b = some (.tup xs)
  frzs : ∀ b ob u, H b = some (.frz ob u) → H2 b = some (.frz ob u)
section
variable {P : Pl} {k j : Int} {H H1 H2 : Hp}
theorem Stp.refl : Stp P 0 H H := ⟨fun _ _ _ _ e => e, fun N h => by rw [Int.add_zero]; exact h, fun _ e => e, fun _ _ e => e, fun _ _ _ e => e⟩
theorem Stp.mono (s : Stp P k H H1) (h : k ≤ j) : Stp P j H H1 := ⟨s.keep, fun N p => (s.pool N p).mono (by omega), s.free, s.tups, s.frzs⟩
theorem Stp.trans (s : Stp P k H H1) (t : Stp P j H1 H2) : Stp P (k + j) H H2 :=
  ⟨fun b o h1 h2 e => t.keep b o h1 h2 (s.keep b o h1 h2 e), fun N p => by rw [← Int.add_assoc]; exact t.pool _ (s.pool N p),
    fun b e => s.free b (t.free b e), fun b xs e => t.tups b xs (s.tups b xs e), fun b ob u e => t.frzs b ob u (s.frzs b ob u e)⟩
/-- an object that was not there ahead is made or written -/
theorem Stp.put (s : Stp P k H H1) {l : Addr} (n : H l = none) (o : HO) : Stp P k H (upd H1 l o) := by
  refine ⟨fun b u h1 h2 e => ?_, fun N h => ?_, fun b e => ?_, fun b xs e => ?_, fun b ob u e => ?_⟩
  · rw [upd_ne (ne_of_none e n)]
    exact s.keep b u h1 h2 e
  · obtain ⟨n1, n2, n3⟩ := h.ne n
    obtain ⟨pg, pr, gr, gs, rs, a, c, e, q⟩ := s.pool N h
    obtain ⟨gs, eg⟩ := gs
    obtain ⟨rs, er⟩ := rs
    exact ⟨pg, pr, gr, ⟨gs, by rw [upd_ne n2.symm]; exact eg⟩, ⟨rs, by rw [upd_ne n3.symm]; exact er⟩, a, c, by rw [upd_ne n1.symm]; exact e, q⟩
  · by_cases hb : b = l
    · rw [hb]
      exact n
    · rw [upd_ne hb] at e
      exact s.free b e
  · rw [upd_ne (ne_of_none e n)]
    exact s.tups b xs e
  · rw [upd_ne (ne_of_none e n)]
    exact s.frzs b ob u e
theorem Stp.new (s : Stp P k H H1) {l : Addr} (n : H1 l = none) (o : HO) : Stp P k H (upd H1 l o) := s.put (s.free l n) o
end
/-- only new things are made -/
structure Grow (H H2 : Hp) : Prop where
  keep : ∀ b o, H b = some o → H2 b = some o
section
variable {H H1 H2 : Hp}
theorem Grow.refl : Grow H H := ⟨fun _ _ e => e⟩
theorem Grow.trans (s : Grow H H1) (t : Grow H1 H2) : Grow H H2 := ⟨fun b o e => t.keep b o (s.keep b o e)⟩
theorem Grow.free (s : Grow H H1) {b : Addr} (e : H1 b = none) : H b = none := by
  cases q : H b with
  | none => rfl
  | some o =>
    rw [s.keep b o q] at e
    cases e
theorem Grow.put (s : Grow H H1) {l : Addr} (n : H l = none) (o : HO) : Grow H (upd H1 l o) :=
  ⟨fun b u e => by rw [upd_ne (ne_of_none e n)]; exact s.keep b u e⟩
theorem Grow.new (s : Grow H H1) {l : Addr} (n : H1 l = none) (o : HO) : Grow H (upd H1 l o) := s.put (s.free n) o
theorem Grow.stp (s : Grow H H1) (P : Pl) : Stp P 0 H H1 := by
  refine ⟨fun b o _ _ e => s.keep b o e, fun N h => ?_, fun b e => s.free e, fun b xs e => s.keep b _ e, fun b ob u e => s.keep b _ e⟩
  obtain ⟨gs, eg⟩ := h.gs
  obtain ⟨rs, er⟩ := h.rs
  obtain ⟨a, c, e, q⟩ := h.at_
  rw [Int.add_zero]
  exact ⟨h.pg, h.pr, h.gr, ⟨gs, s.keep _ _ eg⟩, ⟨rs, s.keep _ _ er⟩, a, c, s.keep _ _ e, q⟩
end

/-! ### tuples that stand for good -/
def KeepT (H H2 : Hp) : Prop := ∀ b xs, H b = some (.tup xs) → H2 b = some (.tup xs)
theorem Stp.kt {P : Pl} {k : Int} {H H2 : Hp} (s : Stp P k H H2) : KeepT H H2 := s.tups
theorem Grow.kt {H H2 : Hp} (s : Grow H H2) : KeepT H H2 := fun b xs e => s.keep b _ e
def TupAt {α : Type} (R : Hp → V → α → Prop) (H : Hp) (v : V) (l : List α) : Prop :=
  ∃ (a : Addr) (xs : List V), v = .ref a ∧ H a = some (.tup xs) ∧ xs.length = l.length ∧ ∀ (i : Nat) (x : V) (y : α), xs[i]? = some x → l[i]? = some y → R H x y
theorem TupAt.keep {α : Type} {R : Hp → V → α → Prop} {H H2 : Hp} {v : V} {l : List α} (hR : ∀ x y, R H x y → R H2 x y) (k : KeepT H H2) (t : TupAt R H v l) : TupAt R H2 v l := by
  obtain ⟨a, xs, e, h, n, c⟩ := t
  exact ⟨a, xs, e, k a xs h, n, fun i x y e1 e2 => hR x y (c i x y e1 e2)⟩
theorem TupAt.get {α : Type} {R : Hp → V → α → Prop} {H : Hp} {v : V} {l : List α} (t : TupAt R H v l) :
    ∃ (a : Addr) (xs : List V), v = .ref a ∧ H a = some (.tup xs) ∧ xs.length = l.length ∧ ∀ (i : Nat) (y : α), l[i]? = some y → ∃ x, xs[i]? = some x ∧ R H x y := by
  obtain ⟨a, xs, e, h, n, c⟩ := t
  refine ⟨a, xs, e, h, n, fun i y e2 => ?_⟩
  have hi : i < xs.length := by
    rw [n]
    exact (List.getElem?_eq_some_iff.mp e2).1
  exact ⟨xs[i], List.getElem?_eq_getElem hi, c i _ y (List.getElem?_eq_getElem hi) e2⟩
def cellV : Option Int → V
  | none => .non
  | some n => .int n
abbrev Stair := List (Option Int)
abbrev Row := List Stair
abbrev Tab := List Row
def CellAt (_ : Hp) (v : V) (c : Option Int) : Prop := v = cellV c
abbrev StairAt : Hp → V → Stair → Prop := TupAt CellAt
abbrev RowAt : Hp → V → Row → Prop := TupAt StairAt
abbrev TabAt : Hp → V → Tab → Prop := TupAt RowAt
section
variable {H H2 : Hp} {v : V}
theorem StairAt.keep {l : Stair} (k : KeepT H H2) (t : StairAt H v l) : StairAt H2 v l := TupAt.keep (R := CellAt) (H := H) (H2 := H2) (fun _ _ h => h) k t
theorem RowAt.keep {l : Row} (k : KeepT H H2) (t : RowAt H v l) : RowAt H2 v l := TupAt.keep (fun _ _ h => StairAt.keep k h) k t
theorem TabAt.keep {l : Tab} (k : KeepT H H2) (t : TabAt H v l) : TabAt H2 v l := TupAt.keep (fun _ _ h => RowAt.keep k h) k t
theorem cells_of {xs : List V} {l : Stair} (n : xs.length = l.length) (c : ∀ (i : Nat) (x : V) (y : Option Int), xs[i]? = some x → l[i]? = some y → x = cellV y) : xs = l.map cellV := by
  refine List.ext_getElem? fun i => ?_
  rw [List.getElem?_map]
  by_cases hi : i < xs.length
  · have h1 := List.getElem?_eq_getElem hi
    have h2 : l[i]? = some (l[i]'(by omega)) := List.getElem?_eq_getElem (by omega)
    rw [h1, h2]
    exact congrArg some (c i _ _ h1 h2)
  · rw [List.getElem?_eq_none (by omega), List.getElem?_eq_none (by omega)]
    rfl
theorem StairAt.at_ {l : Stair} (t : StairAt H v l) : ∃ a, v = .ref a ∧ H a = some (.tup (l.map cellV)) := by
  obtain ⟨a, xs, e, h, n, c⟩ := t
  exact ⟨a, e, by rw [h, cells_of n c]⟩
theorem StairAt.of {a : Addr} {l : Stair} (h : H a = some (.tup (l.map cellV))) : StairAt H (.ref a) l := by
  refine ⟨a, _, rfl, h, by simp, fun i x y e1 e2 => ?_⟩
  rw [List.getElem?_map, e2] at e1
  exact (Option.some.inj e1).symm
end
/-- a cell of a stair of a place in a world of this size -/
def OkC (sz p : Nat) (c : Option Int) : Prop := ∀ n, c = some n → n % (sz : Int) = (p : Int) ∧ -20 ≤ n ∧ n ≤ 3000000000000000
def OkS (sz p : Nat) (st : Stair) : Prop := st.length = 27 ∧ ∀ c ∈ st, OkC sz p c
def OkR (sz : Nat) (r : Row) : Prop := r.length = sz ∧ ∀ (p : Nat) (st : Stair), r[p]? = some st → OkS sz p st
def OkT (sz m : Nat) (T : Tab) : Prop := T.length = m ∧ ∀ r ∈ T, OkR sz r

/-! ### a world; the tuple of its kinds is known to the object -/
structure WorldAt (H : Hp) (v : V) (sz : Nat) (ks : List Str) : Prop where
  ex : ∃ (q kk : Addr) (ob : Obj) (u w : V), v = .ref q ∧ H q = some (.tup [.int (sz : Int), .ref kk, u, w]) ∧ H kk = some (.frz ob (.tup (ks.map V.str))) ∧ ob.dict = none
  s1 : 1 ≤ sz
  s6 : sz ≤ 6
  nd : ks.Nodup
  k1 : 1 ≤ ks.length
  k4 : ks.length ≤ 4
theorem WorldAt.stp {P : Pl} {k : Int} {H H2 : Hp} {v : V} {sz : Nat} {ks : List Str} (s : Stp P k H H2) (h : WorldAt H v sz ks) : WorldAt H2 v sz ks := by
  obtain ⟨q, kk, ob, u, w, e, h1, h2, h3⟩ := h.ex
  exact ⟨⟨q, kk, ob, u, w, e, s.tups _ _ h1, s.frzs _ _ _ h2, h3⟩, h.s1, h.s6, h.nd, h.k1, h.k4⟩
theorem WorldAt.grow {H H2 : Hp} {v : V} {sz : Nat} {ks : List Str} (s : Grow H H2) (h : WorldAt H v sz ks) : WorldAt H2 v sz ks := by
  obtain ⟨q, kk, ob, u, w, e, h1, h2, h3⟩ := h.ex
  exact ⟨⟨q, kk, ob, u, w, e, s.keep _ _ h1, s.keep _ _ h2, h3⟩, h.s1, h.s6, h.nd, h.k1, h.k4⟩
theorem sqF {K : PySem.W.Frag} {H : Hp} {a : Addr} {ob : Obj} {xs : List V} (h : H a = some (.frz ob (.tup xs))) : SqT K H a xs := .inl (.inr ⟨ob, h⟩)
end K15

namespace K15
open L2 PySem PyProof.Rows PySem.Spec
/-- the greater, the lesser of two cells (nothing above all numbers) -/
def gr : Option Int → Option Int → Option Int
  | some x, some y => some (if y > x then y else x)
  | _, _ => none
def le : Option Int → Option Int → Option Int
  | none, b => b
  | some x, none => some x
  | some x, some y => some (if y < x then y else x)
def spCh (op : Option Int → Option Int → Option Int) : Sp := fun vs H Q _ => ∃ a b, vs = [cellV a, cellV b] ∧ Q (cellV (op a b)) H
section
variable {P : Program} {w : World} {K : PySem.W.Frag} {mg : Str → Option Value} {base : Heap} {f : Addr} {fd : FuncData}
theorem scGreater : FnScope ["one", "other"] ["one", "other"] (defScope sGreater) := ⟨rfl, rfl, rfl, by decide +kernel, rfl, by decide +kernel, by decide +kernel⟩
theorem scLesser : FnScope ["one", "other"] ["one", "other"] (defScope sLesser) := ⟨rfl, rfl, rfl, by decide +kernel, rfl, by decide +kernel, by decide +kernel⟩
theorem ok_greater (F : FnP K "greater" sGreater f fd) (T : Txt mg) : FnOk P w K mg base CX0 1 f fd ["one", "other"] (spCh gr) := by
  refine okN F scGreater (fun vs H Q E h => ?_) (fun cdv A outer s H vs Q E hr h => ?_)
  · obtain ⟨a, b, rfl, _⟩ := h
    rfl
  · obtain ⟨a, b, rfl, k⟩ := h
    refine ⟨_, pss_one (ps_ret (pe_ifExp (PW.pt (pw_or (pt_cmp (pc_isN (pv 0))) (pw_or1 (pt_cmp (pc_isN (pv 1)))))) pe_non
      (pe_callB (call_max2 rfl) (by rfl) T.max (by decide +kernel) (pa_cons (pv 0) (pa_cons (pv 1) pa_nil))))), ?_⟩
    cases a with
    | none =>
      refine ⟨_, rfl, true, rfl, iteT (iteT ?_)⟩
      cases b <;> exact k
    | some x =>
      cases b with
      | none => exact ⟨_, rfl, false, rfl, iteF ⟨_, rfl, true, rfl, iteT k⟩⟩
      | some y => exact ⟨_, rfl, false, rfl, iteF ⟨_, rfl, false, rfl, iteF ⟨_, rfl, _, rfl, x, y, rfl, k⟩⟩⟩
theorem ok_lesser (F : FnP K "lesser" sLesser f fd) (T : Txt mg) : FnOk P w K mg base CX0 1 f fd ["one", "other"] (spCh le) := by
  refine okN F scLesser (fun vs H Q E h => ?_) (fun cdv A outer s H vs Q E hr h => ?_)
  · obtain ⟨a, b, rfl, _⟩ := h
    rfl
  · obtain ⟨a, b, rfl, k⟩ := h
    refine ⟨_, pss_cons (ps_if (pt_cmp (pc_isN (pv 0))) (pss_one (ps_ret (pv 1))) pss_nil)
      (pss_one (ps_ret (pe_ifExp (pt_cmp (pc_isN (pv 1))) (pv 0)
      (pe_callB (call_min2 rfl) (by rfl) T.min (by decide +kernel) (pa_cons (pv 0) (pa_cons (pv 1) pa_nil)))))), ?_⟩
    cases a with
    | none => exact ⟨_, rfl, true, rfl, iteT ⟨_, rfl, k⟩⟩
    | some x =>
      refine ⟨_, rfl, false, rfl, iteF ?_⟩
      cases b with
      | none => exact ⟨_, rfl, true, rfl, iteT ⟨_, rfl, k⟩⟩
      | some y => exact ⟨_, rfl, false, rfl, iteF ⟨_, rfl, _, rfl, x, y, rfl, k⟩⟩
end
end K15

namespace K15
open L2 PySem PyProof.Rows PySem.Spec
def spDraw : Sp := fun vs H Q _ => ∃ (P : Pl) (N m : Int), vs = [.ref P.p, .int m] ∧ Pool P N H ∧ N ≤ 1000000000 ∧ 1 ≤ m ∧ m ≤ 1000000 ∧
  ∀ d H2, 0 ≤ d → d < m → Stp P 1 H H2 → Q (.int d) H2
def spAny : Sp := fun vs H Q _ => ∃ (P : Pl) (N : Int) (l : Addr) (xs : List V), vs = [.ref P.p, .ref l] ∧ Pool P N H ∧ N ≤ 1000000000 ∧
  ((H l = some (.lst xs) ∧ l ≠ P.p ∧ l ≠ P.g) ∨ ∃ ob, H l = some (.frz ob (.tup xs))) ∧ 1 ≤ xs.length ∧ xs.length ≤ 1000 ∧
  ∀ x H2, x ∈ xs → Stp P 1 H H2 → Q x H2

theorem at0 {α : Type} {x : α} {xs : List α} : atI (x :: xs) 0 = some x := atI_nat (j := 0) rfl
theorem at1 {α : Type} {x y : α} {xs : List α} : atI (x :: y :: xs) 1 = some y := atI_nat (j := 1) rfl
theorem at2 {α : Type} {x y z : α} {xs : List α} : atI (x :: y :: z :: xs) 2 = some z := atI_nat (j := 2) rfl
theorem at3 {α : Type} {x y z w : α} {xs : List α} : atI (x :: y :: z :: w :: xs) 3 = some w := atI_nat (j := 3) rfl
theorem ixL {n j : Nat} (h : j < n) : ixN n (j : Int) = some j := by
  unfold ixN
  rw [if_pos (show (0 : Int) ≤ (j : Int) by omega), if_pos (by omega)]
  rfl
theorem ix0 {α : Type} {x : α} {xs : List α} : ixN (x :: xs).length 0 = some 0 := ixL (j := 0) (by simp)
theorem ix2 {α : Type} {x y z : α} {xs : List α} : ixN (x :: y :: z :: xs).length 2 = some 2 := ixL (j := 2) (by simp)
theorem ix3 {α : Type} {x y z w : α} {xs : List α} : ixN (x :: y :: z :: w :: xs).length 3 = some 3 := ixL (j := 3) (by simp)
theorem fmodP {a b : Int} (h : 0 < b) : 0 ≤ a.fmod b ∧ a.fmod b < b := ⟨Int.fmod_nonneg_of_pos a h, Int.fmod_lt_of_pos a h⟩

def nxt (a z c : Int) : Int := (a * 48271 + z.fmod 2147483629 * ((c + 1) * (c + 1) + 1) + 97 * (c + 1)).fmod 2147483647
theorem nxt_ok (a z c : Int) : 0 ≤ nxt a z c ∧ nxt a z c < 2147483647 := fmodP (by decide)
theorem nz1 : (2147483629 : Int) ≠ 0 := by decide
theorem nz2 : (2147483647 : Int) ≠ 0 := by decide
/-- the first of the great ones is lessened -/
theorem stp_great {P : Pl} {N : Int} {H : Hp} (h : Pool P N H) (gs : List Int) : Stp P 1 H (upd H P.g (.lst (gs.map V.int))) := by
  refine ⟨fun b o _ h2 e => ?_, fun M p => ?_, fun b e => ?_, fun b xs e => ?_, fun b ob u e => ?_⟩
  · rw [upd_ne h2]
    exact e
  · obtain ⟨rs, er⟩ := p.rs
    obtain ⟨a, c, e, q1, q2, q3, q4⟩ := p.at_
    refine ⟨p.pg, p.pr, p.gr, ⟨gs, upd_same⟩, ⟨rs, ?_⟩, a, c, ?_, q1, q2, q3, by omega⟩
    · rw [upd_ne p.gr.symm]
      exact er
    · rw [upd_ne p.pg]
      exact e
  · by_cases hb : b = P.g
    · rw [hb, upd_same] at e
      cases e
    · rw [upd_ne hb] at e
      exact e
  · rw [upd_ne (h.neT e).2]
    exact e
  · rw [upd_ne (h.neF e).2]
    exact e
/-- the number and the count go on -/
theorem stp_count {P : Pl} {N c : Int} {H H1 : Hp} (h : Pool P N H) {u a2 : Int} (e0 : H P.p = some (.lst [.ref P.g, .ref P.r, .int u, .int c]))
    (hH : ∀ b, b ≠ P.p → H1 b = H b) (e1 : H1 P.p = some (.lst [.ref P.g, .ref P.r, .int a2, .int (c + 1)])) (h1 : 0 ≤ a2) (h2 : a2 < 2147483647) : Stp P 1 H H1 := by
  refine ⟨fun b o h1 _ e => ?_, fun M p => ?_, fun b e => ?_, fun b xs e => ?_, fun b ob u e => ?_⟩
  · rw [hH b h1]
    exact e
  · obtain ⟨gs, eg⟩ := p.gs
    obtain ⟨rs, er⟩ := p.rs
    obtain ⟨a, c2, e, q1, q2, q3, q4⟩ := p.at_
    rw [e] at e0
    injection e0 with e0
    injection e0 with e0
    have ec : c2 = c := by
      injection e0 with _ e0
      injection e0 with _ e0
      injection e0 with _ e0
      injection e0 with e0 _
      exact V.int.inj e0
    subst ec
    refine ⟨p.pg, p.pr, p.gr, ⟨gs, ?_⟩, ⟨rs, ?_⟩, a2, c2 + 1, e1, h1, h2, by omega, by omega⟩
    · rw [hH _ p.pg.symm]
      exact eg
    · rw [hH _ p.pr.symm]
      exact er
  · by_cases hb : b = P.p
    · rw [hb, e1] at e
      cases e
    · rw [hH b hb] at e
      exact e
  · rw [hH b (h.neT e).1]
    exact e
  · rw [hH b (h.neF e).1]
    exact e
section
variable {P : Program} {w : World} {K : PySem.W.Frag} {mg : Str → Option Value} {base : Heap} {f : Addr} {fd : FuncData}
theorem scDraw : FnScope ["_law_pool_here", "_law_many", "_law_cell"] ["_law_pool_here", "_law_many"] (defScope sDraw) :=
  ⟨rfl, rfl, rfl, by decide +kernel, rfl, by decide +kernel, by decide +kernel⟩
theorem ok_draw (F : FnP K "_law_draw" sDraw f fd) (T : Txt mg) : FnOk P w K mg base CX0 1 f fd ["_law_pool_here", "_law_many"] spDraw := by
  refine okN F scDraw (fun vs H Q E h => ?_) (fun cdv A outer s H vs Q E hr h => ?_)
  · obtain ⟨a, b, c, rfl, _⟩ := h
    rfl
  · obtain ⟨P, N, m, rfl, hp, hN, m1, m2, k⟩ := h
    refine ⟨_, pss_cons (ps_if (pt_cmpR op_gt (pe_callB call_len_seq (by rfl) T.len boot_len (pa_cons (pe_ix ix_list (pv 0) pe_int (fun _ _ => rfl)) pa_nil)) pe_int (nomark _))
        (pss_cons (ps_set (i := 2) scDraw.nd rfl (.inl rfl) (pe_ix ix_list (pe_ix ix_list (pv 0) pe_int (fun _ _ => rfl)) pe_int (fun _ _ => rfl)))
        (pss_cons (ps_asg (pe_op op_fdivN (pv 2) (pv 1)) (pg_sub (pe_ix ix_list (pv 0) pe_int (fun _ _ => rfl)) pe_int set_list))
        (pss_cons (ps_if (pt_cmpR op_eq (pe_op op_fdivN (pv 2) (pv 1)) pe_int (nomark _))
            (pss_one (ps_expr (pe_bm PySem.F.plainAttrs_list PySem.F.slot_list_pop PySem.F.type_list_pop mt_popAt (pe_ix ix_list (pv 0) pe_int (fun _ _ => rfl)) (pa_cons pe_int pa_nil)))) pss_nil)
        (pss_one (ps_ret (pe_op op_modN (pv 2) (pv 1))))))) pss_nil)
      (pss_cons (ps_asg (pe_op op_add (pe_ix ix_list (pv 0) pe_int (fun _ _ => rfl)) pe_int) (pg_sub (pv 0) pe_int set_list))
      (pss_cons (ps_set (i := 2) scDraw.nd rfl (.inl rfl) pe_int)
      (pss_cons (ps_if (pt_cmpR op_gt (pe_callB call_len_seq (by rfl) T.len boot_len (pa_cons (pe_ix ix_list (pv 0) pe_int (fun _ _ => rfl)) pa_nil)) pe_int (nomark _))
        (pss_one (ps_set (i := 2) scDraw.nd rfl (.inl rfl) (pe_ix ix_list (pe_ix ix_list (pv 0) pe_int (fun _ _ => rfl))
          (pe_op op_modN (pe_ix ix_list (pv 0) pe_int (fun _ _ => rfl)) (pe_callB call_len_seq (by rfl) T.len boot_len (pa_cons (pe_ix ix_list (pv 0) pe_int (fun _ _ => rfl)) pa_nil))) (fun _ _ => rfl)))) pss_nil)
      (pss_cons (ps_set (i := 2) scDraw.nd rfl (.inl rfl) (pe_op op_mul (pe_op op_modN (pv 2) pe_int)
          (pe_op op_add (pe_op op_mul (pe_ix ix_list (pv 0) pe_int (fun _ _ => rfl)) (pe_ix ix_list (pv 0) pe_int (fun _ _ => rfl))) pe_int)))
      (pss_cons (ps_asg (pe_op op_modN (pe_op op_add (pe_op op_add (pe_op op_mul (pe_ix ix_list (pv 0) pe_int (fun _ _ => rfl)) pe_int) (pv 2))
          (pe_op op_mul pe_int (pe_ix ix_list (pv 0) pe_int (fun _ _ => rfl)))) pe_int) (pg_sub (pv 0) pe_int set_list))
      (pss_one (ps_ret (pe_op op_modN (pe_op op_fdivN (pe_op op_modN (pe_op op_pow (pe_ix ix_list (pv 0) pe_int (fun _ _ => rfl)) pe_int) pe_int) pe_int) (pv 1))))))))), ?_⟩
    obtain ⟨gs, eg⟩ := hp.gs
    obtain ⟨rs, er⟩ := hp.rs
    obtain ⟨a, c, ep, a1, a2, c1, c2⟩ := hp.at_
    have mC : CDivN (0 : Int) m := ⟨by omega, by omega⟩
    refine ⟨_, rfl, _, _, _, _, rfl, rfl, SqL.of ep, at0, _, _, rfl, .inl (SqL.of eg), _, _, rfl, rfl, _, rfl, ?_⟩
    cases gs with
    | cons z zs =>
      refine ite2 (fun _ => ?_) (fun hc => absurd (by simp) hc)
      -- the first one
      refine ⟨_, rfl, _, _, _, _, rfl, rfl, SqL.of ep, at0, _, _, _, _, rfl, rfl, SqL.of eg, at0, ?_⟩
      refine ⟨_, rfl, _, rfl, _, _, rfl, rfl, mC, _, rfl, _, _, _, _, rfl, rfl, SqL.of ep, at0, _, _, _, 0, rfl, rfl, eg, ix0, ?_⟩
      have ep2 : upd H P.g (.lst (((z :: zs).map V.int).set 0 (.int (z.fdiv m)))) P.p = some (.lst [.ref P.g, .ref P.r, .int a, .int c]) := by
        rw [upd_ne hp.pg]
        exact ep
      refine ⟨_, rfl, _, rfl, _, _, rfl, rfl, mC, rfl, _, rfl, ?_⟩
      have fin : ∀ gs2 : List Int, tRet (tOp (rI (fun _ j => j ≠ 0) fun i j => V.int (i.fmod j)) (tVar 2) (tVar 1)) { nx := fun _ H2 => Q .non H2, rt := Q }
          [some (V.ref P.p), some (V.int m), some (V.int z)] (upd H P.g (.lst (gs2.map V.int))) := fun gs2 =>
        ⟨_, rfl, _, rfl, _, _, rfl, rfl, by omega, k _ _ (fmodP (by omega)).1 (fmodP (by omega)).2 (stp_great hp gs2)⟩
      refine ite2 (fun _ => ?_) (fun _ => ?_)
      · refine ⟨_, rfl, _, _, _, _, rfl, rfl, SqL.of ep2, at0, .inl ⟨rfl, _, SqL.of upd_same⟩, _, _, _, 0, _, rfl, rfl, upd_same, by decide, by decide, by simp [seqIndex?], rfl, ?_⟩
        rw [upd_upd]
        exact fin zs
      · exact fin (z.fdiv m :: zs)
    | nil =>
      refine ite2 (fun hc => absurd hc (by simp)) (fun _ => ?_)
      -- the rest: the count goes on
      refine ⟨_, rfl, _, _, _, _, rfl, rfl, SqL.of ep, at3, _, _, rfl, rfl, _, rfl, _, _, _, 3, rfl, rfl, ep, ix3, ?_⟩
      generalize hH1 : upd H P.p (.lst ([V.ref P.g, V.ref P.r, V.int a, V.int c].set 3 (V.int (c + 1)))) = H1
      have e1 : H1 P.p = some (.lst [.ref P.g, .ref P.r, .int a, .int (c + 1)]) := by rw [← hH1, upd_same]; rfl
      have r1 : H1 P.r = some (.lst (rs.map V.int)) := by rw [← hH1, upd_ne hp.pr.symm]; exact er
      have o1 : ∀ b, b ≠ P.p → H1 b = H b := fun b hb => by rw [← hH1, upd_ne hb]
      clear hH1
      have big : ∀ v : Int, 0 ≤ v → v < 2147483647 → -(2 ^ 64) < v ∧ v < 2 ^ 64 := fun v h1 h2 => by omega
      -- behind the test: whatever number the third name has
      have fin : ∀ z : Int, tSeq (tAsg (tOp (rI CMul fun i j => V.int (i * j)) (tOp (rI (fun _ j => j ≠ 0) fun i j => V.int (i.fmod j)) (tVar 2) (tC (.int 2147483629)))
          (tOp (rI0 fun i j => V.int (i + j)) (tOp (rI CMul fun i j => V.int (i * j)) (tOp (rIxL K) (tVar 0) (tC (.int 3))) (tOp (rIxL K) (tVar 0) (tC (.int 3)))) (tC (.int 1)))) (gName 2))
          (tSeq (tAsg (tOp (rI (fun _ j => j ≠ 0) fun i j => V.int (i.fmod j)) (tOp (rI0 fun i j => V.int (i + j)) (tOp (rI0 fun i j => V.int (i + j))
              (tOp (rI CMul fun i j => V.int (i * j)) (tOp (rIxL K) (tVar 0) (tC (.int 2))) (tC (.int 48271))) (tVar 2))
              (tOp (rI CMul fun i j => V.int (i * j)) (tC (.int 97)) (tOp (rIxL K) (tVar 0) (tC (.int 3))))) (tC (.int 2147483647))) (gSub (tVar 0) (tC (.int 2)) rSetL))
            (tRet (tOp (rI (fun _ j => j ≠ 0) fun i j => V.int (i.fmod j)) (tOp (rI CDivN fun i j => V.int (i.fdiv j)) (tOp (rI (fun _ j => j ≠ 0) fun i j => V.int (i.fmod j))
              (tOp (rI CPow fun i j => V.int (i ^ j.toNat)) (tOp (rIxL K) (tVar 0) (tC (.int 2))) (tC (.int 5))) (tC (.int 2147483629))) (tC (.int 64))) (tVar 1))))
          { nx := fun _ H2 => Q .non H2, rt := Q } [some (V.ref P.p), some (V.int m), some (V.int z)] H1 := fun z => by
        have f1 := fmodP (a := z) (b := 2147483629) (by decide)
        refine ⟨_, rfl, _, _, rfl, rfl, nz1, _, rfl, _, _, _, _, rfl, rfl, SqL.of e1, at3, _, rfl, _, _, _, _, rfl, rfl, SqL.of e1, at3, _, _, rfl, rfl, .inl (by omega), _, _, rfl, rfl, _, _, rfl, rfl,
          .inl (big _ f1.1 (by omega)), ?_⟩
        refine ⟨_, rfl, _, _, _, _, rfl, rfl, SqL.of e1, at2, _, _, rfl, rfl, .inl (big _ a1 a2), _, rfl, _, _, rfl, rfl, _, rfl, _, _, _, _, rfl, rfl, SqL.of e1, at3, _, _, rfl, rfl, .inl (by decide), _, _, rfl, rfl,
          _, _, rfl, rfl, nz2, _, rfl, _, _, _, 2, rfl, rfl, e1, ix2, ?_⟩
        have fv := nxt_ok a z c
        have e2 : upd H1 P.p (.lst ([V.ref P.g, V.ref P.r, V.int a, V.int (c + 1)].set 2 (V.int (nxt a z c)))) P.p = some (.lst [.ref P.g, .ref P.r, .int (nxt a z c), .int (c + 1)]) := upd_same
        refine ⟨_, rfl, _, _, _, _, rfl, rfl, SqL.of e2, at2, _, _, rfl, rfl, ⟨by decide, by decide, (by omega : (nxt a z c).natAbs < 2 ^ 64)⟩, _, _, rfl, rfl, nz1, _, _, rfl, rfl, ⟨by decide, by decide⟩, _, rfl, _, _, rfl, rfl, by omega, ?_⟩
        refine k _ _ (fmodP (by omega)).1 (fmodP (by omega)).2 (stp_count hp ep (fun b hb => ?_) e2 fv.1 fv.2)
        rw [upd_ne hb]
        exact o1 b hb
      refine ⟨_, rfl, _, _, _, _, rfl, rfl, SqL.of e1, at1, _, _, rfl, .inl (SqL.of r1), _, _, rfl, rfl, _, rfl, ?_⟩
      cases rs with
      | nil => exact ite2 (fun hc => absurd hc (by simp)) (fun _ => fin 0)
      | cons z zs =>
        refine ite2 (fun _ => ?_) (fun hc => absurd (by simp) hc)
        have hl : (0 : Int) < (((z :: zs).map V.int).length : Nat) := by simp
        have fi := fmodP (a := c + 1) hl
        obtain ⟨j, hj⟩ : ∃ j : Nat, (c + 1).fmod (((z :: zs).map V.int).length : Nat) = (j : Int) := ⟨((c + 1).fmod (((z :: zs).map V.int).length : Nat)).toNat, by omega⟩
        have hjl : j < (z :: zs).length := by
          rw [hj, List.length_map] at fi
          omega
        refine ⟨_, rfl, _, _, _, _, rfl, rfl, SqL.of e1, at1, _, rfl, _, _, _, _, rfl, rfl, SqL.of e1, at3, _, rfl, _, _, _, _, rfl, rfl, SqL.of e1, at1, _, _, rfl, .inl (SqL.of r1), _, _, rfl, rfl, by omega,
          _, _, _, _, rfl, rfl, SqL.of r1, ?_, fin ((z :: zs)[j])⟩
        rw [hj]
        exact atI_nat (by rw [List.getElem?_map, List.getElem?_eq_getElem hjl]; rfl)
theorem scAny : FnScope ["_law_pool_here", "_law_some"] ["_law_pool_here", "_law_some"] (defScope sAny) :=
  ⟨rfl, rfl, rfl, by decide +kernel, rfl, by decide +kernel, by decide +kernel⟩
theorem ok_any {fD : Addr} {fdD : FuncData} (F : FnP K "_law_any" sAny f fd) (T : Txt mg) (D : Fn K mg "_law_draw" sDraw ["_law_pool_here", "_law_many"] fD fdD) :
    FnOk P w K mg base CX0 2 f fd ["_law_pool_here", "_law_some"] spAny := by
  have GD : FnOk P w K mg base CX0 1 fD fdD ["_law_pool_here", "_law_many"] spDraw := ok_draw D.F T
  refine okN F scAny (fun vs H Q E h => ?_) (fun cdv A outer s H vs Q E hr h => ?_)
  · obtain ⟨a, b, c, d, rfl, _⟩ := h
    rfl
  · obtain ⟨P, N, l, xs, rfl, hp, hN, hl, l1, l2, k⟩ := h
    refine ⟨_, pss_one (ps_ret (pe_ix ix_seq (pv 1) (pcall D GD hr rfl (pa_cons (pv 0) (pa_cons (pe_callB call_len_seq (by rfl) T.len boot_len (pa_cons (pv 1) pa_nil)) pa_nil))) (fun _ _ => rfl))), ?_⟩
    have hsq : SqL K H l xs ∨ SqT K H l xs := by
      rcases hl with ⟨h, _⟩ | ⟨ob, h⟩
      · exact .inl (SqL.of h)
      · exact .inr (sqF h)
    refine ⟨_, rfl, _, rfl, _, rfl, _, _, rfl, hsq, P, N, _, rfl, hp, hN, by omega, by omega, fun d H2 d1 d2 st => ?_⟩
    obtain ⟨j, rfl⟩ : ∃ j : Nat, d = (j : Int) := ⟨d.toNat, by omega⟩
    have hj : j < xs.length := by omega
    have hx : atI xs (j : Int) = some xs[j] := atI_nat (List.getElem?_eq_getElem hj)
    have fin := k xs[j] H2 (List.getElem_mem hj) st
    rcases hl with ⟨h, h1, h2⟩ | ⟨ob, h⟩
    · exact .inl ⟨_, _, _, _, rfl, rfl, SqL.of (st.keep l _ h1 h2 h), hx, fin⟩
    · exact .inr (.inl ⟨_, _, _, _, rfl, rfl, sqF (st.frzs l _ _ h), hx, fin⟩)
end
end K15

namespace K15
open L2 PySem PyProof.Rows PySem.Spec
abbrev rTupOf (K : PySem.W.Frag) : List V → Hp → VK → Prop := fun xs H Q => ∃ p ys, xs = [V.ref p] ∧
  ((SqL K H p ys ∧ ∀ l, H l = none → Q (.ref l) (upd H l (.tup ys))) ∨ (SqT K H p ys ∧ Q (.ref p) H))
abbrev tV2 (i j : Nat) : TA := tCons (tVar i) (tCons (tVar j) tNil)
abbrev g2 (K : PySem.W.Frag) (i j : Nat) : TG := gTup K 2 (gCons (gName i) (gCons (gName j) gNil))
def zipS (op : Option Int → Option Int → Option Int) (s t : Stair) : Stair := List.zipWith op s t
def zipR (op : Option Int → Option Int → Option Int) (s t : Row) : Row := List.zipWith (zipS op) s t
def zipT (op : Option Int → Option Int → Option Int) (s t : Tab) : Tab := List.zipWith (zipR op) s t
theorem zipW_get {α β γ : Type} {f : α → β → γ} {s : List α} {t : List β} {i : Nat} {x : α} {y : β} (hx : s[i]? = some x) (hy : t[i]? = some y) : (List.zipWith f s t)[i]? = some (f x y) := by
  rw [List.getElem?_zipWith, hx, hy]
theorem zipS_get {op : Option Int → Option Int → Option Int} {s t : Stair} {i : Nat} {x y : Option Int} (hx : s[i]? = some x) (hy : t[i]? = some y) : (zipS op s t)[i]? = some (op x y) := zipW_get hx hy
theorem zipR_get {op : Option Int → Option Int → Option Int} {s t : Row} {i : Nat} {x y : Stair} (hx : s[i]? = some x) (hy : t[i]? = some y) : (zipR op s t)[i]? = some (zipS op x y) := zipW_get hx hy
theorem zipT_get {op : Option Int → Option Int → Option Int} {s t : Tab} {i : Nat} {x y : Row} (hx : s[i]? = some x) (hy : t[i]? = some y) : (zipT op s t)[i]? = some (zipR op x y) := zipW_get hx hy
theorem take_next {β : Type} {l : List β} {i : Nat} {x : β} (h : l[i]? = some x) : l.take (i + 1) = l.take i ++ [x] := by
  rw [List.take_add_one, h]
  rfl
theorem get_append_one {α : Type} {xs : List α} {x y : α} {j : Nat} (h : (xs ++ [x])[j]? = some y) : xs[j]? = some y ∨ (j = xs.length ∧ y = x) := by
  by_cases hj : j < xs.length
  · rw [List.getElem?_append_left hj] at h
    exact .inl h
  · rw [List.getElem?_append_right (by omega)] at h
    have hl := (List.getElem?_eq_some_iff.mp h).1
    simp only [List.length_cons, List.length_nil] at hl
    have e : j = xs.length := by omega
    subst e
    simp at h
    exact .inr ⟨rfl, h.symm⟩
theorem yes {σ : L2.St} {H : Hp} {A B : Hp → Prop} (h : A H) : tYes σ H fun b H3 => if b = true then A H3 else B H3 := by
  show if true = true then A H else B H
  exact iteT h
theorem visC {sc : Scope} {x : Str} (h : sc.names.lookup x = some .cell) : Vis sc x := .inr (.inl h)
abbrev t_inner (K : PySem.W.Frag) (fc : Addr) (op : Option Int → Option Int → Option Int) : TE :=
  tCB (rTupOf K) (tCons (tLc (RZ.iZipA K (tV2 6 7)) (g2 K 8 9) tYes (tCallL 2 fc (spCh op) [] E0 (tV2 8 9)) [8, 9]) tNil)
theorem rd_inner {K : PySem.W.Frag} {fc : Addr} {op : Option Int → Option Int → Option Int} {x0 x1 x3 x4 x5 x8 x9 : Option V} {v w : V} {H : Hp} {Q : VK} {s t : Stair}
    (hs : StairAt H v s) (ht : StairAt H w t) (l1 : s.length = 27) (l2 : t.length = 27) (k : ∀ H2 q, Grow H H2 → StairAt H2 (.ref q) (zipS op s t) → Q (.ref q) H2) :
    t_inner K fc op [x0, x1, some (.ref fc), x3, x4, x5, some v, some w, x8, x9] H Q := by
  obtain ⟨a, rfl, ha⟩ := hs.at_
  obtain ⟨b, rfl, hb⟩ := ht.at_
  have lz : (zipS op s t).length = 27 := by
    unfold zipS
    rw [List.length_zipWith]
    omega
  refine ⟨_, rfl, _, rfl, a, b, _, _, rfl, .inr ⟨SqT.of ha, SqT.of hb, fun D hD => ?_⟩⟩
  refine lc_it (walk_zipT (n := 27) (by simp [l1]) (by simp [l2])) (fun i H2 => Grow H H2 ∧ H2 D = some (.lst (((zipS op s t).take i).map cellV))) ⟨Grow.refl.new hD _, upd_same⟩ (fun i H2 _ p => ⟨SqT.of (p.1.keep _ _ ha), SqT.of (p.1.keep _ _ hb)⟩) ?_ ?_
  · rintro i x H2 H3 hi ⟨gw, hl⟩ ⟨T, y0, y1, rfl, nT, rfl, e0, e1⟩
    have i1 : s[i]? = some (s[i]'(by omega)) := List.getElem?_eq_getElem (by omega)
    have i2 : t[i]? = some (t[i]'(by omega)) := List.getElem?_eq_getElem (by omega)
    simp only [List.getElem?_map, i1, i2, Option.map_some, Option.some.injEq] at e0 e1
    subst e0 e1
    refine ⟨T, _, rfl, SqT.of upd_same, rfl, _, _, rfl, _, _, rfl, rfl, rfl, yes ⟨rfl, _, rfl, _, rfl, _, _, rfl, ?_⟩⟩
    have nD : D ≠ T := ne_of_none hl nT
    refine ⟨_, by rw [upd_ne nD]; exact hl, ?_, (gw.new nT _).put hD _, ?_⟩
    · rw [List.length_map, List.length_take, sizeLine_eq]
      omega
    · rw [upd_same, take_next (zipS_get (op := op) i1 i2), List.map_append]
      rfl
  · rintro H2 ⟨gw, hl⟩
    rw [List.take_of_length_le (by omega)] at hl
    refine ⟨_, _, rfl, .inl ⟨SqL.of hl, fun q nq => k _ q (gw.new nq _) (StairAt.of upd_same)⟩⟩
abbrev t_outer (K : PySem.W.Frag) (fc : Addr) (op : Option Int → Option Int → Option Int) : TE :=
  tCB (rTupOf K) (tCons (tLc (RZ.iZipA K (tV2 4 5)) (g2 K 6 7) tYes (t_inner K fc op) [6, 7]) tNil)
theorem rd_outer {K : PySem.W.Frag} {fc : Addr} {op : Option Int → Option Int → Option Int} {x0 x1 x3 x6 x7 x8 x9 : Option V} {v w : V} {H : Hp} {Q : VK} {r r2 : Row} {sz : Nat}
    (hs : RowAt H v r) (ht : RowAt H w r2) (o1 : OkR sz r) (o2 : OkR sz r2) (sz6 : sz ≤ 6) (k : ∀ H2 q, Grow H H2 → RowAt H2 (.ref q) (zipR op r r2) → Q (.ref q) H2) :
    t_outer K fc op [x0, x1, some (.ref fc), x3, some v, some w, x6, x7, x8, x9] H Q := by
  obtain ⟨a, xs, rfl, ha, la, ca⟩ := hs
  obtain ⟨b, ys, rfl, hb, lb, cb⟩ := ht
  have l1 := o1.1
  have l2 := o2.1
  have lz : (zipR op r r2).length = sz := by
    unfold zipR
    rw [List.length_zipWith]
    omega
  refine ⟨_, rfl, _, rfl, a, b, xs, ys, rfl, .inr ⟨SqT.of ha, SqT.of hb, fun D hD => ?_⟩⟩
  refine lc_it (walk_zipT (n := sz) (by omega) (by omega)) (fun i H2 => Grow H H2 ∧ ∃ zs : List V, H2 D = some (.lst zs) ∧ zs.length = i ∧
      ∀ (j : Nat) (z : V) (y : Stair), zs[j]? = some z → (zipR op r r2)[j]? = some y → StairAt H2 z y)
    ⟨Grow.refl.new hD _, [], upd_same, rfl, fun j z y e => by simp at e⟩ (fun i H2 _ p => ⟨SqT.of (p.1.keep _ _ ha), SqT.of (p.1.keep _ _ hb)⟩) ?_ ?_
  · rintro i x H2 H3 hi ⟨gw, zs, hl, ll, cl⟩ ⟨T, y0, y1, rfl, nT, rfl, e0, e1⟩
    have i1 : r[i]? = some (r[i]'(by omega)) := List.getElem?_eq_getElem (by omega)
    have i2 : r2[i]? = some (r2[i]'(by omega)) := List.getElem?_eq_getElem (by omega)
    have g1 := gw.new nT (.tup [y0, y1])
    have s1 := StairAt.keep g1.kt (ca i _ _ e0 i1)
    have s2 := StairAt.keep g1.kt (cb i _ _ e1 i2)
    refine ⟨T, _, rfl, SqT.of upd_same, rfl, _, _, rfl, _, _, rfl, rfl, rfl, yes ?_⟩
    refine rd_inner s1 s2 (o1.2 i _ i1).1 (o2.2 i _ i2).1 fun H4 q gw4 st => ?_
    have nD : D ≠ T := ne_of_none hl nT
    have hl4 : H4 D = some (.lst zs) := gw4.keep _ _ (by rw [upd_ne nD]; exact hl)
    have g5 : Grow H (upd H4 D (.lst (zs ++ [V.ref q]))) := (g1.trans gw4).put hD _
    have kt5 : KeepT H4 (upd H4 D (.lst (zs ++ [V.ref q]))) := fun b xs e => by
      rw [upd_ne (ne_of e hl4 (by intro z; cases z))]
      exact e
    have kt2 : KeepT H2 (upd H4 D (.lst (zs ++ [V.ref q]))) := fun b xs e => kt5 _ _ (gw4.kt _ _ ((Grow.refl.new nT (.tup [y0, y1])).kt _ _ e))
    refine ⟨zs, hl4, by rw [sizeLine_eq]; omega, g5, _, upd_same, by simp [ll], fun j z y e1 e2 => ?_⟩
    rcases get_append_one e1 with e | ⟨rfl, rfl⟩
    · exact StairAt.keep kt2 (cl j z y e e2)
    · rw [ll, zipR_get i1 i2] at e2
      cases e2
      exact StairAt.keep kt5 st
  · rintro H2 ⟨gw, zs, hl, ll, cl⟩
    refine ⟨_, _, rfl, .inl ⟨SqL.of hl, fun q nq => k _ q (gw.new nq _) ⟨q, zs, rfl, upd_same, by omega, fun j z y e1 e2 => ?_⟩⟩⟩
    exact StairAt.keep (Grow.refl.new nq _).kt (cl j z y e1 e2)
def spPut (fc : Addr) (op : Option Int → Option Int → Option Int) : Sp := fun vs H Q _ => ∃ (v w : V) (T U : Tab) (sz m : Nat), vs = [v, w, .ref fc] ∧ TabAt H v T ∧ TabAt H w U ∧
  OkT sz m T ∧ OkT sz m U ∧ sz ≤ 6 ∧ m ≤ 4 ∧ ∀ H2 q, Grow H H2 → TabAt H2 (.ref q) (zipT op T U) → Q (.ref q) H2
section
variable {P : Program} {w : World} {K : PySem.W.Frag} {mg : Str → Option Value} {base : Heap} {f : Addr} {fd : FuncData}
theorem scPutT : FnScope ["one", "other", "choose", "found", "row", "more", "left", "right", "a", "b"] ["one", "other", "choose"] (defScope sPutT) :=
  ⟨rfl, rfl, rfl, by decide +kernel, rfl, by decide +kernel, by decide +kernel⟩
theorem ok_put {fc : Addr} {fdc : FuncData} {ps : List Str} {op : Option Int → Option Int → Option Int} (F : FnP K "put_together" sPutT f fd) (T : Txt mg)
    (G : FnOk P w K mg base CX0 1 fc fdc ps (spCh op)) (kp : PySem.W.keepIn K (.ref fc) = true) (bc : Binds K fdc ps []) :
    FnOk P w K mg base CX0 2 f fd ["one", "other", "choose"] (spPut fc op) := by
  refine okN F scPutT (fun vs H Q E h => ?_) (fun cdv A outer s H vs Q E hr h => ?_)
  · obtain ⟨a, b, c, d, e, g, rfl, _⟩ := h
    rfl
  · obtain ⟨v, w', U1, U2, sz, m, rfl, h1, h2, o1, o2, sz6, m4, k⟩ := h
    refine ⟨tSeq (tAsg (tLst tNil) (gName 3)) (tSeq (tFor (RZ.iZipA K (tV2 0 1)) (g2 K 4 5) (tDrop (tBM K "list" rAppend (tVar 3) (tCons (t_outer K fc op) tNil))))
      (tRet (tCB (rTupOf K) (tCons (tVar 3) tNil)))), ?_, ?_⟩
    · exact pss_cons (ps_set (i := 3) scPutT.nd rfl (.inl rfl) (pe_lst pa_nil))
        (pss_cons (ps_for PassesOwn.never rfl (RZ.pi_zipA (by rfl) T.zip (pa_cons (pv 0) (pa_cons (pv 1) pa_nil)))
            (pg_tup rfl (pgs_cons (pg_name (i := 4) scPutT.nd rfl (.inl rfl)) (pgs_cons (pg_name (i := 5) scPutT.nd rfl (.inl rfl)) pgs_nil)))
          (pss_one (ps_expr (pe_bm PySem.F.plainAttrs_list PySem.F.slot_list_append PySem.F.type_list_append mt_append (pv 3) (pa_cons
            (pe_callTy call_tuple_of (by rfl) T.tuple (by decide +kernel) (pa_cons
              (pe_lc (own := [("left", 6), ("right", 7)]) rfl scPutT.nd (RZ.pi_zipA (by rfl) T.zip (pa_cons (pv 4) (pa_cons (pv 5) pa_nil)))
                (blkOk_by (own := [("left", 6), ("right", 7)]) (N := ["one", "other", "choose", "found", "row", "more", "left", "right", "a", "b"]) (sc := defScope sPutT) (by decide +kernel))
                (fun _ _ _ _ _ => pg_tup rfl (pgs_cons (pg_name (i := 6) scPutT.nd rfl (.inl rfl)) (pgs_cons (pg_name (i := 7) scPutT.nd rfl (.inl rfl)) pgs_nil)))
                (fun _ _ _ _ _ => pts_nil)
                (fun _ _ _ _ _ => pe_callTy call_tuple_of (by rfl) T.tuple (by decide +kernel) (pa_cons
                  (pe_lc (own := [("a", 8), ("b", 9)]) rfl scPutT.nd (RZ.pi_zipA (by rfl) T.zip (pa_cons (pv 6) (pa_cons (pv 7) pa_nil)))
                    (blkOk_by (own := [("a", 8), ("b", 9)]) (N := ["one", "other", "choose", "found", "row", "more", "left", "right", "a", "b"]) (sc := relS _ (defScope sPutT)) (by decide +kernel))
                    (fun _ _ _ _ _ => pg_tup rfl (pgs_cons (pg_name (i := 8) scPutT.nd rfl (.inl rfl)) (pgs_cons (pg_name (i := 9) scPutT.nd rfl (.inl rfl)) pgs_nil)))
                    (fun _ _ _ _ _ => pts_nil)
                    (fun _ _ _ _ _ => pe_callL G hr rfl (visC rfl) kp bc .nil pass0 (pa_cons (pv 8) (pa_cons (pv 9) pa_nil)))) pa_nil))) pa_nil)) pa_nil)))))
        (pss_one (ps_ret (pe_callTy call_tuple_of (by rfl) T.tuple (by decide +kernel) (pa_cons (pv 3) pa_nil)))))
    · obtain ⟨a, xs, rfl, ha, la, ca⟩ := h1
      obtain ⟨b, ys, rfl, hb, lb, cb⟩ := h2
      have l1 := o1.1
      have l2 := o2.1
      have lz : (zipT op U1 U2).length = m := by
        unfold zipT
        rw [List.length_zipWith]
        omega
      refine ⟨Nat.zero_le _, fun D hD => ⟨_, rfl, _, rfl, a, b, xs, ys, rfl, .inr ⟨SqT.of ?_, SqT.of ?_, ?_⟩⟩⟩
      · rw [upd_ne (ne_of_none ha hD)]
        exact ha
      · rw [upd_ne (ne_of_none hb hD)]
        exact hb
      refine for_it (walk_zipT (n := m) (by omega) (by omega)) (fun i σ H2 => (∃ x4 x5, σ = [some (V.ref a), some (V.ref b), some (V.ref fc), some (V.ref D), x4, x5, none, none, none, none]) ∧
          Grow H H2 ∧ ∃ zs : List V, H2 D = some (.lst zs) ∧ zs.length = i ∧ ∀ (j : Nat) (z : V) (y : Row), zs[j]? = some z → (zipT op U1 U2)[j]? = some y → RowAt H2 z y)
        ⟨⟨_, _, rfl⟩, Grow.refl.new hD _, [], upd_same, rfl, fun j z y e => by simp at e⟩ (fun i σ H2 _ p => ⟨SqT.of (p.2.1.keep _ _ ha), SqT.of (p.2.1.keep _ _ hb)⟩) ?_ ?_
      · rintro i x σ H2 H3 hi ⟨⟨x4, x5, rfl⟩, gw, zs, hl, ll, cl⟩ ⟨Tp, y0, y1, rfl, nT, rfl, e0, e1⟩
        have i1 : U1[i]? = some (U1[i]'(by omega)) := List.getElem?_eq_getElem (by omega)
        have i2 : U2[i]? = some (U2[i]'(by omega)) := List.getElem?_eq_getElem (by omega)
        have g1 := gw.new nT (.tup [y0, y1])
        have s1 := RowAt.keep g1.kt (ca i _ _ e0 i1)
        have s2 := RowAt.keep g1.kt (cb i _ _ e1 i2)
        have nD : D ≠ Tp := ne_of_none hl nT
        have hl2 : upd H2 Tp (.tup [y0, y1]) D = some (.lst zs) := by
          rw [upd_ne nD]
          exact hl
        refine ⟨Tp, _, rfl, SqT.of upd_same, rfl, _, _, rfl, _, _, rfl, rfl, _, rfl, .inl ⟨rfl, _, SqL.of hl2⟩, ?_⟩
        refine rd_outer s1 s2 (o1.2 _ (List.mem_of_getElem? i1)) (o2.2 _ (List.mem_of_getElem? i2)) sz6 fun H4 q gw4 st => ?_
        have hl4 : H4 D = some (.lst zs) := gw4.keep _ _ hl2
        have kt5 : KeepT H4 (upd H4 D (.lst (zs ++ [V.ref q]))) := fun b xs e => by
          rw [upd_ne (ne_of e hl4 (by intro z; cases z))]
          exact e
        have kt2 : KeepT H2 (upd H4 D (.lst (zs ++ [V.ref q]))) := fun b xs e => kt5 _ _ (gw4.kt _ _ ((Grow.refl.new nT (.tup [y0, y1])).kt _ _ e))
        refine ⟨_, _, _, rfl, rfl, hl4, by rw [sizeLine_eq]; omega, ⟨_, _, rfl⟩, (g1.trans gw4).put hD _, _, upd_same, by simp [ll], fun j z y e1 e2 => ?_⟩
        rcases get_append_one e1 with e | ⟨rfl, rfl⟩
        · exact RowAt.keep kt2 (cl j z y e e2)
        · rw [ll, zipT_get i1 i2] at e2
          cases e2
          exact RowAt.keep kt5 st
      · rintro σ H2 ⟨⟨x4, x5, rfl⟩, gw, zs, hl, ll, cl⟩
        refine ⟨_, rfl, _, _, rfl, .inl ⟨SqL.of hl, fun q nq => k _ q (gw.new nq _) ⟨q, zs, rfl, upd_same, by omega, fun j z y e1 e2 => ?_⟩⟩⟩
        exact RowAt.keep (Grow.refl.new nq _).kt (cl j z y e1 e2)
end
end K15

/-! the tables as data: equality, repr -/
namespace K15
open L2 PySem PyProof.Rows PySem.Spec
def dCell : Option Int → PyData
  | none => .none
  | some n => .int n
def dStair (s : Stair) : PyData := .tuple (s.map dCell)
def dRow (r : Row) : PyData := .tuple (r.map dStair)
def dTab (T : Tab) : PyData := .tuple (T.map dRow)
def dTabs (l : List Tab) : PyData := .list (l.map dTab)
def dBools (l : List Bool) : PyData := .list (l.map .bool)
def dMat (l : List (List Bool)) : PyData := .list (l.map dBools)

/-! ### good data: it can be compared and shown -/
structure Gd (d : PyData) (dep blk : Nat) : Prop where
  can : d.canLay0 = true
  sh : d.showable = true
  nd : d.hasDict = false
  dep : d.depth ≤ dep
  lv : d.leavesShort 20 = true
  blk : d.bulk ≤ blk
structure GdAll (ds : List PyData) (dep blk : Nat) : Prop where
  can : PyData.canLayAll0 ds = true
  sh : PyData.showableAll ds = true
  nd : PyData.hasDictAll ds = false
  dep : PyData.depthAll ds ≤ dep
  lv : PyData.leavesShortAll 20 ds = true
  blk : PyData.bulkAll ds ≤ ds.length * (blk + 1)
theorem gdAll {dep blk : Nat} : ∀ {ds : List PyData}, (∀ d ∈ ds, Gd d dep blk) → GdAll ds dep blk
  | [], _ => ⟨rfl, rfl, rfl, Nat.zero_le _, rfl, Nat.zero_le _⟩
  | d :: ds, h => by
    have a := h d (List.mem_cons_self ..)
    have b := gdAll (ds := ds) fun x hx => h x (List.mem_cons_of_mem _ hx)
    refine ⟨?_, ?_, ?_, ?_, ?_, ?_⟩
    · simp only [PyData.canLayAll0, a.can, b.can, Bool.and_self]
    · simp only [PyData.showableAll, a.sh, b.sh, Bool.and_self]
    · simp only [PyData.hasDictAll, a.nd, b.nd, Bool.or_self]
    · simp only [PyData.depthAll]
      exact Nat.max_le.mpr ⟨a.dep, b.dep⟩
    · simp only [PyData.leavesShortAll, a.lv, b.lv, Bool.and_self]
    · have h1 := a.blk
      have h2 := b.blk
      simp only [PyData.bulkAll, List.length_cons, Nat.succ_mul]
      omega
theorem gd_tuple {dep blk n : Nat} {ds : List PyData} (h : ∀ d ∈ ds, Gd d dep blk) (hn : ds.length ≤ n) : Gd (.tuple ds) (dep + 1) (n * (blk + 1)) := by
  have a := gdAll h
  refine ⟨by simpa only [PyData.canLay0] using a.can, by simpa only [PyData.showable] using a.sh, by simpa only [PyData.hasDict] using a.nd, ?_, by simpa only [PyData.leavesShort] using a.lv, ?_⟩
  · have := a.dep
    simp only [PyData.depth]
    omega
  · simp only [PyData.bulk]
    exact Nat.le_trans a.blk (Nat.mul_le_mul_right _ hn)
theorem gd_list {dep blk n : Nat} {ds : List PyData} (h : ∀ d ∈ ds, Gd d dep blk) (hn : ds.length ≤ n) : Gd (.list ds) (dep + 1) (n * (blk + 1)) := by
  have a := gdAll h
  refine ⟨by simpa only [PyData.canLay0] using a.can, by simpa only [PyData.showable] using a.sh, by simpa only [PyData.hasDict] using a.nd, ?_, by simpa only [PyData.leavesShort] using a.lv, ?_⟩
  · have := a.dep
    simp only [PyData.depth]
    omega
  · simp only [PyData.bulk]
    exact Nat.le_trans a.blk (Nat.mul_le_mul_right _ hn)
theorem gd_bool (b : Bool) : Gd (.bool b) 0 0 := ⟨rfl, rfl, rfl, Nat.le_refl _, rfl, Nat.le_refl _⟩
theorem gd_cell {sz p : Nat} {c : Option Int} (h : OkC sz p c) : Gd (dCell c) 0 0 := by
  cases c with
  | none => exact ⟨rfl, rfl, rfl, Nat.le_refl _, rfl, Nat.le_refl _⟩
  | some n =>
    obtain ⟨_, h1, h2⟩ := h n rfl
    refine ⟨rfl, ?_, rfl, Nat.le_refl _, ?_, Nat.le_refl _⟩
    · show decide (n.natAbs.log2 < 1920) = true
      refine decide_eq_true ?_
      have hb : n.natAbs < 2 ^ 64 := by omega
      rcases Nat.eq_zero_or_pos n.natAbs with h0 | hp
      · rw [h0]
        decide
      · have := (Nat.log2_lt (Nat.ne_of_gt hp)).mpr hb
        omega
    · show decide ((PyData.shown (.int n)).length ≤ 20) = true
      refine decide_eq_true ?_
      have q : n.natAbs < 10 ^ 16 := by
        have e : (10 : Nat) ^ 16 = 10000000000000000 := by decide
        rw [e]
        omega
      have e := int_text_length_le10 (k := 16) (by decide) q
      show (Str.ofString (toString n)).length ≤ 20
      rw [PySem.ofString_length]
      omega
theorem gd_stair {sz p : Nat} {s : Stair} (h : OkS sz p s) : Gd (dStair s) 1 27 := by
  have := gd_tuple (ds := s.map dCell) (n := 27) (dep := 0) (blk := 0) (fun d hd => by
    obtain ⟨c, hc, rfl⟩ := List.mem_map.mp hd
    exact gd_cell (h.2 c hc)) (by rw [List.length_map, h.1]; exact Nat.le_refl _)
  exact this
theorem gd_row {sz : Nat} {r : Row} (h : OkR sz r) (h6 : sz ≤ 6) : Gd (dRow r) 2 168 := by
  have := gd_tuple (ds := r.map dStair) (n := 6) (dep := 1) (blk := 27) (fun d hd => by
    obtain ⟨c, hc, rfl⟩ := List.mem_map.mp hd
    obtain ⟨i, hi⟩ := List.mem_iff_getElem?.mp hc
    exact gd_stair (h.2 i c hi)) (by rw [List.length_map, h.1]; exact h6)
  exact this
theorem gd_tab {sz m : Nat} {T : Tab} (h : OkT sz m T) (h6 : sz ≤ 6) (h4 : m ≤ 4) : Gd (dTab T) 3 676 := by
  have := gd_tuple (ds := T.map dRow) (n := 4) (dep := 2) (blk := 168) (fun d hd => by
    obtain ⟨c, hc, rfl⟩ := List.mem_map.mp hd
    exact gd_row (h.2 c hc) h6) (by rw [List.length_map, h.1]; exact h4)
  exact this
theorem gd_tabs {sz m : Nat} {l : List Tab} (h : ∀ T ∈ l, OkT sz m T) (h6 : sz ≤ 6) (h4 : m ≤ 4) (hl : l.length ≤ 6) : Gd (dTabs l) 4 4062 := by
  have := gd_list (ds := l.map dTab) (n := 6) (dep := 3) (blk := 676) (fun d hd => by
    obtain ⟨c, hc, rfl⟩ := List.mem_map.mp hd
    exact gd_tab (h c hc) h6 h4) (by rw [List.length_map]; exact hl)
  exact this
theorem gd_bools {l : List Bool} (hl : l.length ≤ 6) : Gd (dBools l) 1 6 := by
  have := gd_list (ds := l.map .bool) (n := 6) (dep := 0) (blk := 0) (fun d hd => by
    obtain ⟨c, hc, rfl⟩ := List.mem_map.mp hd
    exact gd_bool c) (by rw [List.length_map]; exact hl)
  exact this
theorem gd_mat {l : List (List Bool)} (h : ∀ r ∈ l, r.length ≤ 6) (hl : l.length ≤ 6) : Gd (dMat l) 2 42 := by
  have := gd_list (ds := l.map dBools) (n := 6) (dep := 1) (blk := 6) (fun d hd => by
    obtain ⟨c, hc, rfl⟩ := List.mem_map.mp hd
    exact gd_bools (h c hc)) (by rw [List.length_map]; exact hl)
  exact this
theorem Gd.shaped {d : PyData} {dep blk : Nat} (h : Gd d dep blk) (hd : dep ≤ 60) : SeqAt.shaped d = true := by
  unfold SeqAt.shaped
  rw [h.can, Bool.true_and]
  have := h.dep
  exact decide_eq_true (show d.depth ≤ 64 by omega)
theorem Gd.fits {d : PyData} {dep blk : Nat} (h : Gd d dep blk) (hb : blk ≤ 10000) : d.shown.length ≤ sizeLine := by
  have h1 := PyData.shown_le_bulk 20 (by decide) d h.lv
  have h2 := h.blk
  rw [sizeLine_eq]
  omega

/-! ### equality -/
theorem eqvAll_map {α : Type} [DecidableEq α] {f : α → PyData} (hf : ∀ x y, PyData.eqv (f x) (f y) = decide (x = y)) : ∀ l l2 : List α, PyData.eqvAll (l.map f) (l2.map f) = decide (l = l2)
  | [], [] => by simp [PyData.eqvAll, decide_true]
  | [], y :: l2 => by simp [PyData.eqvAll]
  | x :: l, [] => by simp [PyData.eqvAll]
  | x :: l, y :: l2 => by
    simp only [List.map_cons, PyData.eqvAll, hf, eqvAll_map hf l l2]
    by_cases h1 : x = y <;> by_cases h2 : l = l2 <;> simp [h1, h2]
theorem eqv_cell (x y : Option Int) : PyData.eqv (dCell x) (dCell y) = decide (x = y) := by
  cases x with
  | none => cases y <;> simp [dCell, PyData.eqv]
  | some a =>
    cases y with
    | none => simp [dCell, PyData.eqv]
    | some b =>
      simp only [dCell, PyData.eqv, Option.some.injEq]
      exact Bool.beq_eq_decide_eq a b
theorem eqv_stair (x y : Stair) : PyData.eqv (dStair x) (dStair y) = decide (x = y) := by
  simp only [dStair, PyData.eqv]
  exact eqvAll_map eqv_cell x y
theorem eqv_row (x y : Row) : PyData.eqv (dRow x) (dRow y) = decide (x = y) := by
  simp only [dRow, PyData.eqv]
  exact eqvAll_map eqv_stair x y
theorem eqv_tab (x y : Tab) : PyData.eqv (dTab x) (dTab y) = decide (x = y) := by
  simp only [dTab, PyData.eqv]
  exact eqvAll_map eqv_row x y

/-! ### in the heap -/
section
variable {K : PySem.W.Frag} {H : Hp}
theorem dpAll_of {α : Type} {f : α → PyData} {R : V → α → Prop} (hR : ∀ x y, R x y → Dp K H x (f y)) : ∀ {xs : List V} {l : List α}, xs.length = l.length →
    (∀ (i : Nat) (x : V) (y : α), xs[i]? = some x → l[i]? = some y → R x y) → DpAll K H xs (l.map f)
  | [], [], _, _ => .nil
  | [], y :: l, no, _ => by simp at no
  | x :: xs, [], no, _ => by simp at no
  | x :: xs, y :: l, h, c => .cons (hR x y (c 0 x y rfl rfl)) (dpAll_of hR (by simpa using h) fun i a b e1 e2 => c (i + 1) a b (by simpa using e1) (by simpa using e2))
theorem TupAt.dp {α : Type} {R : Hp → V → α → Prop} {f : α → PyData} {v : V} {l : List α} (hR : ∀ x y, R H x y → Dp K H x (f y)) (t : TupAt R H v l) : Dp K H v (.tuple (l.map f)) := by
  obtain ⟨a, xs, rfl, h, n, c⟩ := t
  exact .tup (SqT.of h) (dpAll_of hR n c)
theorem cell_dp (c : Option Int) : Dp K H (cellV c) (dCell c) := by
  cases c with
  | none => exact .non
  | some n => exact .int n
theorem StairAt.dp {v : V} {s : Stair} (t : StairAt H v s) : Dp K H v (dStair s) := TupAt.dp (fun x y h => by rw [show x = cellV y from h]; exact cell_dp y) t
theorem RowAt.dp {v : V} {r : Row} (t : RowAt H v r) : Dp K H v (dRow r) := TupAt.dp (fun _ _ h => StairAt.dp h) t
theorem TabAt.dp {v : V} {T : Tab} (t : TabAt H v T) : Dp K H v (dTab T) := TupAt.dp (fun _ _ h => RowAt.dp h) t
end
end K15

namespace K15
open L2 PySem PyProof.Rows PySem.Spec
/-- whether the second has all that the first has -/
def inT (T U : Tab) : Bool := decide (zipT le T U = U)
def spBoth (op : Option Int → Option Int → Option Int) : Sp := fun vs H Q _ => ∃ (u v w : V) (T U : Tab) (sz m : Nat), vs = [u, v, w] ∧ TabAt H v T ∧ TabAt H w U ∧
  OkT sz m T ∧ OkT sz m U ∧ sz ≤ 6 ∧ m ≤ 4 ∧ ∀ H2 q, Grow H H2 → TabAt H2 (.ref q) (zipT op T U) → Q (.ref q) H2
def spWithin : Sp := fun vs H Q _ => ∃ (v w : V) (T U : Tab) (sz m : Nat), vs = [v, w] ∧ TabAt H v T ∧ TabAt H w U ∧
  OkT sz m T ∧ OkT sz m U ∧ sz ≤ 6 ∧ m ≤ 4 ∧ ∀ H2, Grow H H2 → Q (.bl (inT T U)) H2
theorem okS_zip {op : Option Int → Option Int → Option Int} (hop : ∀ a b, op a b = a ∨ op a b = b ∨ op a b = none) {sz p : Nat} {s t : Stair} (h1 : OkS sz p s) (h2 : OkS sz p t) : OkS sz p (zipS op s t) := by
  refine ⟨?_, fun c hc => ?_⟩
  · unfold zipS
    rw [List.length_zipWith, h1.1, h2.1]
    rfl
  · obtain ⟨i, hi⟩ := List.mem_iff_getElem?.mp hc
    unfold zipS at hi
    rw [List.getElem?_zipWith] at hi
    cases e1 : s[i]? with
    | none => rw [e1] at hi; simp at hi
    | some x =>
      cases e2 : t[i]? with
      | none => rw [e1, e2] at hi; simp at hi
      | some y =>
        rw [e1, e2] at hi
        simp only [Option.some.injEq] at hi
        rcases hop x y with q | q | q
        · rw [← hi, q]
          exact h1.2 x (List.mem_of_getElem? e1)
        · rw [← hi, q]
          exact h2.2 y (List.mem_of_getElem? e2)
        · rw [← hi, q]
          intro n hn
          cases hn
theorem okR_zip {op : Option Int → Option Int → Option Int} (hop : ∀ a b, op a b = a ∨ op a b = b ∨ op a b = none) {sz : Nat} {s t : Row} (h1 : OkR sz s) (h2 : OkR sz t) : OkR sz (zipR op s t) := by
  refine ⟨?_, fun p c hc => ?_⟩
  · unfold zipR
    rw [List.length_zipWith, h1.1, h2.1]
    exact Nat.min_self _
  · unfold zipR at hc
    rw [List.getElem?_zipWith] at hc
    cases e1 : s[p]? with
    | none => rw [e1] at hc; simp at hc
    | some x =>
      cases e2 : t[p]? with
      | none => rw [e1, e2] at hc; simp at hc
      | some y =>
        rw [e1, e2] at hc
        simp only [Option.some.injEq] at hc
        rw [← hc]
        exact okS_zip hop (h1.2 p x e1) (h2.2 p y e2)
theorem okT_zip {op : Option Int → Option Int → Option Int} (hop : ∀ a b, op a b = a ∨ op a b = b ∨ op a b = none) {sz m : Nat} {s t : Tab} (h1 : OkT sz m s) (h2 : OkT sz m t) : OkT sz m (zipT op s t) := by
  refine ⟨?_, fun c hc => ?_⟩
  · unfold zipT
    rw [List.length_zipWith, h1.1, h2.1]
    exact Nat.min_self _
  · obtain ⟨i, hi⟩ := List.mem_iff_getElem?.mp hc
    unfold zipT at hi
    rw [List.getElem?_zipWith] at hi
    cases e1 : s[i]? with
    | none => rw [e1] at hi; simp at hi
    | some x =>
      cases e2 : t[i]? with
      | none => rw [e1, e2] at hi; simp at hi
      | some y =>
        rw [e1, e2] at hi
        simp only [Option.some.injEq] at hi
        rw [← hi]
        exact okR_zip hop (h1.2 x (List.mem_of_getElem? e1)) (h2.2 y (List.mem_of_getElem? e2))
theorem gr_one (a b : Option Int) : gr a b = a ∨ gr a b = b ∨ gr a b = none := by
  cases a with
  | none => exact .inl rfl
  | some x =>
    cases b with
    | none => exact .inr (.inl rfl)
    | some y =>
      by_cases h : y > x
      · exact .inr (.inl (by simp [gr, h]))
      · exact .inl (by simp [gr, h])
theorem le_one (a b : Option Int) : le a b = a ∨ le a b = b ∨ le a b = none := by
  cases a with
  | none => exact .inr (.inl rfl)
  | some x =>
    cases b with
    | none => exact .inl rfl
    | some y =>
      by_cases h : y < x
      · exact .inr (.inl (by simp [le, h]))
      · exact .inl (by simp [le, h])
section
variable {P : Program} {w : World} {K : PySem.W.Frag} {mg : Str → Option Value} {base : Heap} {f : Addr} {fd : FuncData}
theorem scBoth : FnScope ["world", "one", "other"] ["world", "one", "other"] (defScope sBoth) := ⟨rfl, rfl, rfl, by decide +kernel, rfl, by decide +kernel, by decide +kernel⟩
theorem scEither : FnScope ["world", "one", "other"] ["world", "one", "other"] (defScope sEither) := ⟨rfl, rfl, rfl, by decide +kernel, rfl, by decide +kernel, by decide +kernel⟩
theorem scWithin : FnScope ["one", "other"] ["one", "other"] (defScope sWithin) := ⟨rfl, rfl, rfl, by decide +kernel, rfl, by decide +kernel, by decide +kernel⟩
theorem ok_both {fP fG : Addr} {fdP fdG : FuncData} (F : FnP K "both" sBoth f fd) (T : Txt mg) (DP : Fn K mg "put_together" sPutT ["one", "other", "choose"] fP fdP)
    (DG : Fn K mg "greater" sGreater ["one", "other"] fG fdG) : FnOk P w K mg base CX0 3 f fd ["world", "one", "other"] (spBoth gr) := by
  have GP : FnOk P w K mg base CX0 2 fP fdP ["one", "other", "choose"] (spPut fG gr) := ok_put DP.F T (ok_greater DG.F T) DG.F.kp DG.b
  refine okN F scBoth (fun vs H Q E h => ?_) (fun cdv A outer s H vs Q E hr h => ?_)
  · obtain ⟨a, b, c, d, e, g, i, rfl, _⟩ := h
    rfl
  · obtain ⟨u, v, w', U1, U2, sz, m, rfl, h1, h2, o1, o2, sz6, m4, k⟩ := h
    refine ⟨_, pss_one (ps_ret (pcall DP GP hr rfl (pa_cons (pv 1) (pa_cons (pv 2) (pa_cons (pe_glob (v := .ref fG) rfl DG.g rfl) pa_nil))))), ?_⟩
    exact ⟨_, rfl, _, rfl, v, w', U1, U2, sz, m, rfl, h1, h2, o1, o2, sz6, m4, k⟩
theorem ok_either {fP fL : Addr} {fdP fdL : FuncData} (F : FnP K "either" sEither f fd) (T : Txt mg) (DP : Fn K mg "put_together" sPutT ["one", "other", "choose"] fP fdP)
    (DL : Fn K mg "lesser" sLesser ["one", "other"] fL fdL) : FnOk P w K mg base CX0 3 f fd ["world", "one", "other"] (spBoth le) := by
  have GP : FnOk P w K mg base CX0 2 fP fdP ["one", "other", "choose"] (spPut fL le) := ok_put DP.F T (ok_lesser DL.F T) DL.F.kp DL.b
  refine okN F scEither (fun vs H Q E h => ?_) (fun cdv A outer s H vs Q E hr h => ?_)
  · obtain ⟨a, b, c, d, e, g, i, rfl, _⟩ := h
    rfl
  · obtain ⟨u, v, w', U1, U2, sz, m, rfl, h1, h2, o1, o2, sz6, m4, k⟩ := h
    refine ⟨_, pss_one (ps_ret (pcall DP GP hr rfl (pa_cons (pv 1) (pa_cons (pv 2) (pa_cons (pe_glob (v := .ref fL) rfl DL.g rfl) pa_nil))))), ?_⟩
    exact ⟨_, rfl, _, rfl, v, w', U1, U2, sz, m, rfl, h1, h2, o1, o2, sz6, m4, k⟩
theorem ok_within {fP fL : Addr} {fdP fdL : FuncData} (F : FnP K "within" sWithin f fd) (T : Txt mg) (DP : Fn K mg "put_together" sPutT ["one", "other", "choose"] fP fdP)
    (DL : Fn K mg "lesser" sLesser ["one", "other"] fL fdL) : FnOk P w K mg base CX0 3 f fd ["one", "other"] spWithin := by
  have GP : FnOk P w K mg base CX0 2 fP fdP ["one", "other", "choose"] (spPut fL le) := ok_put DP.F T (ok_lesser DL.F T) DL.F.kp DL.b
  refine okN F scWithin (fun vs H Q E h => ?_) (fun cdv A outer s H vs Q E hr h => ?_)
  · obtain ⟨a, b, c, d, e, g, rfl, _⟩ := h
    rfl
  · obtain ⟨v, w', U1, U2, sz, m, rfl, h1, h2, o1, o2, sz6, m4, k⟩ := h
    refine ⟨_, pss_one (ps_ret (pe_cmpR (op_eqD hr.units) (pcall DP GP hr rfl (pa_cons (pv 0) (pa_cons (pv 1) (pa_cons (pe_glob (v := .ref fL) rfl DL.g rfl) pa_nil)))) (pv 1) (nomark _))), ?_⟩
    refine ⟨_, rfl, _, rfl, v, w', U1, U2, sz, m, rfl, h1, h2, o1, o2, sz6, m4, fun H2 q gw t => ⟨_, rfl, ?_⟩⟩
    have t2 := TabAt.keep gw.kt h2
    refine ⟨_, _, TabAt.dp t, TabAt.dp t2, (gd_tab (okT_zip le_one o1 o2) sz6 m4).shaped (by decide), (gd_tab o2 sz6 m4).shaped (by decide), ?_⟩
    rw [eqv_tab]
    exact k H2 gw
end
end K15

namespace K15
open L2 PySem PyProof.Rows PySem.Spec
def spOrigin : Sp := fun vs H Q _ => ∃ (P : Pl) (N : Int) (sz pl : Nat), vs = [.ref P.p, .int (sz : Int), .int (pl : Int), .bl true] ∧ Pool P N H ∧ N ≤ 900000000 ∧
  1 ≤ sz ∧ sz ≤ 6 ∧ pl < sz ∧ ∀ n H2, OkC sz pl (some n) → Stp P 3 H H2 → Q (.int n) H2
theorem okC_some {sz p : Nat} {n : Int} (h : n % (sz : Int) = (p : Int) ∧ -20 ≤ n ∧ n ≤ 3000000000000000) : OkC sz p (some n) := fun m e => by
  cases e
  exact h
def orgLeast (sz pl : Nat) : Int := -20 + ((pl : Int) + 20).fmod (sz : Int)
def orgFar (sz pl : Nat) : Int := orgLeast sz pl + (sz : Int) * (((10 : Int) ^ (15 : Int).toNat).fdiv (sz : Int))
def orgPeak (sz pl : Nat) : Int := 3 * (10 : Int) ^ (15 : Int).toNat - (3 * (10 : Int) ^ (15 : Int).toNat - (pl : Int)).fmod (sz : Int)
theorem org_ok {sz pl : Nat} (h1 : 1 ≤ sz) (h6 : sz ≤ 6) (hp : pl < sz) : (∀ d : Int, 0 ≤ d → d < 60 → OkC sz pl (some (orgLeast sz pl + (sz : Int) * d))) ∧ OkC sz pl (some (orgFar sz pl)) ∧ OkC sz pl (some (orgPeak sz pl)) := by
  have e15 : (10 : Int) ^ (15 : Int).toNat = 1000000000000000 := by decide
  have hz : (0 : Int) ≤ (sz : Int) := by omega
  have el : orgLeast sz pl = -20 + ((pl : Int) + 20) % (sz : Int) := by unfold orgLeast; rw [Int.fmod_eq_emod_of_nonneg _ hz]
  have ef : orgFar sz pl = -20 + ((pl : Int) + 20) % (sz : Int) + (sz : Int) * (1000000000000000 / (sz : Int)) := by
    unfold orgFar
    rw [el, e15, Int.fdiv_eq_ediv_of_nonneg _ hz]
  have ep : orgPeak sz pl = 3000000000000000 - (3000000000000000 - (pl : Int)) % (sz : Int) := by
    unfold orgPeak
    rw [e15, Int.fmod_eq_emod_of_nonneg _ hz]
    rfl
  rw [el, ef, ep]
  obtain rfl | rfl | rfl | rfl | rfl | rfl : sz = 1 ∨ sz = 2 ∨ sz = 3 ∨ sz = 4 ∨ sz = 5 ∨ sz = 6 := by omega
  all_goals exact ⟨fun d d0 d1 => okC_some (by omega), okC_some (by omega), okC_some (by omega)⟩
section
variable {P : Program} {w : World} {K : PySem.W.Frag} {mg : Str → Option Value} {base : Heap} {f : Addr} {fd : FuncData}
theorem scOrigin : FnScope ["_law_pool_here", "_law_size", "_law_place", "_law_peaks", "_law_least", "_law_far", "_law_peak"] ["_law_pool_here", "_law_size", "_law_place", "_law_peaks"] (defScope sOrigin) :=
  ⟨rfl, rfl, rfl, by decide +kernel, rfl, by decide +kernel, by decide +kernel⟩
theorem ok_origin {fD fA : Addr} {fdD fdA : FuncData} (F : FnP K "_law_origin" sOrigin f fd) (T : Txt mg) (D : Fn K mg "_law_draw" sDraw ["_law_pool_here", "_law_many"] fD fdD)
    (DA : Fn K mg "_law_any" sAny ["_law_pool_here", "_law_some"] fA fdA) : FnOk P w K mg base CX0 3 f fd ["_law_pool_here", "_law_size", "_law_place", "_law_peaks"] spOrigin := by
  have GD : FnOk P w K mg base CX0 1 fD fdD ["_law_pool_here", "_law_many"] spDraw := ok_draw D.F T
  have GA : FnOk P w K mg base CX0 2 fA fdA ["_law_pool_here", "_law_some"] spAny := ok_any DA.F T D
  refine okN F scOrigin (fun vs H Q E h => ?_) (fun cdv A outer s H vs Q E hr h => ?_)
  · obtain ⟨a, b, c, d, rfl, _⟩ := h
    rfl
  · obtain ⟨P, N, sz, pl, rfl, hp, hN, s1, s6, hpl, k⟩ := h
    have hr1 : Room 1 _ := hr.mono (by decide)
    refine ⟨_, pss_cons (ps_set (i := 4) scOrigin.nd rfl (.inl rfl) (pe_op op_add (pe_un un_neg pe_int) (pe_op op_modN (pe_op op_add (pv 2) pe_int) (pv 1))))
      (pss_cons (ps_set (i := 5) scOrigin.nd rfl (.inl rfl) (pe_op op_add (pv 4) (pe_op op_mul (pv 1) (pe_op op_fdivN (pe_op op_pow pe_int pe_int) (pv 1)))))
      (pss_cons (ps_set (i := 6) scOrigin.nd rfl (.inl rfl) (pe_ix ix_list (pe_lst (pa_cons (pv 5) (pa_cons (pe_op op_sub (pe_op op_mul pe_int (pe_op op_pow pe_int pe_int))
          (pe_op op_modN (pe_op op_sub (pe_op op_mul pe_int (pe_op op_pow pe_int pe_int)) (pv 2)) (pv 1))) pa_nil))) (pe_callTy call_int1 (by rfl) T.int (by decide +kernel) (pa_cons (pv 3) pa_nil)) (fun _ _ => rfl)))
      (pss_one (ps_ret (pcall DA GA hr rfl (pa_cons (pv 0) (pa_cons (pe_lst (pa_cons (pv 4) (pa_cons (pe_op op_add (pv 4) (pe_op op_mul (pv 1) (pcall D GD hr1 rfl (pa_cons (pv 0) (pa_cons pe_int pa_nil)))))
          (pa_cons (pe_op op_add (pv 4) (pe_op op_mul (pv 1) (pcall D GD hr1 rfl (pa_cons (pv 0) (pa_cons pe_int pa_nil))))) (pa_cons (pv 5) (pa_cons (pv 6) pa_nil)))))) pa_nil))))))), ?_⟩
    have zne : (sz : Int) ≠ 0 := by omega
    have hpow : CPow 10 15 := ⟨by decide, by decide, by decide⟩
    have hsm : CMul (sz : Int) 0 := .inl (by omega)
    obtain ⟨k1, k2, k3⟩ := org_ok s1 s6 hpl
    refine ⟨_, rfl, _, rfl, _, _, rfl, rfl, _, rfl, _, _, rfl, rfl, zne, _, _, rfl, rfl, ?_⟩
    refine ⟨_, rfl, _, rfl, _, _, rfl, rfl, hpow, _, rfl, _, _, rfl, rfl, ⟨zne, by omega⟩, _, _, rfl, rfl, .inl (by omega), _, _, rfl, rfl, ?_⟩
    refine ⟨_, rfl, _, _, rfl, rfl, hpow, _, _, rfl, rfl, .inl (by decide), _, _, rfl, rfl, hpow, _, _, rfl, rfl, .inl (by decide), _, rfl, _, _, rfl, rfl, _, rfl, _, _, rfl, rfl, zne, _, _, rfl, rfl,
      by show 2 ≤ sizeLine; decide, fun l hl => ⟨_, rfl, .inr ⟨_, rfl, l, _, _, _, rfl, rfl, SqL.of upd_same, at1, ?_⟩⟩⟩
    have st0 : Stp P 0 H (upd H l (.lst [.int (orgFar sz pl), .int (orgPeak sz pl)])) := Stp.refl.new hl _
    have hp0 := (st0.pool N hp).mono (M := N + 0) (by omega)
    refine ⟨_, rfl, _, rfl, _, rfl, _, rfl, _, rfl, P, N + 0, 15, rfl, hp0, by omega, by decide, by decide, fun d1 H1 a0 a1 st1 => ?_⟩
    have hp1 := st1.pool _ hp0
    refine ⟨_, _, rfl, rfl, .inl (by omega), _, _, rfl, rfl, _, rfl, _, rfl, _, rfl, P, N + 0 + 1, 60, rfl, hp1, by omega, by decide, by decide, fun d2 H2 b0 b1 st2 => ?_⟩
    have hp2 := st2.pool _ hp1
    refine ⟨_, _, rfl, rfl, .inl (by omega), _, _, rfl, rfl, _, rfl, _, rfl, by show 5 ≤ sizeLine; decide, fun q hq => ?_⟩
    obtain ⟨n1, n2, n3⟩ := hp2.ne hq
    have st3 := ((st0.trans st1).trans st2).new hq (.lst [.int (orgLeast sz pl), .int (orgLeast sz pl + (sz : Int) * d1), .int (orgLeast sz pl + (sz : Int) * d2), .int (orgFar sz pl), .int (orgPeak sz pl)])
    refine ⟨P, N + (0 + 1 + 1), q, _, rfl, st3.pool N hp, by omega, .inl ⟨upd_same, n1, n2⟩, by show 1 ≤ 5; decide, by show 5 ≤ 1000; decide, fun x H4 hx st4 => ?_⟩
    have stE := (st3.trans st4).mono (j := 3) (by omega)
    have kl : OkC sz pl (some (orgLeast sz pl)) := by
      have := k1 0 (by decide) (by decide)
      rwa [Int.mul_zero, Int.add_zero] at this
    simp only [List.not_mem_nil, List.mem_cons, or_false] at hx
    rcases hx with rfl | rfl | rfl | rfl | rfl
    · exact k _ _ kl stE
    · exact k _ _ (k1 d1 a0 (by omega)) stE
    · exact k _ _ (k1 d2 b0 (by omega)) stE
    · exact k _ _ k2 stE
    · exact k _ _ k3 stE
end
end K15

namespace K15
open L2 PySem PyProof.Rows PySem.Spec
def spStair : Sp := fun vs H Q _ => ∃ (P : Pl) (N : Int) (sz pl : Nat), vs = [.ref P.p, .int (sz : Int), .int (pl : Int), .bl true] ∧ Pool P N H ∧ N ≤ 800000000 ∧
  1 ≤ sz ∧ sz ≤ 6 ∧ pl < sz ∧ ∀ q H2 s, OkS sz pl s → Stp P 20 H H2 → StairAt H2 (.ref q) s → Q (.ref q) H2
theorem okS_set {sz p i : Nat} {n : Int} {s : Stair} (h : OkS sz p s) (hn : OkC sz p (some n)) : OkS sz p (s.set i (some n)) := by
  refine ⟨by rw [List.length_set]; exact h.1, fun c hc => ?_⟩
  rcases List.mem_or_eq_of_mem_set hc with q | q
  · exact h.2 c q
  · rw [q]
    exact hn
theorem okS_none (sz p : Nat) : OkS sz p (List.replicate 27 none) := ⟨List.length_replicate, fun c hc => by
  rw [List.eq_of_mem_replicate hc]
  intro n e
  cases e⟩
section
variable {P : Program} {w : World} {K : PySem.W.Frag} {mg : Str → Option Value} {base : Heap} {f : Addr} {fd : FuncData}
theorem scStair : FnScope ["_law_pool_here", "_law_size", "_law_place", "_law_peaks", "_law_found", "_law_turn", "_law_number", "_law_begin", "_law_age"] ["_law_pool_here", "_law_size", "_law_place", "_law_peaks"] (defScope sStair) :=
  ⟨rfl, rfl, rfl, by decide +kernel, rfl, by decide +kernel, by decide +kernel⟩
theorem ok_stair {fD fA fO : Addr} {fdD fdA fdO : FuncData} (F : FnP K "_law_stair" sStair f fd) (T : Txt mg) (D : Fn K mg "_law_draw" sDraw ["_law_pool_here", "_law_many"] fD fdD)
    (DA : Fn K mg "_law_any" sAny ["_law_pool_here", "_law_some"] fA fdA) (DO : Fn K mg "_law_origin" sOrigin ["_law_pool_here", "_law_size", "_law_place", "_law_peaks"] fO fdO) :
    FnOk P w K mg base CX0 4 f fd ["_law_pool_here", "_law_size", "_law_place", "_law_peaks"] spStair := by
  have GD : FnOk P w K mg base CX0 1 fD fdD ["_law_pool_here", "_law_many"] spDraw := ok_draw D.F T
  have GO : FnOk P w K mg base CX0 3 fO fdO ["_law_pool_here", "_law_size", "_law_place", "_law_peaks"] spOrigin := ok_origin DO.F T D DA
  refine okN F scStair (fun vs H Q E h => ?_) (fun cdv A outer s H vs Q E hr h => ?_)
  · obtain ⟨a, b, c, d, rfl, _⟩ := h
    rfl
  · obtain ⟨P, N, sz, pl, rfl, hp, hN, s1, s6, hpl, k⟩ := h
    have hr1 : Room 1 _ := hr.mono (by decide)
    refine ⟨_, pss_cons (ps_set (i := 4) scStair.nd rfl (.inl rfl) (pe_op op_rep (pe_lst (pa_cons pe_non pa_nil)) pe_int))
      (pss_cons (ps_for PassesOwn.never rfl (pi_range1 (by rfl) T.range (pa_cons (pcall D GD hr1 rfl (pa_cons (pv 0) (pa_cons pe_int pa_nil))) pa_nil)) (pg_name (i := 5) scStair.nd rfl (.inl rfl))
        (pss_cons (ps_par (i := 6) (j := 7) rfl scStair.nd rfl rfl (by decide) rfl rfl (pa_cons (pcall DO GO hr rfl (pa_cons (pv 0) (pa_cons (pv 1) (pa_cons (pv 2) (pa_cons (pv 3) pa_nil)))))
            (pa_cons (pcall D GD hr1 rfl (pa_cons (pv 0) (pa_cons pe_int pa_nil))) pa_nil)) (by rfl))
        (pss_one (ps_for PassesOwn.never rfl (pi_range2 (by rfl) T.range (pa_cons (pv 7) (pa_cons pe_int pa_nil))) (pg_name (i := 8) scStair.nd rfl (.inl rfl))
          (pss_one (ps_if (PW.pt (pw_or (pt_cmp (pc_isN (pe_ix ix_list (pv 4) (pv 8) (fun _ _ => rfl)))) (pw_or1 (pt_cmpR op_gt (pe_ix ix_list (pv 4) (pv 8) (fun _ _ => rfl)) (pv 6) (nomark _)))))
            (pss_one (ps_asg (pv 6) (pg_sub (pv 4) (pv 8) set_list))) pss_nil))))))
      (pss_one (ps_ret (pe_callTy call_tuple_of (by rfl) T.tuple (by decide +kernel) (pa_cons (pv 4) pa_nil))))), ?_⟩
    refine ⟨by show 1 ≤ sizeLine; decide, fun l hl => ⟨l, 27, _, rfl, rfl, upd_same, by decide, by decide, by decide, fun D nD => ?_⟩⟩
    have hD : H D = none := Grow.free (Grow.refl.new hl (.lst [.non])) nD
    have st0 : Stp P 0 H (upd (upd H l (.lst [.non])) D (.lst ((List.replicate 27 none).map cellV))) := (Stp.refl.new hl _).new nD _
    have hp0 := (st0.pool N hp).mono (M := N) (by omega)
    refine ⟨_, rfl, P, N, 4, rfl, hp0, by omega, by decide, by decide, fun d H1 d0 d1 st1 => ⟨d, rfl, by omega, by omega, ?_⟩⟩
    obtain ⟨n1, n2, n3⟩ := hp.ne hD
    have e1 : H1 D = some (.lst ((List.replicate 27 none).map cellV)) := st1.keep _ _ n1 n2 upd_same
    refine for_range (lo := 0) (n := d.toNat) (fun i σ H2 => (∃ y5 y6 y7 y8, σ = [some (V.ref P.p), some (V.int sz), some (V.int pl), some (V.bl true), some (V.ref D), y5, y6, y7, y8]) ∧
        Stp P (1 + 4 * (i : Int)) H H2 ∧ ∃ c : Stair, H2 D = some (.lst (c.map cellV)) ∧ OkS sz pl c)
      ⟨⟨none, none, none, none, rfl⟩, (st0.trans st1).mono (by omega), _, e1, okS_none sz pl⟩ ?_ ?_
    · rintro i σ H2 hi ⟨⟨y5, y6, y7, y8, rfl⟩, st, c, ec, oc⟩
      have hp2 := st.pool N hp
      refine ⟨_, rfl, _, rfl, _, rfl, _, rfl, P, _, sz, pl, rfl, hp2, by omega, s1, s6, hpl, fun n H3 on st3 => ?_⟩
      have hp3 := st3.pool _ hp2
      refine ⟨_, rfl, P, _, 27, rfl, hp3, by omega, by decide, by decide, fun b H4 b0 b1 st4 => ?_⟩
      have st5 := ((st.trans st3).trans st4).mono (j := 1 + 4 * ((i + 1 : Nat) : Int)) (by omega)
      have ec4 : H4 D = some (.lst (c.map cellV)) := st4.keep _ _ n1 n2 (st3.keep _ _ n1 n2 ec)
      refine ⟨_, _, rfl, _, rfl, b, 27, rfl, ⟨by omega, by omega, by decide, by decide⟩, ?_⟩
      refine for_range (lo := b) (n := (27 - b).toNat) (fun j σ H5 => (∃ y8, σ = [some (V.ref P.p), some (V.int sz), some (V.int pl), some (V.bl true), some (V.ref D), some (.int (0 + i)), some (.int n), some (.int b), y8]) ∧
          Stp P (1 + 4 * ((i + 1 : Nat) : Int)) H H5 ∧ ∃ c : Stair, H5 D = some (.lst (c.map cellV)) ∧ OkS sz pl c)
        ⟨⟨y8, rfl⟩, st5, c, ec4, oc⟩ ?_ ?_
      · rintro j σ H5 hj ⟨⟨y8, rfl⟩, st6, c, ec, oc⟩
        obtain ⟨m, hm⟩ : ∃ m : Nat, b + (j : Int) = (m : Int) := ⟨(b + j).toNat, by omega⟩
        have lm : m < c.length := by
          rw [oc.1]
          omega
        have lm2 : m < (c.map cellV).length := by
          rw [List.length_map]
          exact lm
        have hx : atI (c.map cellV) (b + (j : Int)) = some (cellV c[m]) := by
          rw [hm]
          exact atI_nat (by rw [List.getElem?_map, List.getElem?_eq_getElem lm]; rfl)
        have hix : ixN (c.map cellV).length (b + (j : Int)) = some m := by
          rw [hm]
          exact ixL lm2
        have keepIt : ∃ c : Stair, H5 D = some (.lst (c.map cellV)) ∧ OkS sz pl c := ⟨c, ec, oc⟩
        have store : ∃ c2 : Stair, upd H5 D (.lst ((c.map cellV).set m (.int n))) D = some (.lst (c2.map cellV)) ∧ OkS sz pl c2 :=
          ⟨c.set m (some n), by rw [upd_same, List.map_set]; rfl, okS_set oc on⟩
        refine ⟨_, rfl, _, rfl, D, _, _, _, rfl, rfl, SqL.of ec, hx, _, rfl, ?_⟩
        cases hc : c[m] with
        | none =>
          refine iteT (iteT ⟨_, rfl, _, rfl, _, rfl, D, _, _, m, rfl, rfl, ec, hix, ⟨_, rfl⟩, st6.put hD _, store⟩)
        | some v =>
          rw [hc] at hx
          refine iteF ⟨_, rfl, _, rfl, D, _, _, _, rfl, rfl, SqL.of ec, hx, _, rfl, _, _, rfl, rfl, _, rfl, ?_⟩
          refine ite2 (fun _ => ⟨_, rfl, _, rfl, _, rfl, D, _, _, m, rfl, rfl, ec, hix, ⟨_, rfl⟩, st6.put hD _, store⟩) (fun _ => ⟨⟨_, rfl⟩, st6, keepIt⟩)
      · rintro σ H5 ⟨⟨y8, rfl⟩, st6, c, ec, oc⟩
        exact ⟨⟨_, _, _, _, rfl⟩, st6, c, ec, oc⟩
    · rintro σ H2 ⟨⟨y5, y6, y7, y8, rfl⟩, st, c, ec, oc⟩
      refine ⟨_, rfl, D, _, rfl, .inl ⟨SqL.of ec, fun q nq => ?_⟩⟩
      exact k q _ c oc ((st.new nq _).mono (by omega)) (StairAt.of upd_same)
end
end K15

namespace K15
open L2 PySem PyProof.Rows PySem.Spec
def spTable : Sp := fun vs H Q _ => ∃ (P : Pl) (N : Int) (sz : Nat) (ks : List Str) (v : V), vs = [.ref P.p, v, .bl true] ∧ WorldAt H v sz ks ∧ Pool P N H ∧ N ≤ 700000000 ∧
  ∀ q H2 U, OkT sz ks.length U → Stp P 480 H H2 → TabAt H2 (.ref q) U → Q (.ref q) H2
theorem keepT_lst {H : Hp} {D : Addr} {xs ys : List V} (h : H D = some (.lst xs)) : KeepT H (upd H D (.lst ys)) := fun b zs e => by
  rw [upd_ne (ne_of e h (by intro z; cases z))]
  exact e
abbrev t_row (K : PySem.W.Frag) : TE := tCB (rTupOf K) (tCons (tLc (iRng1 (tCons (tVar 3) tNil)) (gName 5) tYes
  (tCall spStair [] E0 (tCons (tVar 0) (tCons (tVar 3) (tCons (tVar 5) (tCons (tVar 2) tNil))))) [5]) tNil)
theorem rd_row {K : PySem.W.Frag} {P : Pl} {N : Int} {sz : Nat} {x1 x4 x5 : Option V} {H : Hp} {Q : VK} (hp : Pool P N H) (hN : N ≤ 750000000) (s1 : 1 ≤ sz) (s6 : sz ≤ 6)
    (k : ∀ q H2 r, OkR sz r → Stp P 120 H H2 → RowAt H2 (.ref q) r → Q (.ref q) H2) : t_row K [some (.ref P.p), x1, some (.bl true), some (.int (sz : Int)), x4, x5] H Q := by
  refine ⟨_, rfl, sz, rfl, by omega, by omega, fun D hD => ?_⟩
  obtain ⟨n1, n2, _⟩ := hp.ne hD
  refine lc_it (walk_range (lo := 0) (n := (sz : Int).toNat)) (fun i H2 => Stp P (20 * (i : Int)) H H2 ∧ ∃ (zs : List V) (r : Row), H2 D = some (.lst zs) ∧ zs.length = i ∧ r.length = i ∧
      (∀ (j : Nat) (s : Stair), r[j]? = some s → OkS sz j s) ∧ ∀ (j : Nat) (z : V) (s : Stair), zs[j]? = some z → r[j]? = some s → StairAt H2 z s)
    ⟨(Stp.refl.new hD _).mono (by omega), [], [], upd_same, rfl, rfl, fun j s e => by simp at e, fun j z s e => by simp at e⟩ (fun _ _ _ _ => trivial) ?_ ?_
  · rintro i x H2 H3 hi ⟨st, zs, r, ez, lz, lr, o, c⟩ ⟨rfl, rfl⟩
    have hi2 : i < sz := by omega
    have hp2 := st.pool N hp
    refine ⟨rfl, yes ⟨_, rfl, _, rfl, _, rfl, _, rfl, P, _, sz, i, by show [V.ref P.p, V.int (sz : Int), V.int (0 + (i : Int)), V.bl true] = _; rw [Int.zero_add], hp2, by omega, s1, s6, hi2, fun q H4 s os st4 ss => ?_⟩⟩
    have e4 : H4 D = some (.lst zs) := st4.keep _ _ n1 n2 ez
    refine ⟨zs, e4, by rw [sizeLine_eq]; omega, ((st.trans st4).put hD _).mono (by omega), zs ++ [.ref q], r ++ [s], upd_same, by simp [lz], by simp [lr], fun j s2 e => ?_, fun j z s2 e1 e2 => ?_⟩
    · rcases get_append_one e with e | ⟨rfl, rfl⟩
      · exact o j s2 e
      · rw [lr]
        exact os
    · rcases get_append_one e1 with e | ⟨rfl, rfl⟩
      · rcases get_append_one e2 with e' | ⟨rfl, rfl⟩
        · exact StairAt.keep (keepT_lst e4) (StairAt.keep st4.kt (c j z s2 e e'))
        · have := (List.getElem?_eq_some_iff.mp e).1
          omega
      · rcases get_append_one e2 with e' | ⟨_, rfl⟩
        · have := (List.getElem?_eq_some_iff.mp e').1
          omega
        · exact StairAt.keep (keepT_lst e4) ss
  · rintro H2 ⟨st, zs, r, ez, lz, lr, o, c⟩
    refine ⟨_, _, rfl, .inl ⟨SqL.of ez, fun q nq => ?_⟩⟩
    have hl : ((sz : Int).toNat) = sz := by omega
    exact k q _ r ⟨by omega, o⟩ ((st.new nq _).mono (by omega)) ⟨q, zs, rfl, upd_same, by omega, fun j z s e1 e2 => StairAt.keep (Grow.refl.new nq _).kt (c j z s e1 e2)⟩
section
variable {P : Program} {w : World} {K : PySem.W.Frag} {mg : Str → Option Value} {base : Heap} {f : Addr} {fd : FuncData}
abbrev nTable : List Str := ["_law_pool_here", "_law_world_here", "_law_peaks", "_law_size", "_law_kind", "_law_place"]
theorem scTable : FnScope nTable ["_law_pool_here", "_law_world_here", "_law_peaks"] (defScope sTable) :=
  ⟨rfl, rfl, rfl, by decide +kernel, rfl, by decide +kernel, by decide +kernel⟩
theorem ok_table {fD fA fO fS : Addr} {fdD fdA fdO fdS : FuncData} (F : FnP K "_law_table" sTable f fd) (T : Txt mg) (D : Fn K mg "_law_draw" sDraw ["_law_pool_here", "_law_many"] fD fdD)
    (DA : Fn K mg "_law_any" sAny ["_law_pool_here", "_law_some"] fA fdA) (DO : Fn K mg "_law_origin" sOrigin ["_law_pool_here", "_law_size", "_law_place", "_law_peaks"] fO fdO)
    (DS : Fn K mg "_law_stair" sStair ["_law_pool_here", "_law_size", "_law_place", "_law_peaks"] fS fdS) :
    FnOk P w K mg base CX0 5 f fd ["_law_pool_here", "_law_world_here", "_law_peaks"] spTable := by
  have GS : FnOk P w K mg base CX0 4 fS fdS ["_law_pool_here", "_law_size", "_law_place", "_law_peaks"] spStair := ok_stair DS.F T D DA DO
  refine okN F scTable (fun vs H Q E h => ?_) (fun cdv A outer s H vs Q E hr h => ?_)
  · obtain ⟨a, b, c, d, e, rfl, _⟩ := h
    rfl
  · obtain ⟨P, N, sz, ks, v, rfl, hw, hp, hN, k⟩ := h
    obtain ⟨q, kk, ob, u, w', rfl, hq, hk, hob⟩ := hw.ex
    refine ⟨tSeq (tAsg (tOp (rIxT K) (tVar 1) (tC (.int 0))) (gName 3)) (tRet (tCB (rTupOf K) (tCons (tLc (iTup K (tOp (rIxT K) (tVar 1) (tC (.int 1)))) (gName 4) tYes (t_row K) [4]) tNil))), ?_, ?_⟩
    · exact pss_cons (ps_set (i := 3) scTable.nd rfl (.inr rfl) (pe_ix ix_tup (pv 1) pe_int (fun _ _ => rfl)))
        (pss_one (ps_ret (pe_callTy call_tuple_of (by rfl) T.tuple (by decide +kernel) (pa_cons
          (pe_lc (own := [("_law_kind", 4)]) rfl scTable.nd (pi_tup (pe_ix ix_tup (pv 1) pe_int (fun _ _ => rfl)))
            (blkOk_by (own := [("_law_kind", 4)]) (N := nTable) (sc := defScope sTable) (by decide +kernel))
            (fun _ _ _ _ _ => pg_name (i := 4) scTable.nd rfl (.inl rfl)) (fun _ _ _ _ _ => pts_nil)
            (fun _ _ _ _ _ => pe_callTy call_tuple_of (by rfl) T.tuple (by decide +kernel) (pa_cons
              (pe_lc (own := [("_law_place", 5)]) rfl scTable.nd (pi_range1 (by rfl) T.range (pa_cons (pv 3) pa_nil))
                (blkOk_by (own := [("_law_place", 5)]) (N := nTable) (sc := relS _ (defScope sTable)) (by decide +kernel))
                (fun _ _ _ _ _ => pg_name (i := 5) scTable.nd rfl (.inl rfl)) (fun _ _ _ _ _ => pts_nil)
                (fun _ _ _ _ _ => pcall DS GS hr rfl (pa_cons (pv 0) (pa_cons (pv 3) (pa_cons (pv 5) (pa_cons (pv 2) pa_nil)))))) pa_nil))) pa_nil))))
    · refine ⟨_, rfl, q, _, _, _, rfl, rfl, SqT.of hq, at0, ?_⟩
      refine ⟨_, rfl, q, _, _, _, rfl, rfl, SqT.of hq, at1, kk, rfl, ⟨_, sqF hk⟩, fun D hD => ?_⟩
      obtain ⟨n1, n2, _⟩ := hp.ne hD
      refine lc_it (walk_tup (xs := ks.map V.str)) (fun i H2 => Stp P (120 * (i : Int)) H H2 ∧ ∃ (zs : List V) (U : Tab), H2 D = some (.lst zs) ∧ zs.length = i ∧ U.length = i ∧
          (∀ r ∈ U, OkR sz r) ∧ ∀ (j : Nat) (z : V) (r : Row), zs[j]? = some z → U[j]? = some r → RowAt H2 z r)
        ⟨(Stp.refl.new hD _).mono (by omega), [], [], upd_same, rfl, rfl, fun r e => by simp at e, fun j z s e => by simp at e⟩ (fun i H2 _ p => sqF (p.1.frzs _ _ _ hk)) ?_ ?_
      · rintro i x H2 H3 hi ⟨st, zs, U, ez, lz, lr, o, c⟩ ⟨rfl, ex⟩
        rw [List.length_map] at hi
        have k4 := hw.k4
        have hp2 := st.pool N hp
        refine ⟨rfl, yes ?_⟩
        refine rd_row hp2 (by omega) hw.s1 hw.s6 fun q2 H4 r os st4 ss => ?_
        have e4 : H4 D = some (.lst zs) := st4.keep _ _ n1 n2 ez
        refine ⟨zs, e4, by rw [sizeLine_eq]; omega, ((st.trans st4).put hD _).mono (by omega), zs ++ [.ref q2], U ++ [r], upd_same, by simp [lz], by simp [lr], fun r2 e => ?_, fun j z s2 e1 e2 => ?_⟩
        · rcases List.mem_append.mp e with e | e
          · exact o r2 e
          · have q3 := List.mem_singleton.mp e
            rw [q3]
            exact os
        · rcases get_append_one e1 with e | ⟨rfl, rfl⟩
          · rcases get_append_one e2 with e' | ⟨rfl, rfl⟩
            · exact RowAt.keep (keepT_lst e4) (RowAt.keep st4.kt (c j z s2 e e'))
            · have := (List.getElem?_eq_some_iff.mp e).1
              omega
          · rcases get_append_one e2 with e' | ⟨_, rfl⟩
            · have := (List.getElem?_eq_some_iff.mp e').1
              omega
            · exact RowAt.keep (keepT_lst e4) ss
      · rintro H2 ⟨st, zs, U, ez, lz, lr, o, c⟩
        rw [List.length_map] at lz lr
        rw [List.length_map] at st
        have k4 := hw.k4
        refine ⟨_, _, rfl, .inl ⟨SqL.of ez, fun q2 nq => ?_⟩⟩
        exact k q2 _ U ⟨lr, o⟩ ((st.new nq _).mono (by omega)) ⟨q2, zs, rfl, upd_same, by omega, fun j z s e1 e2 => RowAt.keep (Grow.refl.new nq _).kt (c j z s e1 e2)⟩
end
end K15

namespace K15
open L2 PySem PyProof.Rows PySem.Spec
def spPool (K : PySem.W.Frag) : Sp := fun vs H Q _ => ∃ (a : Addr) (ns : List Int), vs = [.ref a] ∧ SqL K H a (ns.map V.int) ∧ ns.length ≤ 63 ∧
  ∀ P H2, Pool P 0 H2 → Grow H H2 → Q (.ref P.p) H2
def spWay : Sp := fun vs H Q _ => ∃ (P : Pl) (N sz : Int) (l : Addr) (xs : List V), vs = [.ref P.p, .int sz, .ref l, .bl true] ∧ Pool P N H ∧ N ≤ 800000000 ∧ 0 ≤ sz ∧ sz ≤ 6 ∧
  H l = some (.lst xs) ∧ l ≠ P.p ∧ l ≠ P.g ∧ 1 ≤ xs.length ∧ xs.length ≤ 1000 ∧ ∀ q H2, Stp P 100 H H2 → Q (.ref q) H2
theorem Grow.seq {K : PySem.W.Frag} {H H2 : Hp} {a : Addr} {xs : List V} (g : Grow H H2) (h : SqL K H a xs) : SqL K H2 a xs := L2.Same.seq g.keep h
theorem int_of {ns : List Int} {i : Nat} {x : V} (h : (ns.map V.int)[i]? = some x) : ∃ n, x = .int n := by
  rw [List.getElem?_map] at h
  cases e : ns[i]? with
  | none =>
    rw [e] at h
    cases h
  | some u =>
    rw [e] at h
    exact ⟨u, (Option.some.inj h).symm⟩
theorem int_in {ns : List Int} {x : V} (h : x ∈ ns.map V.int) : ∃ n, x = .int n := by
  obtain ⟨m, _, rfl⟩ := List.mem_map.mp h
  exact ⟨m, rfl⟩
theorem iteB {c A B R : Prop} [Decidable c] (h1 : R → A) (h2 : R → B) (r : R) : if c then A else B := by
  split
  · exact h1 r
  · exact h2 r
section
variable {P : Program} {w : World} {K : PySem.W.Frag} {mg : Str → Option Value} {base : Heap} {f : Addr} {fd : FuncData}
abbrev nPool : List Str := ["_law_script", "_law_great", "_law_cell"]
theorem scPool : FnScope nPool ["_law_script"] (defScope sPool) := ⟨rfl, rfl, rfl, by decide +kernel, rfl, by decide +kernel, by decide +kernel⟩
theorem ok_pool (F : FnP K "_law_pool" sPool f fd) (T : Txt mg) : FnOk P w K mg base CX0 1 f fd ["_law_script"] (spPool K) := by
  refine okN F scPool (fun vs H Q E h => ?_) (fun cdv A outer s H vs Q E hr h => ?_)
  · obtain ⟨a, b, rfl, _⟩ := h
    rfl
  · obtain ⟨a, ns, rfl, hS, hl, k⟩ := h
    refine ⟨_, pss_cons (ps_setLc (i := 1) (own := [("_law_cell", 2)]) rfl scPool.nd rfl rfl (sw_true rfl rfl rfl (by decide +kernel)) (pi_list (pv 0))
        (blkOk_by (own := [("_law_cell", 2)]) (N := nPool) (sc := defScope sPool) (by decide +kernel)) (fun _ _ _ _ _ => pg_name (i := 2) scPool.nd rfl (.inl rfl))
        (fun _ _ _ _ _ => pts_one (pt_cmpR op_ge (pv 2) (pe_op op_pow pe_int pe_int) (nomark _))) (fun _ _ _ _ _ => pv 2))
      (pss_one (ps_ret (pe_lst (pa_cons (pv 1) (pa_cons (pe_lc (own := [("_law_cell", 2)]) rfl scPool.nd (pi_list (pv 0))
        (blkOk_by (own := [("_law_cell", 2)]) (N := nPool) (sc := defScope sPool) (by decide +kernel)) (fun _ _ _ _ _ => pg_name (i := 2) scPool.nd rfl (.inl rfl))
        (fun _ _ _ _ _ => pts_one (pt_cmpR op_lt (pv 2) (pe_op op_pow pe_int pe_int) (nomark _))) (fun _ _ _ _ _ => pv 2)) (pa_cons pe_int (pa_cons pe_int pa_nil))))))), ?_⟩
    have hpow : CPow 10 18 := ⟨by decide, by decide, by decide⟩
    refine ⟨_, rfl, a, rfl, ⟨_, hS⟩, fun D hD => ?_⟩
    refine lc_it (walk_list (xs := ns.map V.int)) (fun i H2 => Grow H H2 ∧ ∃ gs : List Int, H2 D = some (.lst (gs.map V.int)) ∧ gs.length ≤ i) ⟨Grow.refl.new hD _, [], upd_same, Nat.le_refl _⟩
      (fun i H2 _ p => p.1.seq hS) ?_ ?_
    · rintro i x H2 H3 hi ⟨gw, gs, eg, lg⟩ ⟨rfl, ex⟩
      rw [List.length_map] at hi
      obtain ⟨z, rfl⟩ := int_of ex
      refine ⟨rfl, _, rfl, _, _, rfl, rfl, hpow, _, _, rfl, rfl, _, rfl, ite2 (fun _ => ?_) (fun _ => ⟨gw, gs, eg, by omega⟩)⟩
      refine ⟨_, rfl, _, eg, by rw [List.length_map, sizeLine_eq]; omega, gw.put hD _, gs ++ [z], by rw [upd_same, List.map_append]; rfl, by simp; omega⟩
    · rintro H2 ⟨gw, gs, eg, lg⟩
      refine ⟨_, rfl, _, rfl, a, rfl, ⟨_, gw.seq hS⟩, fun D2 hD2 => ?_⟩
      refine lc_it (walk_list (xs := ns.map V.int)) (fun i H3 => Grow H2 H3 ∧ ∃ rs : List Int, H3 D2 = some (.lst (rs.map V.int)) ∧ rs.length ≤ i) ⟨Grow.refl.new hD2 _, [], upd_same, Nat.le_refl _⟩
        (fun i H3 _ p => (gw.trans p.1).seq hS) ?_ ?_
      · rintro i x H3 H4 hi ⟨gw3, rs, er, lr⟩ ⟨rfl, ex⟩
        rw [List.length_map] at hi
        obtain ⟨z, rfl⟩ := int_of ex
        refine ⟨rfl, _, rfl, _, _, rfl, rfl, hpow, _, _, rfl, rfl, _, rfl, ite2 (fun _ => ?_) (fun _ => ⟨gw3, rs, er, by omega⟩)⟩
        refine ⟨_, rfl, _, er, by rw [List.length_map, sizeLine_eq]; omega, gw3.put hD2 _, rs ++ [z], by rw [upd_same, List.map_append]; rfl, by simp; omega⟩
      · rintro H3 ⟨gw3, rs, er, lr⟩
        refine ⟨by show 4 ≤ sizeLine; decide, fun p np => ?_⟩
        have eg3 := gw3.keep _ _ eg
        have d1 : D ≠ p := ne_of_none eg3 np
        have d2 : D2 ≠ p := ne_of_none er np
        have d3 : D ≠ D2 := ne_of_none eg hD2
        exact k ⟨p, D, D2⟩ _ ⟨d1.symm, d2.symm, d3, ⟨gs, by rw [upd_ne d1]; exact eg3⟩, ⟨rs, by rw [upd_ne d2]; exact er⟩, 5, 0, upd_same, by decide, by decide, by decide, by decide⟩ ((gw.trans gw3).new np _)

abbrev nWay : List Str := ["_law_pool_here", "_law_size", "_law_names", "_law_wide", "_law_parts", "_law_many", "_law_turn", "_law_least", "_law_more", "_law_place", "_law_hours", "_law_keeps"]
theorem scWay : FnScope nWay ["_law_pool_here", "_law_size", "_law_names", "_law_wide"] (defScope sWay) := ⟨rfl, rfl, rfl, by decide +kernel, rfl, by decide +kernel, by decide +kernel⟩
theorem ok_way {fD fA : Addr} {fdD fdA : FuncData} (F : FnP K "_law_way" sWay f fd) (T : Txt mg) (D : Fn K mg "_law_draw" sDraw ["_law_pool_here", "_law_many"] fD fdD)
    (DA : Fn K mg "_law_any" sAny ["_law_pool_here", "_law_some"] fA fdA) : FnOk P w K mg base CX0 3 f fd ["_law_pool_here", "_law_size", "_law_names", "_law_wide"] spWay := by
  have GD : FnOk P w K mg base CX0 1 fD fdD ["_law_pool_here", "_law_many"] spDraw := ok_draw D.F T
  have GA : FnOk P w K mg base CX0 2 fA fdA ["_law_pool_here", "_law_some"] spAny := ok_any DA.F T D
  refine okN F scWay (fun vs H Q E h => ?_) (fun cdv A outer s H vs Q E hr h => ?_)
  · obtain ⟨a, b, c, d, e, rfl, _⟩ := h
    rfl
  · obtain ⟨P, N, sz, ln, xs, rfl, hp, hN, s0, s6, eln, ln1, ln2, xl, xl2, k⟩ := h
    have hr1 : Room 1 _ := hr.mono (by decide)
    refine ⟨_, pss_cons (ps_set (i := 4) scWay.nd rfl (.inl rfl) (pe_lst pa_nil))
      (pss_cons (ps_set (i := 5) scWay.nd rfl (.inl rfl) (pe_op op_add pe_int (pcall D GD hr1 rfl (pa_cons (pv 0) (pa_cons pe_int pa_nil)))))
      (pss_cons (ps_for PassesOwn.never rfl (pi_range1 (by rfl) T.range (pa_cons (pv 5) pa_nil)) (pg_name (i := 6) scWay.nd rfl (.inl rfl))
        (pss_cons (ps_set (i := 7) scWay.nd rfl (.inl rfl) (pcall DA GA hr rfl (pa_cons (pv 0) (pa_cons (pe_lst (pa_cons pe_int (pa_cons pe_int (pa_cons pe_int (pa_cons (pcall D GD hr1 rfl (pa_cons (pv 0) (pa_cons pe_int pa_nil)))
            (pa_cons (pe_ix ix_list (pe_lst (pa_cons pe_int (pa_cons (pcall D GD hr1 rfl (pa_cons (pv 0) (pa_cons pe_int pa_nil))) pa_nil))) (pe_callTy call_int1 (by rfl) T.int (by decide +kernel) (pa_cons (pv 3) pa_nil)) (fun _ _ => rfl)) pa_nil)))))) pa_nil))))
        (pss_cons (ps_set (i := 8) scWay.nd rfl (.inl rfl) (pcall DA GA hr rfl (pa_cons (pv 0) (pa_cons (pe_lst (pa_cons pe_int (pa_cons pe_int (pa_cons pe_int
            (pa_cons (pe_ix ix_list (pe_lst (pa_cons pe_int (pa_cons pe_int pa_nil))) (pe_callTy call_int1 (by rfl) T.int (by decide +kernel) (pa_cons (pv 3) pa_nil)) (fun _ _ => rfl)) pa_nil))))) pa_nil))))
        (pss_cons (ps_if (PW.pt (pw_and (pt_cmpR op_eq (pv 5) pe_int (nomark _)) (pw_and1 (pt_not (pt_val (pv 3)))))) (pss_one (ps_set (i := 8) scWay.nd rfl (.inl rfl) (pe_op op_modN (pv 8) pe_int))) pss_nil)
        (pss_one (ps_expr (pe_bm PySem.F.plainAttrs_list PySem.F.slot_list_append PySem.F.type_list_append mt_append (pv 4) (pa_cons (pe_tup (pa_cons (pcall DA GA hr rfl (pa_cons (pv 0) (pa_cons (pv 2) pa_nil)))
            (pa_cons (pv 7) (pa_cons (pe_callB (call_min2 rfl) (by rfl) T.min (by decide +kernel) (pa_cons pe_int (pa_cons (pe_op op_add (pv 7) (pv 8)) pa_nil))) pa_nil)))) pa_nil))))))))
      (pss_cons (ps_set (i := 10) scWay.nd rfl (.inl rfl) (pe_callTy call_tuple_of (by rfl) T.tuple (by decide +kernel) (pa_cons
          (pe_lc (own := [("_law_place", 9)]) rfl scWay.nd (pi_range1 (by rfl) T.range (pa_cons (pv 1) pa_nil))
            (blkOk_by (own := [("_law_place", 9)]) (N := nWay) (sc := defScope sWay) (by decide +kernel)) (fun _ _ _ _ _ => pg_name (i := 9) scWay.nd rfl (.inl rfl))
            (fun _ _ _ _ _ => pts_one (pt_cmpR op_gt (pcall D GD hr1 rfl (pa_cons (pv 0) (pa_cons pe_int pa_nil))) pe_int (nomark _))) (fun _ _ _ _ _ => pv 9)) pa_nil)))
      (pss_cons (ps_set (i := 11) scWay.nd rfl (.inl rfl) (pcall DA GA hr rfl (pa_cons (pv 0) (pa_cons (pe_lst (pa_cons pe_str (pa_cons pe_str pa_nil))) pa_nil))))
      (pss_one (ps_ret (pe_tup (pa_cons (pcall DA GA hr rfl (pa_cons (pv 0) (pa_cons (pv 2) pa_nil))) (pa_cons (pe_callTy call_tuple_of (by rfl) T.tuple (by decide +kernel) (pa_cons (pv 4) pa_nil))
          (pa_cons (pv 11) (pa_cons (pv 10) (pa_cons (pe_op op_add pe_int (pcall D GD hr1 rfl (pa_cons (pv 0) (pa_cons pe_int pa_nil)))) pa_nil)))))))))))), ?_⟩
    refine ⟨Nat.zero_le _, fun Lp hL => ?_⟩
    obtain ⟨p1, p2, _⟩ := hp.ne hL
    have st0 : Stp P 0 H (upd H Lp (.lst [])) := Stp.refl.new hL _
    have hp0 := (st0.pool N hp).mono (M := N) (by omega)
    refine ⟨_, rfl, P, N, 3, rfl, hp0, by omega, by decide, by decide, fun d H1 d0 d1 st1 => ⟨_, _, rfl, rfl, ?_⟩⟩
    have st01 := (st0.trans st1).mono (j := 1) (by omega)
    refine ⟨_, rfl, 1 + d, rfl, by omega, by omega, ?_⟩
    refine for_range (lo := 0) (n := (1 + d).toNat) (fun i σ H2 => (∃ y6 y7 y8, σ = [some (V.ref P.p), some (V.int sz), some (V.ref ln), some (V.bl true), some (V.ref Lp), some (V.int (1 + d)), y6, y7, y8, none, none, none]) ∧
        Stp P (1 + 5 * (i : Int)) H H2 ∧ ∃ zs : List V, H2 Lp = some (.lst zs) ∧ zs.length = i)
      ⟨⟨none, none, none, rfl⟩, st01.mono (by omega), [], st1.keep _ _ p1 p2 upd_same, rfl⟩ ?_ ?_
    · rintro i σ H2 hi ⟨⟨y6, y7, y8, rfl⟩, st, zs, ez, lz⟩
      have hp2 := st.pool N hp
      -- least
      refine ⟨_, rfl, _, rfl, P, _, 5, rfl, hp2, by omega, by decide, by decide, fun a1 H3 _ _ st3 => ?_⟩
      have hp3 := st3.pool _ hp2
      refine ⟨_, rfl, P, _, 21, rfl, hp3, by omega, by decide, by decide, fun a2 H4 _ _ st4 => ?_⟩
      have t4 := st3.trans st4
      refine ⟨by show 2 ≤ sizeLine; decide, fun l4 nl4 => ⟨_, rfl, .inr ⟨_, rfl, l4, _, _, _, rfl, rfl, SqL.of upd_same, at1, by show 5 ≤ sizeLine; decide, fun l5 nl5 => ?_⟩⟩⟩
      have t4' := t4.new nl4 (.lst [.int 3, .int a2])
      have t5 := t4'.new nl5 (.lst ([0, 0, 1, a1, a2].map V.int))
      have n5 := (t4'.pool _ hp2).ne nl5
      refine ⟨P, _, l5, _, rfl, t5.pool _ hp2, by omega, .inl ⟨upd_same, n5.1, n5.2.1⟩, by show 1 ≤ 5; decide, by show 5 ≤ 1000; decide, fun x H6 hx st6 => ?_⟩
      obtain ⟨n6, rfl⟩ := int_in (ns := [0, 0, 1, a1, a2]) hx
      have t6 := t5.trans st6
      -- more
      refine ⟨_, rfl, by show 2 ≤ sizeLine; decide, fun l7 nl7 => ⟨_, rfl, .inr ⟨_, rfl, l7, _, _, _, rfl, rfl, SqL.of upd_same, at1, by show 4 ≤ sizeLine; decide, fun l8 nl8 => ?_⟩⟩⟩
      have t7 := t6.new nl7 (.lst [.int 3, .int 20])
      have t8 := t7.new nl8 (.lst ([0, 1, 2, 20].map V.int))
      have n8 := (t7.pool _ hp2).ne nl8
      refine ⟨P, _, l8, _, rfl, t8.pool _ hp2, by omega, .inl ⟨upd_same, n8.1, n8.2.1⟩, by show 1 ≤ 4; decide, by show 4 ≤ 1000; decide, fun x H9 hx st9 => ?_⟩
      obtain ⟨n9, rfl⟩ := int_in (ns := [0, 1, 2, 20]) hx
      have t9 := t8.trans st9
      -- the test is false
      refine ⟨_, rfl, rfl, _, rfl, iteB (fun h => ⟨_, rfl, _, rfl, h⟩) (fun h => h) ?_⟩
      refine iteF ?_
      refine ⟨_, rfl, .inl ⟨rfl, _, SqL.of (t9.keep _ _ p1 p2 ez)⟩, ?_⟩
      refine ⟨_, rfl, _, rfl, P, _, ln, xs, rfl, t9.pool _ hp2, by omega, .inl ⟨t9.keep _ _ ln1 ln2 (st.keep _ _ ln1 ln2 eln), ln1, ln2⟩, xl, xl2, fun x10 H10 _ st10 => ?_⟩
      have t10 := t9.trans st10
      refine ⟨_, rfl, _, rfl, _, rfl, _, _, rfl, rfl, _, _, rfl, by show 3 ≤ sizeLine; decide, fun q nq => ?_⟩
      have e10 := t10.keep _ _ p1 p2 ez
      have hq : Lp ≠ q := ne_of_none e10 nq
      refine ⟨Lp, zs, _, rfl, rfl, by rw [upd_ne hq]; exact e10, by rw [lz, sizeLine_eq]; omega, ⟨_, _, _, rfl⟩, ?_, _, upd_same, by simp [lz]⟩
      exact (((st.trans t10).new nq _).put hL _).mono (by omega)
    · rintro σ H2 ⟨⟨y6, y7, y8, rfl⟩, st, zs, ez, lz⟩
      have hp2 := st.pool N hp
      -- hours
      refine ⟨_, rfl, sz, rfl, by omega, by omega, fun Dh nDh => ?_⟩
      obtain ⟨h1, h2, _⟩ := hp2.ne nDh
      refine lc_it (walk_range (lo := 0) (n := sz.toNat)) (fun i H3 => Stp P (i : Int) H2 H3 ∧ ∃ hs : List V, H3 Dh = some (.lst hs) ∧ hs.length ≤ i) ⟨(Stp.refl.new nDh _).mono (by omega), [], upd_same, Nat.le_refl _⟩ (fun _ _ _ _ => trivial) ?_ ?_
      · rintro i x H3 H4 hi ⟨st3, hs, eh, lh⟩ ⟨rfl, rfl⟩
        refine ⟨rfl, _, rfl, P, _, 3, rfl, st3.pool _ hp2, by omega, by decide, by decide, fun a1 H5 _ _ st5 => ⟨_, _, rfl, rfl, _, rfl, ?_⟩⟩
        have e5 := st5.keep _ _ h1 h2 eh
        have s5 := (st3.trans st5).mono (j := ((i + 1 : Nat) : Int)) (by omega)
        refine ite2 (fun _ => ⟨_, rfl, hs, e5, by rw [sizeLine_eq]; omega, s5.put nDh _, _, upd_same, by simp; omega⟩) (fun _ => ⟨s5, hs, e5, by omega⟩)
      · rintro H3 ⟨st3, hs, eh, lh⟩
        refine ⟨Dh, _, rfl, .inl ⟨SqL.of eh, fun qh nqh => ?_⟩⟩
        have t3 := st3.new nqh (.tup hs)
        -- keeps
        refine ⟨_, rfl, by show 2 ≤ sizeLine; decide, fun lk nlk => ?_⟩
        have nk := (t3.pool _ hp2).ne nlk
        have t4 := t3.new nlk (.lst [.str "oldest", .str "youngest"])
        refine ⟨P, _, lk, _, rfl, t4.pool _ hp2, by omega, .inl ⟨upd_same, nk.1, nk.2.1⟩, by show 1 ≤ 2; decide, by show 2 ≤ 1000; decide, fun x5 H5 _ st5 => ?_⟩
        have t5 := t4.trans st5
        -- the way
        refine ⟨_, rfl, _, rfl, P, _, ln, xs, rfl, t5.pool _ hp2, by omega, .inl ⟨t5.keep _ _ ln1 ln2 (st.keep _ _ ln1 ln2 eln), ln1, ln2⟩, xl, xl2, fun x6 H6 _ st6 => ?_⟩
        have t6 := t5.trans st6
        refine ⟨_, rfl, Lp, _, rfl, .inl ⟨SqL.of (t6.keep _ _ p1 p2 ez), fun qp nqp => ?_⟩⟩
        have t7 := t6.new nqp (.tup zs)
        refine ⟨_, rfl, _, rfl, _, rfl, P, _, 6, rfl, t7.pool _ hp2, by omega, by decide, by decide, fun a8 H8 _ _ st8 => ⟨_, _, rfl, rfl, by show 5 ≤ sizeLine; decide, fun q nq => ?_⟩⟩
        exact k q _ (((st.trans (t7.trans st8)).new nq _).mono (by omega))
end
end K15

namespace K15
open L2 PySem PyProof.Rows PySem.Spec
def spWorld : Sp := fun vs H Q _ => ∃ (P : Pl) (N : Int), vs = [.ref P.p, .bl true] ∧ Pool P N H ∧ N ≤ 700000000 ∧
  ∀ q H2 sz ks, WorldAt H2 (.ref q) sz ks → Stp P 2000 H H2 → Q (.ref q) H2
/-- names that a world may have -/
structure NK (ks : List Str) : Prop where
  nd : ks.Nodup
  k1 : 1 ≤ ks.length
  k4 : ks.length ≤ 4
def k1 : List Str := ["a"]
def k2 : List Str := ["a", "b"]
def k3 : List Str := ["iron", "x", "y"]
def k4 : List Str := ["a", "aa", "b", "zzzzzzzz"]
theorem nk1 : NK k1 := ⟨by decide +kernel, by decide, by decide⟩
theorem nk2 : NK k2 := ⟨by decide +kernel, by decide, by decide⟩
theorem nk3 : NK k3 := ⟨by decide +kernel, by decide, by decide⟩
theorem nk4 : NK k4 := ⟨by decide +kernel, by decide, by decide⟩
section
variable {P : Program} {w : World} {K : PySem.W.Frag} {mg : Str → Option Value} {base : Heap} {f : Addr} {fd : FuncData}
abbrev nWorld : List Str := ["_law_pool_here", "_law_wide", "_law_size", "_law_names", "_law_sources", "_law_turn", "_law_since", "_law_source", "_law_ways"]
theorem scWorld : FnScope nWorld ["_law_pool_here", "_law_wide"] (defScope sWorld) := ⟨rfl, rfl, rfl, by decide +kernel, rfl, by decide +kernel, by decide +kernel⟩
theorem ok_world {fD fA fW : Addr} {fdD fdA fdW : FuncData} (F : FnP K "_law_world" sWorld f fd) (T : Txt mg) (D : Fn K mg "_law_draw" sDraw ["_law_pool_here", "_law_many"] fD fdD)
    (DA : Fn K mg "_law_any" sAny ["_law_pool_here", "_law_some"] fA fdA) (DW : Fn K mg "_law_way" sWay ["_law_pool_here", "_law_size", "_law_names", "_law_wide"] fW fdW) :
    FnOk P w K mg base CX0 4 f fd ["_law_pool_here", "_law_wide"] spWorld := by
  have GD : FnOk P w K mg base CX0 1 fD fdD ["_law_pool_here", "_law_many"] spDraw := ok_draw D.F T
  have GA : FnOk P w K mg base CX0 2 fA fdA ["_law_pool_here", "_law_some"] spAny := ok_any DA.F T D
  have GW : FnOk P w K mg base CX0 3 fW fdW ["_law_pool_here", "_law_size", "_law_names", "_law_wide"] spWay := ok_way DW.F T D DA
  refine okN F scWorld (fun vs H Q E h => ?_) (fun cdv A outer s H vs Q E hr h => ?_)
  · obtain ⟨a, b, rfl, _⟩ := h
    rfl
  · obtain ⟨P, N, rfl, hp, hN, k⟩ := h
    have hr1 : Room 1 _ := hr.mono (by decide)
    have hr2 : Room 2 _ := hr.mono (by decide)
    refine ⟨_, pss_cons (ps_set (i := 2) scWorld.nd rfl (.inr rfl) (pe_op op_add pe_int (pcall D GD hr1 rfl (pa_cons (pv 0) (pa_cons
          (pe_ix ix_list (pe_lst (pa_cons pe_int (pa_cons pe_int pa_nil))) (pe_callTy call_int1 (by rfl) T.int (by decide +kernel) (pa_cons (pv 1) pa_nil)) (fun _ _ => rfl)) pa_nil)))))
      (pss_cons (ps_set (i := 3) scWorld.nd rfl (.inr rfl) (pcall DA GA hr2 rfl (pa_cons (pv 0) (pa_cons (pe_lst (pa_cons (pe_lst (pa_cons pe_str pa_nil)) (pa_cons (pe_lst (pa_cons pe_str (pa_cons pe_str pa_nil)))
          (pa_cons (pe_lst (pa_cons pe_str (pa_cons pe_str (pa_cons pe_str pa_nil)))) (pa_cons (pe_lst (pa_cons pe_str (pa_cons pe_str (pa_cons pe_str (pa_cons pe_str pa_nil))))) pa_nil))))) pa_nil))))
      (pss_cons (ps_set (i := 4) scWorld.nd rfl (.inl rfl) (pe_lst pa_nil))
      (pss_cons (ps_for PassesOwn.never rfl (pi_range1 (by rfl) T.range (pa_cons (pcall D GD hr1 rfl (pa_cons (pv 0) (pa_cons
          (pe_ix ix_list (pe_lst (pa_cons pe_int (pa_cons pe_int pa_nil))) (pe_callTy call_int1 (by rfl) T.int (by decide +kernel) (pa_cons (pv 1) pa_nil)) (fun _ _ => rfl)) pa_nil))) pa_nil)) (pg_name (i := 5) scWorld.nd rfl (.inl rfl))
        (pss_cons (ps_set (i := 6) scWorld.nd rfl (.inl rfl) (pcall DA GA hr2 rfl (pa_cons (pv 0) (pa_cons (pe_lst (pa_cons pe_int (pa_cons pe_int (pa_cons (pcall D GD hr1 rfl (pa_cons (pv 0) (pa_cons pe_int pa_nil)))
            (pa_cons (pcall D GD hr1 rfl (pa_cons (pv 0) (pa_cons pe_int pa_nil))) (pa_cons (pe_op op_sub (pe_op op_pow pe_int pe_int) (pcall D GD hr1 rfl (pa_cons (pv 0) (pa_cons pe_int pa_nil)))) pa_nil)))))) pa_nil))))
        (pss_cons (ps_set (i := 7) scWorld.nd rfl (.inl rfl) (pe_tup (pa_cons (pcall DA GA hr2 rfl (pa_cons (pv 0) (pa_cons (pv 3) pa_nil)))
            (pa_cons (pcall DA GA hr2 rfl (pa_cons (pv 0) (pa_cons (pe_lst (pa_cons pe_int (pa_cons pe_int (pa_cons pe_int (pa_cons (pcall D GD hr1 rfl (pa_cons (pv 0) (pa_cons pe_int pa_nil))) (pa_cons pe_int pa_nil)))))) pa_nil)))
            (pa_cons (pcall D GD hr1 rfl (pa_cons (pv 0) (pa_cons (pv 2) pa_nil))) pa_nil)))))
        (pss_one (ps_expr (pe_bm PySem.F.plainAttrs_list PySem.F.slot_list_append PySem.F.type_list_append mt_append (pv 4) (pa_cons
            (pe_op op_catA (pv 7) (pe_tup (pa_cons (pv 6) (pa_cons (pe_op op_add pe_int (pcall D GD hr1 rfl (pa_cons (pv 0) (pa_cons pe_int pa_nil)))) pa_nil)))) pa_nil)))))))
      (pss_cons (ps_setLc (i := 8) (own := [("_law_turn", 5)]) rfl scWorld.nd rfl rfl (sw_true rfl rfl rfl (by decide +kernel)) (pi_range1 (by rfl) T.range (pa_cons (pcall D GD hr1 rfl (pa_cons (pv 0) (pa_cons
          (pe_ix ix_list (pe_lst (pa_cons pe_int (pa_cons pe_int pa_nil))) (pe_callTy call_int1 (by rfl) T.int (by decide +kernel) (pa_cons (pv 1) pa_nil)) (fun _ _ => rfl)) pa_nil))) pa_nil))
        (blkOk_by (own := [("_law_turn", 5)]) (N := nWorld) (sc := defScope sWorld) (by decide +kernel)) (fun _ _ _ _ _ => pg_name (i := 5) scWorld.nd rfl (.inl rfl)) (fun _ _ _ _ _ => pts_nil)
        (fun _ _ _ _ _ => pcall DW GW hr rfl (pa_cons (pv 0) (pa_cons (pv 2) (pa_cons (pv 3) (pa_cons (pv 1) pa_nil))))))
      (pss_one (ps_ret (pe_tup (pa_cons (pv 2) (pa_cons (pe_callTy call_tupF (by rfl) T.tuple (by decide +kernel) (pa_cons (pv 3) pa_nil)) (pa_cons (pe_callTy call_tuple_of (by rfl) T.tuple (by decide +kernel) (pa_cons (pv 4) pa_nil))
        (pa_cons (pe_callTy call_tuple_of (by rfl) T.tuple (by decide +kernel) (pa_cons (pv 8) pa_nil)) pa_nil))))))))))), ?_⟩
    have hpow : CPow 10 6 := ⟨by decide, by decide, by decide⟩
    -- size
    refine ⟨_, rfl, by show 2 ≤ sizeLine; decide, fun la nla => ⟨_, rfl, .inr ⟨_, rfl, la, _, _, _, rfl, rfl, SqL.of upd_same, at1, ?_⟩⟩⟩
    have t0 := (Stp.refl (P := P)).new nla (.lst [.int 4, .int 6])
    refine ⟨P, _, 6, rfl, t0.pool _ hp, by omega, by decide, by decide, fun d H1 d0 d1 st1 => ⟨_, _, rfl, rfl, ?_⟩⟩
    have t1 := t0.trans st1
    -- names
    refine ⟨_, rfl, by show 1 ≤ sizeLine; decide, fun l1 nl1 => ⟨by show 2 ≤ sizeLine; decide, fun l2 nl2 => ⟨by show 3 ≤ sizeLine; decide, fun l3 nl3 => ⟨by show 4 ≤ sizeLine; decide, fun l4 nl4 => ⟨by show 4 ≤ sizeLine; decide, fun l5 nl5 => ?_⟩⟩⟩⟩⟩
    have u1 := t1.new nl1 (.lst (k1.map V.str))
    have u2 := u1.new nl2 (.lst (k2.map V.str))
    have u3 := u2.new nl3 (.lst (k3.map V.str))
    have u4 := u3.new nl4 (.lst (k4.map V.str))
    have u5 := u4.new nl5 (.lst [.ref l1, .ref l2, .ref l3, .ref l4])
    have m1 := (t1.pool _ hp).ne nl1
    have m2 := (u1.pool _ hp).ne nl2
    have m3 := (u2.pool _ hp).ne nl3
    have m4 := (u3.pool _ hp).ne nl4
    have m5 := (u4.pool _ hp).ne nl5
    refine ⟨P, _, l5, _, rfl, u5.pool _ hp, by omega, .inl ⟨upd_same, m5.1, m5.2.1⟩, by show 1 ≤ 4; decide, by show 4 ≤ 1000; decide, fun x H2 hx st2 => ?_⟩
    have t2 := (u5.trans st2).mono (j := 2) (by omega)
    obtain ⟨ln, ks, rfl, ek, nk, ln1, ln2⟩ : ∃ (ln : Addr) (ks : List Str), x = .ref ln ∧ H2 ln = some (.lst (ks.map V.str)) ∧ NK ks ∧ ln ≠ P.p ∧ ln ≠ P.g := by
      -- what was laid stays
      have g12 := Grow.refl.new nl2 (.lst (k2.map V.str))
      have g13 := g12.new nl3 (.lst (k3.map V.str))
      have g14 := g13.new nl4 (.lst (k4.map V.str))
      have g15 := g14.new nl5 (.lst [.ref l1, .ref l2, .ref l3, .ref l4])
      have g23 := Grow.refl.new nl3 (.lst (k3.map V.str))
      have g24 := g23.new nl4 (.lst (k4.map V.str))
      have g25 := g24.new nl5 (.lst [.ref l1, .ref l2, .ref l3, .ref l4])
      have g34 := Grow.refl.new nl4 (.lst (k4.map V.str))
      have g35 := g34.new nl5 (.lst [.ref l1, .ref l2, .ref l3, .ref l4])
      have g45 := Grow.refl.new nl5 (.lst [.ref l1, .ref l2, .ref l3, .ref l4])
      have e1 := st2.keep _ _ m1.1 m1.2.1 (g15.keep l1 (.lst (k1.map V.str)) upd_same)
      have e2 := st2.keep _ _ m2.1 m2.2.1 (g25.keep l2 (.lst (k2.map V.str)) upd_same)
      have e3 := st2.keep _ _ m3.1 m3.2.1 (g35.keep l3 (.lst (k3.map V.str)) upd_same)
      have e4 := st2.keep _ _ m4.1 m4.2.1 (g45.keep l4 (.lst (k4.map V.str)) upd_same)
      simp only [List.not_mem_nil, List.mem_cons, or_false] at hx
      rcases hx with rfl | rfl | rfl | rfl
      · exact ⟨l1, k1, rfl, e1, nk1, m1.1, m1.2.1⟩
      · exact ⟨l2, k2, rfl, e2, nk2, m2.1, m2.2.1⟩
      · exact ⟨l3, k3, rfl, e3, nk3, m3.1, m3.2.1⟩
      · exact ⟨l4, k4, rfl, e4, nk4, m4.1, m4.2.1⟩
    have kl : 1 ≤ (ks.map V.str).length ∧ (ks.map V.str).length ≤ 1000 := by
      have a1 := nk.k1
      have a2 := nk.k4
      rw [List.length_map]
      omega
    clear u1 u2 u3 u4 u5 m1 m2 m3 m4 m5 nl1 nl2 nl3 nl4 nl5 hx t1
    -- sources
    refine ⟨Nat.zero_le _, fun Ls nLs => ?_⟩
    have hs := (t2.pool _ hp).ne nLs
    have t3 := t2.new nLs (.lst [])
    refine ⟨_, rfl, by show 2 ≤ sizeLine; decide, fun lb nlb => ⟨_, rfl, .inr ⟨_, rfl, lb, _, _, _, rfl, rfl, SqL.of upd_same, at1, ?_⟩⟩⟩
    have t4 := t3.new nlb (.lst [.int 4, .int 7])
    refine ⟨P, _, 7, rfl, t4.pool _ hp, by omega, by decide, by decide, fun e H4 e0 e1 st4 => ⟨e, rfl, by omega, by omega, ?_⟩⟩
    have t5 := t4.trans st4
    have eL4 : H4 Ls = some (.lst []) := st4.keep _ _ hs.1 hs.2.1 (by rw [upd_ne (ne_of_none (upd_same : upd H2 Ls (.lst []) Ls = _) nlb), upd_same])
    have eN4 : H4 ln = some (.lst (ks.map V.str)) := st4.keep _ _ ln1 ln2 ((Grow.refl.new nLs _).new nlb _ |>.keep _ _ ek)
    refine for_range (lo := 0) (n := e.toNat) (fun i σ H5 => (∃ y5 y6 y7, σ = [some (V.ref P.p), some (V.bl true), some (V.int (1 + d)), some (V.ref ln), some (V.ref Ls), y5, y6, y7, none]) ∧
        Stp P (10 + 20 * (i : Int)) H H5 ∧ H5 ln = some (.lst (ks.map V.str)) ∧ ∃ zs : List V, H5 Ls = some (.lst zs) ∧ zs.length = i)
      ⟨⟨none, none, none, rfl⟩, t5.mono (by omega), eN4, [], eL4, rfl⟩ ?_ ?_
    · rintro i σ H5 hi ⟨⟨y5, y6, y7, rfl⟩, st, en, zs, ez, lz⟩
      have hp5 := st.pool N hp
      -- since
      refine ⟨_, rfl, _, rfl, P, _, 9, rfl, hp5, by omega, by decide, by decide, fun a1 H6 _ _ st6 => ?_⟩
      have hp6 := st6.pool _ hp5
      refine ⟨_, rfl, P, _, 40, rfl, hp6, by omega, by decide, by decide, fun a2 H7 _ _ st7 => ⟨_, _, rfl, rfl, hpow, ?_⟩⟩
      have hp7 := st7.pool _ hp6
      refine ⟨_, rfl, P, _, 4, rfl, hp7, by omega, by decide, by decide, fun a3 H8 _ _ st8 => ⟨_, _, rfl, rfl, by show 5 ≤ sizeLine; decide, fun l9 nl9 => ?_⟩⟩
      have v8 := (st6.trans st7).trans st8
      have n9 := (v8.pool _ hp5).ne nl9
      have v9 := v8.new nl9 (.lst ([0, 0, a1, a2, 10 ^ (6 : Int).toNat - a3].map V.int))
      refine ⟨P, _, l9, _, rfl, v9.pool _ hp5, by omega, .inl ⟨upd_same, n9.1, n9.2.1⟩, by show 1 ≤ 5; decide, by show 5 ≤ 1000; decide, fun x10 H10 _ st10 => ?_⟩
      have v10 := v9.trans st10
      -- source
      refine ⟨_, rfl, _, rfl, P, _, ln, _, rfl, v10.pool _ hp5, by omega, .inl ⟨v10.keep _ _ ln1 ln2 en, ln1, ln2⟩, kl.1, kl.2, fun x11 H11 _ st11 => ?_⟩
      have v11 := v10.trans st11
      refine ⟨_, rfl, _, rfl, P, _, 6, rfl, v11.pool _ hp5, by omega, by decide, by decide, fun a4 H12 _ _ st12 => ⟨by show 5 ≤ sizeLine; decide, fun l13 nl13 => ?_⟩⟩
      have v12 := v11.trans st12
      have n13 := (v12.pool _ hp5).ne nl13
      have v13 := v12.new nl13 (.lst ([0, 0, 1, a4, 20].map V.int))
      refine ⟨P, _, l13, _, rfl, v13.pool _ hp5, by omega, .inl ⟨upd_same, n13.1, n13.2.1⟩, by show 1 ≤ 5; decide, by show 5 ≤ 1000; decide, fun x14 H14 _ st14 => ?_⟩
      have v14 := v13.trans st14
      refine ⟨_, rfl, _, rfl, P, _, 1 + d, rfl, v14.pool _ hp5, by omega, by omega, by omega, fun a5 H15 _ _ st15 => ⟨by show 3 ≤ sizeLine; decide, fun q nq => ?_⟩⟩
      have v15 := v14.trans st15
      have v16 := v15.new nq (.tup [x11, x14, .int a5])
      have hp16 := v16.pool _ hp5
      -- sources.append
      refine ⟨_, rfl, .inl ⟨rfl, _, SqL.of (v16.keep _ _ hs.1 hs.2.1 ez)⟩, _, rfl, _, rfl, _, rfl, P, _, 9, rfl, hp16, by omega, by decide, by decide, fun a6 H17 _ _ st17 => ⟨_, _, rfl, rfl, by show 2 ≤ sizeLine; decide, fun q2 nq2 => ?_⟩⟩
      have v17 := v16.trans st17
      have v18 := v17.new nq2 (.tup [x10, .int (1 + a6)])
      have eq3 := (Grow.refl.new nq2 (.tup [x10, .int (1 + a6)])).kt _ _ (st17.tups q _ upd_same)
      refine ⟨q, q2, _, _, rfl, rfl, SqT.of eq3, SqT.of upd_same, by show 3 + 2 ≤ sizeLine; decide, fun h => by simp at h, fun _ h => by simp at h, fun _ _ q3 nq3 => ?_⟩
      have v19 := v18.new nq3 (.tup ([x11, x14, .int a5] ++ [x10, .int (1 + a6)]))
      have e19 := v19.keep _ _ hs.1 hs.2.1 ez
      refine ⟨Ls, zs, _, rfl, rfl, e19, by rw [lz, sizeLine_eq]; omega, ⟨_, _, _, rfl⟩, ?_, ?_, _, upd_same, by simp [lz]⟩
      · exact ((st.trans v19).put (t2.free _ nLs) _).mono (by omega)
      · have e20 := v19.keep _ _ ln1 ln2 en
        rw [upd_ne (fun h => ?_)]
        · exact e20
        · rw [h] at ek
          rw [ek] at nLs
          cases nLs
    · rintro σ H5 ⟨⟨y5, y6, y7, rfl⟩, st, en, zs, ez, lz⟩
      have hp5 := st.pool N hp
      -- ways
      refine ⟨_, rfl, by show 2 ≤ sizeLine; decide, fun lc nlc => ⟨_, rfl, .inr ⟨_, rfl, lc, _, _, _, rfl, rfl, SqL.of upd_same, at1, ?_⟩⟩⟩
      have v0 := (Stp.refl (P := P)).new nlc (.lst [.int 4, .int 9])
      refine ⟨P, _, 9, rfl, v0.pool _ hp5, by omega, by decide, by decide, fun c H6 c0 c1 st6 => ⟨c, rfl, by omega, by omega, fun Dw nDw => ?_⟩⟩
      have v1 := (v0.trans st6).mono (j := 1) (by omega)
      have nw := (v1.pool _ hp5).ne nDw
      have fDw := v1.free _ nDw
      refine lc_it (walk_range (lo := 0) (n := c.toNat)) (fun i H7 => Stp P (1 + 100 * (i : Int)) H5 H7 ∧ ∃ hs : List V, H7 Dw = some (.lst hs) ∧ hs.length = i) ⟨(v1.new nDw _).mono (by omega), [], upd_same, rfl⟩ (fun _ _ _ _ => trivial) ?_ ?_
      · rintro i x H7 H8 hi ⟨st7, ws, ew, lw⟩ ⟨rfl, rfl⟩
        refine ⟨rfl, yes ⟨_, rfl, _, rfl, _, rfl, _, rfl, P, _, 1 + d, ln, _, rfl, st7.pool _ hp5, by omega, by omega, by omega, st7.keep _ _ ln1 ln2 en, ln1, ln2, kl.1, kl.2, fun qw H9 st9 => ?_⟩⟩
        have e9 := st9.keep _ _ nw.1 nw.2.1 ew
        exact ⟨ws, e9, by rw [sizeLine_eq]; omega, ((st7.trans st9).put fDw _).mono (by omega), _, upd_same, by simp [lw]⟩
      · rintro H7 ⟨st7, ws, ew, lw⟩
        refine ⟨_, rfl, _, rfl, ln, _, rfl, SqL.of (st7.keep _ _ ln1 ln2 en), fun qn ob nqn hob => ?_⟩
        have w1 := st7.new nqn (.frz ob (.tup (ks.map V.str)))
        refine ⟨_, rfl, Ls, _, rfl, .inl ⟨SqL.of (w1.keep _ _ hs.1 hs.2.1 ez), fun qs nqs => ?_⟩⟩
        have g2 := Grow.refl.new nqs (.tup zs)
        have ew2 := (Grow.refl.new nqn (.frz ob (.tup (ks.map V.str)))).new nqs (.tup zs) |>.keep _ _ ew
        refine ⟨_, rfl, Dw, _, rfl, .inl ⟨SqL.of ew2, fun qw nqw => ?_⟩⟩
        have g3 := g2.new nqw (.tup ws)
        refine ⟨by show 4 ≤ sizeLine; decide, fun q nq => ?_⟩
        have g4 := g3.new nq (.tup [.int (1 + d), .ref qn, .ref qs, .ref qw])
        have fin := ((w1.new nqs (.tup zs)).new nqw (.tup ws)).new nq (.tup [.int (1 + d), .ref qn, .ref qs, .ref qw])
        obtain ⟨sz, hsz⟩ : ∃ sz : Nat, 1 + d = (sz : Int) := ⟨(1 + d).toNat, by omega⟩
        refine k q _ sz ks ⟨⟨q, qn, ob, .ref qs, .ref qw, rfl, ?_, g4.keep _ _ upd_same, hob⟩, by omega, by omega, nk.nd, nk.k1, nk.k4⟩ ((st.trans fin).mono (by omega))
        rw [← hsz]
        exact upd_same
end
end K15

namespace K15
open L2 PySem PyProof.Rows PySem.Spec

/-! ### the plain law of having -/
def hadC (c : Option Int) (o : Int) : Bool := match c with
  | none => false
  | some n => decide (n ≤ o)
theorem had_le (n : Int) (c : Option Int) : hadC c n = true ↔ le (some n) c = c := by
  cases c with
  | none => simp [hadC, le]
  | some m =>
    simp only [hadC, le, decide_eq_true_eq, Option.some.injEq]
    by_cases h : m < n
    · simp [h]
      omega
    · simp only [h, if_false]
      omega
theorem le_none (c : Option Int) : le none c = c := rfl
/-- by cells -/
def GoodC (T U : Tab) (i p a : Nat) : Prop := ∀ r s c r2 s2 c2, T[i]? = some r → r[p]? = some s → s[a]? = some c → U[i]? = some r2 → r2[p]? = some s2 → s2[a]? = some c2 → le c c2 = c2
theorem zipS_eq {s t : Stair} (h : s.length = t.length) : zipS le s t = t ↔ ∀ (a : Nat) (c c2 : Option Int), s[a]? = some c → t[a]? = some c2 → le c c2 = c2 := by
  constructor
  · intro e a c c2 h1 h2
    have q := zipS_get (op := le) h1 h2
    rw [e, h2] at q
    exact Eq.symm (Option.some.inj q)
  · intro e
    refine List.ext_getElem? fun a => ?_
    by_cases ha : a < s.length
    · have h1 := List.getElem?_eq_getElem ha
      have h2 : t[a]? = some (t[a]'(by omega)) := List.getElem?_eq_getElem (by omega)
      rw [zipS_get h1 h2, h2, e a _ _ h1 h2]
    · have l : (zipS le s t).length = s.length := by
        unfold zipS
        rw [List.length_zipWith, ← h]
        exact Nat.min_self _
      rw [List.getElem?_eq_none (by omega), List.getElem?_eq_none (by omega)]
theorem zipR_eq {s t : Row} (h : s.length = t.length) : zipR le s t = t ↔ ∀ (a : Nat) (c c2 : Stair), s[a]? = some c → t[a]? = some c2 → zipS le c c2 = c2 := by
  constructor
  · intro e a c c2 h1 h2
    have q := zipR_get (op := le) h1 h2
    rw [e, h2] at q
    exact Eq.symm (Option.some.inj q)
  · intro e
    refine List.ext_getElem? fun a => ?_
    by_cases ha : a < s.length
    · have h1 := List.getElem?_eq_getElem ha
      have h2 : t[a]? = some (t[a]'(by omega)) := List.getElem?_eq_getElem (by omega)
      rw [zipR_get h1 h2, h2, e a _ _ h1 h2]
    · have l : (zipR le s t).length = s.length := by
        unfold zipR
        rw [List.length_zipWith, ← h]
        exact Nat.min_self _
      rw [List.getElem?_eq_none (by omega), List.getElem?_eq_none (by omega)]
theorem zipT_eq {s t : Tab} (h : s.length = t.length) : zipT le s t = t ↔ ∀ (a : Nat) (c c2 : Row), s[a]? = some c → t[a]? = some c2 → zipR le c c2 = c2 := by
  constructor
  · intro e a c c2 h1 h2
    have q := zipT_get (op := le) h1 h2
    rw [e, h2] at q
    exact Eq.symm (Option.some.inj q)
  · intro e
    refine List.ext_getElem? fun a => ?_
    by_cases ha : a < s.length
    · have h1 := List.getElem?_eq_getElem ha
      have h2 : t[a]? = some (t[a]'(by omega)) := List.getElem?_eq_getElem (by omega)
      rw [zipT_get h1 h2, h2, e a _ _ h1 h2]
    · have l : (zipT le s t).length = s.length := by
        unfold zipT
        rw [List.length_zipWith, ← h]
        exact Nat.min_self _
      rw [List.getElem?_eq_none (by omega), List.getElem?_eq_none (by omega)]
theorem inT_iff {sz m : Nat} {T U : Tab} (h1 : OkT sz m T) (h2 : OkT sz m U) : inT T U = true ↔ ∀ i p a, GoodC T U i p a := by
  unfold inT
  rw [decide_eq_true_iff, zipT_eq (h1.1.trans h2.1.symm)]
  constructor
  · intro e i p a r s c r2 s2 c2 e1 e2 e3 e4 e5 e6
    have o1 := h1.2 r (List.mem_of_getElem? e1)
    have o2 := h2.2 r2 (List.mem_of_getElem? e4)
    have q := (zipR_eq (o1.1.trans o2.1.symm)).mp (e i r r2 e1 e4) p s s2 e2 e5
    exact (zipS_eq ((o1.2 p s e2).1.trans (o2.2 p s2 e5).1.symm)).mp q a c c2 e3 e6
  · intro e i r r2 e1 e4
    have o1 := h1.2 r (List.mem_of_getElem? e1)
    have o2 := h2.2 r2 (List.mem_of_getElem? e4)
    refine (zipR_eq (o1.1.trans o2.1.symm)).mpr fun p s s2 e2 e5 => ?_
    exact (zipS_eq ((o1.2 p s e2).1.trans (o2.2 p s2 e5).1.symm)).mpr fun a c c2 e3 e6 => e i p a r s c r2 s2 c2 e1 e2 e3 e4 e5 e6

/-! ### the table that has nothing -/
def emptyT (sz m : Nat) : Tab := List.replicate m (List.replicate sz (List.replicate 27 none))
theorem okT_empty (sz m : Nat) : OkT sz m (emptyT sz m) := by
  refine ⟨List.length_replicate, fun r hr => ?_⟩
  rw [List.eq_of_mem_replicate hr]
  refine ⟨List.length_replicate, fun p st hp => ?_⟩
  rw [List.eq_of_mem_replicate (List.mem_of_getElem? hp)]
  refine ⟨List.length_replicate, fun c hc => ?_⟩
  rw [List.eq_of_mem_replicate hc]
  intro n e
  cases e
def spEmpty : Sp := fun vs H Q _ => ∃ (v : V) (sz : Nat) (ks : List Str), vs = [v] ∧ WorldAt H v sz ks ∧ ∀ q H2, Grow H H2 → TabAt H2 (.ref q) (emptyT sz ks.length) → Q (.ref q) H2
theorem flat_one {α : Type} (x : α) : ∀ k : Nat, (List.replicate k [x]).flatten = List.replicate k x
  | 0 => rfl
  | k + 1 => by rw [List.replicate_succ, List.flatten_cons, flat_one x k]; rfl
theorem rd_times {K : PySem.W.Frag} {H : Hp} {l : Addr} {x : V} {n : Int} {Q : VK} (k : Nat) (hn : n = (k : Int)) (h : H l = some (.tup [x])) (k1 : 1 ≤ k) (k2 : k ≤ 1000)
    (fin : ∀ q H2, Grow H H2 → H2 q = some (.tup (List.replicate k x)) → Q (.ref q) H2) : rTimes K (.ref l) (.int n) H Q := by
  subst hn
  refine ⟨l, k, [x], rfl, rfl, SqT.of h, by simp, by omega, by omega, by show 1 ≤ 1000; decide, fun e => ?_, fun _ p np => ?_⟩
  · have e1 : k = 1 := by omega
    subst e1
    exact fin l H Grow.refl h
  · refine fin p _ (Grow.refl.new np _) ?_
    rw [upd_same, Int.toNat_natCast, flat_one]
theorem rdC {K : PySem.W.Frag} {x v : V} {σ : L2.St} {H : Hp} {Q : VK} (h : rTimes K x v H Q) : tC v σ H fun y H2 => rTimes K x y H2 Q := h
theorem tupAt_rep {α : Type} {R : Hp → V → α → Prop} {H : Hp} {q : Addr} {x : V} {y : α} {k : Nat} (h : H q = some (.tup (List.replicate k x))) (hR : R H x y) : TupAt R H (.ref q) (List.replicate k y) := by
  refine ⟨q, _, rfl, h, by simp, fun i a b e1 e2 => ?_⟩
  rw [List.eq_of_mem_replicate (List.mem_of_getElem? e1), List.eq_of_mem_replicate (List.mem_of_getElem? e2)]
  exact hR
section
variable {P : Program} {w : World} {K : PySem.W.Frag} {mg : Str → Option Value} {base : Heap} {f : Addr} {fd : FuncData}
theorem scEmpty : FnScope ["_law_world_here"] ["_law_world_here"] (defScope sEmpty) := ⟨rfl, rfl, rfl, by decide +kernel, rfl, by decide +kernel, by decide +kernel⟩
theorem ok_empty (F : FnP K "_law_empty" sEmpty f fd) (T : Txt mg) : FnOk P w K mg base CX0 1 f fd ["_law_world_here"] spEmpty := by
  refine okN F scEmpty (fun vs H Q E h => ?_) (fun cdv A outer s H vs Q E hr h => ?_)
  · obtain ⟨a, b, c, rfl, _⟩ := h
    rfl
  · obtain ⟨v, sz, ks, rfl, hw, k⟩ := h
    obtain ⟨q, kk, ob, u, w', rfl, hq, hk, hob⟩ := id hw.ex
    refine ⟨_, pss_one (ps_ret (pe_op op_times (pe_tup (pa_cons (pe_op op_times (pe_tup (pa_cons (pe_op op_times (pe_tup (pa_cons pe_non pa_nil)) pe_int) pa_nil)) (pe_ix ix_tup (pv 0) pe_int (fun _ _ => rfl))) pa_nil))
      (pe_callB call_len_seq (by rfl) T.len boot_len (pa_cons (pe_ix ix_tup (pv 0) pe_int (fun _ _ => rfl)) pa_nil)))), ?_⟩
    refine ⟨by show 1 ≤ sizeLine; decide, fun l1 n1 => ?_⟩
    have g1 := Grow.refl.new n1 (.tup [.non])
    refine rdC ?_
    refine rd_times 27 rfl upd_same (by decide) (by decide) fun q1 H1 a1 e1 => ⟨by show 1 ≤ sizeLine; decide, fun l2 n2 => ?_⟩
    have g2 := (g1.trans a1).new n2 (.tup [.ref q1])
    have s1 : StairAt H1 (.ref q1) (List.replicate 27 none) := tupAt_rep e1 rfl
    refine ⟨_, rfl, q, _, _, _, rfl, rfl, SqT.of (g2.keep _ _ hq), at0, ?_⟩
    refine rd_times sz rfl upd_same hw.s1 (by have := hw.s6; omega) fun q2 H2 a2 e2 => ⟨by show 1 ≤ sizeLine; decide, fun l3 n3 => ?_⟩
    have s2 : RowAt H2 (.ref q2) (List.replicate sz (List.replicate 27 none)) := tupAt_rep e2 (StairAt.keep ((Grow.refl.new n2 _).trans a2).kt s1)
    have g3 := (g2.trans a2).new n3 (.tup [.ref q2])
    refine ⟨_, rfl, q, _, _, _, rfl, rfl, SqT.of (g3.keep _ _ hq), at1, kk, _, rfl, .inr (sqF (g3.keep _ _ hk)), ?_⟩
    refine rd_times ks.length (by rw [List.length_map]) upd_same hw.k1 (by have := hw.k4; omega) fun q4 H4 a4 e4 => k q4 H4 (g3.trans a4) ?_
    exact tupAt_rep e4 (RowAt.keep ((Grow.refl.new n3 _).trans a4).kt s2)

/-! ### what stands -/
def spStands : Sp := fun vs H Q _ => ∃ (wv sv : V) (sz : Nat) (ks : List Str) (U : Tab) (i p a : Nat) (k : Str) (o : Int) (r : Row) (s : Stair) (c : Option Int),
  vs = [wv, sv, .str k, .int o, .int (a : Int)] ∧ WorldAt H wv sz ks ∧ TabAt H sv U ∧ ks[i]? = some k ∧ o % (sz : Int) = (p : Int) ∧ a ≤ 26 ∧ U[i]? = some r ∧ r[p]? = some s ∧ s[a]? = some c ∧ Q (cellV c) H
def spHas : Sp := fun vs H Q _ => ∃ (wv sv : V) (sz : Nat) (ks : List Str) (U : Tab) (i p a : Nat) (k : Str) (o : Int) (r : Row) (s : Stair) (c : Option Int),
  vs = [wv, sv, .str k, .int o, .int (a : Int)] ∧ WorldAt H wv sz ks ∧ TabAt H sv U ∧ ks[i]? = some k ∧ o % (sz : Int) = (p : Int) ∧ a ≤ 26 ∧ U[i]? = some r ∧ r[p]? = some s ∧ s[a]? = some c ∧ Q (.bl (hadC c o)) H
theorem scStands : FnScope ["_law_world_here", "_law_sheet", "_law_kind", "_law_place", "_law_age"] ["_law_world_here", "_law_sheet", "_law_kind", "_law_place", "_law_age"] (defScope sStands) :=
  ⟨rfl, rfl, rfl, by decide +kernel, rfl, by decide +kernel, by decide +kernel⟩
theorem scHas : FnScope ["_law_world_here", "_law_sheet", "_law_kind", "_law_origin_here", "_law_age", "_law_number"] ["_law_world_here", "_law_sheet", "_law_kind", "_law_origin_here", "_law_age"] (defScope sHas) :=
  ⟨rfl, rfl, rfl, by decide +kernel, rfl, by decide +kernel, by decide +kernel⟩
theorem fmod_nat {o : Int} {sz p : Nat} (h : o % (sz : Int) = (p : Int)) : o.fmod (sz : Int) = (p : Int) := by
  rw [Int.fmod_eq_emod_of_nonneg o (by omega)]
  exact h
theorem atN {α : Type} {xs : List α} {i : Int} {j : Nat} {v : α} (hi : i = (j : Int)) (h : xs[j]? = some v) : atI xs i = some v := by
  rw [hi]
  exact atI_nat h
theorem ok_stands (F : FnP K "_law_stands" sStands f fd) (T : Txt mg) : FnOk P w K mg base CX0 1 f fd ["_law_world_here", "_law_sheet", "_law_kind", "_law_place", "_law_age"] spStands := by
  refine okN F scStands (fun vs H Q E h => ?_) (fun cdv A outer s H vs Q E hr h => ?_)
  · obtain ⟨a, b, c, d, e, g, i, j, k, l, m, n, o, rfl, _⟩ := h
    rfl
  · obtain ⟨wv, sv, sz, ks, U, i, p, a, k, o, r, st, c, rfl, hw, ht, hk, ho, ha, e1, e2, e3, q⟩ := h
    obtain ⟨wq, kk, ob, u, w', rfl, hq, hkk, hob⟩ := id hw.ex
    obtain ⟨ta, xs, rfl, hta, lx, cx⟩ := ht.get
    obtain ⟨x, ex, rx⟩ := cx i r e1
    obtain ⟨ra, ys, rfl, hra, ly, cy⟩ := rx.get
    obtain ⟨y, ey, ry⟩ := cy p st e2
    obtain ⟨sa, rfl, hsa⟩ := ry.at_
    refine ⟨_, pss_one (ps_ret (pe_ix ix_tup (pe_ix ix_tup (pe_ix ix_tup (pv 1) (pe_bmF PySem.F.slot_tuple_index PySem.F.type_tuple_index mt_tup_index (pe_ix ix_tup (pv 0) pe_int (fun _ _ => rfl)) (pa_cons (pv 2) pa_nil)) (fun _ _ => rfl))
      (pe_op op_modN (pv 3) (pe_ix ix_tup (pv 0) pe_int (fun _ _ => rfl))) (fun _ _ => rfl)) (pe_callB (call_min2 rfl) (by rfl) T.min (by decide +kernel) (pa_cons (pv 4) (pa_cons pe_int pa_nil))) (fun _ _ => rfl))), ?_⟩
    refine ⟨_, rfl, _, rfl, wq, _, _, _, rfl, rfl, SqT.of hq, at1, ⟨kk, ob, _, rfl, hkk, hob⟩, _, rfl, kk, ks, k, i, rfl, rfl, sqF hkk, hk, fun m hm e => ?_, ta, xs, _, _, rfl, rfl, SqT.of hta, atI_nat ex, ?_⟩
    · have := nodup_ix hw.nd e hk
      omega
    · have s1 := hw.s1
      refine ⟨_, rfl, _, rfl, wq, _, _, _, rfl, rfl, SqT.of hq, at0, _, _, rfl, rfl, by omega, ra, ys, _, _, rfl, rfl, SqT.of hra, atN (fmod_nat ho) ey, ?_⟩
      refine ⟨_, rfl, _, _, rfl, sa, _, _, _, rfl, rfl, SqT.of hsa, atN (j := a) ?_ (by rw [List.getElem?_map, e3]; rfl), q⟩
      rw [if_neg (by omega)]
theorem ok_has {fS : Addr} {fdS : FuncData} (F : FnP K "_law_has" sHas f fd) (T : Txt mg) (DS : Fn K mg "_law_stands" sStands ["_law_world_here", "_law_sheet", "_law_kind", "_law_place", "_law_age"] fS fdS) :
    FnOk P w K mg base CX0 2 f fd ["_law_world_here", "_law_sheet", "_law_kind", "_law_origin_here", "_law_age"] spHas := by
  have GS : FnOk P w K mg base CX0 1 fS fdS ["_law_world_here", "_law_sheet", "_law_kind", "_law_place", "_law_age"] spStands := ok_stands DS.F T
  refine okN F scHas (fun vs H Q E h => ?_) (fun cdv A outer s H vs Q E hr h => ?_)
  · obtain ⟨a, b, c, d, e, g, i, j, k, l, m, n, o, rfl, _⟩ := h
    rfl
  · obtain ⟨wv, sv, sz, ks, U, i, p, a, k, o, r, st, c, rfl, hw, ht, hk, ho, ha, e1, e2, e3, q⟩ := h
    refine ⟨_, pss_cons (ps_set (i := 5) scHas.nd rfl (.inl rfl) (pcall DS GS hr rfl (pa_cons (pv 0) (pa_cons (pv 1) (pa_cons (pv 2) (pa_cons (pv 3) (pa_cons (pv 4) pa_nil)))))))
      (pss_one (ps_ret (pe_and (pe_cmp (pc_notN (pv 5))) (pe_one (pe_cmpR op_le (pv 5) (pv 3) (nomark _)))))), ?_⟩
    refine ⟨_, rfl, _, rfl, _, rfl, _, rfl, _, rfl, wv, sv, sz, ks, U, i, p, a, k, o, r, st, c, rfl, hw, ht, hk, ho, ha, e1, e2, e3, ?_⟩
    cases c with
    | none => exact ⟨_, rfl, false, rfl, iteF q⟩
    | some n => exact ⟨_, rfl, true, rfl, iteT ⟨_, rfl, _, rfl, n, o, rfl, rfl, q⟩⟩
end
end K15

namespace K15
open L2 PySem PyProof.Rows PySem.Spec

/-! ### all had -/
abbrev nAll : List Str := ["_law_world_here", "_law_one", "_law_other", "_law_at", "_law_kind", "_law_place", "_law_age", "_law_number"]
def spAllHad : Sp := fun vs H Q _ => ∃ (wv v u : V) (sz : Nat) (ks : List Str) (U1 U2 : Tab), vs = [wv, v, u] ∧ WorldAt H wv sz ks ∧ TabAt H v U1 ∧ TabAt H u U2 ∧ OkT sz ks.length U1 ∧ OkT sz ks.length U2 ∧
  ∀ H2, Grow H H2 → Q (.bl (inT U1 U2)) H2
section
variable {P : Program} {w : World} {K : PySem.W.Frag} {mg : Str → Option Value} {base : Heap} {f : Addr} {fd : FuncData}
theorem scAllHad : FnScope nAll ["_law_world_here", "_law_one", "_law_other"] (defScope sAllHad) :=
  ⟨rfl, rfl, rfl, by decide +kernel, rfl, by decide +kernel, by decide +kernel⟩
theorem ok_allhad {fS fH : Addr} {fdS fdH : FuncData} (F : FnP K "_law_all_had" sAllHad f fd) (T : Txt mg) (DS : Fn K mg "_law_stands" sStands ["_law_world_here", "_law_sheet", "_law_kind", "_law_place", "_law_age"] fS fdS)
    (DH : Fn K mg "_law_has" sHas ["_law_world_here", "_law_sheet", "_law_kind", "_law_origin_here", "_law_age"] fH fdH) :
    FnOk P w K mg base CX0 3 f fd ["_law_world_here", "_law_one", "_law_other"] spAllHad := by
  have GH : FnOk P w K mg base CX0 2 fH fdH ["_law_world_here", "_law_sheet", "_law_kind", "_law_origin_here", "_law_age"] spHas := ok_has DH.F T DS
  refine okN F scAllHad (fun vs H Q E h => ?_) (fun cdv A outer s H vs Q E hr h => ?_)
  · obtain ⟨a, b, c, d, e, g, i, rfl, _⟩ := h
    rfl
  · obtain ⟨wv, v, u, sz, ks, U1, U2, rfl, hw, h1, h2, o1, o2, k⟩ := h
    obtain ⟨wq, kk, ob, w3, w4, rfl, hq, hkk, hob⟩ := id hw.ex
    obtain ⟨ta, xs, rfl, hta, lx, cx⟩ := h1.get
    refine ⟨_, pss_cons (ps_for PassesOwn.never rfl (pi_enumT (by rfl) T.enumerate (pa_cons (pe_ix ix_tup (pv 0) pe_int (fun _ _ => rfl)) pa_nil))
          (pg_tup rfl (pgs_cons (pg_name (i := 3) scAllHad.nd rfl (.inl rfl)) (pgs_cons (pg_name (i := 4) scAllHad.nd rfl (.inl rfl)) pgs_nil)))
        (pss_one (ps_for PassesOwn.never rfl (pi_range1 (by rfl) T.range (pa_cons (pe_ix ix_tup (pv 0) pe_int (fun _ _ => rfl)) pa_nil)) (pg_name (i := 5) scAllHad.nd rfl (.inl rfl))
          (pss_one (ps_for PassesOwn.never rfl (pi_enumT (by rfl) T.enumerate (pa_cons (pe_ix ix_tup (pe_ix ix_tup (pv 1) (pv 3) (fun _ _ => rfl)) (pv 5) (fun _ _ => rfl)) pa_nil))
              (pg_tup rfl (pgs_cons (pg_name (i := 6) scAllHad.nd rfl (.inl rfl)) (pgs_cons (pg_name (i := 7) scAllHad.nd rfl (.inl rfl)) pgs_nil)))
            (pss_one (ps_if (PW.pt (pw_and (pt_cmp (pc_notN (pv 7))) (pw_and1 (pt_not (pt_val (pcall DH GH hr rfl (pa_cons (pv 0) (pa_cons (pv 2) (pa_cons (pv 4) (pa_cons (pv 7) (pa_cons (pv 6) pa_nil))))))))))) (pss_one (ps_ret pe_bl)) pss_nil)))))))
      (pss_one (ps_ret pe_bl)), ?_⟩
    refine ⟨_, rfl, wq, _, _, _, rfl, rfl, SqT.of hq, at1, kk, _, rfl, sqF hkk, ?_⟩
    refine for_it (walk_enumT (xs := ks.map V.str)) (fun i σ H2 => (∃ y3 y4 y5 y6 y7, σ = [some (V.ref wq), some (V.ref ta), some u, y3, y4, y5, y6, y7]) ∧ Grow H H2 ∧ ∀ i', i' < i → ∀ p a, GoodC U1 U2 i' p a)
      ⟨⟨_, _, _, _, _, rfl⟩, Grow.refl, fun i' h => by omega⟩ (fun i σ H2 _ p => sqF (p.2.1.keep _ _ hkk)) ?_ ?_
    · rintro i x σ H2 H3 hi ⟨⟨y3, y4, y5, y6, y7, rfl⟩, gw, good⟩ ⟨Tp, y0, y1, rfl, nT, rfl, e0, e1⟩
      rw [List.length_map] at hi
      have ek : ks[i]? = some (ks[i]'hi) := List.getElem?_eq_getElem hi
      simp only [List.getElem?_map, ek, Option.map_some, Option.some.injEq] at e0 e1
      subst e0 e1
      have g1 := gw.new nT (.tup [.int (i : Nat), .str ks[i]])
      have l1 := o1.1
      have l2 := o2.1
      have er : U1[i]? = some (U1[i]'(by omega)) := List.getElem?_eq_getElem (by omega)
      have er2 : U2[i]? = some (U2[i]'(by omega)) := List.getElem?_eq_getElem (by omega)
      obtain ⟨x, ex, rx⟩ := cx i _ er
      obtain ⟨ra, ys, rfl, hra, ly, cy⟩ := rx.get
      have or1 := o1.2 _ (List.mem_of_getElem? er)
      have or2 := o2.2 _ (List.mem_of_getElem? er2)
      refine ⟨Tp, _, rfl, SqT.of upd_same, rfl, _, _, rfl, _, _, rfl, rfl, _, rfl, wq, _, _, _, rfl, rfl, SqT.of (g1.keep _ _ hq), at0, sz, rfl, by omega, by have := hw.s6; omega, ?_⟩
      refine for_it (walk_range (lo := 0) (n := (sz : Int).toNat)) (fun j σ H4 => (∃ y5 y6 y7, σ = [some (V.ref wq), some (V.ref ta), some u, some (.int (i : Nat)), some (.str ks[i]), y5, y6, y7]) ∧ Grow H H4 ∧ ∀ p', p' < j → ∀ a, GoodC U1 U2 i p' a)
        ⟨⟨_, _, _, rfl⟩, g1, fun i' h => by omega⟩ (fun _ _ _ _ _ => trivial) ?_ ?_
      · rintro j x σ H4 H5 hj ⟨⟨y5, y6, y7, rfl⟩, gw4, good4⟩ ⟨rfl, rfl⟩
        have hj2 : j < sz := by omega
        have l3 := or1.1
        have l4 := or2.1
        have es : (U1[i]'(by omega))[j]? = some ((U1[i]'(by omega))[j]'(by omega)) := List.getElem?_eq_getElem (by omega)
        have es2 : (U2[i]'(by omega))[j]? = some ((U2[i]'(by omega))[j]'(by omega)) := List.getElem?_eq_getElem (by omega)
        obtain ⟨y, ey, ry⟩ := cy j _ es
        obtain ⟨sa, rfl, hsa⟩ := ry.at_
        have os1 := or1.2 j _ es
        have os2 := or2.2 j _ es2
        generalize hs1 : (U1[i]'(by omega))[j]'(by omega) = s1 at es hsa os1
        generalize hs2 : (U2[i]'(by omega))[j]'(by omega) = s2 at es2 os2
        refine ⟨_, rfl, _, rfl, ta, xs, _, _, rfl, rfl, SqT.of (gw4.keep _ _ hta), atI_nat ex, _, rfl, ra, ys, _, _, rfl, rfl, SqT.of (gw4.keep _ _ hra), atN (Int.zero_add _) ey, sa, _, rfl, SqT.of (gw4.keep _ _ hsa), ?_⟩
        refine for_it (walk_enumT (xs := s1.map cellV)) (fun a σ H6 => (∃ y6 y7, σ = [some (V.ref wq), some (V.ref ta), some u, some (.int (i : Nat)), some (.str ks[i]), some (.int (0 + (j : Int))), y6, y7]) ∧ Grow H H6 ∧ ∀ a', a' < a → GoodC U1 U2 i j a')
          ⟨⟨_, _, rfl⟩, gw4, fun i' h => by omega⟩ (fun i σ H2 _ p => SqT.of (p.2.1.keep _ _ hsa)) ?_ ?_
        · rintro a x σ H6 H7 ha ⟨⟨y6, y7, rfl⟩, gw6, good6⟩ ⟨Tp2, z0, z1, rfl, nT2, rfl, e0, e1⟩
          rw [List.length_map, os1.1] at ha
          have ec : s1[a]? = some (s1[a]'(by rw [os1.1]; exact ha)) := List.getElem?_eq_getElem (by rw [os1.1]; exact ha)
          have ec2 : s2[a]? = some (s2[a]'(by rw [os2.1]; exact ha)) := List.getElem?_eq_getElem (by rw [os2.1]; exact ha)
          generalize s1[a]'(by rw [os1.1]; exact ha) = c at ec
          generalize s2[a]'(by rw [os2.1]; exact ha) = c2 at ec2
          simp only [List.getElem?_map, ec, Option.map_some, Option.some.injEq] at e0 e1
          subst e0 e1
          have g7 := gw6.new nT2 (.tup [.int (a : Nat), cellV c])
          -- one more is good
          have next : le c c2 = c2 → ∀ a', a' < a + 1 → GoodC U1 U2 i j a' := by
            intro q a' ha'
            by_cases h : a' < a
            · exact good6 a' h
            · have : a' = a := by omega
              subst this
              intro r s c' r2 s2' c2' q1 q2 q3 q4 q5 q6
              rw [er] at q1
              cases q1
              rw [es] at q2
              cases q2
              rw [ec] at q3
              cases q3
              rw [er2] at q4
              cases q4
              rw [es2] at q5
              cases q5
              rw [ec2] at q6
              cases q6
              exact q
          refine ⟨Tp2, _, rfl, SqT.of upd_same, rfl, _, _, rfl, _, _, rfl, rfl, ?_⟩
          cases c with
          | none => exact ⟨_, rfl, false, rfl, iteF (iteF ⟨⟨_, _, rfl⟩, g7, next rfl⟩)⟩
          | some n =>
            have hn := os1.2 _ (List.mem_of_getElem? ec) n rfl
            refine ⟨_, rfl, true, rfl, iteT ?_⟩
            refine ⟨_, rfl, _, rfl, _, rfl, _, rfl, _, rfl, V.ref wq, u, sz, ks, U2, i, j, a, ks[i], n, _, s2, c2, rfl, hw.grow g7, TabAt.keep g7.kt h2, ek, hn.1, by omega, er2, es2, ec2, _, rfl, ?_⟩
            cases hh : hadC c2 n with
            | true => exact iteF ⟨⟨_, _, rfl⟩, g7, next ((had_le n c2).mp hh)⟩
            | false =>
              refine iteT ?_
              have bad : inT U1 U2 = false := by
                cases hb : inT U1 U2 with
                | false => rfl
                | true =>
                  have q := (inT_iff o1 o2).mp hb i j a _ _ _ _ _ _ er es ec er2 es2 ec2
                  rw [(had_le n c2).mpr q] at hh
                  cases hh
              have q := k _ g7
              rw [bad] at q
              exact q
        · rintro σ H6 ⟨⟨y6, y7, rfl⟩, gw6, good6⟩
          refine ⟨⟨_, _, _, rfl⟩, gw6, fun p' hp' a => ?_⟩
          by_cases h : p' < j
          · exact good4 p' h a
          · have : p' = j := by omega
            subst this
            by_cases ha : a < (s1.map cellV).length
            · exact good6 a ha
            · intro r s c r2 s2' c2 q1 q2 q3 q4 q5 q6
              rw [er] at q1
              cases q1
              rw [es] at q2
              cases q2
              have := (List.getElem?_eq_some_iff.mp q3).1
              rw [List.length_map] at ha
              omega
      · rintro σ H4 ⟨⟨y5, y6, y7, rfl⟩, gw4, good4⟩
        refine ⟨⟨_, _, _, _, _, rfl⟩, gw4, fun i' hi' p a => ?_⟩
        by_cases h : i' < i
        · exact good i' h p a
        · have : i' = i := by omega
          subst this
          by_cases hp : p < (sz : Int).toNat
          · exact good4 p hp a
          · intro r s c r2 s2 c2 q1 q2 q3 q4 q5 q6
            rw [er] at q1
            cases q1
            have h3 := (List.getElem?_eq_some_iff.mp q2).1
            have h4 := or1.1
            omega
    · rintro σ H2 ⟨⟨y3, y4, y5, y6, y7, rfl⟩, gw, good⟩
      have fine : inT U1 U2 = true := by
        refine (inT_iff o1 o2).mpr fun i p a => ?_
        by_cases h : i < (ks.map V.str).length
        · exact good i h p a
        · intro r s c r2 s2 c2 q1 q2 q3 q4 q5 q6
          have h3 := (List.getElem?_eq_some_iff.mp q1).1
          have h4 := o1.1
          rw [List.length_map] at h
          omega
      have q := k _ gw
      rw [fine] at q
      exact q
end
end K15

namespace K15
open L2 PySem PyProof.Rows PySem.Spec
theorem cut_to {xs : List V} {p : Nat} {i : Int} (hi : i = (p : Int)) : cutV xs none (some i) = xs.take p := by
  subst hi
  unfold cutV
  rw [HT.sIx_none, HT.sIx_nat, List.drop_zero, Nat.sub_zero]
  by_cases h : p ≤ xs.length
  · rw [Nat.min_eq_left h]
  · rw [Nat.min_eq_right (by omega), List.take_of_length_le (by omega), List.take_of_length_le (by omega)]
theorem cut_from {xs : List V} {p : Nat} {i : Int} (hi : i = (p : Int)) : cutV xs (some i) none = xs.drop p := by
  subst hi
  unfold cutV
  rw [HT.sIx_none, HT.sIx_nat]
  by_cases h : p ≤ xs.length
  · rw [Nat.min_eq_left h, List.take_of_length_le (by rw [List.length_drop]; omega)]
  · rw [Nat.min_eq_right (by omega), List.drop_of_length_le (by omega), List.drop_of_length_le (by omega)]
    simp
theorem rd_slice {K : PySem.W.Frag} {H : Hp} {a : Addr} {xs : List V} {lo hi : Option Int} {Q : VK} (h : H a = some (.tup xs))
    (fin : ∀ q H2, Grow H H2 → H2 q = some (.tup (cutV xs lo hi)) → Q (.ref q) H2) : rSlA K (.ref a) lo hi H Q := by
  refine ⟨a, xs, rfl, SqT.of h, fun ⟨e1, e2⟩ => fin a H Grow.refl ?_, fun _ p np => fin p _ (Grow.refl.new np _) upd_same⟩
  rw [h]
  unfold cutV
  rw [e1, e2, List.drop_zero, Nat.sub_zero, List.take_of_length_le (Nat.le_refl _)]
theorem rdN {K : PySem.W.Frag} {x : V} {l : Option Int} {σ : L2.St} {H : Hp} {Q : VK} (h : rSlA K x l none H Q) : tNoPart σ H fun u H3 => rSlA K x l u H3 Q := h
theorem rd_cat {K : PySem.W.Frag} {H : Hp} {a b : Addr} {xs ys : List V} {Q : VK} (h : H a = some (.tup xs)) (h2 : H b = some (.tup ys)) (hz : xs.length + ys.length ≤ 1000)
    (fin : ∀ q H2, Grow H H2 → H2 q = some (.tup (xs ++ ys)) → Q (.ref q) H2) : rCatA K (.ref a) (.ref b) H Q := by
  refine ⟨a, b, xs, ys, rfl, rfl, SqT.of h, SqT.of h2, by rw [sizeLine_eq]; omega, fun e => fin b H Grow.refl ?_, fun _ e => fin a H Grow.refl ?_, fun _ _ p np => fin p _ (Grow.refl.new np _) upd_same⟩
  · rw [e, List.nil_append]
    exact h2
  · rw [e, List.append_nil]
    exact h
theorem set_cut {α : Type} {xs : List α} {p : Nat} {x : α} (h : p < xs.length) : xs.take p ++ [x] ++ xs.drop (p + 1) = xs.set p x := by
  rw [List.set_eq_take_append_cons_drop, if_pos h, List.append_assoc]
  rfl
theorem tupAt_set {α : Type} {R : Hp → V → α → Prop} {H : Hp} {q : Addr} {xs : List V} {l : List α} {p : Nat} {x : V} {y : α} (h : H q = some (.tup (xs.set p x))) (n : xs.length = l.length)
    (c : ∀ (i : Nat) (x : V) (y : α), xs[i]? = some x → l[i]? = some y → R H x y) (hR : R H x y) : TupAt R H (.ref q) (l.set p y) := by
  refine ⟨q, _, rfl, h, by rw [List.length_set, List.length_set, n], fun i a b e1 e2 => ?_⟩
  rw [List.getElem?_set] at e1 e2
  by_cases hi : p = i
  · rw [if_pos hi] at e1 e2
    split at e1
    · split at e2
      · cases e1
        cases e2
        exact hR
      · cases e2
    · cases e1
  · rw [if_neg hi] at e1 e2
    exact c i a b e1 e2
/-- the stair is lessened -/
theorem le_self (c : Option Int) : le c c = c := by
  cases c with
  | none => rfl
  | some x => simp [le]
def LeS (s t : Stair) : Prop := ∀ (a : Nat) (c c2 : Option Int), s[a]? = some c → t[a]? = some c2 → le c c2 = c2
theorem leS_set {s t : Stair} {m : Nat} {o : Int} {c : Option Int} (h : LeS s t) (hm : t[m]? = some c) (hc : c = none ∨ ∃ v, c = some v ∧ o < v) : LeS s (t.set m (some o)) := by
  intro a x y e1 e2
  rw [List.getElem?_set] at e2
  by_cases hi : m = a
  · rw [if_pos hi] at e2
    split at e2
    · cases e2
      subst hi
      have q := h m x c e1 hm
      cases x with
      | none => rfl
      | some x =>
        rcases hc with rfl | ⟨v, rfl, hv⟩
        · cases q
        · simp only [le, Option.some.injEq] at q ⊢
          by_cases h1 : v < x
          · rw [if_pos (by omega)]
          · rw [if_neg h1] at q
            rw [if_pos (by omega)]
    · cases e2
  · rw [if_neg hi] at e2
    exact h a x y e1 e2
theorem inT_set {sz m : Nat} {T : Tab} {i p : Nat} {r : Row} {s t : Stair} (h : OkT sz m T) (er : T[i]? = some r) (es : r[p]? = some s) (ot : OkS sz p t) (hs : LeS s t) :
    OkT sz m (T.set i (r.set p t)) ∧ inT T (T.set i (r.set p t)) = true := by
  have or1 := h.2 r (List.mem_of_getElem? er)
  have ok : OkT sz m (T.set i (r.set p t)) := by
    refine ⟨by rw [List.length_set]; exact h.1, fun r2 hr => ?_⟩
    rcases List.mem_or_eq_of_mem_set hr with q | q
    · exact h.2 r2 q
    · rw [q]
      refine ⟨by rw [List.length_set]; exact or1.1, fun p2 s2 e => ?_⟩
      rw [List.getElem?_set] at e
      by_cases hp : p = p2
      · rw [if_pos hp] at e
        split at e
        · cases e
          exact hp ▸ ot
        · cases e
      · rw [if_neg hp] at e
        exact or1.2 p2 s2 e
  refine ⟨ok, (inT_iff h ok).mpr ?_⟩
  intro i2 p2 a r1 s1 c r2 s2 c2 e1 e2 e3 e4 e5 e6
  rw [List.getElem?_set] at e4
  by_cases hi : i = i2
  · rw [if_pos hi] at e4
    split at e4
    · cases e4
      subst hi
      rw [er] at e1
      cases e1
      rw [List.getElem?_set] at e5
      by_cases hp : p = p2
      · rw [if_pos hp] at e5
        split at e5
        · cases e5
          subst hp
          rw [es] at e2
          cases e2
          exact hs a c c2 e3 e6
        · cases e5
      · rw [if_neg hp, e2] at e5
        cases e5
        rw [e3] at e6
        cases e6
        exact le_self c
    · cases e4
  · rw [if_neg hi, e1] at e4
    cases e4
    rw [e2] at e5
    cases e5
    rw [e3] at e6
    cases e6
    exact le_self c
abbrev nPut : List Str := ["_law_world_here", "_law_sheet", "_law_thing", "_law_kind", "_law_origin_here", "_law_age", "_law_at", "_law_place", "_law_stair_here", "_law_k", "_law_row"]
def spPutIn : Sp := fun vs H Q _ => ∃ (wv sv : V) (ta : Addr) (sz : Nat) (ks : List Str) (U : Tab) (k : Str) (o : Int) (a : Nat), vs = [wv, sv, .ref ta] ∧ H ta = some (.tup [.str k, .int o, .int (a : Int)]) ∧
  WorldAt H wv sz ks ∧ TabAt H sv U ∧ OkT sz ks.length U ∧ k ∈ ks ∧ a ≤ 26 ∧ -20 ≤ o ∧ o ≤ 3000000000000000 ∧
  ∀ q H2 U2, OkT sz ks.length U2 → inT U U2 = true → Grow H H2 → TabAt H2 (.ref q) U2 → Q (.ref q) H2
section
variable {P : Program} {w : World} {K : PySem.W.Frag} {mg : Str → Option Value} {base : Heap} {f : Addr} {fd : FuncData}
theorem scPut : FnScope nPut ["_law_world_here", "_law_sheet", "_law_thing"] (defScope sPut) := ⟨rfl, rfl, rfl, by decide +kernel, rfl, by decide +kernel, by decide +kernel⟩
theorem ok_putin (F : FnP K "_law_put" sPut f fd) (T : Txt mg) : FnOk P w K mg base CX0 1 f fd ["_law_world_here", "_law_sheet", "_law_thing"] spPutIn := by
  refine okN F scPut (fun vs H Q E h => ?_) (fun cdv A outer s H vs Q E hr h => ?_)
  · obtain ⟨a, b, c, d, e, g, i, j, k, rfl, _⟩ := h
    rfl
  · obtain ⟨wv, sv, tt, sz, ks, U, k, o, a, rfl, htt, hw, ht, ok, hk, ha, oa, ob2, fin⟩ := h
    obtain ⟨wq, kk, ob, u, w', rfl, hq, hkk, hob⟩ := id hw.ex
    obtain ⟨i, ek⟩ := List.mem_iff_getElem?.mp hk
    have li := (List.getElem?_eq_some_iff.mp ek).1
    have lU := ok.1
    have s1 := hw.s1
    have s6 := hw.s6
    have k4 := hw.k4
    have er : U[i]? = some (U[i]'(by omega)) := List.getElem?_eq_getElem (by omega)
    generalize U[i]'(by omega) = r at er
    have or1 := ok.2 r (List.mem_of_getElem? er)
    have lr := or1.1
    have ho : 0 ≤ o % (sz : Int) ∧ o % (sz : Int) < (sz : Int) := ⟨Int.emod_nonneg _ (by omega), Int.emod_lt_of_pos _ (by omega)⟩
    obtain ⟨p, hp⟩ : ∃ p : Nat, o % (sz : Int) = (p : Int) := ⟨(o % (sz : Int)).toNat, by omega⟩
    have lp : p < r.length := by omega
    have es : r[p]? = some (r[p]'lp) := List.getElem?_eq_getElem lp
    generalize r[p]'lp = st at es
    have os := or1.2 p st es
    obtain ⟨ta, xs, rfl, hta, lx, cx⟩ := ht
    obtain ⟨x, ex⟩ : ∃ x, xs[i]? = some x := ⟨xs[i]'(by omega), List.getElem?_eq_getElem (by omega)⟩
    obtain ⟨ra, ys, rfl, hra, ly, cy⟩ := cx i x r ex er
    obtain ⟨y, ey⟩ : ∃ y, ys[p]? = some y := ⟨ys[p]'(by omega), List.getElem?_eq_getElem (by omega)⟩
    obtain ⟨sa, rfl, hsa⟩ := StairAt.at_ (cy p y st ey es)
    have fo : o.fmod (sz : Int) = (p : Int) := fmod_nat hp
    refine ⟨_, pss_cons (ps_asg (pv 2) (pg_tup rfl (pgs_cons (pg_name (i := 3) scPut.nd rfl (.inl rfl)) (pgs_cons (pg_name (i := 4) scPut.nd rfl (.inl rfl)) (pgs_cons (pg_name (i := 5) scPut.nd rfl (.inl rfl)) pgs_nil)))))
      (pss_cons (ps_par (i := 6) (j := 7) rfl scPut.nd rfl rfl (by decide) rfl rfl (pa_cons (pe_bmF PySem.F.slot_tuple_index PySem.F.type_tuple_index mt_tup_index (pe_ix ix_tup (pv 0) pe_int (fun _ _ => rfl)) (pa_cons (pv 3) pa_nil))
          (pa_cons (pe_op op_modN (pv 4) (pe_ix ix_tup (pv 0) pe_int (fun _ _ => rfl))) pa_nil)) (by rfl))
      (pss_cons (ps_set (i := 8) scPut.nd rfl (.inl rfl) (pe_callTy call_list_of (by rfl) T.list (by decide +kernel) (pa_cons (pe_ix ix_tup (pe_ix ix_tup (pv 1) (pv 6) (fun _ _ => rfl)) (pv 7) (fun _ _ => rfl)) pa_nil)))
      (pss_cons (ps_for PassesOwn.never rfl (pi_range2 (by rfl) T.range (pa_cons (pv 5) (pa_cons pe_int pa_nil))) (pg_name (i := 9) scPut.nd rfl (.inl rfl))
        (pss_one (ps_if (PW.pt (pw_or (pt_cmp (pc_isN (pe_ix ix_list (pv 8) (pv 9) (fun _ _ => rfl)))) (pw_or1 (pt_cmpR op_gt (pe_ix ix_list (pv 8) (pv 9) (fun _ _ => rfl)) (pv 4) (nomark _)))))
            (pss_one (ps_asg (pv 4) (pg_sub (pv 8) (pv 9) set_list))) pss_nil)))
      (pss_cons (ps_set (i := 10) scPut.nd rfl (.inl rfl) (pe_op op_catA (pe_op op_catA (pe_slice sl_tupA (pe_ix ix_tup (pv 1) (pv 6) (fun _ _ => rfl)) po_none (po_some (pv 7)))
          (pe_tup (pa_cons (pe_callTy call_tuple_of (by rfl) T.tuple (by decide +kernel) (pa_cons (pv 8) pa_nil)) pa_nil))) (pe_slice sl_tupA (pe_ix ix_tup (pv 1) (pv 6) (fun _ _ => rfl)) (po_some (pe_op op_add (pv 7) pe_int)) po_none)))
      (pss_one (ps_ret (pe_op op_catA (pe_op op_catA (pe_slice sl_tupA (pv 1) po_none (po_some (pv 6))) (pe_tup (pa_cons (pv 10) pa_nil))) (pe_slice sl_tupA (pv 1) (po_some (pe_op op_add (pv 6) pe_int)) po_none)))))))), ?_⟩
    refine ⟨_, rfl, tt, _, rfl, SqT.of htt, rfl, _, _, rfl, _, _, rfl, _, _, rfl, rfl, ?_⟩
    refine ⟨_, rfl, wq, _, _, _, rfl, rfl, SqT.of hq, at1, ⟨kk, ob, _, rfl, hkk, hob⟩, _, rfl, kk, ks, k, i, rfl, rfl, sqF hkk, ek, fun m hm e => ?_, _, rfl, _, rfl, wq, _, _, _, rfl, rfl, SqT.of hq, at0, _, _, rfl, rfl, by omega, _, _, rfl, ?_⟩
    · have := nodup_ix hw.nd e ek
      omega
    refine ⟨_, rfl, _, rfl, ta, _, _, _, rfl, rfl, SqT.of hta, atI_nat ex, _, rfl, ra, _, _, _, rfl, rfl, SqT.of hra, atN fo ey, sa, _, rfl, .inr (SqT.of hsa), fun D nD => ?_⟩
    have g0 := Grow.refl.new nD (.lst (st.map cellV))
    refine ⟨_, rfl, (a : Int), 27, rfl, ⟨by omega, by omega, by decide, by decide⟩, ?_⟩
    refine for_range (lo := (a : Int)) (n := (27 - (a : Int)).toNat) (fun j σ H2 => (∃ y9, σ = [some (V.ref wq), some (V.ref ta), some (V.ref tt), some (V.str k), some (V.int o), some (V.int (a : Int)), some (V.int (i : Nat)), some (V.int (o.fmod (sz : Int))), some (V.ref D), y9, none]) ∧
        Grow H H2 ∧ ∃ c : Stair, H2 D = some (.lst (c.map cellV)) ∧ OkS sz p c ∧ LeS st c)
      ⟨⟨none, rfl⟩, g0, st, upd_same, os, fun a c c2 e1 e2 => ?_⟩ ?_ ?_
    · rw [e1] at e2
      cases e2
      exact le_self c
    · rintro j σ H2 hj ⟨⟨y9, rfl⟩, gw, c, ec, oc, lc⟩
      obtain ⟨m, hm⟩ : ∃ m : Nat, (a : Int) + (j : Int) = (m : Int) := ⟨a + j, by omega⟩
      have lm : m < c.length := by
        rw [oc.1]
        omega
      have e1 : c[m]? = some (c[m]'lm) := List.getElem?_eq_getElem lm
      generalize c[m]'lm = cm at e1
      have hx : atI (c.map cellV) ((a : Int) + (j : Int)) = some (cellV cm) := atN hm (by rw [List.getElem?_map, e1]; rfl)
      have hix : ixN (c.map cellV).length ((a : Int) + (j : Int)) = some m := by
        rw [hm]
        exact ixL (by rw [List.length_map]; exact lm)
      have oo : OkC sz p (some o) := okC_some ⟨hp, oa, ob2⟩
      have store : (cm = none ∨ ∃ v, cm = some v ∧ o < v) → ∃ c2 : Stair, upd H2 D (.lst ((c.map cellV).set m (.int o))) D = some (.lst (c2.map cellV)) ∧ OkS sz p c2 ∧ LeS st c2 := fun hc =>
        ⟨c.set m (some o), by rw [upd_same, List.map_set]; rfl, ⟨by rw [List.length_set]; exact oc.1, fun c3 h3 => by
          rcases List.mem_or_eq_of_mem_set h3 with q | q
          · exact oc.2 c3 q
          · rw [q]
            exact oo⟩, leS_set lc e1 hc⟩
      refine ⟨_, rfl, _, rfl, D, _, _, _, rfl, rfl, SqL.of ec, hx, _, rfl, ?_⟩
      cases cm with
      | none => refine iteT (iteT ⟨_, rfl, _, rfl, _, rfl, D, _, _, m, rfl, rfl, ec, hix, ⟨_, rfl⟩, gw.put nD _, store (.inl rfl)⟩)
      | some v =>
        refine iteF ⟨_, rfl, _, rfl, D, _, _, _, rfl, rfl, SqL.of ec, hx, _, rfl, _, _, rfl, rfl, _, rfl, ?_⟩
        refine ite2 (fun hv => ⟨_, rfl, _, rfl, _, rfl, D, _, _, m, rfl, rfl, ec, hix, ⟨_, rfl⟩, gw.put nD _, store (.inr ⟨v, rfl, by simpa using hv⟩)⟩) (fun _ => ⟨⟨_, rfl⟩, gw, c, ec, oc, lc⟩)
    · rintro σ H2 ⟨⟨y9, rfl⟩, gw, c, ec, oc, lc⟩
      -- the row
      refine ⟨_, rfl, _, rfl, ta, _, _, _, rfl, rfl, SqT.of (gw.keep _ _ hta), atI_nat ex, _, rfl, _, rfl, ?_⟩
      refine rd_slice (gw.keep _ _ hra) fun q1 H3 g3 e3 => ?_
      rw [cut_to fo] at e3
      refine ⟨_, rfl, D, _, rfl, .inl ⟨SqL.of (g3.keep _ _ ec), fun q2 n2 => ⟨by show 1 ≤ sizeLine; decide, fun q3 n3 => ?_⟩⟩⟩
      have g4 := (Grow.refl.new n2 (.tup (c.map cellV))).new n3 (.tup [.ref q2])
      have l1 : (ys.take p).length ≤ 6 := by
        rw [List.length_take]
        omega
      refine rd_cat (g4.keep _ _ e3) upd_same (by show _ + 1 ≤ 1000; omega) fun q4 H5 g5 e5 => ?_
      have g25 := (g3.trans g4).trans g5
      refine ⟨_, rfl, _, rfl, ta, _, _, _, rfl, rfl, SqT.of (g25.keep _ _ (gw.keep _ _ hta)), atI_nat ex, _, rfl, _, _, rfl, rfl, _, rfl, ?_⟩
      refine rdN ?_
      refine rd_slice (g25.keep _ _ (gw.keep _ _ hra)) fun q6 H7 g7 e7 => ?_
      rw [cut_from (p := p + 1) (by rw [fo]; rfl)] at e7
      have l2 : (ys.drop (p + 1)).length ≤ 6 := by
        rw [List.length_drop]
        omega
      refine rd_cat (g7.keep _ _ e5) e7 (by rw [List.length_append]; show _ + 1 + _ ≤ 1000; omega) fun q8 H9 g9 e9 => ?_
      rw [set_cut (by omega)] at e9
      have g29 := (g25.trans g7).trans g9
      -- the table
      refine ⟨_, rfl, _, rfl, _, rfl, ?_⟩
      refine rd_slice (g29.keep _ _ (gw.keep _ _ hta)) fun q10 H11 g11 e11 => ?_
      rw [cut_to (p := i) rfl] at e11
      refine ⟨_, rfl, by show 1 ≤ sizeLine; decide, fun q12 n12 => ?_⟩
      have g12 := Grow.refl.new n12 (.tup [.ref q8])
      have l3 : (xs.take i).length ≤ 6 := by
        rw [List.length_take]
        omega
      refine rd_cat (g12.keep _ _ e11) upd_same (by show _ + 1 ≤ 1000; omega) fun q13 H14 g14 e14 => ?_
      have g2e := ((g29.trans g11).trans g12).trans g14
      refine ⟨_, rfl, _, rfl, _, _, rfl, rfl, _, rfl, ?_⟩
      refine rdN ?_
      refine rd_slice (g2e.keep _ _ (gw.keep _ _ hta)) fun q15 H16 g16 e16 => ?_
      rw [cut_from (i := (i : Int) + 1) (p := i + 1) rfl] at e16
      have l4 : (xs.drop (i + 1)).length ≤ 6 := by
        rw [List.length_drop]
        omega
      refine rd_cat (g16.keep _ _ e14) e16 (by rw [List.length_append]; show _ + 1 + _ ≤ 1000; omega) fun q17 H18 g18 e18 => ?_
      rw [set_cut (by omega)] at e18
      have gAll := ((gw.trans g2e).trans g16).trans g18
      obtain ⟨ok2, in2⟩ := inT_set ok er es oc lc
      refine fin q17 H18 _ ok2 in2 gAll ?_
      -- the new things stand
      have g3e := (((g9.trans g11).trans g12).trans g14).trans (g16.trans g18)
      have g8e := ((g11.trans g12).trans g14).trans (g16.trans g18)
      have eS : H18 q2 = some (.tup (c.map cellV)) := by
        have h1 := (Grow.refl.new n3 (.tup [.ref q2])).keep q2 (.tup (c.map cellV)) upd_same
        exact g3e.keep _ _ (g7.keep _ _ (g5.keep _ _ h1))
      refine tupAt_set e18 lx (fun i2 x2 r2 h1 h2 => RowAt.keep gAll.kt (cx i2 x2 r2 h1 h2)) ?_
      refine tupAt_set (g8e.keep _ _ e9) ly (fun p2 y2 s2 h1 h2 => StairAt.keep gAll.kt (cy p2 y2 s2 h1 h2)) ?_
      exact StairAt.of eS
end
end K15

/-! the plain law: what is within what, by cells -/
namespace K15
open L2 PySem PyProof.Rows PySem.Spec
theorem le_tr {a b c : Option Int} (h1 : le a b = b) (h2 : le b c = c) : le a c = c := by
  cases a with
  | none => rfl
  | some x =>
    cases b with
    | none => cases h1
    | some y =>
      cases c with
      | none => cases h2
      | some z =>
        simp only [le, Option.some.injEq] at h1 h2 ⊢
        by_cases a1 : y < x
        · by_cases a2 : z < y
          · rw [if_pos (by omega)]
          · rw [if_neg a2] at h2
            rw [if_pos (by omega)]
        · rw [if_neg a1] at h1
          subst h1
          exact h2
theorem le_as {a b : Option Int} (h1 : le a b = b) (h2 : le b a = a) : a = b := by
  cases a with
  | none =>
    cases b with
    | none => rfl
    | some y => cases h2
  | some x =>
    cases b with
    | none => cases h1
    | some y =>
      simp only [le, Option.some.injEq] at h1 h2 ⊢
      by_cases a1 : y < x
      · rw [if_neg (by omega)] at h2
        exact h2.symm
      · rw [if_neg a1] at h1
        exact h1
theorem le_gr {x a b : Option Int} (h1 : le x a = a) (h2 : le x b = b) : le x (gr a b) = gr a b := by
  rcases gr_one a b with q | q | q
  · rw [q]
    exact h1
  · rw [q]
    exact h2
  · cases a with
    | none => exact h1
    | some y =>
      cases b with
      | none => exact h2
      | some z => cases q
theorem le_lub {a b y : Option Int} (h1 : le a y = y) (h2 : le b y = y) : le (le a b) y = y := by
  rcases le_one a b with q | q | q
  · rw [q]
    exact h1
  · rw [q]
    exact h2
  · rw [q]
    rfl
theorem gr_l (a b : Option Int) : le (gr a b) a = a := by
  cases a with
  | none => rfl
  | some x =>
    cases b with
    | none => rfl
    | some y =>
      simp only [gr, le, Option.some.injEq]
      by_cases h : y > x
      · rw [if_pos h, if_pos (show x < y by omega)]
      · rw [if_neg h, if_neg (show ¬ x < x by omega)]
theorem gr_r (a b : Option Int) : le (gr a b) b = b := by
  cases a with
  | none => rfl
  | some x =>
    cases b with
    | none => rfl
    | some y =>
      simp only [gr, le, Option.some.injEq]
      by_cases h : y > x
      · rw [if_pos h, if_neg (by omega)]
      · rw [if_neg h]
        by_cases h2 : y < x
        · rw [if_pos h2]
        · rw [if_neg h2]
          omega
theorem le_l (a b : Option Int) : le a (le a b) = le a b := by
  cases a with
  | none => rfl
  | some x =>
    cases b with
    | none => simp [le]
    | some y =>
      simp only [le, Option.some.injEq]
      by_cases h : y < x
      · rw [if_pos h, if_pos h]
      · rw [if_neg h, if_neg (show ¬ x < x by omega)]
theorem le_r (a b : Option Int) : le b (le a b) = le a b := by
  cases a with
  | none => cases b <;> simp [le]
  | some x =>
    cases b with
    | none => rfl
    | some y =>
      simp only [le, Option.some.injEq]
      by_cases h : y < x
      · rw [if_pos h, if_neg (by omega)]
      · rw [if_neg h]
        by_cases h2 : x < y
        · rw [if_pos h2]
        · rw [if_neg h2]
          omega

/-! ### cells of a table -/
def cell (T : Tab) (i p a : Nat) : Option Int := ((T.getD i []).getD p []).getD a none
theorem cell_of {T : Tab} {i p a : Nat} {r : Row} {s : Stair} {c : Option Int} (e1 : T[i]? = some r) (e2 : r[p]? = some s) (e3 : s[a]? = some c) : cell T i p a = c := by
  unfold cell
  simp only [List.getD_eq_getElem?_getD, e1, Option.getD_some, e2, e3]
theorem cell_get {sz m : Nat} {T : Tab} {i p a : Nat} (h : OkT sz m T) (hi : i < m) (hp : p < sz) (ha : a < 27) : ∃ r s, T[i]? = some r ∧ r[p]? = some s ∧ s[a]? = some (cell T i p a) := by
  have l1 := h.1
  have e1 : T[i]? = some (T[i]'(by omega)) := List.getElem?_eq_getElem (by omega)
  have o1 := h.2 _ (List.mem_of_getElem? e1)
  have l2 := o1.1
  have e2 : (T[i]'(by omega))[p]? = some ((T[i]'(by omega))[p]'(by omega)) := List.getElem?_eq_getElem (by omega)
  have o2 := o1.2 _ _ e2
  have l3 := o2.1
  have e3 : ((T[i]'(by omega))[p]'(by omega))[a]? = some (((T[i]'(by omega))[p]'(by omega))[a]'(by omega)) := List.getElem?_eq_getElem (by omega)
  refine ⟨_, _, e1, e2, ?_⟩
  rw [cell_of e1 e2 e3]
  exact e3
theorem inC {sz m : Nat} {T U : Tab} (h1 : OkT sz m T) (h2 : OkT sz m U) : inT T U = true ↔ ∀ i p a, i < m → p < sz → a < 27 → le (cell T i p a) (cell U i p a) = cell U i p a := by
  rw [inT_iff h1 h2]
  constructor
  · intro g i p a hi hp ha
    obtain ⟨r, s, e1, e2, e3⟩ := cell_get h1 hi hp ha
    obtain ⟨r2, s2, e4, e5, e6⟩ := cell_get h2 hi hp ha
    exact g i p a _ _ _ _ _ _ e1 e2 e3 e4 e5 e6
  · intro g i p a r s c r2 s2 c2 e1 e2 e3 e4 e5 e6
    have l1 := (List.getElem?_eq_some_iff.mp e1).1
    have l2 := (List.getElem?_eq_some_iff.mp e2).1
    have l3 := (List.getElem?_eq_some_iff.mp e3).1
    have o1 := h1.2 _ (List.mem_of_getElem? e1)
    have o2 := o1.2 _ _ e2
    have q := g i p a (by rw [← h1.1]; exact l1) (by rw [← o1.1]; exact l2) (by rw [← o2.1]; exact l3)
    rw [cell_of e1 e2 e3, cell_of e4 e5 e6] at q
    exact q
theorem cell_zip {op : Option Int → Option Int → Option Int} {sz m : Nat} {T U : Tab} {i p a : Nat} (h1 : OkT sz m T) (h2 : OkT sz m U) (hi : i < m) (hp : p < sz) (ha : a < 27) :
    cell (zipT op T U) i p a = op (cell T i p a) (cell U i p a) := by
  obtain ⟨r, s, e1, e2, e3⟩ := cell_get h1 hi hp ha
  obtain ⟨r2, s2, e4, e5, e6⟩ := cell_get h2 hi hp ha
  exact cell_of (zipT_get e1 e4) (zipR_get e2 e5) (zipS_get e3 e6)
theorem tab_ext {sz m : Nat} {T U : Tab} (h1 : OkT sz m T) (h2 : OkT sz m U) (h : ∀ i p a, i < m → p < sz → a < 27 → cell T i p a = cell U i p a) : T = U := by
  refine List.ext_getElem? fun i => ?_
  by_cases hi : i < m
  · have e1 : T[i]? = some (T[i]'(by rw [h1.1]; exact hi)) := List.getElem?_eq_getElem (by rw [h1.1]; exact hi)
    have e4 : U[i]? = some (U[i]'(by rw [h2.1]; exact hi)) := List.getElem?_eq_getElem (by rw [h2.1]; exact hi)
    have o1 := h1.2 _ (List.mem_of_getElem? e1)
    have o2 := h2.2 _ (List.mem_of_getElem? e4)
    rw [e1, e4]
    refine congrArg some (List.ext_getElem? fun p => ?_)
    by_cases hp : p < sz
    · have e2 : (T[i]'(by rw [h1.1]; exact hi))[p]? = some ((T[i]'(by rw [h1.1]; exact hi))[p]'(by rw [o1.1]; exact hp)) := List.getElem?_eq_getElem (by rw [o1.1]; exact hp)
      have e5 : (U[i]'(by rw [h2.1]; exact hi))[p]? = some ((U[i]'(by rw [h2.1]; exact hi))[p]'(by rw [o2.1]; exact hp)) := List.getElem?_eq_getElem (by rw [o2.1]; exact hp)
      have o3 := o1.2 _ _ e2
      have o4 := o2.2 _ _ e5
      rw [e2, e5]
      refine congrArg some (List.ext_getElem? fun a => ?_)
      by_cases ha : a < 27
      · have e3 := List.getElem?_eq_getElem (l := (T[i]'(by rw [h1.1]; exact hi))[p]'(by rw [o1.1]; exact hp)) (i := a) (by rw [o3.1]; exact ha)
        have e6 := List.getElem?_eq_getElem (l := (U[i]'(by rw [h2.1]; exact hi))[p]'(by rw [o2.1]; exact hp)) (i := a) (by rw [o4.1]; exact ha)
        have q := h i p a hi hp ha
        rw [cell_of e1 e2 e3, cell_of e4 e5 e6] at q
        rw [e3, e6, q]
      · rw [List.getElem?_eq_none (by rw [o3.1]; omega), List.getElem?_eq_none (by rw [o4.1]; omega)]
    · rw [List.getElem?_eq_none (by rw [o1.1]; omega), List.getElem?_eq_none (by rw [o2.1]; omega)]
  · rw [List.getElem?_eq_none (by rw [h1.1]; omega), List.getElem?_eq_none (by rw [h2.1]; omega)]
theorem inT_self {sz m : Nat} {T : Tab} (h : OkT sz m T) : inT T T = true := (inC h h).mpr fun _ _ _ _ _ _ => by
  cases cell T _ _ _ with
  | none => rfl
  | some x => simp [le]
theorem inT_tr {sz m : Nat} {T U W : Tab} (h1 : OkT sz m T) (h2 : OkT sz m U) (h3 : OkT sz m W) (a : inT T U = true) (b : inT U W = true) : inT T W = true :=
  (inC h1 h3).mpr fun i p x hi hp hx => le_tr ((inC h1 h2).mp a i p x hi hp hx) ((inC h2 h3).mp b i p x hi hp hx)
theorem inT_as {sz m : Nat} {T U : Tab} (h1 : OkT sz m T) (h2 : OkT sz m U) (a : inT T U = true) (b : inT U T = true) : T = U :=
  tab_ext h1 h2 fun i p x hi hp hx => le_as ((inC h1 h2).mp a i p x hi hp hx) ((inC h2 h1).mp b i p x hi hp hx)

/-- the six tables -/
def sixT (T U W : Tab) (sz m : Nat) : List Tab := [T, U, W, emptyT sz m, zipT gr T U, zipT le T U]
def Mx (L : List Tab) (i j : Nat) : Bool := inT (L.getD i []) (L.getD j [])
structure Fine (L : List Tab) (sz m : Nat) : Prop where
  len : L.length = 6
  ok : ∀ i, i < 6 → OkT sz m (L.getD i [])
  as : ∀ i k, i < 6 → k < 6 → Mx L i k = true → Mx L k i = true → L.getD i [] = L.getD k []
  tr : ∀ i k j, i < 6 → k < 6 → j < 6 → Mx L i k = true → Mx L k j = true → Mx L i j = true
  glb : ∀ i, i < 6 → Mx L i 0 = true → Mx L i 1 = true → Mx L i 4 = true
  lub : ∀ k, k < 6 → Mx L 0 k = true → Mx L 1 k = true → Mx L 5 k = true
  m40 : Mx L 4 0 = true
  m41 : Mx L 4 1 = true
  m05 : Mx L 0 5 = true
  m15 : Mx L 1 5 = true
  m02 : Mx L 0 2 = true
  m30 : Mx L 3 0 = true
theorem cell_empty {sz m i p a : Nat} (hi : i < m) (hp : p < sz) (ha : a < 27) : cell (emptyT sz m) i p a = none := by
  obtain ⟨r, s, e1, e2, e3⟩ := cell_get (okT_empty sz m) hi hp ha
  have q1 := List.eq_of_mem_replicate (List.mem_of_getElem? e1)
  subst q1
  have q2 := List.eq_of_mem_replicate (List.mem_of_getElem? e2)
  subst q2
  exact List.eq_of_mem_replicate (List.mem_of_getElem? e3)
theorem fine_six {sz m : Nat} {T U W : Tab} (h0 : OkT sz m T) (h1 : OkT sz m U) (h2 : OkT sz m W) (hW : inT T W = true) : Fine (sixT T U W sz m) sz m := by
  have h3 := okT_empty sz m
  have h4 : OkT sz m (zipT gr T U) := okT_zip gr_one h0 h1
  have h5 : OkT sz m (zipT le T U) := okT_zip le_one h0 h1
  have ok : ∀ i, i < 6 → OkT sz m ((sixT T U W sz m).getD i []) := by
    intro i hi
    obtain rfl | rfl | rfl | rfl | rfl | rfl : i = 0 ∨ i = 1 ∨ i = 2 ∨ i = 3 ∨ i = 4 ∨ i = 5 := by omega
    · exact h0
    · exact h1
    · exact h2
    · exact h3
    · exact h4
    · exact h5
  refine ⟨rfl, ok, fun i k hi hk a b => inT_as (ok i hi) (ok k hk) a b, fun i k j hi hk hj a b => inT_tr (ok i hi) (ok k hk) (ok j hj) a b, fun i hi a b => ?_, fun k hk a b => ?_, ?_, ?_, ?_, ?_, hW, ?_⟩
  · refine (inC (ok i hi) h4).mpr fun j p x hj hp hx => ?_
    rw [cell_zip h0 h1 hj hp hx]
    exact le_gr ((inC (ok i hi) h0).mp a j p x hj hp hx) ((inC (ok i hi) h1).mp b j p x hj hp hx)
  · refine (inC h5 (ok k hk)).mpr fun j p x hj hp hx => ?_
    rw [cell_zip h0 h1 hj hp hx]
    exact le_lub ((inC h0 (ok k hk)).mp a j p x hj hp hx) ((inC h1 (ok k hk)).mp b j p x hj hp hx)
  · refine (inC h4 h0).mpr fun j p x hj hp hx => ?_
    rw [cell_zip h0 h1 hj hp hx]
    exact gr_l _ _
  · refine (inC h4 h1).mpr fun j p x hj hp hx => ?_
    rw [cell_zip h0 h1 hj hp hx]
    exact gr_r _ _
  · refine (inC h0 h5).mpr fun j p x hj hp hx => ?_
    rw [cell_zip h0 h1 hj hp hx]
    exact le_l _ _
  · refine (inC h1 h5).mpr fun j p x hj hp hx => ?_
    rw [cell_zip h0 h1 hj hp hx]
    exact le_r _ _
  · refine (inC h3 h0).mpr fun j p x hj hp hx => ?_
    rw [cell_empty hj hp hx]
    rfl
end K15

namespace K15
open L2 PySem PyProof.Rows PySem.Spec
/-! ### same -/
def spSame (K : PySem.W.Frag) : Sp := fun vs H Q _ => ∃ (a b : Addr) (d : PyData) (dep blk : Nat), vs = [.ref a, .ref b] ∧ Dp K H (.ref a) d ∧ Dp K H (.ref b) d ∧ Gd d dep blk ∧ dep ≤ 60 ∧ blk ≤ 10000 ∧ Q (.bl true) H
section
variable {P : Program} {w : World} {K : PySem.W.Frag} {mg : Str → Option Value} {base : Heap} {f : Addr} {fd : FuncData}
theorem scSame : FnScope ["_law_found", "_law_due"] ["_law_found", "_law_due"] (defScope sSame) := ⟨rfl, rfl, rfl, by decide +kernel, rfl, by decide +kernel, by decide +kernel⟩
theorem Gd.le {d : PyData} {dep blk : Nat} (h : Gd d dep blk) (hd : dep ≤ 60) : d.depth ≤ 60 := Nat.le_trans h.dep hd
theorem ok_same (F : FnP K "_law_same" sSame f fd) (T : Txt mg) : FnG P w K mg base 1 f fd ["_law_found", "_law_due"] (spSame K) := by
  refine okG F scSame (fun vs H Q E h => ?_) (fun cdv A outer s H vs Q E hg hr h => ?_)
  · obtain ⟨a, b, c, d, e, rfl, _⟩ := h
    rfl
  · obtain ⟨a, b, d, dep, blk, rfl, h1, h2, g, hd, hb, q⟩ := h
    refine ⟨_, PSs.nox (pss_one (ps_ret (pe_cmpR op_eq (pe_callB (call_show hg hr.units) (by rfl) T.repr (by decide +kernel) (pa_cons (pv 0) pa_nil))
      (pe_callB (call_show hg hr.units) (by rfl) T.repr (by decide +kernel) (pa_cons (pv 1) pa_nil)) (nomark _)))), ?_⟩
    refine ⟨_, rfl, a, d, rfl, h1, g.sh, g.nd, g.le hd, g.fits hb, _, rfl, b, d, rfl, h2, g.sh, g.nd, g.le hd, g.fits hb, rfl, ?_⟩
    have e : decide (V.str d.shown = V.str d.shown) = true := decide_eq_true rfl
    show Q (V.bl (decide (V.str d.shown = V.str d.shown))) H
    rw [e]
    exact q
end

/-! ### the tables in a list, the matrix -/
structure TabsAt (H : Hp) (tl : Addr) (L : List Tab) : Prop where
  ex : ∃ xs : List V, H tl = some (.lst xs) ∧ xs.length = L.length ∧ ∀ (i : Nat) (x : V) (U : Tab), xs[i]? = some x → L[i]? = some U → TabAt H x U
theorem TabsAt.grow {H H2 : Hp} {tl : Addr} {L : List Tab} (g : Grow H H2) (h : TabsAt H tl L) : TabsAt H2 tl L := by
  obtain ⟨xs, e, l, c⟩ := h.ex
  exact ⟨xs, g.keep _ _ e, l, fun i x U e1 e2 => TabAt.keep g.kt (c i x U e1 e2)⟩
theorem TabsAt.dp {K : PySem.W.Frag} {H : Hp} {tl : Addr} {L : List Tab} (h : TabsAt H tl L) : Dp K H (.ref tl) (dTabs L) := by
  obtain ⟨xs, e, l, c⟩ := h.ex
  exact .lst (SqL.of e) (dpAll_of (R := TabAt H) (fun x y h => TabAt.dp h) l c)
def mat (L : List Tab) : List (List Bool) := L.map fun A => L.map fun B => inT A B
structure MatAt (H : Hp) (fm : Addr) (M : List (List Bool)) : Prop where
  ex : ∃ xs : List V, H fm = some (.lst xs) ∧ xs.length = M.length ∧ ∀ (i : Nat) (x : V) (r : List Bool), xs[i]? = some x → M[i]? = some r → ∃ b, x = .ref b ∧ H b = some (.lst (r.map V.bl))
theorem MatAt.grow {H H2 : Hp} {fm : Addr} {M : List (List Bool)} (g : Grow H H2) (h : MatAt H fm M) : MatAt H2 fm M := by
  obtain ⟨xs, e, l, c⟩ := h.ex
  refine ⟨xs, g.keep _ _ e, l, fun i x r e1 e2 => ?_⟩
  obtain ⟨b, q, e3⟩ := c i x r e1 e2
  exact ⟨b, q, g.keep _ _ e3⟩
theorem bools_dp {K : PySem.W.Frag} {H : Hp} {b : Addr} {r : List Bool} (h : H b = some (.lst (r.map V.bl))) : Dp K H (.ref b) (dBools r) := by
  refine .lst (SqL.of h) (dpAll_of (R := fun x y => x = V.bl y) (fun x y h => by rw [h]; exact .bl y) (by simp) fun i x y e1 e2 => ?_)
  rw [List.getElem?_map, e2] at e1
  exact (Option.some.inj e1).symm
theorem MatAt.dp {K : PySem.W.Frag} {H : Hp} {fm : Addr} {M : List (List Bool)} (h : MatAt H fm M) : Dp K H (.ref fm) (dMat M) := by
  obtain ⟨xs, e, l, c⟩ := h.ex
  refine .lst (SqL.of e) (dpAll_of (R := fun x r => ∃ b, x = .ref b ∧ H b = some (.lst (r.map V.bl))) (fun x y h => ?_) l c)
  obtain ⟨b, rfl, e⟩ := h
  exact bools_dp e
theorem getD_of {α : Type} {l : List α} {i : Nat} {d x : α} (h : l[i]? = some x) : l.getD i d = x := by
  rw [List.getD_eq_getElem?_getD, h]
  rfl
theorem MatAt.get {H : Hp} {fm : Addr} {L : List Tab} (h : MatAt H fm (mat L)) (l6 : L.length = 6) {i j : Nat} (hi : i < 6) (hj : j < 6) :
    ∃ (xs bs : List V) (b : Addr), H fm = some (.lst xs) ∧ xs[i]? = some (.ref b) ∧ H b = some (.lst bs) ∧ bs[j]? = some (.bl (Mx L i j)) := by
  obtain ⟨xs, e, l, c⟩ := h.ex
  have lm : (mat L).length = 6 := by unfold mat; rw [List.length_map, l6]
  have e1 : L[i]? = some (L[i]'(by omega)) := List.getElem?_eq_getElem (by omega)
  have e2 : L[j]? = some (L[j]'(by omega)) := List.getElem?_eq_getElem (by omega)
  obtain ⟨x, ex⟩ : ∃ x, xs[i]? = some x := ⟨xs[i]'(by omega), List.getElem?_eq_getElem (by omega)⟩
  have er : (mat L)[i]? = some (L.map fun B => inT (L[i]'(by omega)) B) := by
    unfold mat
    rw [List.getElem?_map, e1]
    rfl
  obtain ⟨b, rfl, eb⟩ := c i x _ ex er
  refine ⟨xs, _, b, e, ex, eb, ?_⟩
  rw [List.map_map, List.getElem?_map, e2]
  show some (V.bl (inT _ _)) = _
  unfold Mx
  rw [getD_of e1, getD_of e2]

/-- [[f(left, right) for right in tables] for left in tables], what stands around left open -/
abbrev t_mat (K : PySem.W.Frag) (tc : TE) : TE := tLc (iList K (tVar 10)) (gName 12) tYes (tLc (iList K (tVar 10)) (gName 13) tYes tc [13]) [12]
theorem rd_matrow {K : PySem.W.Frag} {tc : TE} {tl : Addr} {L : List Tab} {H0 H : Hp} {sz m : Nat} {A : Tab} {v : V} {x0 x1 x2 x3 x4 x5 x6 x7 x8 x9 x11 x13 x14 x15 x16 : Option V} {Q : VK}
    (hL : TabsAt H0 tl L) (l6 : L.length = 6) (ok : ∀ U ∈ L, OkT sz m U) (g0 : Grow H0 H) (hv : TabAt H v A) (okA : OkT sz m A)
    (hc : ∀ (A B : Tab) (v w : V) (H : Hp) (Q : VK), Grow H0 H → TabAt H v A → TabAt H w B → OkT sz m A → OkT sz m B → (∀ H2, Grow H H2 → Q (.bl (inT A B)) H2) →
      tc [x0, x1, x2, x3, x4, x5, x6, x7, x8, x9, some (.ref tl), x11, some v, some w, x14, x15, x16] H Q)
    (k : ∀ q H2, Grow H H2 → H2 q = some (.lst ((L.map fun B => inT A B).map V.bl)) → Q (.ref q) H2) :
    tLc (iList K (tVar 10)) (gName 13) tYes tc [13] [x0, x1, x2, x3, x4, x5, x6, x7, x8, x9, some (.ref tl), x11, some v, x13, x14, x15, x16] H Q := by
  obtain ⟨xs, e, l, c⟩ := (hL.grow g0).ex
  refine ⟨_, rfl, tl, rfl, ⟨_, SqL.of e⟩, fun D nD => ?_⟩
  refine lc_it (walk_list (xs := xs)) (fun i H2 => Grow H H2 ∧ H2 D = some (.lst (((L.map fun B => inT A B).take i).map V.bl))) ⟨Grow.refl.new nD _, upd_same⟩ (fun i H2 _ p => SqL.of (p.1.keep _ _ e)) ?_ ?_
  · rintro i x H2 H3 hi ⟨gw, ed⟩ ⟨rfl, ex⟩
    have e1 : L[i]? = some (L[i]'(by omega)) := List.getElem?_eq_getElem (by omega)
    refine ⟨rfl, yes ?_⟩
    refine hc A _ v x _ _ (g0.trans gw) (TabAt.keep gw.kt hv) (TabAt.keep gw.kt (c i x _ ex e1)) okA (ok _ (List.mem_of_getElem? e1)) fun H4 g4 => ?_
    have e4 := g4.keep _ _ ed
    refine ⟨_, e4, ?_, (gw.trans g4).put nD _, ?_⟩
    · rw [List.length_map, List.length_take, List.length_map, sizeLine_eq]
      omega
    · have e5 : (L.map fun B => inT A B)[i]? = some (inT A (L[i]'(by omega))) := by rw [List.getElem?_map, e1]; rfl
      rw [upd_same, take_next e5, List.map_append]
      rfl
  · rintro H2 ⟨gw, ed⟩
    rw [List.take_of_length_le (by rw [List.length_map]; omega)] at ed
    exact k D H2 gw ed
theorem rd_mat {K : PySem.W.Frag} {tc : TE} {tl : Addr} {L : List Tab} {H0 : Hp} {sz m : Nat} {x0 x1 x2 x3 x4 x5 x6 x7 x8 x9 x11 x12 x13 x14 x15 x16 : Option V} {Q : VK}
    (hL : TabsAt H0 tl L) (l6 : L.length = 6) (ok : ∀ U ∈ L, OkT sz m U)
    (hc : ∀ (A B : Tab) (v w : V) (H : Hp) (Q : VK), Grow H0 H → TabAt H v A → TabAt H w B → OkT sz m A → OkT sz m B → (∀ H2, Grow H H2 → Q (.bl (inT A B)) H2) →
      tc [x0, x1, x2, x3, x4, x5, x6, x7, x8, x9, some (.ref tl), x11, some v, some w, x14, x15, x16] H Q)
    (k : ∀ q H2, Grow H0 H2 → MatAt H2 q (mat L) → Q (.ref q) H2) :
    t_mat K tc [x0, x1, x2, x3, x4, x5, x6, x7, x8, x9, some (.ref tl), x11, x12, x13, x14, x15, x16] H0 Q := by
  obtain ⟨xs, e, l, c⟩ := hL.ex
  refine ⟨_, rfl, tl, rfl, ⟨_, SqL.of e⟩, fun D nD => ?_⟩
  refine lc_it (walk_list (xs := xs)) (fun i H2 => Grow H0 H2 ∧ ∃ zs : List V, H2 D = some (.lst zs) ∧ zs.length = i ∧ ∀ (j : Nat) (z : V) (r : List Bool), zs[j]? = some z → (mat L)[j]? = some r → ∃ b, z = .ref b ∧ H2 b = some (.lst (r.map V.bl)))
    ⟨Grow.refl.new nD _, [], upd_same, rfl, fun j z r e => by simp at e⟩ (fun i H2 _ p => SqL.of (p.1.keep _ _ e)) ?_ ?_
  · rintro i x H2 H3 hi ⟨gw, zs, ez, lz, cz⟩ ⟨rfl, ex⟩
    have e1 : L[i]? = some (L[i]'(by omega)) := List.getElem?_eq_getElem (by omega)
    refine ⟨rfl, yes ?_⟩
    refine rd_matrow hL l6 ok gw (TabAt.keep gw.kt (c i x _ ex e1)) (ok _ (List.mem_of_getElem? e1)) hc fun q H4 g4 e4 => ?_
    have ez4 := g4.keep _ _ ez
    have em : (mat L)[i]? = some (L.map fun B => inT (L[i]'(by omega)) B) := by
      unfold mat
      rw [List.getElem?_map, e1]
      rfl
    refine ⟨zs, ez4, by rw [sizeLine_eq]; omega, (gw.trans g4).put nD _, zs ++ [.ref q], upd_same, by simp [lz], fun j z r h1 h2 => ?_⟩
    rcases get_append_one h1 with h | ⟨rfl, rfl⟩
    · obtain ⟨b, rfl, eb⟩ := cz j z r h h2
      refine ⟨b, rfl, ?_⟩
      rw [upd_ne (fun q => ?_)]
      · exact g4.keep _ _ eb
      · -- a row is not the list of rows
        have hb := g4.keep _ _ eb
        rw [q, ez4] at hb
        injection hb with hb
        injection hb with hb
        have := (List.getElem?_eq_some_iff.mp h).1
        rw [hb, List.getElem?_map] at h
        cases hr : r[j]? with
        | none => rw [hr] at h; cases h
        | some u => rw [hr] at h; cases h
    · rw [lz, em] at h2
      cases h2
      refine ⟨q, rfl, ?_⟩
      rw [upd_ne (fun h => ?_)]
      · exact e4
      · rw [h, ez4] at e4
        injection e4 with e4
        injection e4 with e4
        cases zs with
        | nil =>
          have l4 := congrArg List.length e4
          simp only [List.length_map, List.length_nil] at l4
          omega
        | cons z0 zr =>
          obtain ⟨b, rfl, _⟩ := cz 0 z0 _ rfl (by unfold mat; rw [List.getElem?_map, List.getElem?_eq_getElem (by omega)]; rfl)
          rw [List.map_map] at e4
          cases L with
          | nil => cases l6
          | cons => cases e4
  · rintro H2 ⟨gw, zs, ez, lz, cz⟩
    refine k D H2 gw ⟨zs, ez, ?_, cz⟩
    unfold mat
    rw [List.length_map]
    omega
end K15

namespace K15
open L2 PySem PyProof.Rows PySem.Spec
/-! the three tests of the law's inner loop: each is false -/
abbrev tF (K : PySem.W.Frag) (ti tj : TE) : TE := tOp (rIxL K) (tOp (rIxL K) (tVar 14) ti) tj
abbrev tI (i : Int) : TE := tC (.int i)
/-- what a place's reading gives, the heap as it was -/
def Gives (t : TE) (σ : L2.St) (H : Hp) (i : Nat) : Prop := ∀ Q : VK, Q (.int (i : Int)) H → t σ H Q
theorem rd_found {K : PySem.W.Frag} {σ : L2.St} {H : Hp} {fm : Addr} {L : List Tab} {ti tj : TE} {i j : Nat} {Q : VK} (hm : MatAt H fm (mat L)) (l6 : L.length = 6) (h14 : σ[14]? = some (some (.ref fm)))
    (hi : i < 6) (hj : j < 6) (gi : Gives ti σ H i) (gj : Gives tj σ H j) (q : Q (.bl (Mx L i j)) H) : tF K ti tj σ H Q := by
  obtain ⟨xs, bs, b, e1, e2, e3, e4⟩ := hm.get l6 hi hj
  refine ⟨_, h14, gi _ ⟨fm, xs, _, _, rfl, rfl, SqL.of e1, atI_nat e2, gj _ ⟨b, bs, _, _, rfl, rfl, SqL.of e3, atI_nat e4, q⟩⟩⟩
theorem rd_tab {K : PySem.W.Frag} {σ : L2.St} {H : Hp} {tl : Addr} {L : List Tab} {ti : TE} {i : Nat} {sz m : Nat} {Q : VK} (hL : TabsAt H tl L) (fin : Fine L sz m) (s6 : sz ≤ 6) (m4 : m ≤ 4) (h10 : σ[10]? = some (some (.ref tl)))
    (hi : i < 6) (gi : Gives ti σ H i) (q : Q (.str (dTab (L.getD i [])).shown) H) : tCB (rShow K) (tCons (tOp (rIxL K) (tVar 10) ti) tNil) σ H Q := by
  obtain ⟨xs, e, l, c⟩ := hL.ex
  have l6 := fin.len
  have e1 : L[i]? = some (L[i]'(by omega)) := List.getElem?_eq_getElem (by omega)
  obtain ⟨x, ex⟩ : ∃ x, xs[i]? = some x := ⟨xs[i]'(by omega), List.getElem?_eq_getElem (by omega)⟩
  have t := c i x _ ex e1
  have o := fin.ok i hi
  rw [getD_of e1] at o q
  have g := gd_tab o s6 m4
  obtain ⟨a, ys, rfl, _⟩ := id t
  exact ⟨_, h10, gi _ ⟨tl, xs, _, _, rfl, rfl, SqL.of e, atI_nat ex, a, _, rfl, TabAt.dp t, g.sh, g.nd, g.le (by decide), g.fits (by decide), q⟩⟩
abbrev c1 (K : PySem.W.Frag) : TT := tAnd (tB (tF K (tVar 15) (tVar 7))) (tAnd (tB (tF K (tVar 7) (tVar 15)))
  (tTest (tOp rNe (tCB (rShow K) (tCons (tOp (rIxL K) (tVar 10) (tVar 15)) tNil)) (tCB (rShow K) (tCons (tOp (rIxL K) (tVar 10) (tVar 7)) tNil)))))
theorem rd_c1 {K : PySem.W.Frag} {σ : L2.St} {H : Hp} {fm tl : Addr} {L : List Tab} {i k sz m : Nat} {Q : Bool → Hp → Prop} (hm : MatAt H fm (mat L)) (hL : TabsAt H tl L) (fin : Fine L sz m) (s6 : sz ≤ 6) (m4 : m ≤ 4)
    (h14 : σ[14]? = some (some (.ref fm))) (h10 : σ[10]? = some (some (.ref tl))) (hi : i < 6) (hk : k < 6) (gi : Gives (tVar 15) σ H i) (gk : Gives (tVar 7) σ H k) (q : Q false H) : c1 K σ H Q := by
  refine rd_found hm fin.len h14 hi hk gi gk ⟨_, rfl, ?_⟩
  cases h1 : Mx L i k with
  | false => exact iteF q
  | true =>
    refine iteT (rd_found hm fin.len h14 hk hi gk gi ⟨_, rfl, ?_⟩)
    cases h2 : Mx L k i with
    | false => exact iteF q
    | true =>
      refine iteT (rd_tab hL fin s6 m4 h10 hi gi (rd_tab hL fin s6 m4 h10 hk gk ⟨rfl, false, ?_, q⟩))
      rw [fin.as i k hi hk h1 h2]
      show V.bl (!decide (_ = _)) = V.bl false
      rw [decide_eq_true rfl]
      rfl
abbrev c2 (K : PySem.W.Frag) : TT := tTest (tOp (rNeD K) (tLc (iRng1 (tCons (tI 6) tNil)) (gName 16)
  (tAnd (tB (tF K (tVar 15) (tVar 7))) (tAnd (tB (tF K (tVar 7) (tVar 16))) (tNot (tB (tF K (tVar 15) (tVar 16)))))) (tI 1) [16]) (tLst tNil))
theorem rd_c2 {K : PySem.W.Frag} {x0 x1 x2 x3 x4 x5 x6 x8 x9 x10 x11 x12 x13 x16 : Option V} {H : Hp} {fm : Addr} {L : List Tab} {i k sz m : Nat} {Q : Bool → Hp → Prop} (hm : MatAt H fm (mat L)) (fin : Fine L sz m)
    (hi : i < 6) (hk : k < 6) {vi vk : Int} (ei : vi = (i : Int)) (ek : vk = (k : Int)) (q : ∀ H2, Grow H H2 → Q false H2) :
    c2 K [x0, x1, x2, x3, x4, x5, x6, some (.int vk), x8, x9, x10, x11, x12, x13, some (.ref fm), some (.int vi), x16] H Q := by
  subst ei ek
  refine ⟨6, rfl, by decide, by decide, fun D nD => ?_⟩
  refine lc_it (walk_range (lo := 0) (n := 6)) (fun _ H2 => Grow H H2 ∧ H2 D = some (.lst [])) ⟨Grow.refl.new nD _, upd_same⟩ (fun _ _ _ _ => trivial) ?_ ?_
  · rintro j x H2 H3 hj ⟨gw, ed⟩ ⟨rfl, rfl⟩
    have hm2 := hm.grow gw
    have gI : ∀ (x7 x15 x16 : Option V), Gives (tVar 15) [x0, x1, x2, x3, x4, x5, x6, x7, x8, x9, x10, x11, x12, x13, some (.ref fm), some (.int (i : Int)), x16] H3 i := fun _ _ _ Q q => ⟨_, rfl, q⟩
    have gK : ∀ (x15 x16 : Option V), Gives (tVar 7) [x0, x1, x2, x3, x4, x5, x6, some (.int (k : Int)), x8, x9, x10, x11, x12, x13, some (.ref fm), x15, x16] H3 k := fun _ _ Q q => ⟨_, rfl, q⟩
    have gJ : Gives (tVar 16) [x0, x1, x2, x3, x4, x5, x6, some (.int (k : Int)), x8, x9, x10, x11, x12, x13, some (.ref fm), some (.int (i : Int)), some (.int (0 + (j : Int)))] H3 j := fun Q q => ⟨_, rfl, by rw [Int.zero_add]; exact q⟩
    refine ⟨rfl, ?_⟩
    refine rd_found hm2 fin.len rfl hi hk (gI _ none _) (gK _ _) ⟨_, rfl, ?_⟩
    cases h1 : Mx L i k with
    | false => exact iteF (iteF ⟨gw, ed⟩)
    | true =>
      refine iteT (rd_found hm2 fin.len rfl hk hj (gK _ _) gJ ⟨_, rfl, ?_⟩)
      cases h2 : Mx L k j with
      | false => exact iteF (iteF ⟨gw, ed⟩)
      | true =>
        refine iteT (rd_found hm2 fin.len rfl hi hj (gI _ none _) gJ ⟨_, rfl, ?_⟩)
        rw [fin.tr i k j hi hk hj h1 h2]
        exact iteF ⟨gw, ed⟩
  · rintro H2 ⟨gw, ed⟩
    refine ⟨Nat.zero_le _, fun p np => ?_⟩
    have g2 := Grow.refl.new np (.lst [])
    exact ⟨.list [], .list [], .lst (SqL.of (g2.keep _ _ ed)) .nil, .lst (SqL.of upd_same) .nil, rfl, rfl, _, rfl, q _ (gw.trans g2)⟩
abbrev c3 (K : PySem.W.Frag) : TT := tOr (tAnd (tB (tF K (tVar 15) (tI 0))) (tAnd (tB (tF K (tVar 15) (tI 1))) (tNot (tB (tF K (tVar 15) (tI 4))))))
  (tAnd (tB (tF K (tI 0) (tVar 7))) (tAnd (tB (tF K (tI 1) (tVar 7))) (tNot (tB (tF K (tI 5) (tVar 7))))))
theorem gI {σ : L2.St} {H : Hp} (n : Nat) : Gives (tI (n : Int)) σ H n := fun _ q => q
theorem rd_c3 {K : PySem.W.Frag} {σ : L2.St} {H : Hp} {fm : Addr} {L : List Tab} {i k sz m : Nat} {Q : Bool → Hp → Prop} (hm : MatAt H fm (mat L)) (fin : Fine L sz m)
    (h14 : σ[14]? = some (some (.ref fm))) (hi : i < 6) (hk : k < 6) (gi : Gives (tVar 15) σ H i) (gk : Gives (tVar 7) σ H k) (q : Q false H) : c3 K σ H Q := by
  have one : ∀ R : Bool → Hp → Prop, R false H → tAnd (tB (tF K (tVar 15) (tI 0))) (tAnd (tB (tF K (tVar 15) (tI 1))) (tNot (tB (tF K (tVar 15) (tI 4))))) σ H R := fun R r => by
    refine rd_found hm fin.len h14 hi (j := 0) (by decide) gi (gI 0) ⟨_, rfl, ?_⟩
    cases h1 : Mx L i 0 with
    | false => exact iteF r
    | true =>
      refine iteT (rd_found hm fin.len h14 hi (j := 1) (by decide) gi (gI 1) ⟨_, rfl, ?_⟩)
      cases h2 : Mx L i 1 with
      | false => exact iteF r
      | true =>
        refine iteT (rd_found hm fin.len h14 hi (j := 4) (by decide) gi (gI 4) ⟨_, rfl, ?_⟩)
        rw [fin.glb i hi h1 h2]
        exact r
  refine one _ (iteF ?_)
  refine rd_found hm fin.len h14 (i := 0) (by decide) hk (gI 0) gk ⟨_, rfl, ?_⟩
  cases h1 : Mx L 0 k with
  | false => exact iteF q
  | true =>
    refine iteT (rd_found hm fin.len h14 (i := 1) (by decide) hk (gI 1) gk ⟨_, rfl, ?_⟩)
    cases h2 : Mx L 1 k with
    | false => exact iteF q
    | true =>
      refine iteT (rd_found hm fin.len h14 (i := 5) (by decide) hk (gI 5) gk ⟨_, rfl, ?_⟩)
      rw [fin.lub k hk h1 h2]
      exact q
theorem rd_ifF {c : TT} {t : TS} {D : Ends} {σ : L2.St} {H : Hp} (hc : ∀ Q : Bool → Hp → Prop, (∀ H2, Grow H H2 → Q false H2) → c σ H Q) (nx : ∀ H2, Grow H H2 → D.nx σ H2) : tIfS c t tNext D σ H :=
  hc _ fun H2 g => iteF (nx H2 g)
end K15

namespace K15
open L2 PySem PyProof.Rows PySem.Spec
abbrev nLaw : List Str := ["_law_script", "_law_pool_here", "_law_turn", "_law_world_here", "_law_one", "_law_other", "_law_more", "_law_k", "_law_place", "_law_thing", "_law_tables", "_law_ahead", "_law_left", "_law_right", "_law_found", "_law_i", "_law_m"]
def spLaw (K : PySem.W.Frag) : Sp := fun vs H Q _ => ∃ (a : Addr) (ns : List Int), vs = [.ref a] ∧ SqL K H a (ns.map V.int) ∧ ns.length ≤ 63 ∧ ∀ H2, Q (.bl true) H2
theorem scLaw : FnScope nLaw ["_law_script"] (defScope sLaw) := ⟨rfl, rfl, rfl, by decide +kernel, rfl, by decide +kernel, by decide +kernel⟩
/-- the defs of the text -/
structure Defs (K : PySem.W.Frag) (mg : Str → Option Value) : Prop where
  pool : ∃ f fd, Fn K mg "_law_pool" sPool ["_law_script"] f fd
  draw : ∃ f fd, Fn K mg "_law_draw" sDraw ["_law_pool_here", "_law_many"] f fd
  any : ∃ f fd, Fn K mg "_law_any" sAny ["_law_pool_here", "_law_some"] f fd
  same : ∃ f fd, Fn K mg "_law_same" sSame ["_law_found", "_law_due"] f fd
  way : ∃ f fd, Fn K mg "_law_way" sWay ["_law_pool_here", "_law_size", "_law_names", "_law_wide"] f fd
  world : ∃ f fd, Fn K mg "_law_world" sWorld ["_law_pool_here", "_law_wide"] f fd
  origin : ∃ f fd, Fn K mg "_law_origin" sOrigin ["_law_pool_here", "_law_size", "_law_place", "_law_peaks"] f fd
  stair : ∃ f fd, Fn K mg "_law_stair" sStair ["_law_pool_here", "_law_size", "_law_place", "_law_peaks"] f fd
  table : ∃ f fd, Fn K mg "_law_table" sTable ["_law_pool_here", "_law_world_here", "_law_peaks"] f fd
  empty : ∃ f fd, Fn K mg "_law_empty" sEmpty ["_law_world_here"] f fd
  stands : ∃ f fd, Fn K mg "_law_stands" sStands ["_law_world_here", "_law_sheet", "_law_kind", "_law_place", "_law_age"] f fd
  has : ∃ f fd, Fn K mg "_law_has" sHas ["_law_world_here", "_law_sheet", "_law_kind", "_law_origin_here", "_law_age"] f fd
  put : ∃ f fd, Fn K mg "_law_put" sPut ["_law_world_here", "_law_sheet", "_law_thing"] f fd
  allhad : ∃ f fd, Fn K mg "_law_all_had" sAllHad ["_law_world_here", "_law_one", "_law_other"] f fd
  greater : ∃ f fd, Fn K mg "greater" sGreater ["one", "other"] f fd
  lesser : ∃ f fd, Fn K mg "lesser" sLesser ["one", "other"] f fd
  putT : ∃ f fd, Fn K mg "put_together" sPutT ["one", "other", "choose"] f fd
  both : ∃ f fd, Fn K mg "both" sBoth ["world", "one", "other"] f fd
  either : ∃ f fd, Fn K mg "either" sEither ["world", "one", "other"] f fd
  within : ∃ f fd, Fn K mg "within" sWithin ["one", "other"] f fd

theorem stSeq {t u : TS} {D : Ends} {σ : L2.St} {H : Hp} (h : t { D with nx := u D } σ H) : tSeq t u D σ H := h
theorem stName {i : Nat} {x : V} {σ : L2.St} {H : Hp} {Q : L2.St → Hp → Prop} (h : Q (σ.set i (some x)) H) : gName i x σ H Q := h
theorem stAsg {te : TE} {g : TG} {D : Ends} {σ : L2.St} {H : Hp} (h : te σ H fun x H1 => g x σ H1 D.nx) : tAsg te g D σ H := h
theorem stCons {te : TE} {tr : TA} {σ : L2.St} {H : Hp} {Q : List V → Hp → Prop} (h : te σ H fun x H1 => tr σ H1 fun xs H2 => Q (x :: xs) H2) : tCons te tr σ H Q := h
theorem stLst {t : TA} {σ : L2.St} {H : Hp} {Q : VK} (h : t σ H fun xs H1 => xs.length ≤ sizeLine ∧ ∀ p, H1 p = none → Q (.ref p) (upd H1 p (.lst xs))) : tLst t σ H Q := h
theorem stIfNot {sp : Sp} {t : TA} {u v : TS} {D : Ends} {σ : L2.St} {H : Hp} (h : t σ H fun vs H1 => sp (vs ++ []) H1 (fun x H2 => ∃ c, x = .bl c ∧ if (!c) = true then u D σ H2 else v D σ H2) E0) :
    tIfS (tNot (tB (tCall sp [] E0 t))) u v D σ H := h
theorem rd_six {K : PySem.W.Frag} {σ : L2.St} {H : Hp} {fm : Addr} {L : List Tab} {sz m : Nat} {Q : List V → Hp → Prop} (hm : MatAt H fm (mat L)) (l6 : L.length = 6) (h14 : σ[14]? = some (some (.ref fm))) (fin : Fine L sz m)
    (q : Q ((List.replicate 6 true).map V.bl) H) :
    tCons (tF K (tI 4) (tI 0)) (tCons (tF K (tI 4) (tI 1)) (tCons (tF K (tI 0) (tI 5)) (tCons (tF K (tI 1) (tI 5)) (tCons (tF K (tI 0) (tI 2)) (tCons (tF K (tI 3) (tI 0)) tNil))))) σ H Q := by
  refine stCons (rd_found hm l6 h14 (i := 4) (j := 0) (by decide) (by decide) (gI 4) (gI 0) ?_)
  refine stCons (rd_found hm l6 h14 (i := 4) (j := 1) (by decide) (by decide) (gI 4) (gI 1) ?_)
  refine stCons (rd_found hm l6 h14 (i := 0) (j := 5) (by decide) (by decide) (gI 0) (gI 5) ?_)
  refine stCons (rd_found hm l6 h14 (i := 1) (j := 5) (by decide) (by decide) (gI 1) (gI 5) ?_)
  refine stCons (rd_found hm l6 h14 (i := 0) (j := 2) (by decide) (by decide) (gI 0) (gI 2) ?_)
  refine stCons (rd_found hm l6 h14 (i := 3) (j := 0) (by decide) (by decide) (gI 3) (gI 0) ?_)
  show Q [V.bl (Mx L 4 0), V.bl (Mx L 4 1), V.bl (Mx L 0 5), V.bl (Mx L 1 5), V.bl (Mx L 0 2), V.bl (Mx L 3 0)] H
  rw [fin.m40, fin.m41, fin.m05, fin.m15, fin.m02, fin.m30]
  exact q
abbrev tcW : TE := tCall spWithin [] E0 (tV2 12 13)
abbrev tcA : TE := tCall spAllHad [] E0 (tCons (tVar 3) (tV2 12 13))
/-- what follows the making of the tables, in one turn -/
theorem tabs_six {H : Hp} {tl : Addr} {v0 v1 v2 v3 v4 v5 : V} {A B C D E F : Tab} (e : H tl = some (.lst [v0, v1, v2, v3, v4, v5])) (h0 : TabAt H v0 A) (h1 : TabAt H v1 B) (h2 : TabAt H v2 C) (h3 : TabAt H v3 D)
    (h4 : TabAt H v4 E) (h5 : TabAt H v5 F) : TabsAt H tl [A, B, C, D, E, F] := by
  refine ⟨_, e, rfl, fun i x U e1 e2 => ?_⟩
  match i, e1, e2 with
  | 0, e1, e2 => cases e1; cases e2; exact h0
  | 1, e1, e2 => cases e1; cases e2; exact h1
  | 2, e1, e2 => cases e1; cases e2; exact h2
  | 3, e1, e2 => cases e1; cases e2; exact h3
  | 4, e1, e2 => cases e1; cases e2; exact h4
  | 5, e1, e2 => cases e1; cases e2; exact h5
  | n + 6, e1, _ => cases e1
theorem str_in {ks : List Str} {x : V} (h : x ∈ ks.map V.str) : ∃ k, k ∈ ks ∧ x = .str k := by
  obtain ⟨k, hk, rfl⟩ := List.mem_map.mp h
  exact ⟨k, hk, rfl⟩
section
variable {P : Program} {w : World} {K : PySem.W.Frag} {mg : Str → Option Value} {base : Heap} {f : Addr} {fd : FuncData}
theorem ok_law (F : FnP K "law" sLaw f fd) (T : Txt mg) (Ds : Defs K mg) : FnG P w K mg base 6 f fd ["_law_script"] (spLaw K) := by
  obtain ⟨fPo, dPo, DPo⟩ := Ds.pool
  obtain ⟨fD, dD, D⟩ := Ds.draw
  obtain ⟨fA, dA, DA⟩ := Ds.any
  obtain ⟨fSa, dSa, DSa⟩ := Ds.same
  obtain ⟨fW, dW, DW⟩ := Ds.way
  obtain ⟨fWo, dWo, DWo⟩ := Ds.world
  obtain ⟨fO, dO, DO⟩ := Ds.origin
  obtain ⟨fS, dS, DS⟩ := Ds.stair
  obtain ⟨fT, dT, DT⟩ := Ds.table
  obtain ⟨fE, dE, DE⟩ := Ds.empty
  obtain ⟨fSt, dSt, DSt⟩ := Ds.stands
  obtain ⟨fH, dH, DH⟩ := Ds.has
  obtain ⟨fPi, dPi, DPi⟩ := Ds.put
  obtain ⟨fAl, dAl, DAl⟩ := Ds.allhad
  obtain ⟨fG, dG, DG⟩ := Ds.greater
  obtain ⟨fL, dL, DL⟩ := Ds.lesser
  obtain ⟨fP, dP, DP⟩ := Ds.putT
  obtain ⟨fB, dB, DB⟩ := Ds.both
  obtain ⟨fEi, dEi, DEi⟩ := Ds.either
  obtain ⟨fWi, dWi, DWi⟩ := Ds.within
  have GPo : FnOk P w K mg base CX0 1 fPo dPo _ (spPool K) := ok_pool DPo.F T
  have GD : FnOk P w K mg base CX0 1 fD dD _ spDraw := ok_draw D.F T
  have GA : FnOk P w K mg base CX0 2 fA dA _ spAny := ok_any DA.F T D
  have GSa : FnG P w K mg base 1 fSa dSa _ (spSame K) := ok_same DSa.F T
  have GWo : FnOk P w K mg base CX0 4 fWo dWo _ spWorld := ok_world DWo.F T D DA DW
  have GO : FnOk P w K mg base CX0 3 fO dO _ spOrigin := ok_origin DO.F T D DA
  have GT : FnOk P w K mg base CX0 5 fT dT _ spTable := ok_table DT.F T D DA DO DS
  have GE : FnOk P w K mg base CX0 1 fE dE _ spEmpty := ok_empty DE.F T
  have GPi : FnOk P w K mg base CX0 1 fPi dPi _ spPutIn := ok_putin DPi.F T
  have GAl : FnOk P w K mg base CX0 3 fAl dAl _ spAllHad := ok_allhad DAl.F T DSt DH
  have GB : FnOk P w K mg base CX0 3 fB dB _ (spBoth gr) := ok_both DB.F T DP DG
  have GEi : FnOk P w K mg base CX0 3 fEi dEi _ (spBoth le) := ok_either DEi.F T DP DL
  have GWi : FnOk P w K mg base CX0 3 fWi dWi _ spWithin := ok_within DWi.F T DP DL
  refine okG F scLaw (fun vs H Q E h => ?_) (fun cdv A outer s H vs Q E hg hr h => ?_)
  · obtain ⟨a, b, rfl, _⟩ := h
    rfl
  · obtain ⟨a, ns, rfl, hS, hl, k⟩ := h
    have hr1 : Room 1 _ := hr.mono (by decide)
    have hr2 : Room 2 _ := hr.mono (by decide)
    have hr3 : Room 3 _ := hr.mono (by decide)
    have hr4 : Room 4 _ := hr.mono (by decide)
    refine ⟨_, PSs.nox (pss_cons (ps_set (i := 1) scLaw.nd rfl (.inl rfl) (pcall DPo GPo hr1 rfl (pa_cons (pv 0) pa_nil)))
      (pss_cons (ps_for PassesOwn.never rfl (pi_range1 (by rfl) T.range (pa_cons pe_int pa_nil)) (pg_name (i := 2) scLaw.nd rfl (.inl rfl))
        (pss_cons (ps_set (i := 3) scLaw.nd rfl (.inr rfl) (pcall DWo GWo hr4 rfl (pa_cons (pv 1) (pa_cons pe_bl pa_nil))))
        (pss_cons (ps_par (i := 4) (j := 5) rfl scLaw.nd rfl rfl (by decide) rfl rfl (pa_cons (pcall DT GT hr rfl (pa_cons (pv 1) (pa_cons (pv 3) (pa_cons pe_bl pa_nil))))
            (pa_cons (pcall DT GT hr rfl (pa_cons (pv 1) (pa_cons (pv 3) (pa_cons pe_bl pa_nil)))) pa_nil)) (by rfl))
        (pss_cons (ps_set (i := 6) scLaw.nd rfl (.inl rfl) (pv 4))
        (pss_cons (ps_for PassesOwn.never rfl (pi_range1 (by rfl) T.range (pa_cons (pcall D GD hr1 rfl (pa_cons (pv 1) (pa_cons pe_int pa_nil))) pa_nil)) (pg_name (i := 7) scLaw.nd rfl (.inr rfl))
          (pss_cons (ps_set (i := 8) scLaw.nd rfl (.inl rfl) (pcall D GD hr1 rfl (pa_cons (pv 1) (pa_cons (pe_ix ix_tup (pv 3) pe_int (fun _ _ => rfl)) pa_nil))))
          (pss_cons (ps_set (i := 9) scLaw.nd rfl (.inl rfl) (pe_tup (pa_cons (pcall DA GA hr2 rfl (pa_cons (pv 1) (pa_cons (pe_ix ix_tup (pv 3) pe_int (fun _ _ => rfl)) pa_nil)))
              (pa_cons (pcall DO GO hr3 rfl (pa_cons (pv 1) (pa_cons (pe_ix ix_tup (pv 3) pe_int (fun _ _ => rfl)) (pa_cons (pv 8) (pa_cons pe_bl pa_nil))))) pa_nil))))
          (pss_cons (ps_set (i := 9) scLaw.nd rfl (.inl rfl) (pe_op op_catA (pv 9) (pe_tup (pa_cons (pcall D GD hr1 rfl (pa_cons (pv 1) (pa_cons pe_int pa_nil))) pa_nil))))
          (pss_one (ps_set (i := 6) scLaw.nd rfl (.inl rfl) (pcall DPi GPi hr1 rfl (pa_cons (pv 3) (pa_cons (pv 6) (pa_cons (pv 9) pa_nil))))))))))
        (pss_cons (ps_set (i := 10) scLaw.nd rfl (.inr rfl) (pe_lst (pa_cons (pv 4) (pa_cons (pv 5) (pa_cons (pv 6) (pa_cons (pcall DE GE hr1 rfl (pa_cons (pv 3) pa_nil))
            (pa_cons (pcall DB GB hr3 rfl (pa_cons (pv 3) (pa_cons (pv 4) (pa_cons (pv 5) pa_nil)))) (pa_cons (pcall DEi GEi hr3 rfl (pa_cons (pv 3) (pa_cons (pv 4) (pa_cons (pv 5) pa_nil)))) pa_nil))))))))
        (pss_cons (ps_set (i := 11) scLaw.nd rfl (.inl rfl) (pe_callB (call_show hg hr.units) (by rfl) T.repr (by decide +kernel) (pa_cons (pv 10) pa_nil)))
        (pss_cons (ps_set (i := 14) scLaw.nd rfl (.inr rfl) (pe_lc (own := [("_law_left", 12)]) (te := tLc (iList K (tVar 10)) (gName 13) tYes tcW [13]) rfl scLaw.nd (pi_list (pv 10))
            (blkOk_by (own := [("_law_left", 12)]) (N := nLaw) (sc := defScope sLaw) (by decide +kernel)) (fun _ _ _ _ _ => pg_name (i := 12) scLaw.nd rfl (.inr rfl)) (fun _ _ _ _ _ => pts_nil)
            (fun _ _ _ _ _ => pe_lc (own := [("_law_right", 13)]) rfl scLaw.nd (pi_list (pv 10))
              (blkOk_by (own := [("_law_right", 13)]) (N := nLaw) (sc := relS _ (defScope sLaw)) (by decide +kernel)) (fun _ _ _ _ _ => pg_name (i := 13) scLaw.nd rfl (.inl rfl)) (fun _ _ _ _ _ => pts_nil)
              (fun _ _ _ _ _ => pcall DWi GWi hr3 rfl (pa_cons (pv 12) (pa_cons (pv 13) pa_nil))))))
        (pss_cons (ps_if (pt_not (pt_val (pe_callG GSa hg hr1 rfl DSa.g DSa.F.kp DSa.b (pa_cons (pv 14) (pa_cons (pe_lc (own := [("_law_left", 12)]) (te := tLc (iList K (tVar 10)) (gName 13) tYes tcA [13]) rfl scLaw.nd (pi_list (pv 10))
            (blkOk_by (own := [("_law_left", 12)]) (N := nLaw) (sc := defScope sLaw) (by decide +kernel)) (fun _ _ _ _ _ => pg_name (i := 12) scLaw.nd rfl (.inr rfl)) (fun _ _ _ _ _ => pts_nil)
            (fun _ _ _ _ _ => pe_lc (own := [("_law_right", 13)]) rfl scLaw.nd (pi_list (pv 10))
              (blkOk_by (own := [("_law_right", 13)]) (N := nLaw) (sc := relS _ (defScope sLaw)) (by decide +kernel)) (fun _ _ _ _ _ => pg_name (i := 13) scLaw.nd rfl (.inl rfl)) (fun _ _ _ _ _ => pts_nil)
              (fun _ _ _ _ _ => pcall DAl GAl hr3 rfl (pa_cons (pv 3) (pa_cons (pv 12) (pa_cons (pv 13) pa_nil)))))) pa_nil))))) (pss_one (ps_ret pe_bl)) pss_nil)
        (pss_cons (ps_for PassesOwn.never rfl (pi_range1 (by rfl) T.range (pa_cons pe_int pa_nil)) (pg_name (i := 15) scLaw.nd rfl (.inr rfl))
          (pss_one (ps_for PassesOwn.never rfl (pi_range1 (by rfl) T.range (pa_cons pe_int pa_nil)) (pg_name (i := 7) scLaw.nd rfl (.inr rfl))
            (pss_cons (ps_if (PW.pt (pw_and (pt_val (pe_ix ix_list (pe_ix ix_list (pv 14) (pv 15) (fun _ _ => rfl)) (pv 7) (fun _ _ => rfl))) (pw_and (pt_val (pe_ix ix_list (pe_ix ix_list (pv 14) (pv 7) (fun _ _ => rfl)) (pv 15) (fun _ _ => rfl)))
                (pw_and1 (pt_cmpR op_ne (pe_callB (call_show hg hr.units) (by rfl) T.repr (by decide +kernel) (pa_cons (pe_ix ix_list (pv 10) (pv 15) (fun _ _ => rfl)) pa_nil))
                  (pe_callB (call_show hg hr.units) (by rfl) T.repr (by decide +kernel) (pa_cons (pe_ix ix_list (pv 10) (pv 7) (fun _ _ => rfl)) pa_nil)) (nomark _)))))) (pss_one (ps_ret pe_bl)) pss_nil)
            (pss_cons (ps_if (pt_cmpR (op_neD hr.units) (pe_lc (own := [("_law_m", 16)]) (tt := tAnd (tB (tF K (tVar 15) (tVar 7))) (tAnd (tB (tF K (tVar 7) (tVar 16))) (tNot (tB (tF K (tVar 15) (tVar 16)))))) rfl scLaw.nd (pi_range1 (by rfl) T.range (pa_cons pe_int pa_nil))
                (blkOk_by (own := [("_law_m", 16)]) (N := nLaw) (sc := defScope sLaw) (by decide +kernel)) (fun _ _ _ _ _ => pg_name (i := 16) scLaw.nd rfl (.inl rfl))
                (fun _ _ _ _ _ => pts_one (PW.pt (pw_and (pt_val (pe_ix ix_list (pe_ix ix_list (pv 14) (pv 15) (fun _ _ => rfl)) (pv 7) (fun _ _ => rfl))) (pw_and (pt_val (pe_ix ix_list (pe_ix ix_list (pv 14) (pv 7) (fun _ _ => rfl)) (pv 16) (fun _ _ => rfl)))
                  (pw_and1 (pt_not (pt_val (pe_ix ix_list (pe_ix ix_list (pv 14) (pv 15) (fun _ _ => rfl)) (pv 16) (fun _ _ => rfl)))))))))
                (fun _ _ _ _ _ => pe_int)) (pe_lst pa_nil) (nomark _)) (pss_one (ps_ret pe_bl)) pss_nil)
            (pss_one (ps_if (PW.pt (pw_or (PW.pt (pw_and (pt_val (pe_ix ix_list (pe_ix ix_list (pv 14) (pv 15) (fun _ _ => rfl)) pe_int (fun _ _ => rfl))) (pw_and (pt_val (pe_ix ix_list (pe_ix ix_list (pv 14) (pv 15) (fun _ _ => rfl)) pe_int (fun _ _ => rfl)))
                  (pw_and1 (pt_not (pt_val (pe_ix ix_list (pe_ix ix_list (pv 14) (pv 15) (fun _ _ => rfl)) pe_int (fun _ _ => rfl))))))))
                (pw_or1 (PW.pt (pw_and (pt_val (pe_ix ix_list (pe_ix ix_list (pv 14) pe_int (fun _ _ => rfl)) (pv 7) (fun _ _ => rfl))) (pw_and (pt_val (pe_ix ix_list (pe_ix ix_list (pv 14) pe_int (fun _ _ => rfl)) (pv 7) (fun _ _ => rfl)))
                  (pw_and1 (pt_not (pt_val (pe_ix ix_list (pe_ix ix_list (pv 14) pe_int (fun _ _ => rfl)) (pv 7) (fun _ _ => rfl))))))))))) (pss_one (ps_ret pe_bl)) pss_nil)))))))
        (pss_cons (ps_if (pt_not (pt_val (pe_callG GSa hg hr1 rfl DSa.g DSa.F.kp DSa.b (pa_cons (pe_lst (pa_cons (pe_ix ix_list (pe_ix ix_list (pv 14) pe_int (fun _ _ => rfl)) pe_int (fun _ _ => rfl)) (pa_cons (pe_ix ix_list (pe_ix ix_list (pv 14) pe_int (fun _ _ => rfl)) pe_int (fun _ _ => rfl))
            (pa_cons (pe_ix ix_list (pe_ix ix_list (pv 14) pe_int (fun _ _ => rfl)) pe_int (fun _ _ => rfl)) (pa_cons (pe_ix ix_list (pe_ix ix_list (pv 14) pe_int (fun _ _ => rfl)) pe_int (fun _ _ => rfl))
            (pa_cons (pe_ix ix_list (pe_ix ix_list (pv 14) pe_int (fun _ _ => rfl)) pe_int (fun _ _ => rfl)) (pa_cons (pe_ix ix_list (pe_ix ix_list (pv 14) pe_int (fun _ _ => rfl)) pe_int (fun _ _ => rfl)) pa_nil)))))))
            (pa_cons (pe_op op_rep (pe_lst (pa_cons pe_bl pa_nil)) pe_int) pa_nil))))) (pss_one (ps_ret pe_bl)) pss_nil)
        (pss_one (ps_if (pt_cmpR op_ne (pe_callB (call_show hg hr.units) (by rfl) T.repr (by decide +kernel) (pa_cons (pv 10) pa_nil)) (pv 11) (nomark _)) (pss_one (ps_ret pe_bl)) pss_nil)))))))))))))
      (pss_one (ps_ret pe_bl)))), ?_⟩
    refine ⟨_, rfl, a, ns, rfl, hS, hl, fun P H0 hp0 g00 => ?_⟩
    refine ⟨2, rfl, by decide, by decide, for_range (lo := 0) (n := 2) (fun t σ H => (∃ y2 y3 y4 y5 y6 y7 y8 y9 y10 y11 y12 y13 y14 y15 y16, σ = [some (V.ref a), some (V.ref P.p), y2, y3, y4, y5, y6, y7, y8, y9, y10, y11, y12, y13, y14, y15, y16]) ∧
        Pool P (10000 * (t : Int)) H) ⟨⟨none, none, none, none, none, none, none, none, none, none, none, none, none, none, none, rfl⟩, hp0.mono (by omega)⟩ ?_ ?_⟩
    · rintro t σ H ht ⟨⟨y2, y3, y4, y5, y6, y7, y8, y9, y10, y11, y12, y13, y14, y15, y16, rfl⟩, hp⟩
      -- the world
      refine ⟨_, rfl, P, _, rfl, hp, by omega, fun q Hw sz ks hw stw => ?_⟩
      have hpw := stw.pool _ hp
      -- two tables
      refine ⟨_, rfl, _, rfl, P, _, sz, ks, _, rfl, hw, hpw, by omega, fun q1 H1 U1 ok1 st1 t1 => ?_⟩
      have hp1 := st1.pool _ hpw
      refine ⟨_, rfl, _, rfl, P, _, sz, ks, _, rfl, hw.stp st1, hp1, by omega, fun q2 H2 U2 ok2 st2 t2 => ⟨_, _, rfl, ?_⟩⟩
      have hp2 := st2.pool _ hp1
      have hw2 := (hw.stp st1).stp st2
      have t1' := TabAt.keep st2.kt t1
      -- one more
      refine ⟨_, rfl, _, rfl, P, _, 4, rfl, hp2, by omega, by decide, by decide, fun d H3 d0 d1 st3 => ⟨d, rfl, by omega, by omega, ?_⟩⟩
      refine for_range (lo := 0) (n := d.toNat) (fun j σ H4 => (∃ v6 y7 y8 y9, σ = [some (V.ref a), some (V.ref P.p), some (.int (0 + (t : Int))), some (V.ref q), some (V.ref q1), some (V.ref q2), some v6, y7, y8, y9, y10, y11, y12, y13, y14, y15, y16] ∧
          ∃ U6, TabAt H4 v6 U6 ∧ OkT sz ks.length U6 ∧ inT U1 U6 = true) ∧ Stp P (1 + 10 * (j : Int)) H2 H4)
        ⟨⟨V.ref q1, y7, y8, y9, rfl, U1, TabAt.keep st3.kt t1', ok1, inT_self ok1⟩, st3.mono (by omega)⟩ ?_ ?_
      · rintro j σ H4 hj ⟨⟨v6, y7, y8, y9, rfl, U6, t6, ok6, in6⟩, st4⟩
        have hp4 := st4.pool _ hp2
        have hw4 := hw2.stp st4
        obtain ⟨wq, kk, ob, u, w', ew, hq, hkk, hob⟩ := id hw4.ex
        cases ew
        have s1 := hw4.s1
        have s6 := hw4.s6
        refine ⟨_, rfl, _, rfl, q, _, _, _, rfl, rfl, SqT.of hq, at0, P, _, (sz : Int), rfl, hp4, by omega, by omega, by omega, fun pl H5 p0 p1 st5 => ?_⟩
        obtain ⟨pn, rfl⟩ : ∃ pn : Nat, pl = (pn : Int) := ⟨pl.toNat, by omega⟩
        have hp5 := st5.pool _ hp4
        have q5 := st5.tups _ _ hq
        refine ⟨_, rfl, _, rfl, q, _, _, _, rfl, rfl, SqT.of q5, at1, P, _, kk, _, rfl, hp5, by omega, .inr ⟨ob, st5.frzs _ _ _ hkk⟩, by rw [List.length_map]; exact hw4.k1, by rw [List.length_map]; have := hw4.k4; omega, fun x H6 hx st6 => ?_⟩
        obtain ⟨ky, hky, rfl⟩ := str_in hx
        have hp6 := st6.pool _ hp5
        refine ⟨_, rfl, _, rfl, q, _, _, _, rfl, rfl, SqT.of (st6.tups _ _ q5), at0, _, rfl, P, _, sz, pn, rfl, hp6, by omega, s1, s6, by omega, fun n H7 on st7 => ⟨by show 2 ≤ sizeLine; decide, fun l8 nl8 => ?_⟩⟩
        have hp7 := st7.pool _ hp6
        have z7 := (st5.trans st6).trans st7
        have z8 := z7.new nl8 (.tup [.str ky, .int n])
        have hp8 := z8.pool _ hp4
        refine ⟨_, rfl, _, rfl, P, _, 27, rfl, hp8, by omega, by decide, by decide, fun an H9 a0 a1 st9 => ⟨by show 1 ≤ sizeLine; decide, fun l9 nl9 => ?_⟩⟩
        obtain ⟨ag, rfl⟩ : ∃ ag : Nat, an = (ag : Int) := ⟨an.toNat, by omega⟩
        have e8 := st9.tups l8 _ upd_same
        have e8' := (Grow.refl.new nl9 (.tup [.int (ag : Int)])).kt _ _ e8
        have z9 := (z8.trans st9).new nl9 (.tup [.int (ag : Int)])
        refine ⟨l8, l9, _, _, rfl, rfl, SqT.of e8', SqT.of upd_same, by show 2 + 1 ≤ sizeLine; decide, fun h => by simp at h, fun _ h => by simp at h, fun _ _ l10 nl10 => ?_⟩
        have z10 := z9.new nl10 (.tup ([.str ky, .int n] ++ [.int (ag : Int)]))
        obtain ⟨_, n1, n2⟩ := on n rfl
        refine ⟨_, rfl, _, rfl, _, rfl, V.ref q, v6, l10, sz, ks, U6, ky, n, ag, rfl, upd_same, hw4.stp z10, TabAt.keep z10.kt t6, ok6, hky, by omega, n1, n2, fun qn H11 U7 ok7 in7 g11 t7 => ?_⟩
        exact ⟨⟨_, _, _, _, rfl, U7, t7, ok7, inT_tr ok1 ok6 ok7 in6 in7⟩, ((st4.trans z10).trans (g11.stp P)).mono (by omega)⟩
      · rintro σ H4 ⟨⟨v6, y7, y8, y9, rfl, U6, t6, ok6, in6⟩, st4⟩
        have hp4 := st4.pool _ hp2
        have hw4 := hw2.stp st4
        have ta := TabAt.keep st4.kt t1'
        have tb := TabAt.keep st4.kt t2
        have s6 := hw4.s6
        have m4 := hw4.k4
        -- the six tables
        refine ⟨_, rfl, _, rfl, _, rfl, _, rfl, _, sz, ks, rfl, hw4, fun q3 H5 g5 t3 => ?_⟩
        refine ⟨_, rfl, _, rfl, _, rfl, _, _, _, U1, U2, sz, ks.length, rfl, TabAt.keep g5.kt ta, TabAt.keep g5.kt tb, ok1, ok2, s6, m4, fun H6 q4 g6 t4 => ?_⟩
        have g56 := g5.trans g6
        refine ⟨_, rfl, _, rfl, _, rfl, _, _, _, U1, U2, sz, ks.length, rfl, TabAt.keep g56.kt ta, TabAt.keep g56.kt tb, ok1, ok2, s6, m4, fun H7 q5 g7 t5 => ⟨by show 6 ≤ sizeLine; decide, fun tl ntl => ?_⟩⟩
        have g57 := g56.trans g7
        have gn := Grow.refl.new ntl (.lst [.ref q1, .ref q2, v6, .ref q3, .ref q4, .ref q5])
        have g58 := g57.trans gn
        have fin : Fine (sixT U1 U2 U6 sz ks.length) sz ks.length := fine_six ok1 ok2 ok6 in6
        have hL : TabsAt (upd H7 tl (.lst [.ref q1, .ref q2, v6, .ref q3, .ref q4, .ref q5])) tl (sixT U1 U2 U6 sz ks.length) :=
          tabs_six upd_same (TabAt.keep g58.kt ta) (TabAt.keep g58.kt tb) (TabAt.keep g58.kt t6) (TabAt.keep ((g6.trans g7).trans gn).kt t3) (TabAt.keep (g7.trans gn).kt t4) (TabAt.keep gn.kt t5)
        have okL : ∀ U ∈ sixT U1 U2 U6 sz ks.length, OkT sz ks.length U := fun U hU => by
          obtain ⟨i, hi⟩ := List.mem_iff_getElem?.mp hU
          have li := (List.getElem?_eq_some_iff.mp hi).1
          have := fin.ok i (by rw [← fin.len]; exact li)
          rwa [getD_of hi] at this
        have gdT : Gd (dTabs (sixT U1 U2 U6 sz ks.length)) 4 4062 := gd_tabs okL s6 m4 (by rw [fin.len]; decide)
        have l6 := fin.len
        have hwL := hw4.grow g58
        have hpL : Pool P (10000 * ((t + 1 : Nat) : Int)) (upd H7 tl (.lst [.ref q1, .ref q2, v6, .ref q3, .ref q4, .ref q5])) := (((g58.stp P).pool _ hp4)).mono (by omega)
        generalize sixT U1 U2 U6 sz ks.length = L at fin hL okL gdT l6
        generalize upd H7 tl (.lst [.ref q1, .ref q2, v6, .ref q3, .ref q4, .ref q5]) = HL at hL hwL hpL
        -- ahead
        refine ⟨_, rfl, tl, _, rfl, hL.dp, gdT.sh, gdT.nd, gdT.le (by decide), gdT.fits (by decide), ?_⟩
        -- found
        refine stName ?_
        dsimp only
        refine stSeq ?_
        refine stAsg ?_
        refine rd_mat (K := K) (tc := tcW) hL l6 okL (fun A B v w H Q _ hA hB oA oB kq => ⟨_, rfl, _, rfl, v, w, A, B, sz, ks.length, rfl, hA, hB, oA, oB, s6, m4, kq⟩) fun fm H9 g9 hm => ?_
        refine stName ?_
        dsimp only
        refine stSeq ?_
        have g9' := g9
        have hL9 := hL.grow g9
        have lm : (mat L).length ≤ 6 := by
          unfold mat
          rw [List.length_map]
          omega
        have gdM : Gd (dMat (mat L)) 2 42 := gd_mat (fun r hr => by
          unfold mat at hr
          obtain ⟨A, _, rfl⟩ := List.mem_map.mp hr
          rw [List.length_map]
          omega) lm
        refine stIfNot (stCons ⟨_, rfl, stCons ?_⟩)
        refine rd_mat (K := K) (tc := tcA) hL9 l6 okL (fun A B v w H Q gH hA hB oA oB kq => ⟨_, rfl, _, rfl, _, rfl, V.ref q, v, w, sz, ks, A, B, rfl, (hwL.grow g9).grow gH, hA, hB, oA, oB, kq⟩) fun fa H10 g10 hm2 => ?_
        refine ⟨fm, fa, dMat (mat L), 2, 42, rfl, (hm.grow g10).dp, hm2.dp, gdM, by decide, by decide, _, rfl, iteF ?_⟩
        have hm10 := hm.grow g10
        have hL10 := hL9.grow g10
        dsimp only
        refine stSeq ?_
        refine ⟨6, rfl, by decide, by decide, ?_⟩
        refine for_range (lo := 0) (n := 6) (fun i σ H2 => (∃ z7 z15, σ = [some (V.ref a), some (V.ref P.p), some (.int (0 + (t : Int))), some (V.ref q), some (V.ref q1), some (V.ref q2), some v6, z7, y8, y9, some (V.ref tl), some (V.str (dTabs L).shown), y12, y13, some (V.ref fm), z15, y16]) ∧ Grow H10 H2)
          ⟨⟨_, _, rfl⟩, Grow.refl⟩ ?_ ?_
        · rintro i σ H11 hi ⟨⟨z7, z15, rfl⟩, g11⟩
          refine stName ?_
          dsimp only
          refine ⟨6, rfl, by decide, by decide, ?_⟩
          refine for_range (lo := 0) (n := 6) (fun kk σ H2 => (∃ z7, σ = [some (V.ref a), some (V.ref P.p), some (.int (0 + (t : Int))), some (V.ref q), some (V.ref q1), some (V.ref q2), some v6, z7, y8, y9, some (V.ref tl), some (V.str (dTabs L).shown), y12, y13, some (V.ref fm), some (.int (0 + (i : Int))), y16]) ∧ Grow H10 H2)
            ⟨⟨_, rfl⟩, g11⟩ ?_ ?_
          · rintro kk σ H12 hk ⟨⟨z7, rfl⟩, g12⟩
            have gi : ∀ H2, Gives (tVar 15) [some (V.ref a), some (V.ref P.p), some (.int (0 + (t : Int))), some (V.ref q), some (V.ref q1), some (V.ref q2), some v6, some (.int (0 + (kk : Int))), y8, y9, some (V.ref tl), some (V.str (dTabs L).shown), y12, y13, some (V.ref fm), some (.int (0 + (i : Int))), y16] H2 i :=
              fun H2 Q r => ⟨_, rfl, by rw [Int.zero_add]; exact r⟩
            have gk : ∀ H2, Gives (tVar 7) [some (V.ref a), some (V.ref P.p), some (.int (0 + (t : Int))), some (V.ref q), some (V.ref q1), some (V.ref q2), some v6, some (.int (0 + (kk : Int))), y8, y9, some (V.ref tl), some (V.str (dTabs L).shown), y12, y13, some (V.ref fm), some (.int (0 + (i : Int))), y16] H2 kk :=
              fun H2 Q r => ⟨_, rfl, by rw [Int.zero_add]; exact r⟩
            refine stName ?_
            dsimp only
            refine stSeq (rd_ifF (fun Q hq => rd_c1 (K := K) (hm10.grow g12) (hL10.grow g12) fin s6 m4 rfl rfl hi hk (gi _) (gk _) (hq _ Grow.refl)) fun H13 g13 => ?_)
            have g13' := g12.trans g13
            dsimp only
            refine stSeq (rd_ifF (fun Q hq => rd_c2 (K := K) (hm10.grow g13') fin hi hk (Int.zero_add _) (Int.zero_add _) hq) fun H14 g14 => ?_)
            have g14' := g13'.trans g14
            dsimp only
            refine rd_ifF (fun Q hq => rd_c3 (K := K) (hm10.grow g14') fin rfl hi hk (gi _) (gk _) (hq _ Grow.refl)) fun H15 g15 => ?_
            exact ⟨⟨_, rfl⟩, g14'.trans g15⟩
          · rintro σ H12 ⟨⟨z7, rfl⟩, g12⟩
            exact ⟨⟨_, _, rfl⟩, g12⟩
        · rintro σ H11 ⟨⟨z7, z15, rfl⟩, g11⟩
          dsimp only
          refine stSeq ?_
          refine stIfNot (stCons (stLst ?_))
          refine rd_six (hm10.grow g11) l6 rfl fin ⟨by show 6 ≤ sizeLine; decide, fun p np => ?_⟩
          have g12 := g11.new np (.lst ((List.replicate 6 true).map V.bl))
          refine ⟨by show 1 ≤ sizeLine; decide, fun l nl => ⟨l, 6, _, rfl, rfl, upd_same, by decide, by decide, by decide, fun p2 np2 => ?_⟩⟩
          have g13 := (Grow.refl.new nl (.lst [.bl true])).new np2 (.lst ((List.replicate 6 true).map V.bl))
          have e1 := g13.keep p (.lst ((List.replicate 6 true).map V.bl)) upd_same
          refine ⟨p, p2, dBools (List.replicate 6 true), 1, 6, rfl, bools_dp e1, bools_dp upd_same, gd_bools (by decide), by decide, by decide, _, rfl, iteF ?_⟩
          have gE := g12.trans g13
          have hLE := hL10.grow gE
          refine ⟨_, rfl, tl, _, rfl, hLE.dp, gdT.sh, gdT.nd, gdT.le (by decide), gdT.fits (by decide), _, rfl, rfl, _, rfl, iteNS rfl ?_⟩
          refine ⟨⟨_, _, _, _, _, _, _, _, _, _, _, _, _, _, _, rfl⟩, ?_⟩
          exact ((((g9.trans g10).trans gE).stp P).pool _ hpL).mono (by omega)
    · rintro σ H ⟨⟨y2, y3, y4, y5, y6, y7, y8, y9, y10, y11, y12, y13, y14, y15, y16, rfl⟩, hp⟩
      exact k _
end
end K15

namespace K15
open L2 PySem PyProof.Rows PySem.Spec
def defD (x : Str) (st : Stmt) : He.DefD := ⟨(x, none), x, x, defArgs st, defBody st, defScope st, [], []⟩
def fn : List He.DefD := [defD "_law_pool" sPool, defD "_law_draw" sDraw, defD "_law_any" sAny, defD "_law_same" sSame, defD "_law_way" sWay, defD "_law_world" sWorld, defD "_law_origin" sOrigin, defD "_law_stair" sStair, defD "_law_table" sTable, defD "_law_empty" sEmpty, defD "_law_stands" sStands, defD "_law_has" sHas, defD "_law_put" sPut, defD "_law_all_had" sAllHad, defD "greater" sGreater, defD "lesser" sLesser, defD "put_together" sPutT, defD "both" sBoth, defD "either" sEither, defD "within" sWithin, defD "law" sLaw]
def fa : List He.Fa := [.glo "_law_pool", .glo "_law_draw", .glo "_law_any", .glo "_law_same", .glo "_law_way", .glo "_law_world", .glo "_law_origin", .glo "_law_stair", .glo "_law_table", .glo "_law_empty", .glo "_law_stands", .glo "_law_has", .glo "_law_put", .glo "_law_all_had", .glo "greater", .glo "lesser", .glo "put_together", .glo "both", .glo "either", .glo "within", .glo "law", .free "len", .free "max", .free "min", .free "zip", .free "tuple", .free "range", .free "int", .free "list", .free "enumerate", .free "repr"]
abbrev R : PySem.W.OpenRow := PySem.W.OpenLaw.row PySem.Challenge.rw_rightage_k15_whole_within_is_having
abbrev hk : PySem.W.Hook := He.hookD 4 fa fn
def ob (s : PySem.W.SharedT) : He.AlD := He.obsDG 4 fa fn (HandSHeadRun.getT s)
theorem ob_eq (s : PySem.W.SharedT) : ob s = hk.obs s.abs := He.obsDG_eq (HandSHeadRun.getT_eq s)
abbrev others : List Str := ["_law_pool", "_law_draw", "_law_any", "_law_same", "_law_way", "_law_world", "_law_origin", "_law_stair", "_law_table", "_law_empty", "_law_stands", "_law_has", "_law_put", "_law_all_had", "greater", "lesser", "put_together", "both", "either", "within"]
theorem run (w : World) : HandSHeadRun.RunEq R (PySem.W.view R.prog [22]) hk ob 2000 others w := by
  intro os
  kernel_rfl
theorem facts {P : Program} {w : World} {K : PySem.W.Frag} {h : Heap} {mg : Str → Option Value} {f : Addr} (X : K.In h) (G : h.Ns mainGlobals mg) (hfa : mg ("law" : Str) = some (.ref f)) (c : He.SaysD fa fn K) :
    ∃ fd : FuncData, (∀ (s : Shared) (v : Value), BindsTo s fd ⟨[v], []⟩ [("_law_script", v)]) ∧ ∀ base : Heap, K.In base → base.Ns mainGlobals mg → FnG P w K mg base 6 f fd ["_law_script"] (spLaw K) := by
  obtain ⟨d0, F0⟩ := c.def_ 0 (d := defD "_law_pool" sPool) rfl
  have D0 : Fn K mg "_law_pool" sPool ["_law_script"] _ d0 := ⟨F0, He.glo_ok X G (c.fact 0 (f := .glo "_law_pool") rfl), FunD.bindsN F0 fun _ _ _ _ _ _ us hl => match us, hl with | [_], _ => rfl⟩
  obtain ⟨d1, F1⟩ := c.def_ 1 (d := defD "_law_draw" sDraw) rfl
  have D1 : Fn K mg "_law_draw" sDraw ["_law_pool_here", "_law_many"] _ d1 := ⟨F1, He.glo_ok X G (c.fact 1 (f := .glo "_law_draw") rfl), FunD.bindsN F1 fun _ _ _ _ _ _ us hl => match us, hl with | [_, _], _ => rfl⟩
  obtain ⟨d2, F2⟩ := c.def_ 2 (d := defD "_law_any" sAny) rfl
  have D2 : Fn K mg "_law_any" sAny ["_law_pool_here", "_law_some"] _ d2 := ⟨F2, He.glo_ok X G (c.fact 2 (f := .glo "_law_any") rfl), FunD.bindsN F2 fun _ _ _ _ _ _ us hl => match us, hl with | [_, _], _ => rfl⟩
  obtain ⟨d3, F3⟩ := c.def_ 3 (d := defD "_law_same" sSame) rfl
  have D3 : Fn K mg "_law_same" sSame ["_law_found", "_law_due"] _ d3 := ⟨F3, He.glo_ok X G (c.fact 3 (f := .glo "_law_same") rfl), FunD.bindsN F3 fun _ _ _ _ _ _ us hl => match us, hl with | [_, _], _ => rfl⟩
  obtain ⟨d4, F4⟩ := c.def_ 4 (d := defD "_law_way" sWay) rfl
  have D4 : Fn K mg "_law_way" sWay ["_law_pool_here", "_law_size", "_law_names", "_law_wide"] _ d4 := ⟨F4, He.glo_ok X G (c.fact 4 (f := .glo "_law_way") rfl), FunD.bindsN F4 fun _ _ _ _ _ _ us hl => match us, hl with | [_, _, _, _], _ => rfl⟩
  obtain ⟨d5, F5⟩ := c.def_ 5 (d := defD "_law_world" sWorld) rfl
  have D5 : Fn K mg "_law_world" sWorld ["_law_pool_here", "_law_wide"] _ d5 := ⟨F5, He.glo_ok X G (c.fact 5 (f := .glo "_law_world") rfl), FunD.bindsN F5 fun _ _ _ _ _ _ us hl => match us, hl with | [_, _], _ => rfl⟩
  obtain ⟨d6, F6⟩ := c.def_ 6 (d := defD "_law_origin" sOrigin) rfl
  have D6 : Fn K mg "_law_origin" sOrigin ["_law_pool_here", "_law_size", "_law_place", "_law_peaks"] _ d6 := ⟨F6, He.glo_ok X G (c.fact 6 (f := .glo "_law_origin") rfl), FunD.bindsN F6 fun _ _ _ _ _ _ us hl => match us, hl with | [_, _, _, _], _ => rfl⟩
  obtain ⟨d7, F7⟩ := c.def_ 7 (d := defD "_law_stair" sStair) rfl
  have D7 : Fn K mg "_law_stair" sStair ["_law_pool_here", "_law_size", "_law_place", "_law_peaks"] _ d7 := ⟨F7, He.glo_ok X G (c.fact 7 (f := .glo "_law_stair") rfl), FunD.bindsN F7 fun _ _ _ _ _ _ us hl => match us, hl with | [_, _, _, _], _ => rfl⟩
  obtain ⟨d8, F8⟩ := c.def_ 8 (d := defD "_law_table" sTable) rfl
  have D8 : Fn K mg "_law_table" sTable ["_law_pool_here", "_law_world_here", "_law_peaks"] _ d8 := ⟨F8, He.glo_ok X G (c.fact 8 (f := .glo "_law_table") rfl), FunD.bindsN F8 fun _ _ _ _ _ _ us hl => match us, hl with | [_, _, _], _ => rfl⟩
  obtain ⟨d9, F9⟩ := c.def_ 9 (d := defD "_law_empty" sEmpty) rfl
  have D9 : Fn K mg "_law_empty" sEmpty ["_law_world_here"] _ d9 := ⟨F9, He.glo_ok X G (c.fact 9 (f := .glo "_law_empty") rfl), FunD.bindsN F9 fun _ _ _ _ _ _ us hl => match us, hl with | [_], _ => rfl⟩
  obtain ⟨d10, F10⟩ := c.def_ 10 (d := defD "_law_stands" sStands) rfl
  have D10 : Fn K mg "_law_stands" sStands ["_law_world_here", "_law_sheet", "_law_kind", "_law_place", "_law_age"] _ d10 := ⟨F10, He.glo_ok X G (c.fact 10 (f := .glo "_law_stands") rfl), FunD.bindsN F10 fun _ _ _ _ _ _ us hl => match us, hl with | [_, _, _, _, _], _ => rfl⟩
  obtain ⟨d11, F11⟩ := c.def_ 11 (d := defD "_law_has" sHas) rfl
  have D11 : Fn K mg "_law_has" sHas ["_law_world_here", "_law_sheet", "_law_kind", "_law_origin_here", "_law_age"] _ d11 := ⟨F11, He.glo_ok X G (c.fact 11 (f := .glo "_law_has") rfl), FunD.bindsN F11 fun _ _ _ _ _ _ us hl => match us, hl with | [_, _, _, _, _], _ => rfl⟩
  obtain ⟨d12, F12⟩ := c.def_ 12 (d := defD "_law_put" sPut) rfl
  have D12 : Fn K mg "_law_put" sPut ["_law_world_here", "_law_sheet", "_law_thing"] _ d12 := ⟨F12, He.glo_ok X G (c.fact 12 (f := .glo "_law_put") rfl), FunD.bindsN F12 fun _ _ _ _ _ _ us hl => match us, hl with | [_, _, _], _ => rfl⟩
  obtain ⟨d13, F13⟩ := c.def_ 13 (d := defD "_law_all_had" sAllHad) rfl
  have D13 : Fn K mg "_law_all_had" sAllHad ["_law_world_here", "_law_one", "_law_other"] _ d13 := ⟨F13, He.glo_ok X G (c.fact 13 (f := .glo "_law_all_had") rfl), FunD.bindsN F13 fun _ _ _ _ _ _ us hl => match us, hl with | [_, _, _], _ => rfl⟩
  obtain ⟨d14, F14⟩ := c.def_ 14 (d := defD "greater" sGreater) rfl
  have D14 : Fn K mg "greater" sGreater ["one", "other"] _ d14 := ⟨F14, He.glo_ok X G (c.fact 14 (f := .glo "greater") rfl), FunD.bindsN F14 fun _ _ _ _ _ _ us hl => match us, hl with | [_, _], _ => rfl⟩
  obtain ⟨d15, F15⟩ := c.def_ 15 (d := defD "lesser" sLesser) rfl
  have D15 : Fn K mg "lesser" sLesser ["one", "other"] _ d15 := ⟨F15, He.glo_ok X G (c.fact 15 (f := .glo "lesser") rfl), FunD.bindsN F15 fun _ _ _ _ _ _ us hl => match us, hl with | [_, _], _ => rfl⟩
  obtain ⟨d16, F16⟩ := c.def_ 16 (d := defD "put_together" sPutT) rfl
  have D16 : Fn K mg "put_together" sPutT ["one", "other", "choose"] _ d16 := ⟨F16, He.glo_ok X G (c.fact 16 (f := .glo "put_together") rfl), FunD.bindsN F16 fun _ _ _ _ _ _ us hl => match us, hl with | [_, _, _], _ => rfl⟩
  obtain ⟨d17, F17⟩ := c.def_ 17 (d := defD "both" sBoth) rfl
  have D17 : Fn K mg "both" sBoth ["world", "one", "other"] _ d17 := ⟨F17, He.glo_ok X G (c.fact 17 (f := .glo "both") rfl), FunD.bindsN F17 fun _ _ _ _ _ _ us hl => match us, hl with | [_, _, _], _ => rfl⟩
  obtain ⟨d18, F18⟩ := c.def_ 18 (d := defD "either" sEither) rfl
  have D18 : Fn K mg "either" sEither ["world", "one", "other"] _ d18 := ⟨F18, He.glo_ok X G (c.fact 18 (f := .glo "either") rfl), FunD.bindsN F18 fun _ _ _ _ _ _ us hl => match us, hl with | [_, _, _], _ => rfl⟩
  obtain ⟨d19, F19⟩ := c.def_ 19 (d := defD "within" sWithin) rfl
  have D19 : Fn K mg "within" sWithin ["one", "other"] _ d19 := ⟨F19, He.glo_ok X G (c.fact 19 (f := .glo "within") rfl), FunD.bindsN F19 fun _ _ _ _ _ _ us hl => match us, hl with | [_, _], _ => rfl⟩
  obtain ⟨d, F⟩ := c.def_ 20 (d := defD "law" sLaw) rfl
  have e := hfa.symm.trans (He.glo_ok X G (c.fact 20 (f := .glo "law") rfl))
  cases e
  have b := FunD.bindsA (ps := ["_law_script"]) F fun _ _ _ _ _ _ us hl => match us, hl with | [_], _ => rfl
  have T : Txt mg := ⟨He.free_ok X G (c.fact 21 (f := .free "len") rfl), He.free_ok X G (c.fact 22 (f := .free "max") rfl), He.free_ok X G (c.fact 23 (f := .free "min") rfl), He.free_ok X G (c.fact 24 (f := .free "zip") rfl), He.free_ok X G (c.fact 25 (f := .free "tuple") rfl), He.free_ok X G (c.fact 26 (f := .free "range") rfl), He.free_ok X G (c.fact 27 (f := .free "int") rfl), He.free_ok X G (c.fact 28 (f := .free "list") rfl), He.free_ok X G (c.fact 29 (f := .free "enumerate") rfl), He.free_ok X G (c.fact 30 (f := .free "repr") rfl)⟩
  have Ds : Defs K mg := ⟨⟨_, _, D0⟩, ⟨_, _, D1⟩, ⟨_, _, D2⟩, ⟨_, _, D3⟩, ⟨_, _, D4⟩, ⟨_, _, D5⟩, ⟨_, _, D6⟩, ⟨_, _, D7⟩, ⟨_, _, D8⟩, ⟨_, _, D9⟩, ⟨_, _, D10⟩, ⟨_, _, D11⟩, ⟨_, _, D12⟩, ⟨_, _, D13⟩, ⟨_, _, D14⟩, ⟨_, _, D15⟩, ⟨_, _, D16⟩, ⟨_, _, D17⟩, ⟨_, _, D18⟩, ⟨_, _, D19⟩⟩
  exact ⟨d, fun s v => b s [v] rfl, fun base _ _ => ok_law F T Ds⟩
end K15
open PyProof.Rows PySem PySem.Calls PySem.W
theorem PySem.Challenge.cw_rightage_k15_whole_within_is_having_holds : PySem.Challenge.rw_rightage_k15_whole_within_is_having.Holds := by
  w_on; o_law
  refine HandSHeadRun.head_any (r := OpenLaw.row PySem.Challenge.rw_rightage_k15_whole_within_is_having) (q := view (OpenLaw.row PySem.Challenge.rw_rightage_k15_whole_within_is_having).prog [22])
    (H := K15.hk) (ob := K15.ob) (M := 2000) (loose := K15.others) (d := HandSHeadRun.topDef (OpenLaw.row PySem.Challenge.rw_rightage_k15_whole_within_is_having).prog 22) (kwd := []) K15.ob_eq
    (by kernel_rfl) (fun s => by kernel_rfl) K15.run (by kernel_rfl) (by kernel_rfl) (by kernel_rfl) (by rfl) (by first | assumption | decide +kernel) (by decide +kernel) ⟨rfl, rfl, rfl, rfl, rfl, by decide +kernel⟩ ?hw ?hc
  case hw => w_witness2
  case hc =>
    refine K15.walkG (l := PySem.Challenge.rw_rightage_k15_whole_within_is_having) (n := 63) (k := 6) (x := "_law_script") rfl (by decide) (by kernel_rfl) ⟨rfl, by decide, by decide⟩ ?F
    intro w mg fa h Y G hmg0
    obtain ⟨K, KX, c⟩ := Y
    have hmg : mg ("law" : PySem.Str) = some (.ref fa) := by
      have e : (HandSHeadRun.topDef (OpenLaw.row PySem.Challenge.rw_rightage_k15_whole_within_is_having).prog 22).name = ("law" : PySem.Str) := by kernel_rfl
      rw [← e]
      exact hmg0
    obtain ⟨fd, hb, hF⟩ := K15.facts (P := (PySem.Challenge.rw_rightage_k15_whole_within_is_having).prog) (w := w) KX G hmg c
    exact ⟨K, fd, K15.spLaw K, KX, hb, fun H a ns hl _ hS => ⟨a, ns, rfl, hS, hl, fun _ => rfl⟩, hF⟩
#print axioms PySem.Challenge.cw_rightage_k15_whole_within_is_having_holds
