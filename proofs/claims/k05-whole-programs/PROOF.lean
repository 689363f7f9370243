import PyProof.Rows.All
import Wide.All
import OpenK.AllK
import Wide.FinOn
import HandS.ForMost
import HandS.IsInst
import HandS.Deep
import HandS.Conv
import HandS.TupAny
import HandS.Style
import HandS.Zip
import HandS.ExcInit
import HandS.WordsExc
import HandS.OwnEq
import HandS.ListItems
import HandS.More
import KE.GoesMore
import PyProof.P3In
import HandS.Small
import HandS.Walk
import HandS.MakeKw
import HandS.ExcField
import HandS.Ends
import HandS.TryMany
import HandS.Dict
import HandS.Iter
import HandS.MakeKwOnly
import PySem.Challenge.RW_twoslots_k05_whole_programs
section
set_option Elab.async false
set_option linter.all false
set_option maxRecDepth 100000
set_option maxHeartbeats 4000000
/-! Rules of any kind of operand, data over the heap, and what stays. -/
namespace Tw
open PySem L2 PyProof.Rows

/-! ### unions: a rule holds if one of two does -/
section
variable {X : Cx} {e a b : Expr} {t u : TE} {r q : R2} {f : Value → Value → Sem Value}
theorem pe_or (h : PE X e t) (k : PE X e u) : PE X e (fun σ H Q => t σ H Q ∨ u σ H Q) :=
  ⟨fun pins s σ H Q I z => z.elim (h.run pins s σ H Q I) (k.run pins s σ H Q I)⟩
theorem op_or (h : OpR X f r) (k : OpR X f q) : OpR X f (fun x y H Q => r x y H Q ∨ q x y H Q) :=
  fun pins s σ H x y v u Q I rx ry z => z.elim (h pins s σ H x y v u Q I rx ry) (k pins s σ H x y v u Q I rx ry)
theorem call_or {f : Value} {r q : List V → Hp → VK → Prop} (h : CallR X f r) (k : CallR X f q) : CallR X f (fun xs H Q => r xs H Q ∨ q xs H Q) :=
  fun pins s σ H xs us Q I rx z => z.elim (h pins s σ H xs us Q I rx) (k pins s σ H xs us Q I rx)
theorem mt_or {id : String} {r q : V → List V → Hp → VK → Prop} (h : MtR X id r) (k : MtR X id q) : MtR X id (fun x xs H Q => r x xs H Q ∨ q x xs H Q) := by
  intro pins s σ H x xs u us Q I rx rs z
  exact z.elim (h pins s σ H x xs u us Q I rx rs) (k pins s σ H x xs u us Q I rx rs)
theorem pi_or {tg it : Expr} {w1 w2 : TI} (h : PI X tg it w1) (k : PI X tg it w2) : PI X tg it (fun σ H R => w1 σ H R ∨ w2 σ H R) :=
  ⟨fun pins s σ H R I z => z.elim (h.run pins s σ H R I) (k.run pins s σ H R I)⟩
end

/-! ### list.extend by a tuple -/
theorem list_extend_tup (l : Addr) (items : Array Value) (n : Nat) (b : Addr) (items2 : Array Value) (n2 : Nat) (dd : Option Addr) (sl : Array (Option Value)) (hs0 : ¬(!items.isEmpty && Builtin.List.listTooLong (items.size + items2.size)) = true) (hs1 : items.size ≤ sizeLine) (hs2 : items.size + items2.size ≤ sizeLine + 1) :
    Meets (Builtin.«list.extend» ⟨[.ref l, .ref b], []⟩) (fun _ R s => s.heap.get? l = some { cls := .type "list", dict := none, data := .seq items n, slots := #[] } ∧ s.heap.get? b = some { cls := .type "tuple", dict := dd, data := .seq items2 n2, slots := sl } ∧ R (.ok (.ret Value.none)) { s with heap := s.heap.update l (Obj.mapSeq fun x => x ++ items2), toks := s.toks }) :=
  .of_wp fun prog w A R s h => by
    obtain ⟨hp, g, d, tk, os⟩ := s; obtain ⟨hl, hb, h⟩ := h; have f1 := AutoSeq1.idx_int; have f2 := AutoSeq1.sub_tuple_tuple; have f3 := AutoSeq1.sub_list_list; have f4 := AutoSeq1.sub_tuple_list; have f5 := AutoSeq1.sub_list_tuple;
    have hz' : (items ++ items2).size ≤ sizeLine + 1 := by rw [Array.size_append]; exact hs2
    wp_walk using (wpAny_updateSeq hl rfl (hz := hs1) (_hz' := hz')), AutoSeq1.wpAny_loadPart' hl, AutoSeq1.wpAny_loadPart' hb; exact ⟨_, rfl, h⟩
section
variable {X : Cx}
def rExtT (K : PySem.W.Frag) : V → List V → Hp → VK → Prop := fun x vs H Q => ∃ l b xs zs, x = .ref l ∧ vs = [.ref b] ∧ H l = some (.lst xs) ∧ SqT K H b zs ∧ xs.length + zs.length ≤ sizeLine ∧ Q .non (upd H l (.lst (xs ++ zs)))
theorem mt_extendT : MtR X "list.extend" (rExtT X.K) := by
  intro pins s σ H x vs v us Q I rx rv h
  obtain ⟨l, b, xs, zs, rfl, rfl, hH, hB, hz, q⟩ := h
  cases rx
  obtain ⟨u, rfl, ru⟩ := rv.one
  cases ru
  obtain ⟨z, its, n, r, hl, e⟩ := I.lstM hH
  obtain ⟨its2, r2, p2, hl2⟩ := I.tuple hB
  obtain ⟨⟨oc, od, odt, osl⟩, e2, c2, n2, d2⟩ := p2
  replace c2 : oc = .type "tuple" := c2
  replace d2 : odt = .seq its2.toArray n2 := d2
  subst c2 d2
  have hsz : its.toArray.size + its2.toArray.size ≤ sizeLine := by
    rw [List.size_toArray, List.size_toArray]
    have h1 := r.length
    have h2 := r2.length
    omega
  have hlong : ¬ (!its.toArray.isEmpty && Builtin.List.listTooLong (its.toArray.size + its2.toArray.size)) = true := by
    rw [notLongL hsz, Bool.and_false]
    exact Bool.false_ne_true
  refine call_meets F.slot_list_extend ⟨_, e, rfl⟩ F.entry_list_extend (F.args_list_extend_2 _ _)
    (list_extend_tup l its.toArray n b its2.toArray n2 od osl hlong (by omega) (by omega)) ⟨e, e2, ?_⟩
  refine ⟨.non, _, I.lset (its' := its ++ its2) hH e (by simp) (r.append r2) ?_, rfl, q⟩
  rw [List.length_append]
  omega
/-- extend by a list or a tuple -/
theorem mt_extU : MtR X "list.extend" (fun x xs H Q => rExtend x xs H Q ∨ rExtT X.K x xs H Q) := mt_or (fun pins s σ H x xs v us Q I rx rs z => mt_extend pins s σ H x xs v us Q I rx rs z) mt_extendT

/-! ### in, not in: lists and tuples of data -/
def rInT (K : PySem.W.Frag) : R2 := fun x y H Q => ∃ d ds, Dp K H x d ∧ Dp K H y (.tuple ds) ∧ SeqAt.shaped d = true ∧ SeqAt.shaped (.tuple ds) = true ∧ Q (.bl (ds.any fun z => PyData.eqv z d)) H
def rNotInT (K : PySem.W.Frag) : R2 := fun x y H Q => ∃ d ds, Dp K H x d ∧ Dp K H y (.tuple ds) ∧ SeqAt.shaped d = true ∧ SeqAt.shaped (.tuple ds) = true ∧ Q (.bl (!ds.any fun z => PyData.eqv z d)) H
theorem room_inT {A : Around} {ds : List PyData} {d : PyData} (h : SeqAt.shaped d = true) (hu : A.units + 65 < cLine) : A.units + 1 + min (PyData.depthAll ds) d.depth < cLine := by
  have h1 := SeqAt.depth_of_shaped h
  have h2 : min (PyData.depthAll ds) d.depth ≤ d.depth := Nat.min_le_right _ _
  omega
theorem op_inT (hu : X.A.units + 65 < cLine) : OpR X (compareOp .In) (rInT X.K) := by
  intro pins s σ H x y v u Q I rx ry h
  obtain ⟨d, ds, hd, he, sd, se, q⟩ := h
  obtain ⟨as, r1⟩ := Dp.reads I d x v hd rx
  obtain ⟨bs, r2⟩ := Dp.reads I (.tuple ds) y u he ry
  exact SeqAt.in_tuple_reads r2 r1 (SeqAt.canLay_of_shaped se) (SeqAt.canLay_of_shaped sd) (room_inT sd hu) ⟨.bl _, H, I, rfl, q⟩
theorem op_notInT (hu : X.A.units + 65 < cLine) : OpR X (compareOp .NotIn) (rNotInT X.K) := by
  intro pins s σ H x y v u Q I rx ry h
  obtain ⟨d, ds, hd, he, sd, se, q⟩ := h
  obtain ⟨as, r1⟩ := Dp.reads I d x v hd rx
  obtain ⟨bs, r2⟩ := Dp.reads I (.tuple ds) y u he ry
  exact SeqAt.notIn_tuple_reads r2 r1 (SeqAt.canLay_of_shaped se) (SeqAt.canLay_of_shaped sd) (room_inT sd hu) ⟨.bl _, H, I, rfl, q⟩
end

/-! ### enumerate of a tuple -/
theorem meets_enumerate_newT (l : Addr) (items : Array Value) (n : Nat) (dct : Option Addr) (sl : Array (Option Value)) :
    Meets (Builtin.«enumerate.__new__» ⟨[.type "enumerate", .ref l], []⟩) (fun _ R s => s.heap.get? l = some { cls := .type "tuple", dict := dct, data := .seq items n, slots := sl } ∧
      R (.ok (.ret (.ref (s.heap.push { cls := .type "tuple_iterator", data := .fields #[.ref l, .int 0 0] }).objs.size)))
        { s with heap := (s.heap.push { cls := .type "tuple_iterator", data := .fields #[.ref l, .int 0 0] }).push { cls := .type "enumerate", data := .fields #[.none, .bool false, .ref s.heap.objs.size, rawInt 0, .none, .none] } }) :=
  .of_wp fun prog w A R s h => by
    obtain ⟨hp, g, d, tk, os⟩ := s; obtain ⟨hl, h⟩ := h
    have hsub := sub_enumerate
    have hL : Heap.IsTuple (Shared.heap ⟨hp, g, d, tk, os⟩) l items := ⟨_, hl, rfl, n, rfl⟩
    wp_walk using AutoSeq1.wpAny_loadPart' hl
    refine wpAny_stack_any fun st => wpAny_pure ?_
    split
    · rename_i c _ _ _ _ _
      cases (c == Value.type "enumerate")
      · wp_walk using AutoSeq1.wpAny_loadPart' hl, wpAny_pyIter_tuple hL
        exact ⟨_, rfl, h⟩
      · wp_walk using AutoSeq1.wpAny_loadPart' hl, wpAny_pyIter_tuple hL
        exact ⟨_, rfl, h⟩
    · wp_walk using AutoSeq1.wpAny_loadPart' hl, wpAny_pyIter_tuple hL
      exact ⟨_, rfl, h⟩
theorem call_enumerate_tuple {prog : Program} {w : World} {A : Around} {E : Value → Shared → Prop} {s : Shared} {l : Addr} {items : Array Value} {Q : Value → Shared → Prop} (hL : s.heap.IsTuple l items)
    (h : ∀ h', IsEnum h' (s.heap.objs.size + 1) s.heap.objs.size 0 .none → h'.IsTupleIter s.heap.objs.size l 0 → h'.objs.size = s.heap.objs.size + 2 →
      (∀ b o, s.heap.get? b = some o → h'.get? b = some o) → Q (.ref (s.heap.objs.size + 1)) { s with heap := h' }) :
    wpAny (model prog w) A (call (.type "enumerate") [.ref l]) Q E s := by
  obtain ⟨⟨c, dct, dt, sl⟩, hl, hc, n, hd⟩ := hL
  replace hc : c = .type "tuple" := hc
  replace hd : dt = .seq items n := hd
  subst hc hd
  refine callType_new F.called_enumerate (by decide) (F.typeCall_enumerate_1 _) (F.newCall_enumerate_1 _) (fun obj => F.args_object_init_2 obj _) F.entry_enumerate_new
    (meets_enumerate_newT l items n dct sl) ⟨hl, ?_⟩
  have hz : (s.heap.push { cls := .type "tuple_iterator", data := .fields #[.ref l, .int 0 0] }).objs.size = s.heap.objs.size + 1 := Heap.size_push ..
  show _ ∧ _
  rw [hz]
  have he : IsEnum ((s.heap.push { cls := .type "tuple_iterator", data := .fields #[.ref l, .int 0 0] }).push
      { cls := .type "enumerate", data := .fields #[.none, .bool false, .ref s.heap.objs.size, rawInt 0, .none, .none] }) (s.heap.objs.size + 1) s.heap.objs.size 0 .none := by
    have := Heap.get?_push_size (s.heap.push { cls := .type "tuple_iterator", data := .fields #[.ref l, .int 0 0] })
      (o := { cls := .type "enumerate", data := .fields #[.none, .bool false, .ref s.heap.objs.size, rawInt 0, .none, .none] }) rfl
    rw [hz] at this; exact this
  refine ⟨⟨_, he, rfl⟩, h _ he ⟨_, Heap.get?_push_of_some _ (Heap.get?_push_size _ rfl), rfl, rfl⟩ (by rw [Heap.size_push, hz]) fun b o x => Heap.get?_push_of_some _ (Heap.get?_push_of_some _ x)⟩
/-- the tuple at a, each item in a new pair -/
def IteT (K : PySem.W.Frag) (a : Addr) : It :=
  ⟨fun i H => ∃ (xs : List V) (x : V), SqT K H a xs ∧ xs[i]? = some x, fun i H v H' => ∃ T x, v = .ref T ∧ H T = none ∧ H' = upd H T (.tup [.int (i : Nat), x]) ∧ ∀ xs, SqT K H a xs → xs[i]? = some x, fun i H => ∃ xs : List V, SqT K H a xs ∧ xs.length = i⟩
theorem turn_enumT {P : Program} {w : World} {K : PySem.W.Frag} {elts : List Expr} {kk : Nat} {tpos : Pos} (a e it : Addr) :
    Turn P w K (.Tuple elts kk tpos) (IteT K a) [e, it] e (fun i h => (∃ old, IsEnum h e it ((i : Nat) : Int) old) ∧ h.IsTupleIter it a i ∧ e ≠ it) where
  mem := by simp
  obj := fun i h st b hb => by
    obtain ⟨⟨old, he⟩, ⟨o, ho, hc, hd⟩, _⟩ := st
    have e' : b = e ∨ b = it := by simpa using hb
    rcases e' with z | z
    · rw [z]; exact ⟨_, he, fun v q => nomatch q⟩
    · rw [z]; exact ⟨o, ho, fun v q => by rw [hd] at q; cases q⟩
  keep := fun i h h' st k => let ⟨⟨old, he⟩, hi, hne⟩ := st; ⟨⟨old, k e (by simp) _ he⟩, hi.at fun o q => k it (by simp) o q, hne⟩
  item := by
    intro X hP hw hK hc i pins s σ H E I hf st hg
    subst hP hw hK
    obtain ⟨⟨old, he⟩, hit, hne⟩ := st
    obtain ⟨xs, x, hq, hx⟩ := hg
    obtain ⟨its, rv, p, hz⟩ := I.tuple hq
    obtain ⟨u, hu, ru⟩ := rv.get hx
    have hel : e < s.heap.objs.size := Heap.lt_size he
    have hil : it < s.heap.objs.size := by obtain ⟨_, q, _⟩ := hit; exact Heap.lt_size q
    have hai : a ≠ it := fun z => by
      obtain ⟨o1, q1, c1, _⟩ := p
      obtain ⟨o2, q2, c2, _⟩ := hit
      rw [z, q2] at q1
      cases q1
      rw [c2] at c1
      exact absurd c1 (by decide)
    have hae : e ∉ [it, a] := by
      intro z
      have z' : e = it ∨ e = a := by simpa using z
      rcases z' with z' | z'
      · exact hne z'
      · obtain ⟨o1, q1, c1, _⟩ := p
        rw [← z'] at q1
        have q2 : s.heap.get? e = _ := he
        rw [q2] at q1
        cases q1
        exact absurd (show Value.type "enumerate" = Value.type "tuple" from c1) (by decide)
    have hilt : i < its.toArray.size := by
      rw [List.size_toArray]
      exact (List.getElem?_eq_some_iff.mp hu).1
    refine wpAny_pyNext_enum_itemD (Draws.tuple (A := X.A.in1) (I.ok.hd hc) it a hai its.toArray) he ⟨hit, p⟩ hilt hne hae fun x' h' tk hx' ho hst' hT hsz hk => ?_
    have ex' : x' = u := by
      have z : its[i]? = some x' := by simpa using hx'
      rw [hu] at z
      exact (Option.some.inj z).symm
    subst ex'
    have hit' := hst'.1
    refine ⟨_, rfl, wpAny_letOwnedTupleGo_enum (s := { s with heap := h', toks := tk + 1 }) ho fun h'' he' sb => ?_⟩
    have hT2 : h''.get? s.heap.objs.size = some { cls := .type "tuple", data := .seq #[.int i tk, x'] } := (sb.2 _ (Nat.ne_of_gt hel)).trans hT
    have new : ObjOk X.prog X.w (upd H s.heap.objs.size (.tup [.int (i : Nat), x])) h'' s.heap.objs.size (.tup [.int (i : Nat), x]) :=
      ⟨by show 2 ≤ sizeLine; decide, [.int i tk, x'], .cons ⟨_, rfl⟩ (.cons ru .nil), ⟨_, hT2, rfl, _, rfl⟩⟩
    have I1 : Inv X pins σ (upd H s.heap.objs.size (.tup [.int (i : Nat), x])) { s with heap := h'', toks := tk + 1 } :=
      I.turnedNew (ch := [e, it]) (fun b ob hb q => (sb.2 b (fun z => hb (by simp [z]))).trans (hk b ob (fun z => hb (by simp [z])) (fun z => hb (by simp [z])) q)) hf (Nat.le_refl _) new
    refine ⟨.ref s.heap.objs.size, _, I1, rfl, ⟨_, x, rfl, I.hok.fresh (Nat.le_refl _), rfl, fun ys hy => by rw [I.tuple_inj hy hq]; exact hx⟩, ⟨⟨x', ?_⟩, hit'.at fun o q => (sb.2 it (Ne.symm hne)).trans q, hne⟩, fun b hb => ?_⟩
    · have e1 : ((i + 1 : Nat) : Int) = (i : Int) + 1 := by omega
      rw [e1]; exact he'
    · have hb' : b < s.heap.objs.size := by
        have e' : b = e ∨ b = it := by simpa using hb
        rcases e' with z | z
        · rw [z]; exact hel
        · rw [z]; exact hil
      rw [upd_ne (Nat.ne_of_lt hb')]
      exact (hf b hb).1
  done := by
    intro X hP hw hK hc i pins s σ H E I hf st hg
    subst hP hw hK
    obtain ⟨⟨old, he⟩, hit, hne⟩ := st
    obtain ⟨xs, hq, hx⟩ := hg
    obtain ⟨its, rv, p, hz⟩ := I.tuple hq
    obtain ⟨f0, f1, f2, f3, f4, f5⟩ := hf it (by simp)
    have hl := rv.length
    have hai : a ≠ it := fun z => by
      obtain ⟨o1, q1, c1, _⟩ := p
      obtain ⟨o2, q2, c2, _⟩ := hit
      rw [z, q2] at q1
      cases q1
      rw [c2] at c1
      exact absurd c1 (by decide)
    have hsi : i = its.toArray.size := by
      rw [List.size_toArray]
      omega
    subst hsi
    exact wpAny_pyNext_enum_endD (Draws.tuple (A := X.A.in1) (I.ok.hd hc) it a hai its.toArray) he ⟨hit, p⟩ fun h' eb => ⟨rfl, I.turned (t' := s.toks) (fun b o hb q => eb b o hb q) f0 f1 f3 f4 f5⟩
  self := fun A i s Q E st h => let ⟨⟨_, he⟩, _⟩ := st; wpAny_pyIter_enum he h
def iEnumT (K : PySem.W.Frag) (ta : TA) : TI := fun σ H R => ta σ H fun vs H1 => ∃ a xs, vs = [.ref a] ∧ SqT K H1 a xs ∧ R (IteT K a) H1
theorem pi_enumT {X : Cx} {e : Expr} {ta : TA} {p pos tpos : Pos} {elts : List Expr} {kk : Nat} (hg : Gl X "enumerate") (hm : X.mg "enumerate" = none) (ha : PA X [e] ta) (hs : starEach [e] X.env = [(false, eval e X.env)] := by rfl) :
    PI X (.Tuple elts kk tpos) (.Call (.Name "enumerate" p) [e] [] pos) (iEnumT X.K ta) := by
  refine ⟨fun pins s σ H R I h => ?_⟩
  refine Call_ (ld_blt I hg hm boot_enumerate (PyProof.Rows.callWith_type1 (thn (ha.run pos pins s σ H _ I h) fun us s1 ⟨vs, H1, I1, r1, q1⟩ => ?_) hs rfl))
  obtain ⟨a, xs, ex, hq, q⟩ := q1
  subst ex
  cases r1 with
  | cons r rr =>
    cases rr
    cases r
    obtain ⟨its, rv, p', hz⟩ := I1.tuple hq
    refine call_enumerate_tuple p' fun h' he hit hsz hk => wpAny_pyIter_enum he ?_
    have I2 : Inv X pins σ H1 { s1 with heap := h' } := I1.kept (t' := s1.toks) hk
    refine ⟨s1.heap.objs.size + 1, [s1.heap.objs.size + 1, s1.heap.objs.size], _, _, H1, rfl, I2, turn_enumT a (s1.heap.objs.size + 1) s1.heap.objs.size, ⟨⟨.none, he⟩, hit, Nat.succ_ne_self _⟩, fun b hb => ?_, q⟩
    have e' : b = s1.heap.objs.size + 1 ∨ b = s1.heap.objs.size := by simpa using hb
    have hle : s1.heap.objs.size ≤ b := by
      rcases e' with z | z
      · rw [z]; exact Nat.le_add_right _ _
      · rw [z]; exact Nat.le_refl _
    exact I1.fpOk hle (I1.hok.fresh hle)
/-- enumerate of a list or a tuple -/
theorem pi_enumU {X : Cx} {e : Expr} {ta : TA} {p pos tpos : Pos} {elts : List Expr} {kk : Nat} (hg : Gl X "enumerate") (hm : X.mg "enumerate" = none) (ha : PA X [e] ta) (hs : starEach [e] X.env = [(false, eval e X.env)] := by rfl) :
    PI X (.Tuple elts kk tpos) (.Call (.Name "enumerate" p) [e] [] pos) (fun σ H R => iEnum X.K ta σ H R ∨ iEnumT X.K ta σ H R) := pi_or (pi_enum hg hm ha hs) (pi_enumT hg hm ha hs)
/-- a list, a tuple, a text -/
def iSeq (K : PySem.W.Frag) (tl : TE) : TI := fun σ H R => iList K tl σ H R ∨ iTup K tl σ H R ∨ iStr tl σ H R
end Tw
end

section
set_option Elab.async false
set_option linter.all false
set_option maxRecDepth 100000
set_option maxHeartbeats 4000000
namespace Tw
open PySem L2 PyProof.Rows

/-! ### rules of any kind of operand -/
section
variable {X : Cx}
def rAddStr : R2 := fun x y H Q => ∃ i j : Str, x = .str i ∧ y = .str j ∧ i.length + j.length ≤ sizeLine ∧ Q (.str (i ++ j)) H
@[irreducible] def rAddU (K : PySem.W.Frag) : R2 := fun x y H Q => rI0 (fun i j => .int (i + j)) x y H Q ∨ rAddStr x y H Q ∨ rCat x y H Q ∨ rCatA K x y H Q
theorem op_addU : OpR X (binaryOp .Add) (rAddU X.K) := by
  unfold rAddU
  exact op_or op_add (op_or op_add_str (op_or op_cat op_catA))
@[irreducible] def rMulU : R2 := fun x y H Q => rI CMul (fun i j => .int (i * j)) x y H Q ∨ rRep x y H Q
theorem op_mulU : OpR X (binaryOp .Mult) rMulU := by
  unfold rMulU
  exact op_or op_mul op_rep
def rInStr : R2 := fun x y H Q => ∃ i j : Str, x = .str i ∧ y = .str j ∧ Q (.bl (!(Builtin.Str.occurrences j i 0 j.length 1).isEmpty)) H
def rNotInStr : R2 := fun x y H Q => ∃ i j : Str, x = .str i ∧ y = .str j ∧ Q (.bl (!(!(Builtin.Str.occurrences j i 0 j.length 1).isEmpty))) H
@[irreducible] def rInU (K : PySem.W.Frag) : R2 := fun x y H Q => rInD K x y H Q ∨ rInT K x y H Q ∨ rInStr x y H Q ∨ rIn K false x y H Q
@[irreducible] def rNotInU (K : PySem.W.Frag) : R2 := fun x y H Q => rNotInD K x y H Q ∨ rNotInT K x y H Q ∨ rNotInStr x y H Q ∨ rIn K true x y H Q
theorem op_inU (hu : X.A.units + 65 < cLine) : OpR X (compareOp .In) (rInU X.K) := by
  unfold rInU
  exact op_or (op_inD hu) (op_or (op_inT hu) (op_or op_in_str op_in_seq))
theorem op_notInU (hu : X.A.units + 65 < cLine) : OpR X (compareOp .NotIn) (rNotInU X.K) := by
  unfold rNotInU
  exact op_or (op_notInD hu) (op_or (op_notInT hu) (op_or op_notin_str op_notIn_seq))
/-- a list of anything beside an empty list -/
def rEqE : R2 := fun x y H Q => ∃ a b xs, x = .ref a ∧ y = .ref b ∧ H a = some (.lst xs) ∧ H b = some (.lst []) ∧ Q (.bl xs.isEmpty) H
def rNeE : R2 := fun x y H Q => ∃ a b xs, x = .ref a ∧ y = .ref b ∧ H a = some (.lst xs) ∧ H b = some (.lst []) ∧ Q (.bl (!xs.isEmpty)) H
theorem op_eqE (hu : X.A.units < cLine) : OpR X (compareOp .Eq) rEqE := by
  intro pins s σ H x y v u Q I rx ry h
  obtain ⟨a, b, xs, rfl, rfl, ha, hb, q⟩ := h
  cases rx
  cases ry
  obtain ⟨its, r, p, _⟩ := I.list (.inl (.inl ha))
  obtain ⟨its2, r2, p2, _⟩ := I.list (.inl (.inl hb))
  cases r2
  cases xs with
  | nil =>
    cases r
    refine SeqAt.RcAt.lists (A := X.A) (e := fun _ => true) p.isList p2.isList rfl hu (fun j h1 _ => ?_) X.prog X.w X.xe _ ⟨.bl true, H, I, rfl, q⟩
    exact absurd h1 (by simp)
  | cons x xs =>
    cases r with
    | cons r1 r2 =>
      exact SeqAt.RcAt.lists_lengths (A := X.A) p.isList p2.isList (by simp) hu X.prog X.w X.xe _ ⟨.bl false, H, I, rfl, q⟩
theorem op_neE (hu : X.A.units < cLine) : OpR X (compareOp .NotEq) rNeE := by
  intro pins s σ H x y v u Q I rx ry h
  obtain ⟨a, b, xs, rfl, rfl, ha, hb, q⟩ := h
  cases rx
  cases ry
  obtain ⟨its, r, p, _⟩ := I.list (.inl (.inl ha))
  obtain ⟨its2, r2, p2, _⟩ := I.list (.inl (.inl hb))
  cases r2
  cases xs with
  | nil =>
    cases r
    refine SeqAt.RcNeAt.lists (A := X.A) (e := fun _ => true) p.isList p2.isList rfl hu (fun j h1 _ => ?_) X.prog X.w X.xe _ ⟨.bl false, H, I, rfl, q⟩
    exact absurd h1 (by simp)
  | cons x xs =>
    cases r with
    | cons r1 r2 =>
      exact SeqAt.RcNeAt.lists_lengths (A := X.A) p.isList p2.isList (by simp) hu X.prog X.w X.xe _ ⟨.bl true, H, I, rfl, q⟩
@[irreducible] def rEqU (K : PySem.W.Frag) : R2 := fun x y H Q => rEq x y H Q ∨ rEqD K x y H Q ∨ rEqE x y H Q
@[irreducible] def rNeU (K : PySem.W.Frag) : R2 := fun x y H Q => rNe x y H Q ∨ rNeD K x y H Q ∨ rNeE x y H Q
theorem op_eqU (hu : X.A.units + 64 < cLine) : OpR X (compareOp .Eq) (rEqU X.K) := by
  unfold rEqU
  exact op_or op_eq (op_or (op_eqD hu) (op_eqE (by omega)))
theorem op_neU (hu : X.A.units + 64 < cLine) : OpR X (compareOp .NotEq) (rNeU X.K) := by
  unfold rNeU
  exact op_or op_ne (op_or (op_neD hu) (op_neE (by omega)))
def rLenD : List V → Hp → VK → Prop := fun xs H Q => ∃ a kvs, xs = [V.ref a] ∧ H a = some (.dK kvs) ∧ Q (.int kvs.length) H
def rLenA (K : PySem.W.Frag) : List V → Hp → VK → Prop := fun xs H Q => ∃ x n, xs = [x] ∧ LenV K x H n ∧ Q (.int n) H
@[irreducible] def rLenU (K : PySem.W.Frag) : List V → Hp → VK → Prop := fun xs H Q => rLenA K xs H Q ∨ rLenD xs H Q
theorem call_lenU : CallR X (.builtin "len") (rLenU X.K) := by
  unfold rLenU
  exact call_or call_len call_lenD
@[irreducible] def rLstOf (K : PySem.W.Frag) : List V → Hp → VK → Prop := fun xs H Q => ∃ p ys, xs = [V.ref p] ∧ (SqL K H p ys ∨ SqT K H p ys) ∧ ∀ (l : Addr), H l = none → Q (V.ref l) (upd H l (.lst ys))
theorem call_lstOf : CallR X (.type "list") (rLstOf X.K) := by
  unfold rLstOf
  exact call_list_of
@[irreducible] def rTupOf (K : PySem.W.Frag) : List V → Hp → VK → Prop := fun xs H Q => ∃ p ys, xs = [.ref p] ∧ ((SqL K H p ys ∧ ∀ l, H l = none → Q (.ref l) (upd H l (.tup ys))) ∨ (SqT K H p ys ∧ Q (.ref p) H))
theorem call_tupOf : CallR X (.type "tuple") (rTupOf X.K) := by
  unfold rTupOf
  exact call_tuple_of
@[irreducible] def rMax2 : List V → Hp → VK → Prop := fun xs H Q => ∃ i j, xs = [.int i, .int j] ∧ Q (.int (if j > i then j else i)) H
theorem call_mx2 (hc : X.calm = true) : CallR X (.builtin "max") rMax2 := by
  unfold rMax2
  exact call_max2 hc
@[irreducible] def rInt1 : List V → Hp → VK → Prop := fun xs H Q => (∃ i, xs = [.int i] ∧ Q (.int i) H) ∨ ∃ k, xs = [.bl k] ∧ Q (.int (if k then 1 else 0)) H
theorem call_in1 : CallR X (.type "int") rInt1 := by
  unfold rInt1
  exact call_int1
@[irreducible] def rStr1 : List V → Hp → VK → Prop := fun xs H Q => ∃ i, xs = [V.int i] ∧ i.natAbs.log2 < 1920 ∧ Q (V.str (Str.ofString (toString i))) H
theorem call_st1 : CallR X (.type "str") rStr1 := by
  unfold rStr1
  exact call_str_int
theorem sl_or {r q : V → Option Int → Option Int → Hp → VK → Prop} (h : SlR X r) (k : SlR X q) : SlR X (fun x lo hi H Q => r x lo hi H Q ∨ q x lo hi H Q) :=
  fun pins s σ H x v vl vu lo hi sl Q I rx hs pl pu z => z.elim (h pins s σ H x v vl vu lo hi sl Q I rx hs pl pu) (k pins s σ H x v vl vu lo hi sl Q I rx hs pl pu)
@[irreducible] def rSlU (K : PySem.W.Frag) : V → Option Int → Option Int → Hp → VK → Prop := fun x lo hi H Q => rSlL K x lo hi H Q ∨ rSlA K x lo hi H Q ∨ rSlS x lo hi H Q
theorem sl_U : SlR X (rSlU X.K) := by
  unfold rSlU
  exact sl_or sl_list (sl_or sl_tupA sl_str)
def iSeqU (K : PySem.W.Frag) (tl : TE) : TI := fun σ H R => iList K tl σ H R ∨ iTup K tl σ H R ∨ iStr tl σ H R
theorem pi_U {tg l : Expr} {tl : TE} (h : PE X l tl) : PI X tg l (iSeqU X.K tl) := pi_or (pi_list h) (pi_or (pi_tup h) (pi_str h))
def iEnumU (K : PySem.W.Frag) (ta : TA) : TI := fun σ H R => iEnum K ta σ H R ∨ iEnumT K ta σ H R
@[irreducible] def rIsiU (K : PySem.W.Frag) : List V → Hp → VK → Prop := fun xs H Q => rIsi K xs H Q ∨ rIsiT K xs H Q
theorem call_isiU : CallR X (.builtin "isinstance") (rIsiU X.K) := by
  unfold rIsiU
  exact call_or call_isi call_isiT
@[irreducible] def rExtU (K : PySem.W.Frag) : V → List V → Hp → VK → Prop := fun x xs H Q => rExtend x xs H Q ∨ rExtT K x xs H Q
@[irreducible] def rInsert : V → List V → Hp → VK → Prop := fun x vs H Q => ∃ (l : Addr) (xs : List V) (i : Int) (y : V), x = .ref l ∧ vs = [.int i, y] ∧ H l = some (.lst xs) ∧ xs.length < sizeLine ∧ 0 ≤ i ∧ i < 2 ^ 63 ∧
    Q .non (upd H l (.lst (xs.take i.toNat ++ [y] ++ xs.drop i.toNat)))
theorem mt_extendU : MtR X "list.extend" (rExtU X.K) := by
  unfold rExtU
  exact mt_extU
theorem mt_insertU : MtR X "list.insert" rInsert := by
  unfold rInsert
  exact mt_insert
@[irreducible] def rAppendU : V → List V → Hp → VK → Prop := rAppend
theorem mt_appendU : MtR X "list.append" rAppendU := by
  unfold rAppendU
  exact fun pins s σ H x xs v us Q I rx rs z => mt_append pins s σ H x xs v us Q I rx rs z
@[irreducible] def rPopU : V → List V → Hp → VK → Prop := rPop
theorem mt_popU : MtR X "list.pop" rPopU := by
  unfold rPopU
  exact fun pins s σ H x xs v us Q I rx rs z => mt_pop pins s σ H x xs v us Q I rx rs z
@[irreducible] def rPopAtU : V → List V → Hp → VK → Prop := rPopAt
theorem mt_popAtU : MtR X "list.pop" rPopAtU := by
  unfold rPopAtU
  exact fun pins s σ H x xs v us Q I rx rs z => mt_popAt pins s σ H x xs v us Q I rx rs z
@[irreducible] def rAllU (K : PySem.W.Frag) : List V → Hp → VK → Prop := rAll K
theorem call_allU (hc : X.calm = true) : CallR X (.builtin "all") (rAllU X.K) := by
  unfold rAllU
  exact cr_all hc
@[irreducible] def rAnyU (K : PySem.W.Frag) : List V → Hp → VK → Prop := rAny K
theorem call_anyU (hc : X.calm = true) : CallR X (.builtin "any") (rAnyU X.K) := by
  unfold rAnyU
  exact cr_any hc
@[irreducible] def rIxU (K : PySem.W.Frag) : R2 := rIx K
theorem ix_U : IxR X (rIxU X.K) := by
  unfold rIxU
  exact ix_seq
/-- a comparison by any of two readings: as a value, as a test -/
theorem pt_or {e : Expr} {t u : TT} (h : PT X e t) (k : PT X e u) : PT X e (fun σ H Q => t σ H Q ∨ u σ H Q) :=
  ⟨fun pins s σ H Q I z => z.elim (h.run pins s σ H Q I) (k.run pins s σ H Q I)⟩
end
/-! ### new tuples and lists, the heap behind them a letter -/
def tTupU (t : TA) : TE := fun σ H Q => t σ H fun xs H1 => xs.length ≤ sizeLine ∧ ∀ p H', H1 p = none → H' = upd H1 p (.tup xs) → Q (.ref p) H'
def tLstU (t : TA) : TE := fun σ H Q => t σ H fun xs H1 => xs.length ≤ sizeLine ∧ ∀ p H', H1 p = none → H' = upd H1 p (.lst xs) → Q (.ref p) H'
theorem all_eq {H : Hp} {Q : VK} {o : HO} : (∀ p H', H p = none → H' = upd H p o → Q (.ref p) H') = ∀ p, H p = none → Q (.ref p) (upd H p o) :=
  propext ⟨fun h p hp => h p _ hp rfl, fun h p H' hp e => by rw [e]; exact h p hp⟩
theorem tTupU_eq (t : TA) : tTupU t = tTup t := by
  funext σ H Q
  unfold tTupU tTup
  congr
  funext xs H1
  rw [all_eq]
theorem tLstU_eq (t : TA) : tLstU t = tLst t := by
  funext σ H Q
  unfold tLstU tLst
  congr
  funext xs H1
  rw [all_eq]
theorem pe_tupU {X : Cx} {es : List Expr} {x1 : Nat} {t : TA} {pos : Pos} (h : PA X es t) : PE X (.Tuple es x1 pos) (tTupU t) := by
  rw [tTupU_eq]
  exact pe_tup h
theorem pe_lstU {X : Cx} {es : List Expr} {t : TA} {pos : Pos} (h : PA X es t) : PE X (.List es pos) (tLstU t) := by
  rw [tLstU_eq]
  exact pe_lst h
/-! ### comprehensions and loops under names that stay folded -/
@[irreducible] def tLcU (wi : TI) (g : TG) (tt : TT) (te : TE) (vs : List Nat) : TE := tLc wi g tt te vs
@[irreducible] def tForU (wi : TI) (g : TG) (tb : TS) : TS := tFor wi g tb
section
variable {X : Cx}
theorem pe_lcU {elt tg iter : Expr} {ifs : List Expr} {scope : Scope} {own : List (Str × Nat)} {pos : Pos} {wi : TI} {g : TG} {tt : TT} {te : TE} (hc : X.calm = true) (hN : X.N.Nodup) (hi : PI X tg iter wi) (ok : BlkOk X.N X.env.scope scope own)
    (hg : ∀ (s : Shared) (H : Hp) (C : Addr) (cl : List (Str × Addr)) (fp : List Addr), PG (X.blk s H scope (compEnvC scope cl C X.env) fp) tg g) (ht : ∀ (s : Shared) (H : Hp) (C : Addr) (cl : List (Str × Addr)) (fp : List Addr), PTs (X.blk s H scope (compEnvC scope cl C X.env) fp) ifs tt)
    (he : ∀ (s : Shared) (H : Hp) (C : Addr) (cl : List (Str × Addr)) (fp : List Addr), PE (X.blk s H scope (compEnvC scope cl C X.env) fp) elt te) (hs : ∀ x, foldedSetIterable iter X.env x = pure x := by intro _; rfl) :
    PE X (.ListComp elt [⟨tg, iter, ifs, 0⟩] scope pos) (tLcU wi g tt te (own.map (·.2))) := by
  unfold tLcU
  exact pe_lc hc hN hi ok hg ht he hs
theorem ps_setLcU {i : Nat} {y : Str} {py : Pos} {elt tg iter : Expr} {ifs : List Expr} {scope : Scope} {own : List (Str × Nat)} {pos spos : Pos} {wi : TI} {g : TG} {tt : TT} {te : TE} (hc : X.calm = true) (hN : X.N.Nodup) (hy : X.N[i]? = some y) (hyl : X.env.scope.names.lookup y = some .local)
    (hsw : swapsWith (.ListComp elt [⟨tg, iter, ifs, 0⟩] scope pos) (some (.Name y py)) spos.line X.env = pure true) (hi : PI X tg iter wi) (ok : BlkOk X.N X.env.scope scope own)
    (hg : ∀ (s : Shared) (H : Hp) (C : Addr) (cl : List (Str × Addr)) (fp : List Addr), PG (X.blk s H scope (compEnvC scope cl C X.env) fp) tg g) (ht : ∀ (s : Shared) (H : Hp) (C : Addr) (cl : List (Str × Addr)) (fp : List Addr), PTs (X.blk s H scope (compEnvC scope cl C X.env) fp) ifs tt)
    (he : ∀ (s : Shared) (H : Hp) (C : Addr) (cl : List (Str × Addr)) (fp : List Addr), PE (X.blk s H scope (compEnvC scope cl C X.env) fp) elt te) (hs : ∀ x, foldedSetIterable iter X.env x = pure x := by intro _; rfl) :
    PS X (.Assign [.Name y py] (.ListComp elt [⟨tg, iter, ifs, 0⟩] scope pos) spos) (tAsg (tLcU wi g tt te (own.map (·.2))) (gName i)) := by
  unfold tLcU
  exact ps_setLc hc hN hy hyl hsw hi ok hg ht he hs
theorem ps_forU {tg iter : Expr} {body : List Stmt} {wi : TI} {g : TG} {tb : TS} {pos : Pos} (hp : PassesOwn (model X.prog X.w) X.A X.env X.xe) (hc : X.calm = true) (hi : PI X tg iter wi) (hg : PG X tg g) (hb : PSs X body tb)
    (hs : ∀ x, foldedSetIterable iter X.env x = pure x := by intro _; rfl) : PS X (.For tg iter body [] pos) (tForU wi g tb) := by
  unfold tForU
  exact ps_for hp hc hi hg hb hs
end
/-- in, not in: lists, tuples, texts, dicts -/
def tInU (K : PySem.W.Frag) (ta tb : TE) : TE := fun σ H Q => tOp (rInU K) ta tb σ H Q ∨ tDIn ta tb σ H Q
def tNotInU (K : PySem.W.Frag) (ta tb : TE) : TE := fun σ H Q => tOp (rNotInU K) ta tb σ H Q ∨ tDNotIn ta tb σ H Q
section
variable {X : Cx} {a b : Expr} {ta tb : TE} {pos : Pos}
theorem pe_inU (hu : X.A.units + 65 < cLine) (ha : PE X a ta) (hb : PE X b tb) (hm : behindInMarks .In b = false := by rfl) : PE X (.Compare a [.In] [b] pos) (tInU X.K ta tb) :=
  pe_or (pe_cmpR (op_inU hu) ha hb hm) (pe_cmp (pc_din (by omega) ha hb) hm)
theorem pe_notInU (hu : X.A.units + 65 < cLine) (ha : PE X a ta) (hb : PE X b tb) (hm : behindInMarks .NotIn b = false := by rfl) : PE X (.Compare a [.NotIn] [b] pos) (tNotInU X.K ta tb) :=
  pe_or (pe_cmpR (op_notInU hu) ha hb hm) (pe_cmp (pc_dnotin (by omega) ha hb) hm)
/-- a comparison that is a PE as a test -/
theorem pt_inU (hu : X.A.units + 65 < cLine) (ha : PE X a ta) (hb : PE X b tb) (hm : behindInMarks .In b = false := by rfl) : PT X (.Compare a [.In] [b] pos) (tB (tInU X.K ta tb)) :=
  ⟨fun pins s σ H Q I z => z.elim ((pt_cmpR (op_inU hu) ha hb hm).run pins s σ H Q I) ((pt_cmp (pc_din (by omega) ha hb) hm).run pins s σ H Q I)⟩
theorem pt_notInU (hu : X.A.units + 65 < cLine) (ha : PE X a ta) (hb : PE X b tb) (hm : behindInMarks .NotIn b = false := by rfl) : PT X (.Compare a [.NotIn] [b] pos) (tB (tNotInU X.K ta tb)) :=
  ⟨fun pins s σ H Q I z => z.elim ((pt_cmpR (op_notInU hu) ha hb hm).run pins s σ H Q I) ((pt_cmp (pc_dnotin (by omega) ha hb) hm).run pins s σ H Q I)⟩
end
end Tw
end

section
set_option Elab.async false
set_option linter.all false
set_option maxRecDepth 100000
set_option maxHeartbeats 4000000
namespace Tw
open PySem L2 PyProof.Rows

/-! ### what stays: all tracked objects but those at F; nothing is forgotten -/
structure ExF (F : List Addr) (H H' : Hp) : Prop where
  at_ : ∀ a o, a ∉ F → H a = some o → H' a = some o
  kept : ∀ a, H a ≠ none → H' a ≠ none
section
variable {F G : List Addr} {H H' H1 H2 : Hp} {p a : Addr} {o : HO}
theorem ExF.refl : ExF F H H := ⟨fun _ _ _ h => h, fun _ h => h⟩
theorem ExF.trans (h : ExF F H H1) (k : ExF F H1 H2) : ExF F H H2 := ⟨fun a o n e => k.at_ a o n (h.at_ a o n e), fun a e => k.kept a (h.kept a e)⟩
theorem ExF.sub (h : ExF F H H') (k : ∀ a ∈ F, a ∈ G) : ExF G H H' := ⟨fun a o n e => h.at_ a o (fun z => n (k a z)) e, h.kept⟩
theorem ExF.of (h : ExF [] H H') : ExF G H H' := h.sub fun a z => absurd z (by simp)
theorem ExF.free (h : ExF F H H') (e : H' p = none) : H p = none := by
  cases q : H p with
  | none => rfl
  | some o => exact absurd e (h.kept p (by rw [q]; exact fun z => nomatch z))
theorem upd_kept (h : H a ≠ none) : upd H p o a ≠ none := by
  by_cases e : a = p
  · subst e
    rw [upd_same]
    exact fun z => nomatch z
  · rw [upd_ne e]
    exact h
theorem ExF.new (e : H p = none) : ExF F H (upd H p o) := ⟨fun a u _ q => by rw [upd_ne (ne_of_none q e)]; exact q, fun a q => upd_kept q⟩
/-- an object that was not there ahead, or is one of F, may change -/
theorem ExF.mut (h : ExF F H H') (e : H p = none ∨ p ∈ F) : ExF F H (upd H' p o) := ⟨fun a u n q => by
  rw [upd_ne]
  · exact h.at_ a u n q
  · intro z
    subst z
    rcases e with e | e
    · rw [e] at q; cases q
    · exact n e, fun a q => upd_kept (h.kept a q)⟩
/-- F's new ones may be left out: they were not there ahead -/
theorem ExF.drop (h : ExF (p :: F) H H') (e : H p = none) : ExF F H H' := ⟨fun a u n q => h.at_ a u (fun z => by
  rcases List.mem_cons.mp z with z | z
  · subst z; rw [e] at q; cases q
  · exact n z) q, h.kept⟩
theorem ExF.add (h : ExF F H H') : ExF (p :: F) H H' := h.sub fun a z => List.mem_cons_of_mem _ z
theorem ExF.same (h : Same H H') : ExF F H H' := ⟨fun a o _ e => h a o e, fun a e => by
  cases q : H a with
  | none => exact absurd q e
  | some o => rw [h a o q]; exact fun z => nomatch z⟩
theorem ExF.toSame (h : ExF [] H H') : Same H H' := fun a o e => h.at_ a o (by simp) e
/-- all of F is tracked -/
def Trk (F : List Addr) (H : Hp) : Prop := ∀ a ∈ F, H a ≠ none
theorem Trk.ex (t : Trk F H) (h : ExF G H H') : Trk F H' := fun a z => h.kept a (t a z)
theorem Trk.nin (t : Trk F H) (e : H p = none) : p ∉ F := fun z => t p z e
theorem Trk.nil : Trk [] H := fun a z => absurd z (by simp)
theorem Trk.cons (t : Trk F H) (e : H p = some o) : Trk (p :: F) H := fun a z => by
  rcases List.mem_cons.mp z with z | z
  · subst z; rw [e]; exact fun z => nomatch z
  · exact t a z
end

/-! ### data over the heap, none of it at F -/
inductive Rp (F : List Addr) (H : Hp) : V → PyData → Prop
  | non : Rp F H .non .none
  | bl (b : Bool) : Rp F H (.bl b) (.bool b)
  | int (i : Int) : Rp F H (.int i) (.int i)
  | str (x : Str) : Rp F H (.str x) (.str x)
  | lst {a : Addr} {xs : List V} {ds : List PyData} : a ∉ F → H a = some (.lst xs) → xs.length = ds.length → (∀ (i : Nat) v d, xs[i]? = some v → ds[i]? = some d → Rp F H v d) → Rp F H (.ref a) (.list ds)
  | tup {a : Addr} {xs : List V} {ds : List PyData} : a ∉ F → H a = some (.tup xs) → xs.length = ds.length → (∀ (i : Nat) v d, xs[i]? = some v → ds[i]? = some d → Rp F H v d) → Rp F H (.ref a) (.tuple ds)
  | dct {a : Addr} {kvs : List (Key × V)} : a ∉ F → H a = some (.dK kvs) → Rp F H (.ref a) (.dict [])
/-- a row of data -/
def RpL (F : List Addr) (H : Hp) (xs : List V) (ds : List PyData) : Prop := xs.length = ds.length ∧ ∀ (i : Nat) v d, xs[i]? = some v → ds[i]? = some d → Rp F H v d
section
variable {F G : List Addr} {H H' H1 H2 : Hp} {p a : Addr} {o : HO} {v : V} {d : PyData} {xs ys : List V} {ds es : List PyData}
theorem Rp.list (n : a ∉ F) (h : H a = some (.lst xs)) (r : RpL F H xs ds) : Rp F H (.ref a) (.list ds) := .lst n h r.1 r.2
theorem Rp.tuple (n : a ∉ F) (h : H a = some (.tup xs)) (r : RpL F H xs ds) : Rp F H (.ref a) (.tuple ds) := .tup n h r.1 r.2
theorem Rp.ex (x : ExF F H H') (r : Rp F H v d) : Rp F H' v d := by
  induction r with
  | non => exact .non
  | bl b => exact .bl b
  | int i => exact .int i
  | str s => exact .str s
  | lst n h l _ ih => exact .lst n (x.at_ _ _ n h) l ih
  | tup n h l _ ih => exact .tup n (x.at_ _ _ n h) l ih
  | dct n h => exact .dct n (x.at_ _ _ n h)
theorem Rp.sub (k : ∀ a ∈ G, a ∈ F) (r : Rp F H v d) : Rp G H v d := by
  induction r with
  | non => exact .non
  | bl b => exact .bl b
  | int i => exact .int i
  | str s => exact .str s
  | lst n h l _ ih => exact .lst (fun z => n (k _ z)) h l ih
  | tup n h l _ ih => exact .tup (fun z => n (k _ z)) h l ih
  | dct n h => exact .dct (fun z => n (k _ z)) h
/-- a place that is free now is none of it -/
theorem Rp.add (e : H p = none) (r : Rp F H v d) : Rp (p :: F) H v d := by
  have ne : ∀ {b : Addr} {u : HO}, b ∉ F → H b = some u → b ∉ p :: F := fun n h z => by
    rcases List.mem_cons.mp z with z | z
    · subst z; rw [e] at h; cases h
    · exact n z
  induction r with
  | non => exact .non
  | bl b => exact .bl b
  | int i => exact .int i
  | str s => exact .str s
  | lst n h l _ ih => exact .lst (ne n h) h l ih
  | tup n h l _ ih => exact .tup (ne n h) h l ih
  | dct n h => exact .dct (ne n h) h
theorem Rp.drop (r : Rp (p :: F) H v d) : Rp F H v d := r.sub fun a z => List.mem_cons_of_mem _ z
theorem RpL.ex (x : ExF F H H') (r : RpL F H xs ds) : RpL F H' xs ds := ⟨r.1, fun i v d h k => (r.2 i v d h k).ex x⟩
theorem RpL.sub (k : ∀ a ∈ G, a ∈ F) (r : RpL F H xs ds) : RpL G H xs ds := ⟨r.1, fun i v d h e => (r.2 i v d h e).sub k⟩
theorem RpL.add (e : H p = none) (r : RpL F H xs ds) : RpL (p :: F) H xs ds := ⟨r.1, fun i v d h k => (r.2 i v d h k).add e⟩
theorem RpL.drop (r : RpL (p :: F) H xs ds) : RpL F H xs ds := r.sub fun a z => List.mem_cons_of_mem _ z
theorem RpL.nil : RpL F H [] [] := ⟨rfl, fun i v d h _ => by simp at h⟩
theorem RpL.cons (h : Rp F H v d) (r : RpL F H xs ds) : RpL F H (v :: xs) (d :: ds) := by
  refine ⟨by simp [r.1], fun i u e h1 h2 => ?_⟩
  cases i with
  | zero => simp at h1 h2; subst h1 h2; exact h
  | succ i => exact r.2 i u e (by simpa using h1) (by simpa using h2)
theorem RpL.nil_inv (r : RpL F H xs []) : xs = [] := List.eq_nil_of_length_eq_zero (by rw [r.1]; rfl)
theorem RpL.cons_inv (r : RpL F H xs (d :: ds)) : ∃ v vs, xs = v :: vs ∧ Rp F H v d ∧ RpL F H vs ds := by
  cases xs with
  | nil => exact absurd r.1 (by simp)
  | cons v vs => exact ⟨v, vs, rfl, r.2 0 v d rfl rfl, by simpa using r.1, fun i u e h k => r.2 (i + 1) u e (by simpa using h) (by simpa using k)⟩
theorem RpL.get (r : RpL F H xs ds) {i : Nat} (h : ds[i]? = some d) : ∃ v, xs[i]? = some v ∧ Rp F H v d := by
  have hl := (List.getElem?_eq_some_iff.mp h).1
  have hx : i < xs.length := by rw [r.1]; exact hl
  exact ⟨xs[i], by simp [hx], r.2 i _ d (by simp [hx]) h⟩
theorem RpL.get' (r : RpL F H xs ds) {i : Nat} (h : xs[i]? = some v) : ∃ d, ds[i]? = some d ∧ Rp F H v d := by
  have hl := (List.getElem?_eq_some_iff.mp h).1
  have hx : i < ds.length := by rw [← r.1]; exact hl
  exact ⟨ds[i], by simp [hx], r.2 i v _ h (by simp [hx])⟩
theorem RpL.append (r : RpL F H xs ds) (q : RpL F H ys es) : RpL F H (xs ++ ys) (ds ++ es) := by
  refine ⟨by simp [r.1, q.1], fun i u e h1 h2 => ?_⟩
  by_cases hi : i < xs.length
  · rw [List.getElem?_append_left hi] at h1
    rw [List.getElem?_append_left (by rw [← r.1]; exact hi)] at h2
    exact r.2 i u e h1 h2
  · rw [List.getElem?_append_right (by omega)] at h1
    rw [List.getElem?_append_right (by have := r.1; omega), ← r.1] at h2
    exact q.2 _ u e h1 h2
theorem RpL.one (h : Rp F H v d) : RpL F H [v] [d] := .cons h .nil
theorem RpL.snoc (r : RpL F H xs ds) (h : Rp F H v d) : RpL F H (xs ++ [v]) (ds ++ [d]) := r.append (.one h)
theorem RpL.take (n : Nat) (r : RpL F H xs ds) : RpL F H (xs.take n) (ds.take n) := ⟨by simp [r.1], fun i u e h1 h2 => by
  rw [List.getElem?_take] at h1 h2
  split at h1
  · rename_i hi; rw [if_pos hi] at h2; exact r.2 i u e h1 h2
  · cases h1⟩
theorem RpL.dropN (n : Nat) (r : RpL F H xs ds) : RpL F H (xs.drop n) (ds.drop n) := ⟨by simp [r.1], fun i u e h1 h2 => by
  rw [List.getElem?_drop] at h1 h2
  exact r.2 _ u e h1 h2⟩
theorem RpL.eraseIdx (n : Nat) (r : RpL F H xs ds) : RpL F H (xs.eraseIdx n) (ds.eraseIdx n) := by
  rw [List.eraseIdx_eq_take_drop_succ, List.eraseIdx_eq_take_drop_succ]
  exact (r.take n).append (r.dropN (n + 1))
theorem RpL.reverse (r : RpL F H xs ds) : RpL F H xs.reverse ds.reverse := by
  refine ⟨by simp [r.1], fun i u e h1 h2 => ?_⟩
  have hi : i < xs.length := by simpa using (List.getElem?_eq_some_iff.mp h1).1
  rw [List.getElem?_reverse hi] at h1
  rw [List.getElem?_reverse (by rw [← r.1]; exact hi), ← r.1] at h2
  exact r.2 _ u e h1 h2
theorem RpL.all_str {zs : List Str} (r : RpL F H xs (zs.map PyData.str)) : xs = zs.map V.str := by
  apply List.ext_getElem?
  intro i
  cases e : zs[i]? with
  | none =>
    have hz := List.getElem?_eq_none_iff.mp e
    have hx := r.1
    rw [List.length_map] at hx
    rw [List.getElem?_eq_none (by omega), List.getElem?_eq_none (by rw [List.length_map]; omega)]
  | some z =>
    obtain ⟨v, h1, h2⟩ := r.get (i := i) (d := .str z) (by rw [List.getElem?_map, e]; rfl)
    cases h2
    rw [h1, List.getElem?_map, e]
    rfl
theorem RpL.strs (zs : List Str) : RpL F H (zs.map V.str) (zs.map PyData.str) := ⟨by simp, fun i v d h1 h2 => by
  rw [List.getElem?_map] at h1 h2
  cases e : zs[i]? with
  | none => rw [e] at h1; cases h1
  | some z =>
    rw [e] at h1 h2
    cases h1; cases h2
    exact .str z⟩
theorem RpL.all_int {zs : List Int} (r : RpL F H xs (zs.map PyData.int)) : xs = zs.map V.int := by
  apply List.ext_getElem?
  intro i
  cases e : zs[i]? with
  | none =>
    have hz := List.getElem?_eq_none_iff.mp e
    have hx := r.1
    rw [List.length_map] at hx
    rw [List.getElem?_eq_none (by omega), List.getElem?_eq_none (by rw [List.length_map]; omega)]
  | some z =>
    obtain ⟨v, h1, h2⟩ := r.get (i := i) (d := .int z) (by rw [List.getElem?_map, e]; rfl)
    cases h2
    rw [h1, List.getElem?_map, e]
    rfl
theorem RpL.ints (zs : List Int) : RpL F H (zs.map V.int) (zs.map PyData.int) := ⟨by simp, fun i v d h1 h2 => by
  rw [List.getElem?_map] at h1 h2
  cases e : zs[i]? with
  | none => rw [e] at h1; cases h1
  | some z =>
    rw [e] at h1 h2
    cases h1; cases h2
    exact .int z⟩
theorem Rp.str_inv {z : Str} (r : Rp F H v (.str z)) : v = .str z := by cases r; rfl
theorem Rp.list_inv (r : Rp F H v (.list ds)) : ∃ a xs, v = .ref a ∧ a ∉ F ∧ H a = some (.lst xs) ∧ RpL F H xs ds := by
  cases r with
  | lst n h l k => exact ⟨_, _, rfl, n, h, l, k⟩
theorem Rp.tuple_inv (r : Rp F H v (.tuple ds)) : ∃ a xs, v = .ref a ∧ a ∉ F ∧ H a = some (.tup xs) ∧ RpL F H xs ds := by
  cases r with
  | tup n h l k => exact ⟨_, _, rfl, n, h, l, k⟩
end

/-! ### the reading of data by the layer's own relation -/
mutual
/-- without dicts -/
def plain : PyData → Bool
  | .none => true | .bool _ => true | .int _ => true | .str _ => true
  | .list ds => plains ds
  | .tuple ds => plains ds
  | .dict _ => false
def plains : List PyData → Bool
  | [] => true
  | d :: ds => plain d && plains ds
end
section
variable {F : List Addr} {K : PySem.W.Frag} {H : Hp}
mutual
theorem Rp.dp : ∀ {v : V} {d : PyData}, plain d = true → Rp F H v d → Dp K H v d
  | _, .none, _, r => by cases r; exact .non
  | _, .bool b, _, r => by cases r; exact .bl b
  | _, .int i, _, r => by cases r; exact .int i
  | _, .str s, _, r => by cases r; exact .str s
  | _, .list ds, p, r => by
    obtain ⟨a, xs, rfl, n, h, q⟩ := r.list_inv
    exact .lst (.inl (.inl h)) (RpL.dp (by simpa [plain] using p) q)
  | _, .tuple ds, p, r => by
    obtain ⟨a, xs, rfl, n, h, q⟩ := r.tuple_inv
    exact .tup (.inl (.inl h)) (RpL.dp (by simpa [plain] using p) q)
  | _, .dict _, p, _ => by simp [plain] at p
theorem RpL.dp : ∀ {xs : List V} {ds : List PyData}, plains ds = true → RpL F H xs ds → DpAll K H xs ds
  | xs, [], _, r => by rw [r.nil_inv]; exact .nil
  | xs, d :: ds, p, r => by
    obtain ⟨v, vs, rfl, h, q⟩ := r.cons_inv
    have p' : plain d = true ∧ plains ds = true := by simpa [plains] using p
    exact .cons (Rp.dp p'.1 h) (RpL.dp p'.2 q)
end
end
end Tw
end

section
set_option Elab.async false
set_option linter.all false
set_option maxRecDepth 100000
set_option maxHeartbeats 4000000
namespace Tw
open PySem L2 PyProof.Rows

theorem hu65 {A : Around} {k : Nat} (hr : Room k A) : A.units + 65 < cLine := by
  have := hr.un
  omega
def rSetU : V → V → V → Hp → (Hp → Prop) → Prop := fun o i v H Q => rSetL o i v H Q ∨ rSetD o i v H Q
theorem set_U {X : Cx} (hu : X.A.units + 1 < cLine) : PSet X rSetU := by
  intro pins s σ H o i v ov iv u Q I ro ri rv h
  exact h.elim (set_list pins s σ H o i v ov iv u Q I ro ri rv) (set_dict hu pins s σ H o i v ov iv u Q I ro ri rv)
def rIsN : R2 := fun x y H Q => y = .non ∧ Q (.bl (decide (x = .non))) H
def rNotN : R2 := fun x y H Q => y = .non ∧ Q (.bl (!decide (x = .non))) H

/-! ### isinstance -/
def tyName : PyData → String
  | .none => "NoneType" | .bool _ => "bool" | .int _ => "int" | .str _ => "str" | .list _ => "list" | .tuple _ => "tuple" | .dict _ => "dict"
def isStr : PyData → Bool | .str _ => true | _ => false
def isInt : PyData → Bool | .int _ => true | .bool _ => true | _ => false
def isBool : PyData → Bool | .bool _ => true | _ => false
def isList : PyData → Bool | .list _ => true | _ => false
def isTup : PyData → Bool | .tuple _ => true | _ => false
def isDict : PyData → Bool | .dict _ => true | _ => false
def isSeq : PyData → Bool | .list _ => true | .tuple _ => true | _ => false
section
variable {F : List Addr} {K : PySem.W.Frag} {H : Hp} {v : V} {d : PyData} {Q : VK} {b : Bool} {c : String} {p : Addr} {x y : Str}
theorem Rp.ty (r : Rp F H v d) : TyX K H v (.type (tyName d)) := by
  cases r with
  | non => exact .base .non
  | bl b => exact .base (.bl b)
  | int i => exact .base (.int i)
  | str s => exact .base (.str s)
  | lst n h l _ => exact .base (.lst h)
  | tup n h l _ => exact .base (.tup h)
  | dct n h => exact .base (.dK h)
theorem isi1 (r : Rp F H v d) (h : kitB (tyName d) c = some b) (q : Q (.bl b) H) : rIsiU K [v, .ty c] H Q := by
  unfold rIsiU
  exact .inl ⟨v, .ty c, _, _, b, rfl, .ty c, r.ty, kit_ty h, q⟩
theorem isi_str (r : Rp F H v d) (q : Q (.bl (isStr d)) H) : rIsiU K [v, .ty "str"] H Q := isi1 (b := isStr d) r (by cases d <;> (simp only [tyName, isStr]; decide +kernel)) q
theorem isi_int (r : Rp F H v d) (q : Q (.bl (isInt d)) H) : rIsiU K [v, .ty "int"] H Q := isi1 (b := isInt d) r (by cases d <;> (simp only [tyName, isInt]; decide +kernel)) q
theorem isi_bool (r : Rp F H v d) (q : Q (.bl (isBool d)) H) : rIsiU K [v, .ty "bool"] H Q := isi1 (b := isBool d) r (by cases d <;> (simp only [tyName, isBool]; decide +kernel)) q
theorem isi_list (r : Rp F H v d) (q : Q (.bl (isList d)) H) : rIsiU K [v, .ty "list"] H Q := isi1 (b := isList d) r (by cases d <;> (simp only [tyName, isList]; decide +kernel)) q
theorem isi_tuple (r : Rp F H v d) (q : Q (.bl (isTup d)) H) : rIsiU K [v, .ty "tuple"] H Q := isi1 (b := isTup d) r (by cases d <;> (simp only [tyName, isTup]; decide +kernel)) q
theorem isi_dict (r : Rp F H v d) (q : Q (.bl (isDict d)) H) : rIsiU K [v, .ty "dict"] H Q := isi1 (b := isDict d) r (by cases d <;> (simp only [tyName, isDict]; decide +kernel)) q
theorem isi_seq (r : Rp F H v d) (hp : H p = some (.tup [.ty "list", .ty "tuple"])) (q : Q (.bl (isSeq d)) H) : rIsiU K [v, .ref p] H Q := by
  unfold rIsiU
  exact .inr ⟨v, p, _, _, [.type "list", .type "tuple"], isSeq d, rfl, hp, .cons (.ty _) (.cons (.ty _) .nil), r.ty,
      kitAny_cons (b := isList d) (kit_ty (a := tyName d) (by cases d <;> (simp only [tyName, isList]; decide +kernel))) (fun hl => kitAny_cons (b := isTup d) (kit_ty (a := tyName d) (by cases d <;> (simp only [tyName, isTup]; decide +kernel))) (fun ht => by
        rw [kitAny_nil]; cases d <;> simp_all [isList, isTup, isSeq]) (fun ht => by cases d <;> simp_all [isList, isTup, isSeq])) (fun hl => by cases d <;> simp_all [isList, isTup, isSeq]), q⟩
theorem isi_iltd (r : Rp F H v d) (hp : H p = some (.tup [.ty "int", .ty "list", .ty "tuple", .ty "dict"])) (q : Q (.bl (isInt d || isSeq d || isDict d)) H) : rIsiU K [v, .ref p] H Q := by
  unfold rIsiU
  exact .inr ⟨v, p, _, _, [.type "int", .type "list", .type "tuple", .type "dict"], isInt d || isSeq d || isDict d, rfl, hp, .cons (.ty _) (.cons (.ty _) (.cons (.ty _) (.cons (.ty _) .nil))), r.ty,
      kitAny_cons (b := isInt d) (kit_ty (a := tyName d) (by cases d <;> (simp only [tyName, isInt]; decide +kernel))) (fun h1 => kitAny_cons (b := isList d) (kit_ty (a := tyName d) (by cases d <;> (simp only [tyName, isList]; decide +kernel))) (fun h2 => kitAny_cons (b := isTup d) (kit_ty (a := tyName d) (by cases d <;> (simp only [tyName, isTup]; decide +kernel)))
        (fun h3 => kitAny_cons (b := isDict d) (kit_ty (a := tyName d) (by cases d <;> (simp only [tyName, isDict]; decide +kernel))) (fun h4 => by rw [kitAny_nil]; cases d <;> simp_all [isInt, isList, isTup, isSeq, isDict]) (fun h4 => by cases d <;> simp_all [isInt, isList, isTup, isSeq, isDict]))
          (fun h3 => by cases d <;> simp_all [isInt, isList, isTup, isSeq, isDict])) (fun h2 => by cases d <;> simp_all [isInt, isList, isTup, isSeq, isDict])) (fun h1 => by cases d <;> simp_all [isInt, isList, isTup, isSeq, isDict]), q⟩

/-! ### operators at known operands -/
theorem addI {i j : Int} (q : Q (.int (i + j)) H) : rAddU K (.int i) (.int j) H Q := by
  unfold rAddU
  exact .inl ⟨i, j, rfl, rfl, q⟩
theorem addS (h : x.length + y.length ≤ sizeLine) (q : Q (.str (x ++ y)) H) : rAddU K (.str x) (.str y) H Q := by
  unfold rAddU
  exact .inr (.inl ⟨x, y, rfl, rfl, h, q⟩)
theorem addL {a b : Addr} {xs ys : List V} (ha : H a = some (.lst xs)) (hb : H b = some (.lst ys)) (h : xs.length + ys.length ≤ sizeLine) (q : ∀ p, H p = none → Q (.ref p) (upd H p (.lst (xs ++ ys)))) : rAddU K (.ref a) (.ref b) H Q := by
  unfold rAddU
  exact .inr (.inr (.inl ⟨a, b, xs, ys, rfl, rfl, ha, hb, h, q⟩))
theorem mulI {i j : Int} (h : CMul i j) (q : Q (.int (i * j)) H) : rMulU (.int i) (.int j) H Q := by
  unfold rMulU
  exact .inl ⟨i, j, rfl, rfl, h, q⟩
theorem eqI {i j : Int} (q : Q (.bl (decide (i = j))) H) : rEqU K (.int i) (.int j) H Q := by
  unfold rEqU
  exact .inl ⟨rfl, by
    have e : decide (V.int i = V.int j) = decide (i = j) := by simp
    rw [e]; exact q⟩
theorem neI {i j : Int} (q : Q (.bl (!decide (i = j))) H) : rNeU K (.int i) (.int j) H Q := by
  unfold rNeU
  exact .inl ⟨rfl, by
    have e : decide (V.int i = V.int j) = decide (i = j) := by simp
    rw [e]; exact q⟩
theorem eqS (q : Q (.bl (decide (x = y))) H) : rEqU K (.str x) (.str y) H Q := by
  unfold rEqU
  exact .inl ⟨rfl, by
    have e : decide (V.str x = V.str y) = decide (x = y) := by simp
    rw [e]; exact q⟩
theorem neS (q : Q (.bl (!decide (x = y))) H) : rNeU K (.str x) (.str y) H Q := by
  unfold rNeU
  exact .inl ⟨rfl, by
    have e : decide (V.str x = V.str y) = decide (x = y) := by simp
    rw [e]; exact q⟩
theorem neB {a b : Bool} (q : Q (.bl (a != b)) H) : rNeU K (.bl a) (.bl b) H Q := by
  unfold rNeU
  exact .inl ⟨rfl, by
    have e : (!decide (V.bl a = V.bl b)) = (a != b) := by cases a <;> cases b <;> rfl
    rw [e]; exact q⟩
theorem eqB {a b : Bool} (q : Q (.bl (a == b)) H) : rEqU K (.bl a) (.bl b) H Q := by
  unfold rEqU
  exact .inl ⟨rfl, by
    have e : (decide (V.bl a = V.bl b)) = (a == b) := by cases a <;> cases b <;> rfl
    rw [e]; exact q⟩
theorem eqD {u : V} {e : PyData} (r : Rp F H v d) (r' : Rp F H u e) (pd : plain d = true) (pe : plain e = true) (sd : SeqAt.shaped d = true) (se : SeqAt.shaped e = true) (q : Q (.bl (PyData.eqv d e)) H) : rEqU K v u H Q := by
  unfold rEqU
  exact .inr (.inl ⟨d, e, r.dp pd, r'.dp pe, sd, se, q⟩)
theorem neD {u : V} {e : PyData} (r : Rp F H v d) (r' : Rp F H u e) (pd : plain d = true) (pe : plain e = true) (sd : SeqAt.shaped d = true) (se : SeqAt.shaped e = true) (q : Q (.bl (!PyData.eqv d e)) H) : rNeU K v u H Q := by
  unfold rNeU
  exact .inr (.inl ⟨d, e, r.dp pd, r'.dp pe, sd, se, q⟩)
theorem eqE {a b : Addr} {xs : List V} (ha : H a = some (.lst xs)) (hb : H b = some (.lst [])) (q : Q (.bl xs.isEmpty) H) : rEqU K (.ref a) (.ref b) H Q := by
  unfold rEqU
  exact .inr (.inr ⟨a, b, xs, rfl, rfl, ha, hb, q⟩)
theorem neE {a b : Addr} {xs : List V} (ha : H a = some (.lst xs)) (hb : H b = some (.lst [])) (q : Q (.bl (!xs.isEmpty)) H) : rNeU K (.ref a) (.ref b) H Q := by
  unfold rNeU
  exact .inr (.inr ⟨a, b, xs, rfl, rfl, ha, hb, q⟩)
theorem ixL {a : Addr} {xs : List V} {i : Int} (ha : H a = some (.lst xs)) (h : atI xs i = some v) (q : Q v H) : rIxU K (.ref a) (.int i) H Q := by
  unfold rIxU
  exact .inl ⟨a, xs, i, v, rfl, rfl, .inl (.inl ha), h, q⟩
theorem ixT {a : Addr} {xs : List V} {i : Int} (ha : H a = some (.tup xs)) (h : atI xs i = some v) (q : Q v H) : rIxU K (.ref a) (.int i) H Q := by
  unfold rIxU
  exact .inr (.inl ⟨a, xs, i, v, rfl, rfl, .inl (.inl ha), h, q⟩)
theorem ixS {i : Int} {c : Nat} (hz : x.length ≤ sizeLine) (h : atI x.cps.toList i = some c) (q : Q (.str ⟨#[c]⟩) H) : rIxU K (.str x) (.int i) H Q := by
  unfold rIxU
  exact .inr (.inr ⟨x, i, c, rfl, rfl, hz, h, q⟩)
theorem lenS (hz : x.length ≤ sizeLine) (q : Q (.int (x.length : Int)) H) : rLenU K [.str x] H Q := by
  unfold rLenU
  exact .inl ⟨_, _, rfl, ⟨hz, rfl⟩, q⟩
theorem lenL {a : Addr} {xs : List V} (ha : H a = some (.lst xs)) (q : Q (.int (xs.length : Int)) H) : rLenU K [.ref a] H Q := by
  unfold rLenU
  exact .inl ⟨_, _, rfl, .inl ⟨xs, .inl (.inl ha), rfl⟩, q⟩
theorem lenT {a : Addr} {xs : List V} (ha : H a = some (.tup xs)) (q : Q (.int (xs.length : Int)) H) : rLenU K [.ref a] H Q := by
  unfold rLenU
  exact .inl ⟨_, _, rfl, .inr ⟨xs, .inl (.inl ha), rfl⟩, q⟩
theorem inStr (q : Q (.bl (!(Builtin.Str.occurrences y x 0 y.length 1).isEmpty)) H) : rInU K (.str x) (.str y) H Q := by
  unfold rInU
  exact .inr (.inr (.inl ⟨x, y, rfl, rfl, q⟩))
theorem notInStr (q : Q (.bl (!(!(Builtin.Str.occurrences y x 0 y.length 1).isEmpty))) H) : rNotInU K (.str x) (.str y) H Q := by
  unfold rNotInU
  exact .inr (.inr (.inl ⟨x, y, rfl, rfl, q⟩))
theorem inV_str : ∀ zs : List Str, inV (.str x) (zs.map V.str) = decide (x ∈ zs)
  | [] => by simp [inV]
  | z :: zs => by
    have ih := inV_str zs
    unfold inV at ih ⊢
    rw [List.map_cons, List.any_cons, ih]
    have e : eqV (V.str z) (V.str x) = decide (z = x) := by
      show (z == x) = decide (z = x)
      rw [Bool.eq_iff_iff]
      simp
    rw [e, Bool.eq_iff_iff]
    simp only [Bool.or_eq_true, decide_eq_true_eq, List.mem_cons]
    exact ⟨fun h => h.elim (fun h => .inl h.symm) .inr, fun h => h.elim (fun h => .inl h.symm) .inr⟩
theorem flat_str : ∀ zs : List Str, (zs.map V.str).all flatV = true
  | [] => rfl
  | z :: zs => by rw [List.map_cons, List.all_cons, flat_str zs]; rfl
theorem inStrs {a : Addr} {zs : List Str} (ha : H a = some (.lst (zs.map V.str))) (q : Q (.bl (decide (x ∈ zs))) H) : rInU K (.str x) (.ref a) H Q := by
  unfold rInU
  exact .inr (.inr (.inr ⟨a, zs.map V.str, rfl, .inl (.inl (.inl ha)), rfl, flat_str zs, by rw [inV_str]; exact q⟩))
theorem notInStrs {a : Addr} {zs : List Str} (ha : H a = some (.lst (zs.map V.str))) (q : Q (.bl (!decide (x ∈ zs))) H) : rNotInU K (.str x) (.ref a) H Q := by
  unfold rNotInU
  exact .inr (.inr (.inr ⟨a, zs.map V.str, rfl, .inl (.inl (.inl ha)), rfl, flat_str zs, by rw [inV_str]; exact q⟩))
theorem inStrsT {a : Addr} {zs : List Str} (ha : SqT K H a (zs.map V.str)) (q : Q (.bl (decide (x ∈ zs))) H) : rInU K (.str x) (.ref a) H Q := by
  unfold rInU
  exact .inr (.inr (.inr ⟨a, zs.map V.str, rfl, .inr ha, rfl, flat_str zs, by rw [inV_str]; exact q⟩))
theorem inDat {u : V} {ds : List PyData} (r : Rp F H v d) (r' : Rp F H u (.list ds)) (pd : plain d = true) (pe : plain (.list ds) = true) (sd : SeqAt.shaped d = true) (se : SeqAt.shaped (.list ds) = true) (q : Q (.bl (ds.any fun z => PyData.eqv z d)) H) : rInU K v u H Q := by
  unfold rInU
  exact .inl ⟨d, ds, r.dp pd, r'.dp pe, sd, se, q⟩
theorem notInDat {u : V} {ds : List PyData} (r : Rp F H v d) (r' : Rp F H u (.list ds)) (pd : plain d = true) (pe : plain (.list ds) = true) (sd : SeqAt.shaped d = true) (se : SeqAt.shaped (.list ds) = true) (q : Q (.bl (!ds.any fun z => PyData.eqv z d)) H) : rNotInU K v u H Q := by
  unfold rNotInU
  exact .inl ⟨d, ds, r.dp pd, r'.dp pe, sd, se, q⟩
theorem inDatT {u : V} {ds : List PyData} (r : Rp F H v d) (r' : Rp F H u (.tuple ds)) (pd : plain d = true) (pe : plain (.tuple ds) = true) (sd : SeqAt.shaped d = true) (se : SeqAt.shaped (.tuple ds) = true) (q : Q (.bl (ds.any fun z => PyData.eqv z d)) H) : rInU K v u H Q := by
  unfold rInU
  exact .inr (.inl ⟨d, ds, r.dp pd, r'.dp pe, sd, se, q⟩)
theorem notInDatT {u : V} {ds : List PyData} (r : Rp F H v d) (r' : Rp F H u (.tuple ds)) (pd : plain d = true) (pe : plain (.tuple ds) = true) (sd : SeqAt.shaped d = true) (se : SeqAt.shaped (.tuple ds) = true) (q : Q (.bl (!ds.any fun z => PyData.eqv z d)) H) : rNotInU K v u H Q := by
  unfold rNotInU
  exact .inr (.inl ⟨d, ds, r.dp pd, r'.dp pe, sd, se, q⟩)
end

/-! ### the spring of draws -/
/-- the list at st: the cells left (at cl), what is left of a great one, how many were drawn, the mix -/
structure Strm (st cl : Addr) (H : Hp) (c : Nat) : Prop where
  ex : ∃ (a b : Int) (ns : List Int), H st = some (.lst [.ref cl, .int a, .int (c : Int), .int b]) ∧ H cl = some (.lst (ns.map V.int)) ∧ 0 ≤ a ∧ 0 ≤ b ∧ b < 2147483647 ∧ ns.length ≤ 1000
theorem Strm.ne {st cl : Addr} {H : Hp} {c : Nat} (s : Strm st cl H c) : st ≠ cl := by
  obtain ⟨a, b, ns, h1, h2, _⟩ := s.ex
  intro e
  rw [e, h2] at h1
  have h3 := Option.some.inj h1
  injection h3 with h3
  cases ns with
  | nil => cases h3
  | cons n ns => injection h3 with h4 _; cases h4
theorem Strm.ex' {st cl : Addr} {H H' : Hp} {c : Nat} {F : List Addr} (s : Strm st cl H c) (h1 : st ∉ F) (h2 : cl ∉ F) (x : ExF F H H') : Strm st cl H' c := by
  obtain ⟨a, b, ns, k1, k2, r⟩ := s.ex
  exact ⟨a, b, ns, x.at_ _ _ h1 k1, x.at_ _ _ h2 k2, r⟩
theorem Strm.trk {st cl : Addr} {H : Hp} {c : Nat} (s : Strm st cl H c) : Trk [st, cl] H := by
  obtain ⟨a, b, ns, k1, k2, r⟩ := s.ex
  exact (Trk.nil.cons k2).cons k1
def spDraw : Sp := fun vs H Q _ => ∃ (st cl : Addr) (c : Nat) (m : Int), vs = [.ref st, .int m] ∧ Strm st cl H c ∧ c < 2 ^ 48 ∧ 0 < m ∧ m < 2 ^ 30 ∧
  ∀ (k : Int) H', 0 ≤ k → k < m → Strm st cl H' (c + 1) → ExF [st, cl] H H' → Q (.int k) H'
end Tw
end

section
set_option Elab.async false
set_option linter.all false
set_option maxRecDepth 100000
set_option maxHeartbeats 4000000
namespace Tw
open PySem L2 PyProof.Rows

/-! ### good data: no dicts, short texts of real signs, n deep at most -/
def okS (s : Str) : Bool := PyData.strOk s && decide (s.length ≤ 200)
mutual
def ok : Nat → PyData → Bool
  | _, .none => true
  | _, .bool _ => true
  | _, .int _ => true
  | _, .str s => okS s
  | 0, .list _ => false
  | 0, .tuple _ => false
  | n + 1, .list ds => oks n ds && decide (ds.length ≤ 100000)
  | n + 1, .tuple ds => oks n ds && decide (ds.length ≤ 100000)
  | _, .dict _ => false
def oks : Nat → List PyData → Bool
  | _, [] => true
  | n, d :: ds => ok n d && oks n ds
end
theorem oks_iff {n : Nat} : ∀ {ds : List PyData}, oks n ds = true ↔ ∀ d ∈ ds, ok n d = true
  | [] => by simp [oks]
  | d :: ds => by rw [oks, Bool.and_eq_true, oks_iff (ds := ds)]; simp
theorem oks_cons {n : Nat} {d : PyData} {ds : List PyData} : oks n (d :: ds) = true ↔ ok n d = true ∧ oks n ds = true := by rw [oks, Bool.and_eq_true]
theorem ok_list {n : Nat} {ds : List PyData} : ok (n + 1) (.list ds) = true ↔ oks n ds = true ∧ ds.length ≤ 100000 := by rw [ok, Bool.and_eq_true, decide_eq_true_eq]
theorem ok_tuple {n : Nat} {ds : List PyData} : ok (n + 1) (.tuple ds) = true ↔ oks n ds = true ∧ ds.length ≤ 100000 := by rw [ok, Bool.and_eq_true, decide_eq_true_eq]
theorem ok_str {n : Nat} {s : Str} : ok n (.str s) = okS s := by cases n <;> rw [ok]
theorem ok_int {n : Nat} {i : Int} : ok n (.int i) = true := by cases n <;> rw [ok]
theorem ok_bool {n : Nat} {b : Bool} : ok n (.bool b) = true := by cases n <;> rw [ok]
theorem ok_none {n : Nat} : ok n .none = true := by cases n <;> rw [ok]
theorem oks_ints {n : Nat} (ns : List Int) : oks n (ns.map PyData.int) = true := oks_iff.mpr fun d hd => by
  obtain ⟨i, _, rfl⟩ := List.mem_map.mp hd
  exact ok_int
theorem oks_append {n : Nat} {ds es : List PyData} : oks n (ds ++ es) = true ↔ oks n ds = true ∧ oks n es = true := by
  rw [oks_iff, oks_iff, oks_iff]
  exact ⟨fun h => ⟨fun d k => h d (List.mem_append_left _ k), fun d k => h d (List.mem_append_right _ k)⟩, fun h d k => (List.mem_append.mp k).elim (h.1 d) (h.2 d)⟩
mutual
theorem ok_succ : ∀ {n : Nat} {d : PyData}, ok n d = true → ok (n + 1) d = true
  | n, .none, _ => ok_none
  | n, .bool _, _ => ok_bool
  | n, .int _, _ => ok_int
  | n, .str s, h => by rw [ok_str] at h ⊢; exact h
  | 0, .list _, h => by simp [ok] at h
  | 0, .tuple _, h => by simp [ok] at h
  | n + 1, .list ds, h => by rw [ok_list] at h ⊢; exact ⟨oks_succ h.1, h.2⟩
  | n + 1, .tuple ds, h => by rw [ok_tuple] at h ⊢; exact ⟨oks_succ h.1, h.2⟩
  | n, .dict _, h => by cases n <;> simp [ok] at h
theorem oks_succ : ∀ {n : Nat} {ds : List PyData}, oks n ds = true → oks (n + 1) ds = true
  | n, [], _ => by rw [oks]
  | n, d :: ds, h => by rw [oks_cons] at h ⊢; exact ⟨ok_succ h.1, oks_succ h.2⟩
end
theorem ok_le {n m : Nat} {d : PyData} (h : ok n d = true) (k : n ≤ m) : ok m d = true := by
  induction k with
  | refl => exact h
  | step _ ih => exact ok_succ ih
theorem oks_le {n m : Nat} {ds : List PyData} (h : oks n ds = true) (k : n ≤ m) : oks m ds = true := by
  induction k with
  | refl => exact h
  | step _ ih => exact oks_succ ih
mutual
theorem ok_plain : ∀ {n : Nat} {d : PyData}, ok n d = true → plain d = true
  | _, .none, _ => by rw [plain]
  | _, .bool _, _ => by rw [plain]
  | _, .int _, _ => by rw [plain]
  | _, .str _, _ => by rw [plain]
  | 0, .list _, h => by simp [ok] at h
  | 0, .tuple _, h => by simp [ok] at h
  | n + 1, .list ds, h => by rw [ok_list] at h; rw [plain]; exact oks_plain h.1
  | n + 1, .tuple ds, h => by rw [ok_tuple] at h; rw [plain]; exact oks_plain h.1
  | n, .dict _, h => by cases n <;> simp [ok] at h
theorem oks_plain : ∀ {n : Nat} {ds : List PyData}, oks n ds = true → plains ds = true
  | n, [], _ => by rw [plains]
  | n, d :: ds, h => by rw [oks_cons] at h; rw [plains, ok_plain h.1, oks_plain h.2]; rfl
end
mutual
theorem ok_lay : ∀ {n : Nat} {d : PyData}, ok n d = true → d.canLay0 = true ∧ d.depth ≤ n
  | _, .none, _ => ⟨by rw [PyData.canLay0], by rw [PyData.depth]; exact Nat.zero_le _⟩
  | _, .bool _, _ => ⟨by rw [PyData.canLay0], by rw [PyData.depth]; exact Nat.zero_le _⟩
  | _, .int _, _ => ⟨by rw [PyData.canLay0], by rw [PyData.depth]; exact Nat.zero_le _⟩
  | _, .str s, h => by
    rw [ok_str] at h
    unfold okS at h
    rw [Bool.and_eq_true] at h
    exact ⟨by rw [PyData.canLay0]; exact h.1, by rw [PyData.depth]; exact Nat.zero_le _⟩
  | 0, .list _, h => by simp [ok] at h
  | 0, .tuple _, h => by simp [ok] at h
  | n + 1, .list ds, h => by
    rw [ok_list] at h
    have q := oks_lay h.1
    exact ⟨by rw [PyData.canLay0]; exact q.1, by rw [PyData.depth]; exact Nat.succ_le_succ q.2⟩
  | n + 1, .tuple ds, h => by
    rw [ok_tuple] at h
    have q := oks_lay h.1
    exact ⟨by rw [PyData.canLay0]; exact q.1, by rw [PyData.depth]; exact Nat.succ_le_succ q.2⟩
  | n, .dict _, h => by cases n <;> simp [ok] at h
theorem oks_lay : ∀ {n : Nat} {ds : List PyData}, oks n ds = true → PyData.canLayAll0 ds = true ∧ PyData.depthAll ds ≤ n
  | n, [], _ => ⟨by rw [PyData.canLayAll0], by rw [PyData.depthAll]; exact Nat.zero_le _⟩
  | n, d :: ds, h => by
    rw [oks_cons] at h
    have q := ok_lay h.1
    have q2 := oks_lay h.2
    exact ⟨by rw [PyData.canLayAll0, q.1, q2.1]; rfl, by rw [PyData.depthAll]; exact Nat.max_le.mpr ⟨q.2, q2.2⟩⟩
end
theorem ok_shaped {n : Nat} {d : PyData} (h : ok n d = true) (k : n ≤ 64 := by decide) : SeqAt.shaped d = true := by
  have q := ok_lay h
  unfold SeqAt.shaped
  rw [q.1, decide_eq_true (Nat.le_trans q.2 k)]
  rfl
section
variable {F G : List Addr} {K : PySem.W.Frag} {H : Hp} {v u : V} {d e : PyData} {ds : List PyData} {Q : VK}
theorem eqO {n m : Nat} (r : Rp F H v d) (r' : Rp G H u e) (hd : ok n d = true) (he : ok m e = true) (q : Q (.bl (PyData.eqv d e)) H) (hn : n ≤ 64 := by decide) (hm : m ≤ 64 := by decide) : rEqU K v u H Q :=
  eqD (r.sub (G := []) fun a z => absurd z (by simp)) (r'.sub (G := []) fun a z => absurd z (by simp)) (ok_plain hd) (ok_plain he) (ok_shaped hd hn) (ok_shaped he hm) q
theorem neO {n m : Nat} (r : Rp F H v d) (r' : Rp G H u e) (hd : ok n d = true) (he : ok m e = true) (q : Q (.bl (!PyData.eqv d e)) H) (hn : n ≤ 64 := by decide) (hm : m ≤ 64 := by decide) : rNeU K v u H Q :=
  neD (r.sub (G := []) fun a z => absurd z (by simp)) (r'.sub (G := []) fun a z => absurd z (by simp)) (ok_plain hd) (ok_plain he) (ok_shaped hd hn) (ok_shaped he hm) q
theorem inO {n m : Nat} (r : Rp F H v d) (r' : Rp G H u (.list ds)) (hd : ok n d = true) (he : ok m (.list ds) = true) (q : Q (.bl (ds.any fun z => PyData.eqv z d)) H) (hn : n ≤ 64 := by decide) (hm : m ≤ 64 := by decide) : rInU K v u H Q :=
  inDat (r.sub (G := []) fun a z => absurd z (by simp)) (r'.sub (G := []) fun a z => absurd z (by simp)) (ok_plain hd) (ok_plain he) (ok_shaped hd hn) (ok_shaped he hm) q
theorem notInO {n m : Nat} (r : Rp F H v d) (r' : Rp G H u (.list ds)) (hd : ok n d = true) (he : ok m (.list ds) = true) (q : Q (.bl (!ds.any fun z => PyData.eqv z d)) H) (hn : n ≤ 64 := by decide) (hm : m ≤ 64 := by decide) : rNotInU K v u H Q :=
  notInDat (r.sub (G := []) fun a z => absurd z (by simp)) (r'.sub (G := []) fun a z => absurd z (by simp)) (ok_plain hd) (ok_plain he) (ok_shaped hd hn) (ok_shaped he hm) q
theorem notInOT {n m : Nat} (r : Rp F H v d) (r' : Rp G H u (.tuple ds)) (hd : ok n d = true) (he : ok m (.tuple ds) = true) (q : Q (.bl (!ds.any fun z => PyData.eqv z d)) H) (hn : n ≤ 64 := by decide) (hm : m ≤ 64 := by decide) : rNotInU K v u H Q :=
  notInDatT (r.sub (G := []) fun a z => absurd z (by simp)) (r'.sub (G := []) fun a z => absurd z (by simp)) (ok_plain hd) (ok_plain he) (ok_shaped hd hn) (ok_shaped he hm) q
end
theorem int1 {H : Hp} {Q : VK} {i : Int} (q : Q (.int i) H) : rInt1 [.int i] H Q := by
  unfold rInt1
  exact .inl ⟨i, rfl, q⟩
theorem str1 {H : Hp} {Q : VK} {i : Int} (h : i.natAbs.log2 < 1920) (q : Q (.str (Str.ofString (toString i))) H) : rStr1 [.int i] H Q := by
  unfold rStr1
  exact ⟨i, rfl, h, q⟩
theorem max2 {H : Hp} {Q : VK} {i j : Int} (q : Q (.int (if j > i then j else i)) H) : rMax2 [.int i, .int j] H Q := by
  unfold rMax2
  exact ⟨i, j, rfl, q⟩
theorem allB {K : PySem.W.Frag} {H : Hp} {Q : VK} {a : Addr} {bs : List Bool} (h : H a = some (.lst (bs.map V.bl))) (q : Q (.bl (bs.all id)) H) : rAllU K [.ref a] H Q := by
  unfold rAllU
  exact ⟨a, bs, rfl, .inl (.inl h), q⟩
theorem anyB {K : PySem.W.Frag} {H : Hp} {Q : VK} {a : Addr} {bs : List Bool} (h : H a = some (.lst (bs.map V.bl))) (q : Q (.bl (bs.any id)) H) : rAnyU K [.ref a] H Q := by
  unfold rAnyU
  exact ⟨a, bs, rfl, .inl (.inl h), q⟩
/-! ### stores, the heap behind them a letter -/
section
variable {F G : List Addr} {K : PySem.W.Frag} {H : Hp} {v u y : V} {d e : PyData} {Q : VK} {l b : Addr} {xs ys : List V}
theorem setU {k : Int} {j : Nat} {R : Hp → Prop} (h : H l = some (.lst xs)) (hj : ixN xs.length k = some j) (q : ∀ H', H' = upd H l (.lst (xs.set j v)) → R H') : rSetU (.ref l) (.int k) v H R := .inl ⟨l, xs, k, j, rfl, rfl, h, hj, q _ rfl⟩
theorem setD {k : Str} {kvs : List (Key × V)} {R : Hp → Prop} (h : H l = some (.dK kvs)) (hz : kvs.length < sizeLine) (q : ∀ H', H' = upd H l (.dK (putK kvs (.inr k) v)) → R H') : rSetU (.ref l) (.str k) v H R := .inr ⟨l, _, rfl, .k (k := .inr k) h hz, q _ rfl⟩
theorem tyL (h : H l = some (.lst xs)) : tyV K "list" (.ref l) H := .inl ⟨rfl, _, .inl (.inl h)⟩
theorem popAt {i : Int} {k : Nat} (h : H l = some (.lst xs)) (h0 : 0 ≤ i) (h1 : i < 2 ^ 63) (hk : i = (k : Int)) (hy : xs[k]? = some y) (q : ∀ H', H' = upd H l (.lst (xs.eraseIdx k)) → Q y H') : rPopAtU (.ref l) [.int i] H Q := by
  unfold rPopAtU
  exact ⟨l, xs, i, k, y, rfl, rfl, h, by omega, h1, by
    subst hk
    unfold seqIndex?
    have hl := (List.getElem?_eq_some_iff.mp hy).1
    have h0 : ¬ ((k : Int) < 0) := by omega
    simp only [if_neg h0]
    rw [if_pos (by simp; exact hl)]
    simp, hy, q _ rfl⟩
theorem popL (h : H l = some (.lst (xs ++ [y]))) (q : ∀ H', H' = upd H l (.lst xs) → Q y H') : rPopU (.ref l) [] H Q := by
  unfold rPopU
  exact ⟨l, xs ++ [y], y, rfl, rfl, h, by simp, by rw [List.dropLast_concat]; exact q _ rfl⟩
theorem app (h : H l = some (.lst xs)) (hz : xs.length < sizeLine) (q : ∀ H', H' = upd H l (.lst (xs ++ [y])) → Q .non H') : rAppendU (.ref l) [y] H Q := by
  unfold rAppendU
  exact ⟨l, xs, y, rfl, rfl, h, hz, q _ rfl⟩
theorem extL (h : H l = some (.lst xs)) (hb : H b = some (.lst ys)) (hz : xs.length + ys.length ≤ sizeLine) (q : ∀ H', H' = upd H l (.lst (xs ++ ys)) → Q .non H') : rExtU K (.ref l) [.ref b] H Q := by
  unfold rExtU
  exact .inl ⟨l, b, xs, ys, rfl, rfl, h, hb, hz, q _ rfl⟩
theorem extT (h : H l = some (.lst xs)) (hb : H b = some (.tup ys)) (hz : xs.length + ys.length ≤ sizeLine) (q : ∀ H', H' = upd H l (.lst (xs ++ ys)) → Q .non H') : rExtU K (.ref l) [.ref b] H Q := by
  unfold rExtU
  exact .inr ⟨l, b, xs, ys, rfl, rfl, h, .inl (.inl hb), hz, q _ rfl⟩
theorem lstOfQ (h : SqL K H b ys ∨ SqT K H b ys) (q : ∀ p H', H p = none → H' = upd H p (.lst ys) → Q (.ref p) H') : rLstOf K [.ref b] H Q := by
  unfold rLstOf
  exact ⟨b, ys, rfl, h, fun p hp => q p _ hp rfl⟩
theorem lstOfL (h : H b = some (.lst ys)) (q : ∀ p H', H p = none → H' = upd H p (.lst ys) → Q (.ref p) H') : rLstOf K [.ref b] H Q := by
  unfold rLstOf
  exact ⟨b, ys, rfl, .inl (.inl (.inl h)), fun p hp => q p _ hp rfl⟩
theorem lstOfT (h : H b = some (.tup ys)) (q : ∀ p H', H p = none → H' = upd H p (.lst ys) → Q (.ref p) H') : rLstOf K [.ref b] H Q := by
  unfold rLstOf
  exact ⟨b, ys, rfl, .inr (.inl (.inl h)), fun p hp => q p _ hp rfl⟩
theorem tupOfL (h : H b = some (.lst ys)) (q : ∀ p H', H p = none → H' = upd H p (.tup ys) → Q (.ref p) H') : rTupOf K [.ref b] H Q := by
  unfold rTupOf
  exact ⟨b, ys, rfl, .inl ⟨.inl (.inl h), fun p hp => q p _ hp rfl⟩⟩
theorem tupOfT (h : H b = some (.tup ys)) (q : Q (.ref b) H) : rTupOf K [.ref b] H Q := by
  unfold rTupOf
  exact ⟨b, ys, rfl, .inr ⟨.inl (.inl h), q⟩⟩
theorem catL {a : Addr} (ha : H a = some (.lst xs)) (hb : H b = some (.lst ys)) (h : xs.length + ys.length ≤ sizeLine) (q : ∀ p H', H p = none → H' = upd H p (.lst (xs ++ ys)) → Q (.ref p) H') : rAddU K (.ref a) (.ref b) H Q := addL ha hb h fun p hp => q p _ hp rfl
theorem mkT (hz : xs.length ≤ sizeLine) (q : ∀ p H', H p = none → H' = upd H p (.tup xs) → Q (.ref p) H') : xs.length ≤ sizeLine ∧ ∀ p, H p = none → Q (.ref p) (upd H p (.tup xs)) := ⟨hz, fun p hp => q p _ hp rfl⟩
theorem mkL (hz : xs.length ≤ sizeLine) (q : ∀ p H', H p = none → H' = upd H p (.lst xs) → Q (.ref p) H') : xs.length ≤ sizeLine ∧ ∀ p, H p = none → Q (.ref p) (upd H p (.lst xs)) := ⟨hz, fun p hp => q p _ hp rfl⟩
/-- a new list, a new tuple: the heap behind it a letter -/
theorem newL {R : Addr → Hp → Prop} (q : ∀ p H', H p = none → H' = upd H p (.lst xs) → R p H') : ∀ p, H p = none → R p (upd H p (.lst xs)) := fun p hp => q p _ hp rfl
theorem newT {R : Addr → Hp → Prop} (q : ∀ p H', H p = none → H' = upd H p (.tup xs) → R p H') : ∀ p, H p = none → R p (upd H p (.tup xs)) := fun p hp => q p _ hp rfl
end
section
variable {F : List Addr} {H H' H0 : Hp} {p a : Addr} {o u : HO}
theorem eqs (e : H' = upd H p o) : H' p = some o := by rw [e, upd_same]
theorem eqn (e : H' = upd H p o) (n : a ≠ p) (h : H a = some u) : H' a = some u := by rw [e, upd_ne n]; exact h
/-- at a new place -/
theorem eqf (e : H' = upd H p o) (n : H p = none) (h : H a = some u) : H' a = some u := eqn e (ne_of_none h n) h
theorem exn (e : H' = upd H p o) (n : H p = none) : ExF F H H' := by rw [e]; exact ExF.new n
theorem exm (e : H' = upd H p o) (n : H0 p = none ∨ p ∈ F) (x : ExF F H0 H) : ExF F H0 H' := by rw [e]; exact x.mut n
end
end Tw
end

section
set_option Elab.async false
set_option linter.all false
set_option maxRecDepth 100000
set_option maxHeartbeats 4000000
namespace Tw
open PySem L2 PyProof.Rows

/-! ### defs called by their names -/
structure Cal (P : Program) (w : World) (K : PySem.W.Frag) (mg : Str → Option Value) (base : Heap) (k : Nat) (x : Str) (sp : Sp) (dvs : List V) : Prop where
  ex : ∃ (f : Addr) (fd : FuncData) (ps : List Str) (ds : List Value), FnOk P w K mg base CX0 k f fd ps sp ∧ mg x = some (.ref f) ∧ PySem.W.keepIn K (.ref f) = true ∧ Binds K fd ps ds ∧ Vals dvs ds
theorem Cal.mk' {P : Program} {w : World} {K : PySem.W.Frag} {mg : Str → Option Value} {base : Heap} {k : Nat} {x : Str} {sp : Sp} {f : Addr} {fd : FuncData} {ps : List Str}
    (F : FnOk P w K mg base CX0 k f fd ps sp) (hf : mg x = some (.ref f)) (kp : PySem.W.keepIn K (.ref f) = true) (b : Binds K fd ps []) : Cal P w K mg base k x sp [] := ⟨f, fd, ps, [], F, hf, kp, b, .nil⟩
theorem Cal.mono {P : Program} {w : World} {K : PySem.W.Frag} {mg : Str → Option Value} {base : Heap} {j k : Nat} {x : Str} {sp : Sp} {dvs : List V} (c : Cal P w K mg base j x sp dvs) (h : j ≤ k) : Cal P w K mg base k x sp dvs := by
  obtain ⟨f, fd, ps, ds, F, r⟩ := c.ex
  exact ⟨f, fd, ps, ds, F.mono h, r⟩
section
variable {X : Cx} {x : Str} {sp : Sp} {dvs : List V} {j k : Nat} {e : Expr} {es : List Expr} {t : TA} {p pos : Pos} {v : V}
theorem pe_c (c : Cal X.prog X.w X.K X.mg X.base k x sp dvs) (hr : Room j X.A) (hk : k ≤ j) (hg : Gl X x) (ha : PA X (e :: es) t)
    (hdb : (x == ("__debug__" : Str)) = false := by decide) (he : starEach (e :: es) X.env = (false, eval e X.env) :: starEach es X.env := by rfl) (hpl : (backTo pos (starEach es X.env)).any (·.1) = false := by rfl) :
    PE X (.Call (.Name x p) (e :: es) [] pos) (tCall sp dvs E0 t) := by
  obtain ⟨f, fd, ps, ds, F, hm, kp, b, d⟩ := c.ex
  exact pe_call F (hr.mono hk) hg hm kp b d pass0 ha hdb he hpl
theorem pe_gc (hg : Gl X x) (h : ∃ u, X.mg x = some u ∧ RelV v u) (hd : (x == ("__debug__" : Str)) = false := by decide) : PE X (.Name x pos) (tC v) := by
  obtain ⟨u, h1, h2⟩ := h
  exact pe_glob hg h1 h2 hd
end
/-- what stands at a: a list or a tuple of these -/
def Sq (H : Hp) (a : Addr) (xs : List V) : Prop := H a = some (.lst xs) ∨ H a = some (.tup xs)
theorem Sq.eqf {H H' : Hp} {a p : Addr} {o : HO} {xs : List V} (h : Sq H a xs) (e : H' = upd H p o) (n : H p = none) : Sq H' a xs := h.elim (fun h => .inl (Tw.eqf e n h)) fun h => .inr (Tw.eqf e n h)
theorem Sq.ex {H H' : Hp} {a : Addr} {F : List Addr} {xs : List V} (h : Sq H a xs) (x : ExF F H H') (n : a ∉ F) : Sq H' a xs := h.elim (fun h => .inl (x.at_ _ _ n h)) fun h => .inr (x.at_ _ _ n h)
theorem Sq.ne {H : Hp} {a : Addr} {xs : List V} (h : Sq H a xs) : H a ≠ none := by
  rcases h with h | h <;> (rw [h]; exact fun z => nomatch z)
section
variable {K : PySem.W.Frag} {i : Nat} {a : Addr} {xs : List V} {g : TG} {tt : TT} {te : TE} {vs : List Nat} {σ : L2.St} {H : Hp} {Q : VK}
/-- [te for g in range(n)], n known -/
theorem lcR {n : Nat} (Pv : Addr → Nat → Hp → Prop)
    (h0 : ∀ D H', H D = none → H' = upd H D (.lst []) → Pv D 0 H')
    (hs : ∀ D i H', H D = none → i < n → Pv D i H' → g (.int (0 + (i : Nat))) (wipe σ vs) H' fun σ2 H2 => wipe σ2 vs = wipe σ vs ∧ tt σ2 H2 fun b H3 =>
      if b = true then te σ2 H3 fun y H4 => ∃ acc, H4 D = some (.lst acc) ∧ acc.length < sizeLine ∧ Pv D (i + 1) (upd H4 D (.lst (acc ++ [y]))) else Pv D (i + 1) H3)
    (hd : ∀ D H', H D = none → Pv D n H' → Q (.ref D) H') :
    ∀ D, H D = none → ∃ W : Nat → Nat → Hp → Prop, (∃ m, W 0 m (upd H D (.lst []))) ∧ ∀ i m H, W i m H →
      ((Itr 0 n).stop i H ∧ Q (.ref D) H) ∨ ((Itr 0 n).go i H ∧ ∃ Nx : Hp → Prop, (∀ H', Nx H' → ∃ m', m' < m ∧ W (i + 1) m' H') ∧ ∀ x H', (Itr 0 n).yld i H x H' → g x (wipe σ vs) H' fun σ2 H2 => wipe σ2 vs = wipe σ vs ∧ tt σ2 H2 fun b H3 =>
        if b = true then te σ2 H3 fun y H4 => ∃ acc, H4 D = some (.lst acc) ∧ acc.length < sizeLine ∧ Nx (upd H4 D (.lst (acc ++ [y]))) else Nx H3) :=
  fun D hD => lc_range (Pv D) (h0 D _ hD rfl) (fun i H' hi p => hs D i H' hD hi p) fun H' p => hd D H' hD p
end
theorem lenSq {K : PySem.W.Frag} {H : Hp} {a : Addr} {xs : List V} {Q : VK} (ha : Sq H a xs) (q : Q (.int (xs.length : Int)) H) : rLenU K [.ref a] H Q := ha.elim (fun h => lenL h q) fun h => lenT h q
theorem ixSq {K : PySem.W.Frag} {H : Hp} {a : Addr} {xs : List V} {v : V} {i : Int} {Q : VK} (ha : Sq H a xs) (h : atI xs i = some v) (q : Q v H) : rIxU K (.ref a) (.int i) H Q := ha.elim (fun k => ixL k h q) fun k => ixT k h q
theorem lstOfSq {K : PySem.W.Frag} {H : Hp} {b : Addr} {ys : List V} {Q : VK} (h : Sq H b ys) (q : ∀ p H', H p = none → H' = upd H p (.lst ys) → Q (.ref p) H') : rLstOf K [.ref b] H Q := h.elim (fun h => lstOfL h q) fun h => lstOfT h q
theorem atN {α : Type} {xs : List α} {k : Int} {v : α} (h0 : 0 ≤ k) (h : xs[k.toNat]? = some v) : atI xs k = some v := by
  have hl := (List.getElem?_eq_some_iff.mp h).1
  unfold atI ixN
  rw [if_pos h0, if_pos (by omega)]
  exact h
/-- rows of data and their arrangements -/
theorem RpL.perm {F : List Addr} {H : Hp} {xs ys : List V} (p : ys.Perm xs) : ∀ {ds : List PyData}, RpL F H xs ds → ∃ es, es.Perm ds ∧ RpL F H ys es := by
  induction p with
  | nil => intro ds r; exact ⟨ds, .refl _, r⟩
  | cons x p ih =>
    intro ds r
    cases ds with
    | nil => exact absurd r.1 (by simp)
    | cons d ds =>
      obtain ⟨v, vs, e, h, q⟩ := r.cons_inv
      cases e
      obtain ⟨es, p', q'⟩ := ih q
      exact ⟨d :: es, p'.cons d, .cons h q'⟩
  | swap x y l =>
    intro ds r
    cases ds with
    | nil => exact absurd r.1 (by simp)
    | cons d ds =>
      obtain ⟨v, vs, e, h, q⟩ := r.cons_inv
      cases ds with
      | nil => cases e; exact absurd q.1 (by simp)
      | cons d' ds =>
        obtain ⟨v', vs', e', h', q'⟩ := q.cons_inv
        cases e
        cases e'
        exact ⟨d' :: d :: ds, .swap _ _ _, .cons h' (.cons h q')⟩
  | trans p1 p2 ih1 ih2 =>
    intro ds r
    obtain ⟨es, p', q'⟩ := ih2 r
    obtain ⟨fs, p'', q''⟩ := ih1 q'
    exact ⟨fs, p''.trans p', q''⟩
theorem erase_perm {α : Type} : ∀ {l : List α} {k : Nat} {y : α}, l[k]? = some y → (y :: l.eraseIdx k).Perm l
  | [], k, y, h => by simp at h
  | x :: l, 0, y, h => by
    have e : x = y := by simpa using h
    subst e
    exact .refl _
  | x :: l, k + 1, y, h => by
    have ih := erase_perm (l := l) (k := k) (y := y) (by simpa using h)
    show (y :: x :: l.eraseIdx k).Perm (x :: l)
    exact (List.Perm.swap x y _).trans (ih.cons x)

/-! ### promises of the draws -/
/-- some[draw]: an item at a drawn place -/
def spPick : Sp := fun vs H Q _ => ∃ (st cl : Addr) (c : Nat) (l : Addr) (xs : List V), vs = [.ref st, .ref l] ∧ Strm st cl H c ∧ c < 2 ^ 48 ∧ Sq H l xs ∧ l ≠ st ∧ l ≠ cl ∧ 0 < xs.length ∧ xs.length < 2 ^ 30 ∧
  ∀ (k : Nat) (v : V) H', xs[k]? = some v → Strm st cl H' (c + 1) → ExF [st, cl] H H' → Q v H'
/-- the things in a drawn order, a new list -/
def spMixed : Sp := fun vs H Q _ => ∃ (st cl : Addr) (c : Nat) (l : Addr) (xs : List V), vs = [.ref st, .ref l] ∧ Strm st cl H c ∧ c + xs.length < 2 ^ 48 ∧ Sq H l xs ∧ xs.length < 2 ^ 20 ∧
  ∀ (r : Addr) (ys : List V) H', ys.Perm xs → H r = none → H' r = some (.lst ys) → Strm st cl H' (c + xs.length) → ExF [st, cl] H H' → Q (.ref r) H'
/-- the spring: from the script -/
def spStart (K : PySem.W.Frag) : Sp := fun vs H Q _ => ∃ (a : Addr) (ns : List Int), vs = [.ref a] ∧ SqL K H a (ns.map V.int) ∧ ns.length ≤ 1000 ∧
  ∀ st cl H', Strm st cl H' 0 → H st = none → H cl = none → ExF [] H H' → Q (.ref st) H'
end Tw
end

section
set_option Elab.async false
set_option linter.all false
set_option maxRecDepth 100000
set_option maxHeartbeats 4000000
namespace Tw
open PySem L2 PyProof.Rows

/-! ### what is walked: a row of values that stands still, at a place that is none of M -/
def IterS (M : List Addr) (wi : TI) (σ : L2.St) (H : Hp) (xs : List V) : Prop :=
  ∀ R : It → Hp → Prop, (∀ J a o H1, L2.Walk J xs.length (fun H' => H' a = some o) (YAt xs) → H1 a = some o → a ∉ M → ExF [] H H1 → R J H1) → wi σ H R
theorem wkL {K : PySem.W.Frag} {a : Addr} {xs : List V} : L2.Walk (Itl K a) xs.length (fun H' => H' a = some (.lst xs)) (YAt xs) :=
  (walk_list (K := K) (a := a) (xs := xs)).mono (fun H h => .inl (.inl h)) fun _ _ _ _ _ _ y => y
theorem wkT {K : PySem.W.Frag} {a : Addr} {xs : List V} : L2.Walk (Itt K a) xs.length (fun H' => H' a = some (.tup xs)) (YAt xs) :=
  (walk_tup (K := K) (a := a) (xs := xs)).mono (fun H h => .inl (.inl h)) fun _ _ _ _ _ _ y => y
section
variable {K : PySem.W.Frag} {M F : List Addr} {wi : TI} {i : Nat} {a : Addr} {xs : List V} {g : TG} {tt : TT} {te : TE} {vs : List Nat} {σ : L2.St} {H : Hp} {Q : VK}
theorem iter_var (hv : σ[i]? = some (some (.ref a))) (ha : Sq H a xs) (hM : a ∉ M) : IterS M (iSeqU K (tVar i)) σ H xs := fun R h => by
  rcases ha with ha | ha
  · exact .inl ⟨_, hv, a, rfl, ⟨xs, .inl (.inl ha)⟩, h _ a _ H wkL ha hM ExF.refl⟩
  · exact .inr (.inl ⟨_, hv, a, rfl, ⟨xs, .inl (.inl ha)⟩, h _ a _ H wkT ha hM ExF.refl⟩)
/-- a list that te gives -/
theorem iter_L (h : ∀ Qc : VK, (∀ p H1, H1 p = some (.lst xs) → p ∉ M → ExF [] H H1 → Qc (.ref p) H1) → te σ H Qc) : IterS M (iSeqU K te) σ H xs := fun R k =>
  .inl (h _ fun p H1 hp hM x => ⟨p, rfl, ⟨xs, .inl (.inl hp)⟩, k _ p _ H1 wkL hp hM x⟩)
theorem iter_T (h : ∀ Qc : VK, (∀ p H1, H1 p = some (.tup xs) → p ∉ M → ExF [] H H1 → Qc (.ref p) H1) → te σ H Qc) : IterS M (iSeqU K te) σ H xs := fun R k =>
  .inr (.inl (h _ fun p H1 hp hM x => ⟨p, rfl, ⟨xs, .inl (.inl hp)⟩, k _ p _ H1 wkT hp hM x⟩))
theorem lcS (hi : IterS M wi σ H xs) (Pv : Hp → Addr → Nat → Hp → Prop)
    (h0 : ∀ H1 D H2, ExF [] H H1 → H1 D = none → H2 = upd H1 D (.lst []) → Pv H1 D 0 H2) (hk : ∀ H1 D i H', H1 D = none → Pv H1 D i H' → ExF (D :: M) H1 H')
    (hs : ∀ H1 D i x H', ExF [] H H1 → H1 D = none → xs[i]? = some x → Pv H1 D i H' → g x (wipe σ vs) H' fun σ2 H2 => wipe σ2 vs = wipe σ vs ∧ tt σ2 H2 fun b H3 =>
      if b = true then te σ2 H3 fun y H4 => ∃ acc, H4 D = some (.lst acc) ∧ acc.length < sizeLine ∧ Pv H1 D (i + 1) (upd H4 D (.lst (acc ++ [y]))) else Pv H1 D (i + 1) H3)
    (hd : ∀ H1 D H', ExF [] H H1 → H1 D = none → Pv H1 D xs.length H' → Q (.ref D) H') : tLcU wi g tt te vs σ H Q := by
  unfold tLcU
  exact hi _ fun J a o H1 w ho hM x D hD => lc_it w (Pv H1 D) (h0 H1 D _ x hD rfl) (fun i H' _ p => (hk H1 D i H' hD p).at_ a o (by
      intro z
      rcases List.mem_cons.mp z with z | z
      · subst z; rw [hD] at ho; cases ho
      · exact hM z) ho) (fun i v H' H'' _ p y => by
      obtain ⟨e, y⟩ := y
      subst e
      exact hs H1 D i v H'' x hD y p) fun H' p => hd H1 D H' x hD p
theorem forS {tb : TS} {D : Ends} (hi : IterS M wi σ H xs) (Pv : Hp → Nat → L2.St → Hp → Prop) (h0 : ∀ H1, ExF [] H H1 → Pv H1 0 σ H1) (hk : ∀ H1 i σ' H', Pv H1 i σ' H' → ExF M H1 H')
    (hs : ∀ H1 i x σ' H', ExF [] H H1 → xs[i]? = some x → Pv H1 i σ' H' → g x σ' H' fun σ2 H2 => tb { D with nx := Pv H1 (i + 1), ct := Pv H1 (i + 1), bk := D.nx } σ2 H2)
    (hd : ∀ H1 σ' H', ExF [] H H1 → Pv H1 xs.length σ' H' → D.nx σ' H') : tForU wi g tb D σ H := by
  unfold tForU
  exact hi _ fun J a o H1 w ho hM x => for_it w (Pv H1) (h0 H1 x) (fun i σ' H' _ p => (hk H1 i σ' H' p).at_ a o hM ho) (fun i v σ' H' H'' _ p y => by
      obtain ⟨e, y⟩ := y
      subst e
      exact hs H1 i v σ' H'' x y p) fun σ' H' p => hd H1 σ' H' x p
/-- [te for x in ..], te pure: data -/
theorem lcMap {k : Nat} (hi : IterS [] wi σ H xs) (es : List PyData) (hl : es.length = xs.length) (hz : xs.length < sizeLine) (hw : ∀ x, wipe ((wipe σ vs).set k (some x)) vs = wipe σ vs)
    (hs : ∀ (D : Addr) (i : Nat) (x : V) (e : PyData) (H' : Hp), xs[i]? = some x → es[i]? = some e → ExF [] H H' → H D = none → H' D ≠ none → ∀ Qc : VK, (∀ y H4, ExF [] H' H4 → Rp (D :: F) H4 y e → Qc y H4) → te ((wipe σ vs).set k (some x)) H' Qc)
    (hd : ∀ r ys H', H r = none → H' r = some (.lst ys) → RpL F H' ys es → ExF [] H H' → Q (.ref r) H') : tLcU wi (gName k) tYes te vs σ H Q := by
  refine lcS hi (fun H1 D i H' => ∃ acc, acc.length = i ∧ H' D = some (.lst acc) ∧ RpL (D :: F) H' acc (es.take i) ∧ ExF [D] H1 H') (fun H1 D H2 x hD e => ⟨[], rfl, eqs e, by simpa using RpL.nil, exn e hD⟩) (fun H1 D i H' hD ⟨_, _, _, _, x⟩ => x) ?_ ?_
  · rintro H1 D i x H' x1 hD hx ⟨acc, ha, hH, r, x2⟩
    have hi : i < xs.length := (List.getElem?_eq_some_iff.mp hx).1
    have he : es[i]? = some es[i] := by simp [hl, hi]
    have x3 : ExF [] H H' := x1.trans (x2.drop hD)
    refine ⟨hw x, ?_⟩
    unfold tYes
    dsimp only
    rw [if_pos rfl]
    refine hs D i x _ H' hx he x3 (x1.free hD) (by rw [hH]; exact fun z => nomatch z) _ fun y H4 x4 ry => ?_
    refine ⟨acc, x4.at_ _ _ (by simp) hH, by omega, acc ++ [y], by simp [ha], upd_same, ?_, ?_⟩
    · have e5 : ExF [D] H4 (upd H4 D (.lst (acc ++ [y]))) := ExF.refl.mut (.inr (by simp))
      have r' : RpL (D :: F) H4 (acc ++ [y]) (es.take (i + 1)) := by
        have q := (r.ex x4.of).snoc ry
        have et : es.take (i + 1) = es.take i ++ [es[i]] := by rw [List.take_succ, he]; rfl
        rw [et]; exact q
      exact ⟨r'.1, fun j v d h1 h2 => (r'.2 j v d h1 h2).ex (e5.sub fun a z => by rw [List.mem_singleton.mp z]; exact List.mem_cons_self)⟩
    · exact exm rfl (.inr (by simp)) (x2.trans x4.of)
  · rintro H1 D H' x1 hD ⟨acc, ha, hH, r, x2⟩
    rw [← hl, List.take_length] at r
    exact hd D acc H' (x1.free hD) hH r.drop (x1.trans (x2.drop hD))
/-- [te for x in ..], te pure: truths -/
theorem lcMapB {k : Nat} (hi : IterS [] wi σ H xs) (bs : List Bool) (hl : bs.length = xs.length) (hz : xs.length < sizeLine) (hw : ∀ x, wipe ((wipe σ vs).set k (some x)) vs = wipe σ vs)
    (hs : ∀ (i : Nat) (x : V) (b : Bool) (H' : Hp), xs[i]? = some x → bs[i]? = some b → ExF [] H H' → ∀ Qc : VK, (∀ H4, ExF [] H' H4 → Qc (.bl b) H4) → te ((wipe σ vs).set k (some x)) H' Qc)
    (hd : ∀ r H', H r = none → H' r = some (.lst (bs.map V.bl)) → ExF [] H H' → Q (.ref r) H') : tLcU wi (gName k) tYes te vs σ H Q := by
  refine lcS hi (fun H1 D i H' => H' D = some (.lst ((bs.take i).map V.bl)) ∧ ExF [D] H1 H') (fun H1 D H2 x hD e => ⟨eqs e, exn e hD⟩) (fun H1 D i H' hD ⟨_, x⟩ => x) ?_ ?_
  · rintro H1 D i x H' x1 hD hx ⟨hH, x2⟩
    have hi : i < xs.length := (List.getElem?_eq_some_iff.mp hx).1
    have he : bs[i]? = some bs[i] := by simp [hl, hi]
    have x3 : ExF [] H H' := x1.trans (x2.drop hD)
    refine ⟨hw x, ?_⟩
    unfold tYes
    dsimp only
    rw [if_pos rfl]
    refine hs i x _ H' hx he x3 _ fun H4 x4 => ?_
    refine ⟨_, x4.at_ _ _ (by simp) hH, by rw [List.length_map, List.length_take]; omega, ?_, ?_⟩
    · have et : bs.take (i + 1) = bs.take i ++ [bs[i]] := by rw [List.take_succ, he]; rfl
      rw [upd_same, et, List.map_append]
      rfl
    · exact exm rfl (.inr (by simp)) (x2.trans x4.of)
  · rintro H1 D H' x1 hD ⟨hH, x2⟩
    rw [← hl, List.take_length] at hH
    exact hd D H' (x1.free hD) hH (x1.trans (x2.drop hD))

theorem wkE {K : PySem.W.Frag} {a : Addr} {xs : List V} : L2.Walk (Ite K a) xs.length (fun H' => H' a = some (.lst xs)) (YPair (fun i => some (.int (i : Nat))) (fun i => xs[i]?)) :=
  (walk_enum (K := K) (a := a) (xs := xs)).mono (fun H h => .inl (.inl h)) fun _ _ _ _ _ _ y => y
theorem wkET {K : PySem.W.Frag} {a : Addr} {xs : List V} : L2.Walk (IteT K a) xs.length (fun H' => H' a = some (.tup xs)) (YPair (fun i => some (.int (i : Nat))) (fun i => xs[i]?)) := by
  refine ⟨fun i _ hi q => ⟨xs, xs[i], .inl (.inl q), by simp [hi]⟩, fun _ q => ⟨xs, .inl (.inl q), rfl⟩, fun i H v H' _ q y => ?_⟩
  obtain ⟨T, x, h1, h2, h3, h4⟩ := y
  exact ⟨T, .int (i : Nat), x, h1, h2, h3, rfl, h4 xs (.inl (.inl q))⟩
/-- for k1, k2 in enumerate(x): tb, x a name -/
theorem forE {tb : TS} {D : Ends} {k1 k2 : Nat} (hv : σ[i]? = some (some (.ref a))) (ha : Sq H a xs) (hM : a ∉ M) (Pv : Nat → L2.St → Hp → Prop) (h0 : Pv 0 σ H) (hk : ∀ i σ' H', Pv i σ' H' → ExF M H H')
    (hs : ∀ (i : Nat) (x : V) σ' H' H'', xs[i]? = some x → Pv i σ' H' → ExF [] H' H'' → tb { D with nx := Pv (i + 1), ct := Pv (i + 1), bk := D.nx } ((σ'.set k1 (some (.int (i : Nat)))).set k2 (some x)) H'') (hd : ∀ σ' H', Pv xs.length σ' H' → D.nx σ' H') :
    tForU (iEnumU K (tCons (tVar i) tNil)) (gTup K 2 (gCons (gName k1) (gCons (gName k2) gNil))) tb D σ H := by
  have body : ∀ (i : Nat) (v : V) σ' (H' H'' : Hp), Pv i σ' H' → YPair (fun i => some (.int (i : Nat))) (fun i => xs[i]?) i H' v H'' →
      gTup K 2 (gCons (gName k1) (gCons (gName k2) gNil)) v σ' H'' fun σ2 H2 => tb { D with nx := Pv (i + 1), ct := Pv (i + 1), bk := D.nx } σ2 H2 := by
    rintro i v σ' H' H'' p ⟨T, x, y, rfl, hT, rfl, ex, hy⟩
    cases ex
    exact ⟨T, _, rfl, .inl (.inl upd_same), rfl, _, _, rfl, _, _, rfl, rfl, hs i y σ' H' _ hy p (ExF.new hT)⟩
  unfold tForU
  rcases ha with ha | ha
  · exact .inl ⟨_, hv, a, xs, rfl, .inl (.inl ha), for_it wkE Pv h0 (fun i σ' H' _ p => (hk i σ' H' p).at_ a _ hM ha) (fun i v σ' H' H'' _ p y => body i v σ' H' H'' p y) hd⟩
  · exact .inr ⟨_, hv, a, xs, rfl, .inl (.inl ha), for_it wkET Pv h0 (fun i σ' H' _ p => (hk i σ' H' p).at_ a _ hM ha) (fun i v σ' H' H'' _ p y => body i v σ' H' H'' p y) hd⟩
/-! ### slices -/
theorem sIx_from {n i : Nat} (h : i ≤ n) : HT.sIx n 0 (some (i : Int)) = i := by
  show (if (i : Int) < 0 then ((i : Int) + (n : Int)).toNat else min (i : Int).toNat n) = i
  rw [if_neg (by omega)]
  omega
theorem sIx_to {n i : Nat} : HT.sIx n n (some (i : Int)) = min i n := by
  show (if (i : Int) < 0 then ((i : Int) + (n : Int)).toNat else min (i : Int).toNat n) = _
  rw [if_neg (by omega)]
  omega
theorem cut_from {i : Nat} (h : i ≤ xs.length) : cutV xs (some (i : Int)) none = xs.drop i := by
  unfold cutV
  rw [sIx_from h]
  show (xs.drop i).take (xs.length - i) = xs.drop i
  exact List.take_of_length_le (by simp)
theorem cut_to {i : Nat} : cutV xs none (some (i : Int)) = xs.take i := by
  unfold cutV
  rw [sIx_to]
  show (xs.drop 0).take (min i xs.length - 0) = xs.take i
  rw [List.drop_zero, Nat.sub_zero]
  by_cases h : i ≤ xs.length
  · rw [Nat.min_eq_left h]
  · rw [Nat.min_eq_right (by omega), List.take_of_length_le (Nat.le_refl _), List.take_of_length_le (by omega)]
/-- x[i:] of a list or a tuple, i from 1 to its length -/
theorem slFrom {j : Int} (i : Nat) (hj : j = (i : Int)) (ha : Sq H a xs) (h : i ≤ xs.length) (h0 : 0 < i) (q : ∀ p H', H p = none → Sq H' p (xs.drop i) → ExF [] H H' → Q (.ref p) H') : rSlU K (.ref a) (some j) none H Q := by
  subst hj
  unfold rSlU
  rcases ha with ha | ha
  · refine .inl ⟨a, xs, rfl, .inl (.inl ha), fun p hp => ?_⟩
    rw [cut_from h]
    exact q p _ hp (.inl upd_same) (ExF.new hp)
  · refine .inr (.inl ⟨a, xs, rfl, .inl (.inl ha), fun ⟨w, _⟩ => ?_, fun _ p hp => ?_⟩)
    · rw [sIx_from h] at w
      omega
    · rw [cut_from h]
      exact q p _ hp (.inr upd_same) (ExF.new hp)
/-- x[:i] of a list -/
theorem slToL {j : Int} (i : Nat) (hj : j = (i : Int)) (ha : H a = some (.lst xs)) (q : ∀ p H', H p = none → H' = upd H p (.lst (xs.take i)) → Q (.ref p) H') : rSlU K (.ref a) none (some j) H Q := by
  subst hj
  unfold rSlU
  refine .inl ⟨a, xs, rfl, .inl (.inl ha), fun p hp => ?_⟩
  rw [cut_to]
  exact q p _ hp rfl
/-- x[i:] of a list -/
theorem slFromL {j : Int} (i : Nat) (hj : j = (i : Int)) (h : i ≤ xs.length) (ha : H a = some (.lst xs)) (q : ∀ p H', H p = none → H' = upd H p (.lst (xs.drop i)) → Q (.ref p) H') : rSlU K (.ref a) (some j) none H Q := by
  subst hj
  unfold rSlU
  refine .inl ⟨a, xs, rfl, .inl (.inl ha), fun p hp => ?_⟩
  rw [cut_from h]
  exact q p _ hp rfl
theorem slFromT {j : Int} (i : Nat) (hj : j = (i : Int)) (h : i ≤ xs.length) (h0 : 0 < i) (ha : H a = some (.tup xs)) (q : ∀ p H', H p = none → H' = upd H p (.tup (xs.drop i)) → Q (.ref p) H') : rSlU K (.ref a) (some j) none H Q := by
  subst hj
  unfold rSlU
  refine .inr (.inl ⟨a, xs, rfl, .inl (.inl ha), fun ⟨w, _⟩ => ?_, fun _ p hp => ?_⟩)
  · rw [sIx_from h] at w
    omega
  · rw [cut_from h]
    exact q p _ hp rfl
/-- the rest of a row behind its first thing -/
theorem iter_sl1 (hv : σ[i]? = some (some (.ref a))) (ha : Sq H a xs) (h : 0 < xs.length) (tM : Trk M H) : IterS M (iSeqU K (tSl (rSlU K) (tVar i) (tPart (tC (.int 1))) tNoPart)) σ H (xs.drop 1) := by
  rcases ha with ha | ha
  · exact iter_L fun Qc k => ⟨_, hv, _, rfl, slFromL 1 rfl (by omega) ha fun p H1 hp e1 => k p H1 (eqs e1) (tM.nin hp) (exn e1 hp)⟩
  · exact iter_T fun Qc k => ⟨_, hv, _, rfl, slFromT 1 rfl (by omega) (by decide) ha fun p H1 hp e1 => k p H1 (eqs e1) (tM.nin hp) (exn e1 hp)⟩
theorem extSq {l b : Addr} {ys : List V} (h : H l = some (.lst xs)) (hb : Sq H b ys) (hz : xs.length + ys.length ≤ sizeLine) (q : ∀ H', H' = upd H l (.lst (xs ++ ys)) → Q .non H') : rExtU K (.ref l) [.ref b] H Q :=
  hb.elim (fun hb => extL h hb hz q) fun hb => extT h hb hz q
theorem notInFlatT {x : V} {ys : List V} (h : H a = some (.tup ys)) (hx : flatV x = true) (hy : ys.all flatV = true) (q : Q (.bl (!inV x ys)) H) : rNotInU K x (.ref a) H Q := by
  unfold rNotInU
  exact .inr (.inr (.inr ⟨a, ys, rfl, .inr (.inl (.inl h)), hx, hy, q⟩))
theorem inFlatT {x : V} {ys : List V} (h : H a = some (.tup ys)) (hx : flatV x = true) (hy : ys.all flatV = true) (q : Q (.bl (inV x ys)) H) : rInU K x (.ref a) H Q := by
  unfold rInU
  exact .inr (.inr (.inr ⟨a, ys, rfl, .inr (.inl (.inl h)), hx, hy, q⟩))
end
end Tw
end

section
set_option Elab.async false
set_option linter.all false
set_option maxRecDepth 100000
set_option maxHeartbeats 4000000
namespace Tw
open PySem L2 PyProof.Rows

/-! ### what the document calls names, exprs, lines: plain functions of data -/
abbrev letters : Str := "abcdefghijklmnopqrstuvwxyz"
abbrev figs : Str := "0123456789"
def inSign (y : Str) (c : Nat) : Bool := !(Builtin.Str.occurrences y ⟨#[c]⟩ 0 y.length 1).isEmpty
def headIn (y : Str) : List Nat → Bool
  | [] => false
  | c :: _ => inSign y c
def nameS (s : Str) : Bool := decide (0 < s.length) && decide (s.length ≤ 8) && headIn letters s.cps.toList && !decide (s ∈ (["read", "tell"] : List Str)) && s.cps.toList.all (inSign (letters ++ figs))
def nameD : PyData → Bool
  | .str s => nameS s
  | _ => false
mutual
def exprD (known : List Str) : PyData → Bool
  | .str s => decide (s ∈ known)
  | .list ds => exprL known ds
  | .tuple ds => exprL known ds
  | _ => false
/-- an operation's name and exprs -/
def exprL (known : List Str) : List PyData → Bool
  | [] => false
  | d :: ds => nameD d && exprs known ds
def exprs (known : List Str) : List PyData → Bool
  | [] => true
  | d :: ds => exprD known d && exprs known ds
end
def isS (z : Str) : PyData → Bool
  | .str s => decide (s = z)
  | _ => false
/-- a name that is one of these -/
def nmIn (known : List Str) : PyData → Bool
  | .str s => decide (s ∈ known)
  | _ => false
def lineL (known told : List Str) : List PyData → Bool
  | [a, b] => nameD b && ((isS "read" a && !nmIn known b) || (isS "tell" a && nmIn known b && !nmIn told b))
  | [a, b, e] => nameD b && isS "give" a && exprD known e
  | _ => false
def items : PyData → Option (List PyData)
  | .list ds => some ds
  | .tuple ds => some ds
  | _ => none
def lineD (known told : List Str) (d : PyData) : Bool := match items d with
  | some ds => lineL known told ds
  | none => false
/-- the name that a line speaks of, whether it tells it -/
def lineN (d : PyData) : Str := match items d with
  | some (_ :: .str s :: _) => s
  | _ => ""
def lineT (d : PyData) : Bool := match items d with
  | some (a :: _) => isS "tell" a
  | _ => false
def faultL (known told : List Str) (i : Nat) : List PyData → Option Nat
  | [] => none
  | d :: ds => if lineD known told d = true then faultL (known ++ [lineN d]) (told ++ if lineT d then [lineN d] else []) (i + 1) ds else some i
/-- how a source of a thing is refused -/
def metD (d : PyData) : Option Nat := match items d with
  | some ds => faultL [] [] 0 ds
  | none => some 0
def optD : Option Nat → PyData
  | none => .none
  | some i => .int i
mutual
/-- tuples throughout -/
def tupD : PyData → PyData
  | .list ds => .tuple (tups ds)
  | .tuple ds => .tuple (tups ds)
  | .none => .none
  | .bool b => .bool b
  | .int i => .int i
  | .str s => .str s
  | .dict kvs => .dict kvs
def tups : List PyData → List PyData
  | [] => []
  | d :: ds => tupD d :: tups ds
end
theorem tups_map : ∀ ds : List PyData, tups ds = ds.map tupD
  | [] => by rw [tups]; rfl
  | d :: ds => by rw [tups, tups_map ds]; rfl
theorem exprs_all (known : List Str) : ∀ ds : List PyData, exprs known ds = ds.all (exprD known)
  | [] => by rw [exprs]; rfl
  | d :: ds => by rw [exprs, exprs_all known ds]; rfl

/-! ### data that may hold an empty dict -/
mutual
def okx : Nat → PyData → Bool
  | _, .none => true
  | _, .bool _ => true
  | _, .int _ => true
  | _, .str s => okS s
  | 0, .list _ => false
  | 0, .tuple _ => false
  | n + 1, .list ds => okxs n ds && decide (ds.length ≤ 100000)
  | n + 1, .tuple ds => okxs n ds && decide (ds.length ≤ 100000)
  | _, .dict kvs => kvs.isEmpty
def okxs : Nat → List PyData → Bool
  | _, [] => true
  | n, d :: ds => okx n d && okxs n ds
end
theorem okxs_iff {n : Nat} : ∀ {ds : List PyData}, okxs n ds = true ↔ ∀ d ∈ ds, okx n d = true
  | [] => by simp [okxs]
  | d :: ds => by rw [okxs, Bool.and_eq_true, okxs_iff (ds := ds)]; simp
theorem okxs_cons {n : Nat} {d : PyData} {ds : List PyData} : okxs n (d :: ds) = true ↔ okx n d = true ∧ okxs n ds = true := by rw [okxs, Bool.and_eq_true]
theorem okxs_append {n : Nat} {ds es : List PyData} : okxs n (ds ++ es) = true ↔ okxs n ds = true ∧ okxs n es = true := by
  rw [okxs_iff, okxs_iff, okxs_iff]
  exact ⟨fun h => ⟨fun d k => h d (List.mem_append_left _ k), fun d k => h d (List.mem_append_right _ k)⟩, fun h d k => (List.mem_append.mp k).elim (h.1 d) (h.2 d)⟩
theorem okx_list {n : Nat} {ds : List PyData} : okx (n + 1) (.list ds) = true ↔ okxs n ds = true ∧ ds.length ≤ 100000 := by rw [okx, Bool.and_eq_true, decide_eq_true_eq]
theorem okx_tuple {n : Nat} {ds : List PyData} : okx (n + 1) (.tuple ds) = true ↔ okxs n ds = true ∧ ds.length ≤ 100000 := by rw [okx, Bool.and_eq_true, decide_eq_true_eq]
theorem okx_str {n : Nat} {s : Str} : okx n (.str s) = okS s := by cases n <;> rw [okx]
mutual
theorem okx_of : ∀ {n : Nat} {d : PyData}, ok n d = true → okx n d = true
  | n, .none, _ => by cases n <;> rw [okx]
  | n, .bool _, _ => by cases n <;> rw [okx]
  | n, .int _, _ => by cases n <;> rw [okx]
  | n, .str s, h => by rw [okx_str]; rw [ok_str] at h; exact h
  | 0, .list _, h => by simp [ok] at h
  | 0, .tuple _, h => by simp [ok] at h
  | n + 1, .list ds, h => by rw [ok_list] at h; rw [okx_list]; exact ⟨okxs_of h.1, h.2⟩
  | n + 1, .tuple ds, h => by rw [ok_tuple] at h; rw [okx_tuple]; exact ⟨okxs_of h.1, h.2⟩
  | n, .dict _, h => by cases n <;> simp [ok] at h
theorem okxs_of : ∀ {n : Nat} {ds : List PyData}, oks n ds = true → okxs n ds = true
  | n, [], _ => by rw [okxs]
  | n, d :: ds, h => by rw [oks_cons] at h; rw [okxs_cons]; exact ⟨okx_of h.1, okxs_of h.2⟩
end
mutual
theorem okx_succ : ∀ {n : Nat} {d : PyData}, okx n d = true → okx (n + 1) d = true
  | n, .none, _ => by rw [okx]
  | n, .bool _, _ => by rw [okx]
  | n, .int _, _ => by rw [okx]
  | n, .str s, h => by rw [okx_str] at h ⊢; exact h
  | 0, .list _, h => by simp [okx] at h
  | 0, .tuple _, h => by simp [okx] at h
  | n + 1, .list ds, h => by rw [okx_list] at h ⊢; exact ⟨okxs_succ h.1, h.2⟩
  | n + 1, .tuple ds, h => by rw [okx_tuple] at h ⊢; exact ⟨okxs_succ h.1, h.2⟩
  | n, .dict kvs, h => by cases n <;> (rw [okx] at h ⊢; exact h)
theorem okxs_succ : ∀ {n : Nat} {ds : List PyData}, okxs n ds = true → okxs (n + 1) ds = true
  | n, [], _ => by rw [okxs]
  | n, d :: ds, h => by rw [okxs_cons] at h ⊢; exact ⟨okx_succ h.1, okxs_succ h.2⟩
end
theorem okx_le {n m : Nat} {d : PyData} (h : okx n d = true) (k : n ≤ m) : okx m d = true := by
  induction k with
  | refl => exact h
  | step _ ih => exact okx_succ ih
theorem okS_len {s : Str} (h : okS s = true) : s.length ≤ 200 := by
  unfold okS at h
  rw [Bool.and_eq_true] at h
  exact of_decide_eq_true h.2
theorem okS_sz {s : Str} (h : okS s = true) : s.length ≤ sizeLine := by
  rw [sizeLine_eq]
  exact Nat.le_trans (okS_len h) (by decide)

mutual
def size : PyData → Nat
  | .list ds => sizes ds + 1
  | .tuple ds => sizes ds + 1
  | .none => 1
  | .bool _ => 1
  | .int _ => 1
  | .str _ => 1
  | .dict _ => 1
def sizes : List PyData → Nat
  | [] => 0
  | d :: ds => size d + sizes ds
end
theorem sizes_append : ∀ (ds es : List PyData), sizes (ds ++ es) = sizes ds + sizes es
  | [], es => by rw [sizes, List.nil_append, Nat.zero_add]
  | d :: ds, es => by rw [List.cons_append, sizes, sizes, sizes_append ds es, Nat.add_assoc]
theorem size_pos (d : PyData) : 0 < size d := by cases d <;> simp [size]
theorem sizes_len : ∀ ds : List PyData, ds.length ≤ sizes ds
  | [] => Nat.zero_le _
  | d :: ds => by rw [sizes, List.length_cons]; have := size_pos d; have := sizes_len ds; omega
/-- a row whose first thing holds no dict -/
def fine (d : PyData) : Bool := match items d with
  | some (a :: _) => ok 20 a
  | _ => true
/-! ### promises -/
/-- an instance of one's own class: no list, no text .. -/
def spIsList (K : PySem.W.Frag) : Sp := fun vs H Q _ => (∃ (F : List Addr) (v : V) (d : PyData), vs = [v] ∧ Rp F H v d ∧ ∀ H', ExF [] H H' → Q (.bl (isSeq d)) H') ∨
  ∃ (v : V) (t : Value), vs = [v] ∧ (∀ H', ExF [] H H' → TyX K H' v t) ∧ PySem.W.kitAny K t [.type "list", .type "tuple"] = some false ∧ ∀ H', ExF [] H H' → Q (.bl false) H'
def spIsName : Sp := fun vs H Q _ => ∃ (F : List Addr) (v : V) (d : PyData) (n : Nat), vs = [v] ∧ Rp F H v d ∧ okx n d = true ∧ ∀ H', ExF [] H H' → Q (.bl (nameD d)) H'
def spAsTuples (n : Nat) : Sp := fun vs H Q _ => ∃ (F G : List Addr) (v : V) (d : PyData), vs = [v] ∧ Rp F H v d ∧ (0 < n ∧ ok (n - 1) d = true) ∧ Trk G H ∧ ∀ r H', ExF [] H H' → Rp G H' r (tupD d) → Q r H'
/-- the dict at a has just these keys, in this many entries at most -/
def Keys (H : Hp) (a : Addr) (ns : List Str) : Prop := ∃ kvs : List (Key × V), H a = some (.dK kvs) ∧ kvs.length ≤ ns.length ∧ ∀ s : Str, (valV kvs (.inr s)).isSome = decide (s ∈ ns)
def spPIsExpr : Sp := fun vs H Q _ => ∃ (F : List Addr) (kd : Addr) (known : List Str) (v : V) (d : PyData) (n : Nat), vs = [.ref kd, v] ∧ Keys H kd known ∧ Rp F H v d ∧ okx n d = true ∧ size d ≤ 1000000 ∧ ∀ H', ExF [] H H' → Q (.bl (exprD known d)) H'
def spPIsLine : Sp := fun vs H Q _ => ∃ (F : List Addr) (kd td : Addr) (known told : List Str) (v : V) (d : PyData) (n : Nat), vs = [.ref kd, .ref td, v] ∧ Keys H kd known ∧ Keys H td told ∧ Rp F H v d ∧ okx n d = true ∧ size d ≤ 1000000 ∧ ∀ H', ExF [] H H' → Q (.bl (lineD known told d)) H'
def StrsAt (H : Hp) (a : Addr) (zs : List Str) : Prop := H a = some (.lst (zs.map V.str))
def spLIsExpr (m : Nat) : Sp := fun vs H Q _ => ∃ (F : List Addr) (kd : Addr) (known : List Str) (v : V) (d : PyData), vs = [.ref kd, v] ∧ StrsAt H kd known ∧ Rp F H v d ∧ (0 < m ∧ okx (m - 1) d = true) ∧ ∀ H', ExF [] H H' → Q (.bl (exprD known d)) H'
def spLIsLine : Sp := fun vs H Q _ => ∃ (F : List Addr) (kd td : Addr) (known told : List Str) (v : V) (d : PyData) (n : Nat), vs = [.ref kd, .ref td, v] ∧ StrsAt H kd known ∧ StrsAt H td told ∧ Rp F H v d ∧ okx n d = true ∧ n ≤ 29 ∧ fine d = true ∧ ∀ H', ExF [] H H' → Q (.bl (lineD known told d)) H'
def spFault : Sp := fun vs H Q _ => ∃ (F : List Addr) (l : Addr) (xs : List V) (ds : List PyData) (n : Nat), vs = [.ref l] ∧ Sq H l xs ∧ RpL F H xs ds ∧ okxs n ds = true ∧ n ≤ 29 ∧ (∀ d ∈ ds, fine d = true) ∧ ds.length ≤ 1000 ∧ ∀ v H', ExF [] H H' → Rp [] H' v (optD (faultL [] [] 0 ds)) → Q v H'
end Tw
end

section
set_option Elab.async false
set_option linter.all false
set_option maxRecDepth 100000
set_option maxHeartbeats 4000000
namespace Tw
open PySem L2 PyProof.Rows

/-! ### literals -/
inductive Lt | non | bl (b : Bool) | int (i : Int) | str (s : Str) | var (k : Nat) | tup (ls : List Lt) | lst (ls : List Lt) | dct
mutual
def Lt.t : Lt → TE
  | .non => tC .non
  | .bl b => tC (.bl b)
  | .int i => tC (.int i)
  | .str s => tC (.str s)
  | .var k => tVar k
  | .tup ls => tTupU (Lt.ts ls)
  | .lst ls => tLstU (Lt.ts ls)
  | .dct => tDNewK
def Lt.ts : List Lt → TA
  | [] => tNil
  | l :: ls => tCons l.t (Lt.ts ls)
end
mutual
def Lt.d (dv : Nat → PyData) : Lt → PyData
  | .non => .none
  | .bl b => .bool b
  | .int i => .int i
  | .str s => .str s
  | .var k => dv k
  | .tup ls => .tuple (Lt.ds dv ls)
  | .lst ls => .list (Lt.ds dv ls)
  | .dct => .dict []
def Lt.ds (dv : Nat → PyData) : List Lt → List PyData
  | [] => []
  | l :: ls => l.d dv :: Lt.ds dv ls
end
mutual
def Lt.good (vs : List Nat) : Lt → Bool
  | .var k => vs.contains k
  | .tup ls => decide (ls.length ≤ 1000) && Lt.goods vs ls
  | .lst ls => decide (ls.length ≤ 1000) && Lt.goods vs ls
  | .non => true
  | .bl _ => true
  | .int _ => true
  | .str _ => true
  | .dct => true
def Lt.goods (vs : List Nat) : List Lt → Bool
  | [] => true
  | l :: ls => l.good vs && Lt.goods vs ls
end
theorem Lt.ds_len (dv : Nat → PyData) : ∀ ls : List Lt, (Lt.ds dv ls).length = ls.length
  | [] => by rw [Lt.ds]; rfl
  | l :: ls => by rw [Lt.ds, List.length_cons, List.length_cons, Lt.ds_len dv ls]
theorem Trk.eqf {F : List Addr} {H H' : Hp} {p : Addr} {o : HO} (t : Trk F H) (e : H' = upd H p o) : Trk F H' := fun a z => by rw [e]; exact upd_kept (t a z)
section
variable {σ : L2.St} {dv : Nat → PyData} {F : List Addr} {vs : List Nat}
mutual
theorem tLit : ∀ (L : Lt) {H : Hp} {Q : VK}, L.good vs = true → (∀ k, vs.contains k = true → ∃ v, σ[k]? = some (some v) ∧ Rp F H v (dv k)) → Trk F H →
    (∀ v H', ExF [] H H' → Rp F H' v (L.d dv) → Q v H') → L.t σ H Q
  | .non, H, Q, _, _, _, q => by rw [Lt.t]; exact q _ H ExF.refl (by rw [Lt.d]; exact .non)
  | .bl b, H, Q, _, _, _, q => by rw [Lt.t]; exact q _ H ExF.refl (by rw [Lt.d]; exact .bl b)
  | .int b, H, Q, _, _, _, q => by rw [Lt.t]; exact q _ H ExF.refl (by rw [Lt.d]; exact .int b)
  | .str b, H, Q, _, _, _, q => by rw [Lt.t]; exact q _ H ExF.refl (by rw [Lt.d]; exact .str b)
  | .var k, H, Q, g, hv, _, q => by
    rw [Lt.good] at g
    obtain ⟨v, h1, h2⟩ := hv k g
    rw [Lt.t]
    exact ⟨v, h1, q v H ExF.refl (by rw [Lt.d]; exact h2)⟩
  | .dct, H, Q, _, _, t, q => by
    rw [Lt.t]
    exact fun p hp => q _ _ (ExF.new hp) (by rw [Lt.d]; exact .dct (t.nin hp) upd_same)
  | .tup ls, H, Q, g, hv, t, q => by
    rw [Lt.good, Bool.and_eq_true] at g
    have hl := of_decide_eq_true g.1
    rw [Lt.t]
    refine tLits ls g.2 hv t fun xs H1 x1 r => ⟨?_, fun p H2 hp e2 => ?_⟩
    · rw [r.1, Lt.ds_len, sizeLine_eq]; omega
    · exact q _ _ (x1.trans (exn e2 hp)) (by rw [Lt.d]; exact .tuple ((t.ex x1).nin hp) (eqs e2) (r.ex (exn e2 hp)))
  | .lst ls, H, Q, g, hv, t, q => by
    rw [Lt.good, Bool.and_eq_true] at g
    have hl := of_decide_eq_true g.1
    rw [Lt.t]
    refine tLits ls g.2 hv t fun xs H1 x1 r => ⟨?_, fun p H2 hp e2 => ?_⟩
    · rw [r.1, Lt.ds_len, sizeLine_eq]; omega
    · exact q _ _ (x1.trans (exn e2 hp)) (by rw [Lt.d]; exact .list ((t.ex x1).nin hp) (eqs e2) (r.ex (exn e2 hp)))
theorem tLits : ∀ (ls : List Lt) {H : Hp} {Q : List V → Hp → Prop}, Lt.goods vs ls = true → (∀ k, vs.contains k = true → ∃ v, σ[k]? = some (some v) ∧ Rp F H v (dv k)) → Trk F H →
    (∀ xs H', ExF [] H H' → RpL F H' xs (Lt.ds dv ls) → Q xs H') → Lt.ts ls σ H Q
  | [], H, Q, _, _, _, q => by rw [Lt.ts]; exact q [] H ExF.refl (by rw [Lt.ds]; exact .nil)
  | l :: ls, H, Q, g, hv, t, q => by
    rw [Lt.goods, Bool.and_eq_true] at g
    rw [Lt.ts]
    refine tLit l g.1 hv t fun v H1 x1 r1 => ?_
    refine tLits ls g.2 (fun k hk => ?_) (t.ex x1) fun xs H2 x2 r2 => ?_
    · obtain ⟨v, h1, h2⟩ := hv k hk
      exact ⟨v, h1, h2.ex x1.of⟩
    · exact q _ _ (x1.trans x2) (by rw [Lt.ds]; exact .cons (r1.ex x2.of) r2)
end
end
theorem ltP : ∃ f : Lt → TE, f = Lt.t := ⟨Lt.t, rfl⟩
/-- a literal's reading, closed -/
noncomputable def tLt (L : Lt) : TE := Classical.choose ltP L
theorem tLt_eq (L : Lt) : tLt L = Lt.t L := by unfold tLt; rw [Classical.choose_spec ltP]
theorem pe_lt {X : Cx} {e : Expr} {L : Lt} (h : PE X e (Lt.t L)) : PE X e (tLt L) := by rw [tLt_eq]; exact h
theorem lit {σ : L2.St} (dv : Nat → PyData) (F : List Addr) (vs : List Nat) {L : Lt} {H : Hp} {Q : VK} (g : L.good vs = true) (hv : ∀ k, vs.contains k = true → ∃ v, σ[k]? = some (some v) ∧ Rp F H v (dv k)) (t : Trk F H)
    (q : ∀ v H', ExF [] H H' → Rp F H' v (L.d dv) → Q v H') : tLt L σ H Q := by rw [tLt_eq]; exact tLit L g hv t q
/-- without names -/
theorem lit0 {σ : L2.St} (F : List Addr) {L : Lt} {H : Hp} {Q : VK} (g : L.good [] = true) (t : Trk F H) (q : ∀ v H', ExF [] H H' → Rp F H' v (L.d fun _ => .none) → Q v H') : tLt L σ H Q :=
  lit (fun _ => .none) F [] g (fun k hk => by simp at hk) t q
/-! ### comprehensions with a test -/
def selD (sel : List (Bool × PyData)) : List PyData := (sel.filter (·.1)).map (·.2)
theorem selD_snoc (sel : List (Bool × PyData)) (b : Bool) (e : PyData) : selD (sel ++ [(b, e)]) = selD sel ++ if b then [e] else [] := by
  unfold selD
  rw [List.filter_append, List.map_append]
  cases b <;> rfl
theorem selD_map (p : Str → Bool) : ∀ zs : List Str, selD (zs.map fun z => (p z, PyData.str z)) = (zs.filter p).map PyData.str
  | [] => rfl
  | z :: zs => by
    have ih := selD_map p zs
    unfold selD at ih ⊢
    rw [List.map_cons, List.filter_cons, List.filter_cons]
    cases hp : p z
    · simpa [hp] using ih
    · simp only [hp, if_true]
      rw [List.map_cons, List.map_cons, ih]
section
variable {K : PySem.W.Frag} {M F : List Addr} {wi : TI} {i : Nat} {a : Addr} {xs : List V} {g : TG} {tt : TT} {te : TE} {vs : List Nat} {σ : L2.St} {H : Hp} {Q : VK}
/-- [te for x in .. if tt], both pure: data -/
theorem lcSel {k : Nat} (hi : IterS [] wi σ H xs) (sel : List (Bool × PyData)) (hl : sel.length = xs.length) (hz : xs.length < sizeLine) (hw : ∀ x, wipe ((wipe σ vs).set k (some x)) vs = wipe σ vs)
    (ht : ∀ (D : Addr) (i : Nat) (x : V) (b : Bool) (e : PyData) (H' : Hp), xs[i]? = some x → sel[i]? = some (b, e) → ExF [] H H' → H D = none → H' D ≠ none → ∀ Qc : Bool → Hp → Prop, (∀ H4, ExF [] H' H4 → Qc b H4) → tt ((wipe σ vs).set k (some x)) H' Qc)
    (hs : ∀ (D : Addr) (i : Nat) (x : V) (e : PyData) (H' : Hp), xs[i]? = some x → sel[i]? = some (true, e) → ExF [] H H' → H D = none → H' D ≠ none → ∀ Qc : VK, (∀ y H4, ExF [] H' H4 → Rp (D :: F) H4 y e → Qc y H4) → te ((wipe σ vs).set k (some x)) H' Qc)
    (hd : ∀ r ys H', H r = none → H' r = some (.lst ys) → RpL F H' ys (selD sel) → ExF [] H H' → Q (.ref r) H') : tLcU wi (gName k) tt te vs σ H Q := by
  refine lcS hi (fun H1 D i H' => ∃ acc, acc.length ≤ i ∧ H' D = some (.lst acc) ∧ RpL (D :: F) H' acc (selD (sel.take i)) ∧ ExF [D] H1 H') (fun H1 D H2 x hD e => ⟨[], Nat.le_refl _, eqs e, by simpa [selD] using RpL.nil, exn e hD⟩) (fun H1 D i H' hD ⟨_, _, _, _, x⟩ => x) ?_ ?_
  · rintro H1 D i x H' x1 hD hx ⟨acc, ha, hH, r, x2⟩
    have hi : i < xs.length := (List.getElem?_eq_some_iff.mp hx).1
    have he : sel[i]? = some sel[i] := by simp [hl, hi]
    have x3 : ExF [] H H' := x1.trans (x2.drop hD)
    have hDH : H D = none := x1.free hD
    have et : sel.take (i + 1) = sel.take i ++ [sel[i]] := by rw [List.take_succ, he]; rfl
    have n0 : H' D ≠ none := by rw [hH]; exact fun z => nomatch z
    refine ⟨hw x, ?_⟩
    refine ht D i x sel[i].1 sel[i].2 H' hx he x3 hDH n0 _ fun H4 x4 => ?_
    have h4 : H4 D = some (.lst acc) := x4.at_ _ _ (by simp) hH
    cases hb : sel[i].1 with
    | false =>
      rw [if_neg Bool.false_ne_true]
      refine ⟨acc, Nat.le_succ_of_le ha, h4, ?_, x2.trans x4.of⟩
      have e2 : sel[i] = (false, sel[i].2) := by rw [← hb]
      rw [et, e2, selD_snoc]
      simpa using r.ex x4.of
    | true =>
      rw [if_pos rfl]
      refine hs D i x sel[i].2 H4 hx (by rw [he, ← hb]) (x3.trans x4) hDH (by rw [h4]; exact fun z => nomatch z) _ fun y H5 x5 ry => ?_
      have h5 : H5 D = some (.lst acc) := x5.at_ _ _ (by simp) h4
      refine ⟨_, h5, by omega, acc ++ [y], by simp; omega, upd_same, ?_, ?_⟩
      · have e2 : sel[i] = (true, sel[i].2) := by rw [← hb]
        rw [et, e2, selD_snoc]
        have r5 : RpL (D :: F) H5 acc (selD (sel.take i)) := r.ex (x4.trans x5).of
        have mm : ExF (D :: F) H5 (upd H5 D (.lst (acc ++ [y]))) := exm rfl (.inr (by simp)) ExF.refl
        exact (r5.snoc ry).ex mm
      · exact exm rfl (.inr (by simp)) (x2.trans (x4.trans x5).of)
  · rintro H1 D H' x1 hD ⟨acc, ha, hH, r, x2⟩
    rw [← hl, List.take_length] at r
    exact hd D acc H' (x1.free hD) hH r.drop (x1.trans (x2.drop hD))
/-- [x for x in zs if tt], names -/
theorem lcFil {k : Nat} {zs : List Str} (p : Str → Bool) (hi : IterS [] wi σ H (zs.map V.str)) (hz : zs.length < sizeLine) (hk : k < σ.length) (hv : vs = [k])
    (ht : ∀ (D : Addr) (z : Str) (H' : Hp), z ∈ zs → ExF [] H H' → ∀ Qc : Bool → Hp → Prop, (∀ H4, ExF [] H' H4 → Qc (p z) H4) → tt ((wipe σ vs).set k (some (.str z))) H' Qc)
    (hd : ∀ r H', H r = none → H' r = some (.lst ((zs.filter p).map V.str)) → ExF [] H H' → Q (.ref r) H') : tLcU wi (gName k) tt (tVar k) vs σ H Q := by
  subst hv
  have hwk : ∀ x : V, ((wipe σ [k]).set k (some x))[k]? = some (some x) := fun x => by
    have e : wipe σ [k] = σ.set k none := rfl
    rw [e, List.getElem?_set_self (by rw [List.length_set]; exact hk)]
  have sel : ∀ {i : Nat} {x : V} {b : Bool} {e : PyData}, (zs.map V.str)[i]? = some x → (zs.map fun z => (p z, PyData.str z))[i]? = some (b, e) → ∃ z, z ∈ zs ∧ x = .str z ∧ b = p z ∧ e = .str z := fun {i x b e} h1 h2 => by
    rw [List.getElem?_map] at h1 h2
    cases hz : zs[i]? with
    | none => rw [hz] at h1; cases h1
    | some z =>
      rw [hz] at h1 h2
      cases h1; cases h2
      exact ⟨z, List.mem_of_getElem? hz, rfl, rfl, rfl⟩
  refine lcSel (F := []) hi (zs.map fun z => (p z, PyData.str z)) (by simp) (by simpa using hz) (fun x => ?_) ?_ ?_ ?_
  · show ((σ.set k none).set k (some x)).set k none = σ.set k none
    simp
  · intro D i x b e H' h1 h2 x1 hD hD2 Qc q
    obtain ⟨z, hm, rfl, rfl, rfl⟩ := sel h1 h2
    exact ht D z H' hm x1 Qc q
  · intro D i x e H' h1 h2 x1 hD hD2 Qc q
    obtain ⟨z, hm, rfl, _, rfl⟩ := sel h1 h2
    exact ⟨_, hwk _, q _ H' ExF.refl (.str z)⟩
  · intro r ys H' hr hy ry x
    have e : selD (zs.map fun z => (p z, PyData.str z)) = (zs.filter p).map PyData.str := by
      exact selD_map p zs
    rw [e] at ry
    rw [ry.all_str] at hy
    exact hd r H' hr hy x
end
end Tw
end

section
set_option Elab.async false
set_option linter.all false
set_option maxRecDepth 100000
set_option maxHeartbeats 4000000
namespace Tw
open PySem L2 PyProof.Rows

/-! ### each once, numbered names -/
def onceL (acc : List Str) : List Str → List Str
  | [] => acc
  | z :: zs => if z ∈ acc then onceL acc zs else onceL (acc ++ [z]) zs
theorem onceL_app : ∀ (xs ys acc : List Str), onceL acc (xs ++ ys) = onceL (onceL acc xs) ys
  | [], ys, acc => rfl
  | x :: xs, ys, acc => by
    rw [List.cons_append, onceL, onceL]
    by_cases h : x ∈ acc
    · rw [if_pos h, if_pos h, onceL_app xs ys]
    · rw [if_neg h, if_neg h, onceL_app xs ys]
theorem onceL_nodup : ∀ (zs acc : List Str), (acc ++ zs).Nodup → onceL acc zs = acc ++ zs
  | [], acc, _ => by rw [onceL, List.append_nil]
  | z :: zs, acc, h => by
    have hz : z ∉ acc := fun m => by
      have := (List.nodup_append.mp h).2.2 z m z (by simp)
      exact this rfl
    rw [onceL, if_neg hz, onceL_nodup zs _ (by rw [List.append_assoc]; exact h), List.append_assoc]
    rfl
theorem onceL_add {known : List Str} (h : known.Nodup) (x : Str) : onceL [] (known ++ [x]) = if x ∈ known then known else known ++ [x] := by
  rw [onceL_app, onceL_nodup known [] (by simpa using h), List.nil_append, onceL, onceL, onceL]
def nmOk (s : Str) : Bool := nameS s && okS s
def nN (k : Nat) : Str := "n" ++ Str.ofString (toString ((k : Nat) : Int))
theorem nN_ok : ∀ k, k < 64 → nmOk (nN k) = true := by decide +kernel
theorem nN_inj : ∀ i, i < 64 → ∀ j, j < 64 → nN i = nN j → i = j := by decide +kernel
theorem len_sub : ∀ {xs ys : List Str}, xs.Nodup → (∀ x ∈ xs, x ∈ ys) → xs.length ≤ ys.length
  | [], ys, _, _ => Nat.zero_le _
  | x :: xs, ys, h, k => by
    have hx : x ∈ ys := k x (by simp)
    have h' := List.nodup_cons.mp h
    have ih := len_sub (xs := xs) (ys := ys.erase x) h'.2 fun z hz => (List.mem_erase_of_ne (fun e : z = x => h'.1 (by rw [← e]; exact hz))).mpr (k z (by simp [hz]))
    rw [List.length_erase_of_mem hx] at ih
    have : 0 < ys.length := List.length_pos_of_mem hx
    rw [List.length_cons]
    omega
theorem nodup_map_range {f : Nat → Str} : ∀ j, (∀ a, a < j → ∀ b, b < j → f a = f b → a = b) → ((List.range j).map f).Nodup
  | 0, _ => by simp
  | j + 1, h => by
    rw [List.range_succ, List.map_append, List.nodup_append]
    refine ⟨nodup_map_range j fun a ha b hb => h a (by omega) b (by omega), by simp, ?_⟩
    intro x hx y hy e
    subst e
    obtain ⟨a, ha, rfl⟩ := List.mem_map.mp hx
    have ha := List.mem_range.mp ha
    have hy' : f a = f j := by simpa using hy
    have := h a (by omega) j (by omega) hy'
    omega
theorem pigeon {taken : List Str} {l j : Nat} (hb : l + j ≤ 64) (h : ∀ i, i < j → nN (l + i) ∈ taken) : j ≤ taken.length := by
  have := len_sub (xs := (List.range j).map fun i => nN (l + i)) (ys := taken) (nodup_map_range j fun a ha b hb' e => by have := nN_inj _ (by omega) _ (by omega) e; omega) fun x hx => by
    obtain ⟨i, hi, rfl⟩ := List.mem_map.mp hx
    exact h i (List.mem_range.mp hi)
  simpa using this

/-! ### lines that are none but good ones -/
def toldL (ds : List PyData) : List Str := (ds.filter lineT).map lineN
theorem toldL_snoc (ds : List PyData) (d : PyData) : toldL (ds ++ [d]) = toldL ds ++ if lineT d then [lineN d] else [] := by
  unfold toldL
  rw [List.filter_append, List.map_append]
  cases h : lineT d <;> simp [h]
theorem toldL_cons (ds : List PyData) (d : PyData) : toldL (d :: ds) = (if lineT d then [lineN d] else []) ++ toldL ds := by
  unfold toldL
  rw [List.filter_cons]
  cases h : lineT d <;> simp [h]
theorem faultL_snoc : ∀ (ds : List PyData) (d : PyData) (known told : List Str) (i : Nat), faultL known told i ds = none → lineD (known ++ ds.map lineN) (told ++ toldL ds) d = true → faultL known told i (ds ++ [d]) = none
  | [], d, known, told, i, _, h => by
    rw [List.nil_append, faultL]
    rw [List.map_nil, List.append_nil, show toldL [] = [] from rfl, List.append_nil] at h
    rw [if_pos h, faultL]
  | e :: ds, d, known, told, i, h1, h => by
    rw [List.cons_append, faultL]
    rw [faultL] at h1
    by_cases hl : lineD known told e = true
    · rw [if_pos hl] at h1 ⊢
      refine faultL_snoc ds d _ _ _ h1 ?_
      rw [List.map_cons, toldL_cons] at h
      rw [List.append_assoc, List.append_assoc]
      exact h
    · rw [if_neg hl] at h1
      cases h1
mutual
theorem exprD_congr {k k' : List Str} (h : ∀ s, s ∈ k ↔ s ∈ k') : ∀ d : PyData, exprD k d = exprD k' d
  | .str s => by rw [exprD, exprD]; exact decide_eq_decide.mpr (h s)
  | .list ds => by rw [exprD, exprD]; exact exprL_congr h ds
  | .tuple ds => by rw [exprD, exprD]; exact exprL_congr h ds
  | .none => by simp [exprD]
  | .bool _ => by simp [exprD]
  | .int _ => by simp [exprD]
  | .dict _ => by simp [exprD]
theorem exprL_congr {k k' : List Str} (h : ∀ s, s ∈ k ↔ s ∈ k') : ∀ ds : List PyData, exprL k ds = exprL k' ds
  | [] => by rw [exprL, exprL]
  | d :: ds => by rw [exprL, exprL, exprs_congr h ds]
theorem exprs_congr {k k' : List Str} (h : ∀ s, s ∈ k ↔ s ∈ k') : ∀ ds : List PyData, exprs k ds = exprs k' ds
  | [] => by rw [exprs, exprs]
  | d :: ds => by rw [exprs, exprs, exprD_congr h d, exprs_congr h ds]
end
theorem nmIn_congr {k k' : List Str} (h : ∀ s, s ∈ k ↔ s ∈ k') (d : PyData) : nmIn k d = nmIn k' d := by
  cases d with
  | str s => exact decide_eq_decide.mpr (h s)
  | _ => rfl
theorem lineD_congr {k k' t t' : List Str} (h : ∀ s, s ∈ k ↔ s ∈ k') (g : ∀ s, s ∈ t ↔ s ∈ t') (d : PyData) : lineD k t d = lineD k' t' d := by
  unfold lineD
  cases items d with
  | none => rfl
  | some ds =>
    match ds with
    | [] => rfl
    | [_] => rfl
    | [a, b] => simp only [lineL]; rw [nmIn_congr h, nmIn_congr g]
    | [a, b, e] => simp only [lineL]; rw [exprD_congr h]
    | _ :: _ :: _ :: _ :: _ => rfl
mutual
/-- texts, rows of such -/
def txt : PyData → Bool
  | .str _ => true
  | .list ds => txts ds
  | .tuple ds => txts ds
  | .none => false
  | .bool _ => false
  | .int _ => false
  | .dict _ => false
def txts : List PyData → Bool
  | [] => true
  | d :: ds => txt d && txts ds
end
theorem txts_iff : ∀ {ds : List PyData}, txts ds = true ↔ ∀ d ∈ ds, txt d = true
  | [] => by simp [txts]
  | d :: ds => by rw [txts, Bool.and_eq_true, txts_iff (ds := ds)]; simp
structure InvL (b : Nat) (known told : List Str) (ds : List PyData) : Prop where
  f : faultL [] [] 0 ds = none
  kk : ∀ s, s ∈ known ↔ s ∈ ds.map lineN
  mt : ∀ s, s ∈ told ↔ s ∈ toldL ds
  nk : known.Nodup
  tk : ∀ s ∈ told, s ∈ known
  td : told.Nodup
  nm : ∀ s ∈ known, nmOk s = true
  good : ∀ d ∈ ds, ok 6 d = true ∧ tupD d = d ∧ txt d = true ∧ size d ≤ b + 5
theorem InvL.nil {b : Nat} : InvL b [] [] [] := ⟨rfl, by simp, by simp [toldL], by simp, by simp, by simp, by simp, by simp⟩
def readD (s : Str) : PyData := .tuple [.str "read", .str s]
def tellD (s : Str) : PyData := .tuple [.str "tell", .str s]
def giveD (s : Str) (e : PyData) : PyData := .tuple [.str "give", .str s, e]
section
variable {b : Nat} {known told : List Str} {ds : List PyData} {s : Str} {e : PyData}
theorem InvL.line (I : InvL b known told ds) {d : PyData} (h : lineD known told d = true) : faultL [] [] 0 (ds ++ [d]) = none := by
  refine faultL_snoc ds d [] [] 0 I.f ?_
  rw [List.nil_append, List.nil_append, ← lineD_congr I.kk I.mt]
  exact h
theorem nmOk_iff : nmOk s = true ↔ nameS s = true ∧ okS s = true := by unfold nmOk; rw [Bool.and_eq_true]
theorem ok_row2 {a b : Str} (ha : okS a = true) (hb : okS b = true) : ok 6 (.tuple [.str a, .str b]) = true := by
  rw [ok_tuple, oks_cons, oks_cons, ok_str, ok_str]
  exact ⟨⟨ha, hb, by rw [oks]⟩, by simp⟩
theorem InvL.read (I : InvL b known told ds) (hs : nmOk s = true) (hn : s ∉ known) : InvL b (known ++ [s]) told (ds ++ [readD s]) := by
  have hn' := nmOk_iff.mp hs
  refine ⟨I.line ?_, ?_, ?_, ?_, ?_, I.td, ?_, ?_⟩
  · simp [lineD, items, readD, lineL, nameD, hn'.1, isS, nmIn, hn]
  · intro z
    rw [List.map_append, List.mem_append, List.mem_append, I.kk]
    simp [lineN, readD, items]
  · intro z
    rw [toldL_snoc, show lineT (readD s) = false from by simp [lineT, readD, items, isS]; decide]
    simpa using I.mt z
  · rw [List.nodup_append]
    exact ⟨I.nk, by simp, fun a ha b hb e => hn (by have : b = s := by simpa using hb
                                                    rw [← this, ← e]; exact ha)⟩
  · exact fun z hz => List.mem_append_left _ (I.tk z hz)
  · intro z hz
    rcases List.mem_append.mp hz with h | h
    · exact I.nm z h
    · rw [List.mem_singleton.mp h]; exact hs
  · intro d hd
    rcases List.mem_append.mp hd with h | h
    · exact I.good d h
    · rw [List.mem_singleton.mp h]
      exact ⟨ok_row2 (by decide +kernel) hn'.2, by simp [readD, tupD, tups], by simp [readD, txt, txts], by simp [readD, size, sizes]⟩
theorem InvL.tell (I : InvL b known told ds) (hs : s ∈ known) (hn : s ∉ told) : InvL b known (told ++ [s]) (ds ++ [tellD s]) := by
  have hn' := nmOk_iff.mp (I.nm s hs)
  refine ⟨I.line ?_, ?_, ?_, I.nk, ?_, ?_, I.nm, ?_⟩
  · simp [lineD, items, tellD, lineL, nameD, hn'.1, isS, nmIn, hn, hs]
  · intro z
    rw [List.map_append, List.mem_append, ← I.kk]
    constructor
    · exact fun h => .inl h
    · rintro (h | h)
      · exact h
      · have : z = s := by simpa [lineN, tellD, items] using h
        rw [this]; exact hs
  · intro z
    rw [toldL_snoc, show lineT (tellD s) = true from by simp [lineT, tellD, items, isS], if_pos rfl, List.mem_append, List.mem_append, I.mt]
    simp [lineN, tellD, items]
  · intro z hz
    rcases List.mem_append.mp hz with h | h
    · exact I.tk z h
    · rw [List.mem_singleton.mp h]; exact hs
  · rw [List.nodup_append]
    exact ⟨I.td, by simp, fun a ha b hb e => hn (by have : b = s := by simpa using hb
                                                    rw [← this, ← e]; exact ha)⟩
  · intro d hd
    rcases List.mem_append.mp hd with h | h
    · exact I.good d h
    · rw [List.mem_singleton.mp h]
      exact ⟨ok_row2 (by decide +kernel) hn'.2, by simp [tellD, tupD, tups], by simp [tellD, txt, txts], by simp [tellD, size, sizes]⟩
theorem InvL.give (I : InvL b known told ds) (hs : nmOk s = true) (he : exprD known e = true) (ho : ok 5 e = true) (ht : tupD e = e) (hx : txt e = true) (hz : size e ≤ b) : InvL b (if s ∈ known then known else known ++ [s]) told (ds ++ [giveD s e]) := by
  have hn' := nmOk_iff.mp hs
  have hmem : ∀ z, z ∈ (if s ∈ known then known else known ++ [s]) ↔ z ∈ known ∨ z = s := fun z => by
    by_cases h : s ∈ known
    · rw [if_pos h]
      exact ⟨fun k => .inl k, fun k => k.elim id fun k => k ▸ h⟩
    · rw [if_neg h]; simp
  refine ⟨I.line ?_, ?_, ?_, ?_, ?_, I.td, ?_, ?_⟩
  · simp [lineD, items, giveD, lineL, nameD, hn'.1, isS, he]
  · intro z
    rw [hmem, List.map_append, List.mem_append, ← I.kk]
    simp [lineN, giveD, items]
  · intro z
    rw [toldL_snoc, show lineT (giveD s e) = false from by simp [lineT, giveD, items, isS]; decide]
    simpa using I.mt z
  · by_cases h : s ∈ known
    · rw [if_pos h]; exact I.nk
    · rw [if_neg h, List.nodup_append]
      exact ⟨I.nk, by simp, fun a ha b hb e => h (by have : b = s := by simpa using hb
                                                     rw [← this, ← e]; exact ha)⟩
  · exact fun z hz => (hmem z).mpr (.inl (I.tk z hz))
  · intro z hz
    rcases (hmem z).mp hz with h | h
    · exact I.nm z h
    · rw [h]; exact hs
  · intro d hd
    rcases List.mem_append.mp hd with h | h
    · exact I.good d h
    · rw [List.mem_singleton.mp h]
      refine ⟨?_, by simp [giveD, tupD, tups, ht], by simp [giveD, txt, txts, hx], by simp [giveD, size, sizes]; omega⟩
      unfold giveD
      rw [ok_tuple, oks_cons, oks_cons, oks_cons, ok_str, ok_str]
      exact ⟨⟨by decide +kernel, hn'.2, ho, by rw [oks]⟩, by simp⟩
theorem InvL.tells : ∀ {zs : List Str} {told : List Str} {ds : List PyData}, InvL b known told ds → zs.Nodup → (∀ z ∈ zs, z ∈ known ∧ z ∉ told) → InvL b known (told ++ zs) (ds ++ zs.map tellD)
  | [], told, ds, I, _, _ => by simpa using I
  | z :: zs, told, ds, I, h, k => by
    have h' := List.nodup_cons.mp h
    have J := I.tell (k z (by simp)).1 (k z (by simp)).2
    have := InvL.tells (zs := zs) J h'.2 fun y hy => ⟨(k y (by simp [hy])).1, fun m => by
      rcases List.mem_append.mp m with m | m
      · exact (k y (by simp [hy])).2 m
      · have : y = z := by simpa using m
        exact h'.1 (this ▸ hy)⟩
    rw [List.append_assoc, List.append_assoc] at this
    exact this
end
/-- a drawn source's lines -/
structure GoodL (ds : List PyData) : Prop where
  f : faultL [] [] 0 ds = none
  l2 : 2 ≤ ds.length
  l20 : ds.length ≤ 20
  good : ∀ d ∈ ds, ok 6 d = true ∧ tupD d = d ∧ txt d = true ∧ size d ≤ 200

/-! ### promises -/
def spOnce : Sp := fun vs H Q _ => ∃ (l : Addr) (zs : List Str), vs = [.ref l] ∧ StrsAt H l zs ∧ zs.length ≤ 1000 ∧ ∀ r H', H r = none → StrsAt H' r (onceL [] zs) → ExF [] H H' → Q (.ref r) H'
/-- a name that is none of those -/
def spAName : Sp := fun vs H Q _ => ∃ (st cl : Addr) (c : Nat) (l : Addr) (taken : List Str), vs = [.ref st, .ref l] ∧ Strm st cl H c ∧ c < 2 ^ 48 ∧ StrsAt H l taken ∧ l ≠ st ∧ l ≠ cl ∧ taken.length ≤ 20 ∧
  ∀ s H', nmOk s = true → s ∉ taken → Strm st cl H' (c + 1) → ExF [st, cl] H H' → Q (.str s) H'
def eCost : Nat → Nat
  | 0 => 3
  | n + 1 => 3 + 3 * eCost n
/-- an expr, fewer than m deep -/
def spAExpr (m : Nat) : Sp := fun vs H Q _ => ∃ (st cl : Addr) (c : Nat) (kn on : Addr) (known ops : List Str) (n : Nat) (G : List Addr), vs = [.ref st, .ref kn, .ref on, .int (n : Int)] ∧ n < m ∧ n ≤ 4 ∧ Strm st cl H c ∧ c + eCost n < 2 ^ 48 ∧
  StrsAt H kn known ∧ StrsAt H on ops ∧ kn ∉ [st, cl] ∧ on ∉ [st, cl] ∧ (∀ s ∈ known, nmOk s = true) ∧ (∀ s ∈ ops, nmOk s = true) ∧ ops ≠ [] ∧ known.length ≤ 100 ∧ ops.length ≤ 100 ∧ Trk G H ∧
  ∀ v d c' H', c ≤ c' → c' ≤ c + eCost n → Strm st cl H' c' → ExF [st, cl] H H' → Rp G H' v d → exprD known d = true → tupD d = d → ok (n + 1) d = true → txt d = true → size d ≤ eCost n → Q v H'
/-- a source's lines -/
def spALines : Sp := fun vs H Q _ => ∃ (st cl : Addr) (c : Nat) (n e : Nat) (G : List Addr), vs = [.ref st, .int (n : Int), .int (e : Int)] ∧ 2 ≤ n ∧ n ≤ 10 ∧ e ≤ 3 ∧ Strm st cl H c ∧ c + 5000 < 2 ^ 48 ∧ Trk G H ∧
  ∀ r xs ds c' H', c ≤ c' → c' ≤ c + 5000 → Strm st cl H' c' → ExF [st, cl] H H' → H r = none → H' r = some (.lst xs) → RpL G H' xs ds → GoodL ds → ds.length ≤ n + 6 → (∀ d ∈ ds, size d ≤ eCost e + 5) → Q (.ref r) H'
end Tw
end

section
set_option Elab.async false
set_option linter.all false
set_option maxRecDepth 100000
set_option maxHeartbeats 4000000
namespace Tw
open PySem L2 PyProof.Rows
/-- what is never reached needs no reading -/
def tNoS : TS := fun _ _ _ => False
theorem ps_no {X : Cx} {s : Stmt} : PS X s tNoS := ⟨fun _ _ _ _ _ _ h => h.elim⟩
def tNoE : TE := fun _ _ _ => False
theorem pe_no {X : Cx} {e : Expr} : PE X e tNoE := ⟨fun _ _ _ _ _ _ h => h.elim⟩

/-- a new list of literals -/
theorem litL {σ : L2.St} (dv : Nat → PyData) (F : List Addr) (vs : List Nat) {ls : List Lt} {H : Hp} {Q : VK} (g : (Lt.lst ls).good vs = true) (hv : ∀ k, vs.contains k = true → ∃ v, σ[k]? = some (some v) ∧ Rp F H v (dv k)) (t : Trk F H)
    (q : ∀ p xs H', H p = none → H' p = some (.lst xs) → RpL (p :: F) H' xs (Lt.ds dv ls) → ExF [] H H' → Q (.ref p) H') : tLt (.lst ls) σ H Q := by
  rw [Lt.good, Bool.and_eq_true] at g
  have hl := of_decide_eq_true g.1
  rw [tLt_eq, Lt.t]
  refine tLits ls g.2 hv t fun xs H1 x1 r => ⟨?_, fun p H2 hp e2 => ?_⟩
  · rw [r.1, Lt.ds_len, sizeLine_eq]; omega
  · exact q p xs H2 (x1.free hp) (eqs e2) ((r.add hp).ex (exn e2 hp)) (x1.trans (exn e2 hp))
theorem litT {σ : L2.St} (dv : Nat → PyData) (F : List Addr) (vs : List Nat) {ls : List Lt} {H : Hp} {Q : VK} (g : (Lt.tup ls).good vs = true) (hv : ∀ k, vs.contains k = true → ∃ v, σ[k]? = some (some v) ∧ Rp F H v (dv k)) (t : Trk F H)
    (q : ∀ p xs H', H p = none → H' p = some (.tup xs) → RpL (p :: F) H' xs (Lt.ds dv ls) → ExF [] H H' → Q (.ref p) H') : tLt (.tup ls) σ H Q := by
  rw [Lt.good, Bool.and_eq_true] at g
  have hl := of_decide_eq_true g.1
  rw [tLt_eq, Lt.t]
  refine tLits ls g.2 hv t fun xs H1 x1 r => ⟨?_, fun p H2 hp e2 => ?_⟩
  · rw [r.1, Lt.ds_len, sizeLine_eq]; omega
  · exact q p xs H2 (x1.free hp) (eqs e2) ((r.add hp).ex (exn e2 hp)) (x1.trans (exn e2 hp))
theorem wkZ {K : PySem.W.Frag} {a b : Addr} {xs ys : List V} (hl : xs.length = ys.length) : L2.Walk (Itz K a b) xs.length (fun H => H a = some (.lst xs) ∧ H b = some (.lst ys)) (YPair (fun i => xs[i]?) (fun i => ys[i]?)) :=
  (walk_zip (K := K) (a := a) (b := b) (xs := xs) (ys := ys) (n := xs.length) (by omega)).mono (fun H h => ⟨.inl (.inl h.1), .inl (.inl h.2)⟩) fun _ _ _ _ _ _ y => y
theorem wkZT {K : PySem.W.Frag} {a b : Addr} {xs ys : List V} (hl : xs.length = ys.length) : L2.Walk (RZ.ItzT K a b) xs.length (fun H => H a = some (.tup xs) ∧ H b = some (.tup ys)) (YPair (fun i => xs[i]?) (fun i => ys[i]?)) := by
  refine ⟨fun i _ hi q => ?_, fun _ q => ⟨xs, ys, .inl (.inl q.1), .inl (.inl q.2), Or.inl (Nat.le_refl _)⟩, fun i H v H' _ q y => ?_⟩
  · have h2 : i < ys.length := by omega
    exact ⟨xs, ys, xs[i], ys[i], .inl (.inl q.1), .inl (.inl q.2), by simp [hi], by simp [h2]⟩
  · obtain ⟨T, x, z, h1, h2, h3, h4, h5⟩ := y
    exact ⟨T, x, z, h1, h2, h3, h4 xs (.inl (.inl q.1)), h5 ys (.inl (.inl q.2))⟩
section
variable {K : PySem.W.Frag} {te : TE} {vs : List Nat} {σ : L2.St} {H : Hp} {Q : VK} {a b : Addr} {xs ys : List V}
/-- two rows of one kind -/
def Sq2 (H : Hp) (a b : Addr) (xs ys : List V) : Prop := (H a = some (.lst xs) ∧ H b = some (.lst ys)) ∨ (H a = some (.tup xs) ∧ H b = some (.tup ys))
theorem Sq2.ex {H' : Hp} (h : Sq2 H a b xs ys) (x : ExF [] H H') : Sq2 H' a b xs ys := h.imp (fun h => ⟨x.at_ _ _ (by simp) h.1, x.at_ _ _ (by simp) h.2⟩) fun h => ⟨x.at_ _ _ (by simp) h.1, x.at_ _ _ (by simp) h.2⟩
theorem Sq2.l (h : Sq2 H a b xs ys) : Sq H a xs := h.elim (fun h => .inl h.1) fun h => .inr h.1
theorem Sq2.r (h : Sq2 H a b xs ys) : Sq H b ys := h.elim (fun h => .inl h.2) fun h => .inr h.2
/-- [te for x, y in zip(a, b)], te all True -/
theorem lcZipT {i j k l : Nat} (hi : σ[i]? = some (some (.ref a))) (hj : σ[j]? = some (some (.ref b))) (h2 : Sq2 H a b xs ys) (hl : xs.length = ys.length) (hz : xs.length < sizeLine)
    (hw : ∀ x y, wipe (((wipe σ vs).set k (some x)).set l (some y)) vs = wipe σ vs)
    (hs : ∀ (n : Nat) (x y : V) (H' : Hp), xs[n]? = some x → ys[n]? = some y → ExF [] H H' → ∀ Qc : VK, (∀ H4, ExF [] H' H4 → Qc (.bl true) H4) → te (((wipe σ vs).set k (some x)).set l (some y)) H' Qc)
    (hd : ∀ r H', H r = none → H' r = some (.lst ((List.replicate xs.length true).map V.bl)) → ExF [] H H' → Q (.ref r) H') :
    tLcU (RZ.iZipA K (tCons (tVar i) (tCons (tVar j) tNil))) (gTup K 2 (gCons (gName k) (gCons (gName l) gNil))) tYes te vs σ H Q := by
  have body : ∀ (D : Addr), H D = none → ∀ (n : Nat) (v : V) (H' H'' : Hp), n < xs.length → (H' D = some (.lst ((List.replicate n true).map V.bl)) ∧ ExF [D] H H') → YPair (fun i => xs[i]?) (fun i => ys[i]?) n H' v H'' →
      gTup K 2 (gCons (gName k) (gCons (gName l) gNil)) v (wipe σ vs) H'' fun σ2 H2 => wipe σ2 vs = wipe σ vs ∧ tYes σ2 H2 fun b H3 =>
        if b = true then te σ2 H3 fun y H4 => ∃ acc, H4 D = some (.lst acc) ∧ acc.length < sizeLine ∧ (fun n H' => H' D = some (.lst ((List.replicate n true).map V.bl)) ∧ ExF [D] H H') (n + 1) (upd H4 D (.lst (acc ++ [y]))) else (fun n H' => H' D = some (.lst ((List.replicate n true).map V.bl)) ∧ ExF [D] H H') (n + 1) H3 := by
    rintro D hD n v H' H'' hn ⟨hH, x2⟩ ⟨T, x, y, rfl, hT, rfl, ex, ey⟩
    refine ⟨T, _, rfl, .inl (.inl upd_same), rfl, _, _, rfl, _, _, rfl, rfl, hw x y, ?_⟩
    unfold tYes
    dsimp only
    rw [if_pos rfl]
    have x3 : ExF [] H' (upd H' T (.tup [x, y])) := ExF.new hT
    refine hs n x y _ ex ey ((x2.drop hD).trans x3) _ fun H4 x4 => ?_
    refine ⟨_, (x3.trans x4).at_ _ _ (by simp) hH, by rw [List.length_map, List.length_replicate]; omega, ?_, ?_⟩
    · rw [upd_same, List.replicate_succ', List.map_append]
      rfl
    · exact exm rfl (.inr (by simp)) (x2.trans (x3.trans x4).of)
  unfold tLcU
  refine ⟨_, hi, _, hj, a, b, xs, ys, rfl, ?_⟩
  rcases h2 with h | h
  · exact .inl ⟨.inl (.inl h.1), .inl (.inl h.2), fun D hD => lc_it (wkZ hl) (fun n H' => H' D = some (.lst ((List.replicate n true).map V.bl)) ∧ ExF [D] H H') ⟨upd_same, exn rfl hD⟩
      (fun n H' _ p => ⟨p.2.at_ _ _ (by intro z; rw [← List.mem_singleton.mp z, h.1] at hD; cases hD) h.1, p.2.at_ _ _ (by intro z; rw [← List.mem_singleton.mp z, h.2] at hD; cases hD) h.2⟩)
      (fun n v H' H'' hn p y => body D hD n v H' H'' hn p y) fun H' p => hd D H' hD p.1 (p.2.drop hD)⟩
  · exact .inr ⟨.inl (.inl h.1), .inl (.inl h.2), fun D hD => lc_it (wkZT hl) (fun n H' => H' D = some (.lst ((List.replicate n true).map V.bl)) ∧ ExF [D] H H') ⟨upd_same, exn rfl hD⟩
      (fun n H' _ p => ⟨p.2.at_ _ _ (by intro z; rw [← List.mem_singleton.mp z, h.1] at hD; cases hD) h.1, p.2.at_ _ _ (by intro z; rw [← List.mem_singleton.mp z, h.2] at hD; cases hD) h.2⟩)
      (fun n v H' H'' hn p y => body D hD n v H' H'' hn p y) fun H' p => hd D H' hD p.1 (p.2.drop hD)⟩
end
end Tw
end

section
set_option Elab.async false
set_option linter.all false
set_option maxRecDepth 100000
set_option maxHeartbeats 4000000
namespace Tw
open PySem L2 PyProof.Rows
def t_l_draw_b1 (K : PySem.W.Frag) : TS := tSeq (tAsg (tBM K "list" rPopAtU (tOp (rIxU K) (tVar 0) (tC (.int 0))) (tCons (tC (.int 0)) (tNil))) (gName 2))
      (tSeq (tAsg (tOp (rI (fun _ j => j ≠ 0) fun i j => .int (i.fmod j)) (tCB (rInt1) (tCons (tOp (rAddU K) (tOp (rAddU K) (tOp rMulU (tOp (rIxU K) (tVar 0) (tC (.int 3))) (tC (.int 8191))) (tVar 2)) (tC (.int 3))) (tNil))) (tC (.int 2147483647))) (gSub (tVar 0) (tC (.int 3)) rSetU))
      (tAsg (tIf (tTest (tOp (rI0 fun i j => .bl (decide (j ≤ i))) (tVar 2) (tOp (rI CPow fun i j => .int (i ^ j.toNat)) (tC (.int 10)) (tC (.int 18))))) (tVar 2) (tC (.int 0))) (gSub (tVar 0) (tC (.int 1)) rSetU)))
def t_l_draw_t4 (K : PySem.W.Frag) : TS := tRet (tOp (rI (fun _ j => j ≠ 0) fun i j => .int (i.fmod j)) (tOp (rI (fun _ j => j ≠ 0) fun i j => .int (i.fmod j)) (tCB (rInt1) (tCons (tOp (rI CPow fun i j => .int (i ^ j.toNat)) (tOp (rAddU K) (tOp (rAddU K) (tOp rMulU (tVar 4) (tC (.int 48271))) (tOp rMulU (tC (.int 30011)) (tOp (rIxU K) (tVar 0) (tC (.int 2))))) (tC (.int 29))) (tC (.int 3))) (tNil))) (tC (.int 1000000007))) (tVar 1))
def t_l_draw_t3 (K : PySem.W.Frag) : TS := tSeq (tAsg (tOp (rI (fun _ j => j ≠ 0) fun i j => .int (i.fmod j)) (tCB (rInt1) (tCons (tOp (rI CPow fun i j => .int (i ^ j.toNat)) (tOp (rAddU K) (tOp (rAddU K) (tOp (rIxU K) (tVar 0) (tC (.int 3))) (tOp rMulU (tC (.int 7919)) (tOp (rIxU K) (tVar 0) (tC (.int 2))))) (tC (.int 104729))) (tC (.int 5))) (tNil))) (tC (.int 2147483629))) (gName 4)) (t_l_draw_t4 K)
def t_l_draw_t2 (K : PySem.W.Frag) : TS := tSeq (tIfS (tTest (tOp (rI0 fun i j => .bl (decide (j < i))) (tOp (rIxU K) (tVar 0) (tC (.int 1))) (tC (.int 0)))) (tSeq (tAsg (tOp (rI (fun _ j => j ≠ 0) fun i j => .int (i.fmod j)) (tCB (rInt1) (tCons (tOp (rIxU K) (tVar 0) (tC (.int 1))) (tNil))) (tVar 1)) (gName 3))
      (tSeq (tAsg (tOp (rI CDivN fun i j => .int (i.fdiv j)) (tOp (rIxU K) (tVar 0) (tC (.int 1))) (tVar 1)) (gSub (tVar 0) (tC (.int 1)) rSetU))
      (tRet (tVar 3)))) (tNext)) (t_l_draw_t3 K)
def t_l_draw_t1 (K : PySem.W.Frag) : TS := tSeq (tWhile (tAnd (tTest (tOp (rEqU K) (tOp (rIxU K) (tVar 0) (tC (.int 1))) (tC (.int 0)))) (tTest (tOp (rNeU K) (tOp (rIxU K) (tVar 0) (tC (.int 0))) (tLstU (tNil))))) (t_l_draw_b1 K)) (t_l_draw_t2 K)
def t_l_draw (K : PySem.W.Frag) : TS := tSeq (tAsg (tOp (rAddU K) (tOp (rIxU K) (tVar 0) (tC (.int 2))) (tC (.int 1))) (gSub (tVar 0) (tC (.int 2)) rSetU)) (t_l_draw_t1 K)
theorem rd_draw_t3 (K : PySem.W.Frag) {st cl : Addr} {m a b : Int} {c : Nat} {ns : List Int} {v : Option V} {H : Hp} {Q : VK} (k1 : H st = some (.lst [.ref cl, .int a, .int ((c + 1 : Nat) : Int), .int b])) (k2 : H cl = some (.lst (ns.map V.int)))
    (hb : 0 ≤ b) (hb2 : b < 2147483647) (hc : c < 2 ^ 48) (h0 : 0 < m) (q : ∀ k : Int, 0 ≤ k → k < m → Q (.int k) H) :
    t_l_draw_t3 K { nx := fun _ H' => Q .non H', rt := Q } [some (.ref st), some (.int m), v, none, none] H := by
  have fm : ∀ {i j : Int}, 0 < j → 0 ≤ i.fmod j ∧ i.fmod j < j := fun h => ⟨Int.fmod_nonneg_of_pos _ h, Int.fmod_lt_of_pos _ h⟩
  refine ⟨_, rfl, ?_⟩
  refine ixL k1 (v := .int b) rfl ?_
  refine ⟨_, rfl, ?_⟩
  refine ixL k1 (v := .int ((c + 1 : Nat) : Int)) rfl ?_
  refine mulI (.inl ⟨by decide, by decide⟩) ?_
  refine addI (addI ?_)
  refine ⟨_, 5, rfl, rfl, ⟨by decide, by decide, ?_⟩, ?_⟩
  · omega
  refine int1 ?_
  refine ⟨_, _, rfl, rfl, (show (2147483629 : Int) ≠ 0 by decide), ?_⟩
  generalize hM : ((b + 7919 * ((c + 1 : Nat) : Int) + 104729) ^ (5 : Int).toNat).fmod 2147483629 = M
  have hM1 : 0 ≤ M ∧ M < 2147483629 := hM ▸ fm (by decide)
  refine ⟨_, rfl, ?_⟩
  refine mulI (.inr ⟨by decide, by decide⟩) ?_
  refine ⟨_, rfl, ?_⟩
  refine ixL k1 (v := .int ((c + 1 : Nat) : Int)) rfl ?_
  refine mulI (.inl ⟨by decide, by decide⟩) ?_
  refine addI (addI ?_)
  refine ⟨_, 3, rfl, rfl, ⟨by decide, by decide, ?_⟩, ?_⟩
  · omega
  refine int1 ?_
  refine ⟨_, _, rfl, rfl, (show (1000000007 : Int) ≠ 0 by decide), ?_⟩
  refine ⟨_, rfl, _, _, rfl, rfl, (by omega), ?_⟩
  exact q _ (fm h0).1 (fm h0).2
theorem rd_draw_t2 (K : PySem.W.Frag) {st cl : Addr} {m a b : Int} {c : Nat} {ns : List Int} {v : Option V} {H H0 : Hp} {Q : VK} (k1 : H st = some (.lst [.ref cl, .int a, .int ((c + 1 : Nat) : Int), .int b])) (k2 : H cl = some (.lst (ns.map V.int)))
    (ha : 0 ≤ a) (hb : 0 ≤ b) (hb2 : b < 2147483647) (hl : ns.length ≤ 1000) (hc : c < 2 ^ 48) (h0 : 0 < m) (h1 : m < 2 ^ 30) (x : ExF [st, cl] H0 H) (hne : st ≠ cl)
    (q : ∀ (k : Int) H', 0 ≤ k → k < m → Strm st cl H' (c + 1) → ExF [st, cl] H0 H' → Q (.int k) H') :
    t_l_draw_t2 K { nx := fun _ H' => Q .non H', rt := Q } [some (.ref st), some (.int m), v, none, none] H := by
  have fm : ∀ {i j : Int}, 0 < j → 0 ≤ i.fmod j ∧ i.fmod j < j := fun h => ⟨Int.fmod_nonneg_of_pos _ h, Int.fmod_lt_of_pos _ h⟩
  refine ⟨_, rfl, ?_⟩
  refine ixL k1 (v := .int a) rfl ?_
  refine ⟨_, _, rfl, rfl, _, rfl, ?_⟩
  refine ite2 (fun hp => ?_) (fun hp => ?_)
  · have hp' : 0 < a := of_decide_eq_true hp
    -- the digit
    refine ⟨_, rfl, ?_⟩
    refine ixL k1 (v := .int a) rfl ?_
    refine int1 ?_
    refine ⟨_, rfl, _, _, rfl, rfl, (by omega), ?_⟩
    refine ⟨_, rfl, ?_⟩
    refine ixL k1 (v := .int a) rfl ?_
    refine ⟨_, rfl, _, _, rfl, rfl, ⟨by omega, by omega⟩, ?_⟩
    refine ⟨_, rfl, .inl ⟨st, _, 1, 1, rfl, rfl, k1, rfl, ?_⟩⟩
    refine ⟨_, rfl, ?_⟩
    refine q _ _ (fm h0).1 (fm h0).2 ⟨_, b, ns, upd_same, by rw [upd_ne (Ne.symm hne)]; exact k2, ?_, hb, hb2, hl⟩ (x.mut (.inr (by simp)))
    rw [Int.fdiv_eq_ediv_of_nonneg _ (by omega)]
    exact Int.ediv_nonneg ha (by omega)
  · exact rd_draw_t3 K k1 k2 hb hb2 hc h0 fun k g0 g1 => q k H g0 g1 ⟨a, b, ns, k1, k2, ha, hb, hb2, hl⟩ x
theorem rd_l_draw (K : PySem.W.Frag) {vs : List V} {H : Hp} {Q : VK} {E : XK} (h : spDraw vs H Q E) :
    t_l_draw K { nx := fun _ H' => Q .non H', rt := Q } (start ["_law_stream", "_law_many", "_law_cell", "_law_digit", "_law_mixed_here"] vs) H := by
  obtain ⟨st, cl, c, m, rfl, S, hc, h0, h1, q⟩ := h
  have hne := S.ne
  obtain ⟨a, b, ns, k1, k2, ha, hb, hb2, hl⟩ := S.ex
  have fm : ∀ {i j : Int}, 0 < j → 0 ≤ i.fmod j ∧ i.fmod j < j := fun h => ⟨Int.fmod_nonneg_of_pos _ h, Int.fmod_lt_of_pos _ h⟩
  -- stream[2] = stream[2] + 1
  refine ⟨_, rfl, ?_⟩
  refine ixL k1 (v := .int c) rfl ?_
  refine addI ?_
  refine ⟨_, rfl, .inl ⟨st, _, 2, 2, rfl, rfl, k1, rfl, ?_⟩⟩
  -- the cells, while no great one is held
  refine ⟨fun n σ H' => ∃ (a b : Int) (ns : List Int) (v : Option V), n = ns.length ∧ σ = [some (.ref st), some (.int m), v, none, none] ∧ H' st = some (.lst [.ref cl, .int a, .int ((c + 1 : Nat) : Int), .int b]) ∧ H' cl = some (.lst (ns.map V.int)) ∧
    0 ≤ a ∧ 0 ≤ b ∧ b < 2147483647 ∧ ns.length ≤ 1000 ∧ ExF [st, cl] H H', ⟨ns.length, a, b, ns, none, rfl, rfl, ?_, ?_, ha, hb, hb2, hl, ?_⟩, ?_⟩
  · rw [upd_same]
    have e : (c : Int) + 1 = ((c + 1 : Nat) : Int) := by omega
    rw [e]
    rfl
  · rw [upd_ne (Ne.symm hne)]; exact k2
  · exact ExF.refl.mut (.inr (by simp))
  rintro n σ H1 ⟨a, b, ns, v, rfl, rfl, k1, k2, ha, hb, hb2, hl, x1⟩
  refine ⟨_, rfl, ?_⟩
  refine ixL k1 (v := .int a) rfl ?_
  refine eqI ⟨_, rfl, ?_⟩
  refine ite2 (fun ea => ?_) (fun _ => ?_)
  · refine ⟨_, rfl, ?_⟩
    refine ixL k1 (v := .ref cl) rfl ?_
    refine ⟨by decide, fun p H1' hp e1 => ?_⟩
    have k1' := eqf e1 hp k1
    have k2' := eqf e1 hp k2
    have x1' : ExF [st, cl] H H1' := x1.trans (exn e1 hp)
    refine neO (F := []) (G := []) (n := 1) (m := 1) (d := .list (ns.map PyData.int)) (e := .list []) (.list (by simp) k2' (.ints ns)) (.list (by simp) (eqs e1) .nil) (ok_list.mpr ⟨oks_ints ns, by rw [List.length_map]; omega⟩) (ok_list.mpr ⟨by rw [oks], by decide⟩) ⟨_, rfl, ?_⟩
    cases ns with
    | nil => exact rd_draw_t2 K k1' k2' ha hb hb2 hl hc h0 h1 x1' hne q
    | cons z ns =>
      refine iteT ⟨_, fun _ _ h => h, ?_⟩
      -- cell = stream[0].pop(0)
      refine ⟨_, rfl, ?_⟩
      refine ixL k1' (v := .ref cl) rfl ?_
      refine ⟨tyL k2', popAt (k := 0) k2' (by decide) (by decide) rfl rfl fun H2 hH2 => ?_⟩
      have c1 : H2 st = some (.lst [.ref cl, .int a, .int ((c + 1 : Nat) : Int), .int b]) := eqn hH2 hne k1'
      have c2 : H2 cl = some (.lst (ns.map V.int)) := eqs hH2
      have y2 : ExF [st, cl] H H2 := exm hH2 (.inr (by simp)) x1'
      -- stream[3] = int(stream[3] * 8191 + cell + 3) % 2147483647
      refine ⟨_, rfl, ?_⟩
      refine ixL c1 (v := .int b) rfl ?_
      refine mulI (.inr ⟨by decide, by decide⟩) ?_
      refine ⟨_, rfl, ?_⟩
      refine addI (addI ?_)
      refine int1 ?_
      refine ⟨_, _, rfl, rfl, (show (2147483647 : Int) ≠ 0 by decide), ?_⟩
      have hM := fm (i := b * 8191 + z + 3) (j := 2147483647) (by decide)
      refine ⟨_, rfl, setU c1 (j := 3) rfl fun H3 hH3 => ?_⟩
      have e1 : H3 st = some (.lst [.ref cl, .int a, .int ((c + 1 : Nat) : Int), .int ((b * 8191 + z + 3).fmod 2147483647)]) := eqs hH3
      have e2 : H3 cl = some (.lst (ns.map V.int)) := eqn hH3 (Ne.symm hne) c2
      have y3 : ExF [st, cl] H H3 := exm hH3 (.inr (by simp)) y2
      -- stream[1] = cell if cell >= 10 ** 18 else 0
      refine ⟨_, rfl, ?_⟩
      refine ⟨10, 18, rfl, rfl, ⟨by decide, by decide, by decide⟩, ?_⟩
      refine ⟨_, _, rfl, rfl, _, rfl, ?_⟩
      refine ite2 (fun hz => ?_) (fun _ => ?_)
      · have hz' := of_decide_eq_true hz
        refine ⟨_, rfl, ?_⟩
        refine ⟨_, rfl, setU e1 (j := 1) rfl fun H4 hH4 => ?_⟩
        exact ⟨ns.length, by simp, z, _, ns, _, rfl, rfl, eqs hH4, eqn hH4 (Ne.symm hne) e2, Int.le_trans (by decide) hz', hM.1, hM.2, by simp at hl; omega, exm hH4 (.inr (by simp)) y3⟩
      · refine ⟨_, rfl, setU e1 (j := 1) rfl fun H4 hH4 => ?_⟩
        exact ⟨ns.length, by simp, 0, _, ns, _, rfl, rfl, eqs hH4, eqn hH4 (Ne.symm hne) e2, by decide, hM.1, hM.2, by simp at hl; omega, exm hH4 (.inr (by simp)) y3⟩
  · exact rd_draw_t2 K k1 k2 ha hb hb2 hl hc h0 h1 x1 hne q

def t_l_start (K : PySem.W.Frag) : TS := tRet (tLstU (tCons (tCB (rLstOf K) (tCons (tVar 0) (tNil))) (tCons (tC (.int 0)) (tCons (tC (.int 0)) (tCons (tC (.int 11)) (tNil))))))
def t_l_pick (K : PySem.W.Frag) : TS := tRet (tOp (rIxU K) (tVar 1) (tCall spDraw [] E0 (tCons (tVar 0) (tCons (tCB (rLenU K) (tCons (tVar 1) (tNil))) (tNil)))))
def t_l_mixed_t1 (K : PySem.W.Frag) : TS := tRet (tLcU (iRng1 (tCons (tCB (rLenU K) (tCons (tVar 2) (tNil))) (tNil))) (gName 3) (tYes) (tBM K "list" rPopAtU (tVar 2) (tCons (tCall spDraw [] E0 (tCons (tVar 0) (tCons (tCB (rLenU K) (tCons (tVar 2) (tNil))) (tNil)))) (tNil))) [3])
def t_l_mixed (K : PySem.W.Frag) : TS := tSeq (tAsg (tCB (rLstOf K) (tCons (tVar 1) (tNil))) (gName 2)) (t_l_mixed_t1 K)
theorem rd_l_start (K : PySem.W.Frag) {vs : List V} {H : Hp} {Q : VK} {E : XK} (h : spStart K vs H Q E) :
    t_l_start K { nx := fun _ H' => Q .non H', rt := Q } (start ["_law_script"] vs) H := by
  obtain ⟨a, ns, rfl, hs, hl, q⟩ := h
  refine ⟨_, rfl, ?_⟩
  refine lstOfQ (.inl hs) fun cl H1 hcl e1 => ?_
  refine ⟨by show 4 ≤ sizeLine; decide, fun st H2 hst e2 => ?_⟩
  have k2 := eqf e2 hst (eqs e1)
  refine q st cl H2 ⟨0, 11, ns, eqs e2, k2, by decide, by decide, by decide, hl⟩ ((exn (F := []) e1 hcl).free hst) hcl ((exn e1 hcl).trans (exn e2 hst))
theorem rd_l_pick (K : PySem.W.Frag) {vs : List V} {H : Hp} {Q : VK} {E : XK} (h : spPick vs H Q E) :
    t_l_pick K { nx := fun _ H' => Q .non H', rt := Q } (start ["_law_stream", "_law_some"] vs) H := by
  obtain ⟨st, cl, c, l, xs, rfl, S, hc, hl, n1, n2, h0, h1, q⟩ := h
  refine ⟨_, rfl, ?_⟩
  refine ⟨_, rfl, ?_⟩
  refine ⟨_, rfl, ?_⟩
  refine lenSq hl ?_
  refine ⟨st, cl, c, (xs.length : Int), rfl, S, hc, by omega, by omega, fun k H1 g0 g1 S1 x1 => ?_⟩
  have hk : k.toNat < xs.length := by omega
  refine ixSq (hl.ex x1 (by simp [n1, n2])) (atN g0 (v := xs[k.toNat]) (by simp [hk])) ?_
  exact q k.toNat _ H1 (by simp [hk]) S1 x1
theorem rd_l_mixed (K : PySem.W.Frag) {vs : List V} {H : Hp} {Q : VK} {E : XK} (h : spMixed vs H Q E) :
    t_l_mixed K { nx := fun _ H' => Q .non H', rt := Q } (start ["_law_stream", "_law_some", "_law_left", "_law_k"] vs) H := by
  obtain ⟨st, cl, c, l, xs, rfl, S, hc, hl, hz, q⟩ := h
  have sz : sizeLine = 16777216 := sizeLine_eq
  have hst : H st ≠ none := S.trk st (by simp)
  have hcl : H cl ≠ none := S.trk cl (by simp)
  refine ⟨_, rfl, ?_⟩
  refine lstOfSq hl fun lf H1 hlf e1 => ?_
  have k1 : H1 lf = some (.lst xs) := eqs e1
  have x1 : ExF [st, cl] H H1 := exn e1 hlf
  have S1 : Strm st cl H1 c := S.ex' (F := []) (by simp) (by simp) (exn e1 hlf)
  have nls : lf ≠ st := fun z => hst (by rw [← z]; exact hlf)
  have nlc : lf ≠ cl := fun z => hcl (by rw [← z]; exact hlf)
  unfold t_l_mixed_t1 tRet tLcU
  refine ⟨_, rfl, ?_⟩
  refine lenL k1 ?_
  refine ⟨(xs.length : Int), rfl, by omega, by omega, ?_⟩
  have en : ((xs.length : Int)).toNat = xs.length := by omega
  rw [en]
  refine lcR (fun D i H' => ∃ acc rest : List V, (acc ++ rest).Perm xs ∧ acc.length = i ∧ H' D = some (.lst acc) ∧ H' lf = some (.lst rest) ∧ Strm st cl H' (c + i) ∧ ExF [lf, st, cl] H1 H') ?_ ?_ ?_
  · intro D H2 hD e2
    exact ⟨[], xs, .refl _, rfl, eqs e2, eqf e2 hD k1, S1.ex' (F := []) (by simp) (by simp) (exn e2 hD), exn e2 hD⟩
  · rintro D i H2 hD hi ⟨acc, rest, p, ha, kD, kl, S2, x2⟩
    have hr : acc.length + rest.length = xs.length := by rw [← List.length_append]; exact p.length_eq
    refine ⟨rfl, ?_⟩
    refine ⟨_, rfl, tyL kl, ?_⟩
    refine ⟨_, rfl, ?_⟩
    refine ⟨_, rfl, ?_⟩
    refine lenL kl ?_
    refine ⟨st, cl, c + i, (rest.length : Int), rfl, S2, by omega, by omega, by omega, fun k H3 g0 g1 S3 x3 => ?_⟩
    have hk : k.toNat < rest.length := by omega
    have hDn : D ∉ [st, cl] := by
      intro z
      rcases List.mem_cons.mp z with z | z
      · exact hst (by rw [← z]; exact (exn (F := []) e1 hlf).free hD)
      · exact hcl (by rw [← List.mem_singleton.mp z]; exact (exn (F := []) e1 hlf).free hD)
    have nlD : lf ≠ D := ne_of_none k1 hD
    have kl3 := x3.at_ _ _ (by simp [nls, nlc]) kl
    have kD3 := x3.at_ _ _ hDn kD
    refine popAt (k := k.toNat) kl3 g0 (by omega) (by omega) (y := rest[k.toNat]) (by simp [hk]) fun H4 e4 => ?_
    refine ⟨acc, eqn e4 nlD.symm kD3, by omega, ?_⟩
    generalize e5 : upd H4 D (.lst (acc ++ [rest[k.toNat]])) = H5
    have e5 := e5.symm
    refine ⟨acc ++ [rest[k.toNat]], rest.eraseIdx k.toNat, ?_, by simp [ha], eqs e5, eqn e5 nlD (eqs e4), ?_, ?_⟩
    · have pe := erase_perm (l := rest) (k := k.toNat) (y := rest[k.toNat]) (by simp [hk])
      rw [List.append_assoc]
      exact (List.Perm.append_left acc pe).trans p
    · have S4 : Strm st cl H4 (c + i + 1) := S3.ex' (F := [lf]) (by simp [nls.symm]) (by simp [nlc.symm]) (exm e4 (.inr (by simp)) ExF.refl)
      have S5 : Strm st cl H5 (c + i + 1) := S4.ex' (F := [D]) (by intro z; exact hDn (by rw [← List.mem_singleton.mp z]; simp)) (by intro z; exact hDn (by rw [← List.mem_singleton.mp z]; simp)) (exm e5 (.inr (by simp)) ExF.refl)
      rw [← Nat.add_assoc]
      exact S5
    · have y3 : ExF [lf, st, cl] H1 H3 := x2.trans x3.add
      exact exm e5 (.inl hD) (exm e4 (.inr (by simp)) y3)
  · rintro D H2 hD ⟨acc, rest, p, ha, kD, kl, S2, x2⟩
    have hr : rest = [] := by
      have h2 : acc.length + rest.length = xs.length := by rw [← List.length_append]; exact p.length_eq
      exact List.eq_nil_of_length_eq_zero (by omega)
    subst hr
    rw [List.append_nil] at p
    have xx : ExF [st, cl] H H2 := ((x1.add (p := lf)).trans x2).drop hlf
    exact q D acc H2 p ((exn (F := []) e1 hlf).free hD) kD S2 xx

end Tw
end

section
set_option Elab.async false
set_option linter.all false
set_option maxRecDepth 100000
set_option maxHeartbeats 4000000
namespace Tw
open PySem L2 PyProof.Rows
structure Ad where
  words : Addr
  cSource : Addr
  cLines : Addr
noncomputable def t_p_is_list (K : PySem.W.Frag) : TS := tRet (tCB (rIsiU K) (tCons (tVar 0) (tCons (tTupU (tCons (tC (.ty "list")) (tCons (tC (.ty "tuple")) (tNil)))) (tNil))))
noncomputable def t_p_is_name_t1 (K : PySem.W.Frag) (D : Ad) : TS := tRet (tCB (rAllU K) (tCons (tLcU (iSeqU K (tVar 0)) (gName 1) (tYes) (tInU K (tVar 1) (tOp (rAddU K) (tC (.str "abcdefghijklmnopqrstuvwxyz")) (tC (.str "0123456789")))) [1]) (tNil)))
noncomputable def t_p_is_name (K : PySem.W.Frag) (D : Ad) : TS := tSeq (tIfS (tOr (tNot (tB (tCB (rIsiU K) (tCons (tVar 0) (tCons (tC (.ty "str")) (tNil)))))) (tOr (tNot (tTest (tChain (rI0 fun i j => .bl (decide (i < j))) (rI0 fun i j => .bl (decide (i ≤ j))) (tC (.int 0)) (tCB (rLenU K) (tCons (tVar 0) (tNil))) (tC (.int 8))))) (tOr (tB (tNotInU K (tOp (rIxU K) (tVar 0) (tC (.int 0))) (tC (.str "abcdefghijklmnopqrstuvwxyz")))) (tB (tInU K (tVar 0) (tC (.ref D.words))))))) (tRet (tC (.bl false))) (tNext)) (t_p_is_name_t1 K D)
noncomputable def t_l_is_name_t2 (K : PySem.W.Frag) : TS := tRet (tAndV (tInU K (tOp (rIxU K) (tVar 0) (tC (.int 0))) (tVar 1)) (tCB (rAllU K) (tCons (tLcU (iSeqU K (tVar 0)) (gName 3) (tYes) (tInU K (tVar 3) (tOp (rAddU K) (tVar 1) (tVar 2))) [3]) (tNil))))
noncomputable def t_l_is_name_t1 (K : PySem.W.Frag) : TS := tSeq (tIfS (tOr (tNot (tB (tCB (rIsiU K) (tCons (tVar 0) (tCons (tC (.ty "str")) (tNil)))))) (tOr (tNot (tTest (tChain (rI0 fun i j => .bl (decide (i ≤ j))) (rI0 fun i j => .bl (decide (i ≤ j))) (tC (.int 1)) (tCB (rLenU K) (tCons (tVar 0) (tNil))) (tC (.int 8))))) (tB (tInU K (tVar 0) (tTupU (tCons (tC (.str "read")) (tCons (tC (.str "tell")) (tNil)))))))) (tRet (tC (.bl false))) (tNext)) (t_l_is_name_t2 K)
noncomputable def t_l_is_name (K : PySem.W.Frag) : TS := tSeq (tAsg (tTupU (tCons (tC (.str "abcdefghijklmnopqrstuvwxyz")) (tCons (tC (.str "0123456789")) (tNil)))) (gTup K 2 (gCons (gName 1) (gCons (gName 2) (gNil))))) (t_l_is_name_t1 K)
noncomputable def t_p_as_tuples (K : PySem.W.Frag) (m : Nat) : TS := tRet (tIf (tB (tCall (spIsList K) [] E0 (tCons (tVar 0) (tNil)))) (tCB (rTupOf K) (tCons (tLcU (iSeqU K (tVar 0)) (gName 1) (tYes) (tCall (spAsTuples m) [] E0 (tCons (tVar 1) (tNil))) [1]) (tNil))) (tVar 0))
noncomputable def t_p_is_expr_b1 (K : PySem.W.Frag) : TS := tSeq (tAsg (tBM0 K "list" rPopU (tVar 2)) (gName 3))
      (tIfS (tB (tCB (rIsiU K) (tCons (tVar 3) (tCons (tC (.ty "str")) (tNil))))) (tIfS (tB (tNotInU K (tVar 3) (tVar 0))) (tRet (tC (.bl false))) (tNext)) (tIfS (tOr (tNot (tB (tCall (spIsList K) [] E0 (tCons (tVar 3) (tNil))))) (tOr (tTest (tOp (rEqU K) (tCB (rLenU K) (tCons (tVar 3) (tNil))) (tC (.int 0)))) (tNot (tB (tCall spIsName [] E0 (tCons (tOp (rIxU K) (tVar 3) (tC (.int 0))) (tNil))))))) (tRet (tC (.bl false))) (tDrop (tBM K "list" (rExtU K) (tVar 2) (tCons (tSl (rSlU K) (tVar 3) (tPart (tC (.int 1))) (tNoPart)) (tNil))))))
noncomputable def t_p_is_expr_t2 (K : PySem.W.Frag) : TS := tRet (tC (.bl true))
noncomputable def t_p_is_expr_t1 (K : PySem.W.Frag) : TS := tSeq (tWhile (tTest (tOp (rNeU K) (tVar 2) (tLstU (tNil)))) (t_p_is_expr_b1 K)) (t_p_is_expr_t2 K)
noncomputable def t_p_is_expr (K : PySem.W.Frag) : TS := tSeq (tAsg (tLstU (tCons (tVar 1) (tNil))) (gName 2)) (t_p_is_expr_t1 K)
noncomputable def t_p_is_line_t3 (K : PySem.W.Frag) : TS := tRet (tAndV (tOp (rEqU K) (tOp (rIxU K) (tVar 2) (tC (.int 0))) (tC (.str "tell"))) (tAndV (tInU K (tOp (rIxU K) (tVar 2) (tC (.int 1))) (tVar 0)) (tNotInU K (tOp (rIxU K) (tVar 2) (tC (.int 1))) (tVar 1))))
noncomputable def t_p_is_line_t2 (K : PySem.W.Frag) : TS := tSeq (tIfS (tTest (tOp (rEqU K) (tOp (rIxU K) (tVar 2) (tC (.int 0))) (tC (.str "read")))) (tRet (tNotInU K (tOp (rIxU K) (tVar 2) (tC (.int 1))) (tVar 0))) (tNext)) (t_p_is_line_t3 K)
noncomputable def t_p_is_line_t1 (K : PySem.W.Frag) : TS := tSeq (tIfS (tTest (tOp (rEqU K) (tCB (rLenU K) (tCons (tVar 2) (tNil))) (tC (.int 3)))) (tRet (tAndV (tOp (rEqU K) (tOp (rIxU K) (tVar 2) (tC (.int 0))) (tC (.str "give"))) (tCall spPIsExpr [] E0 (tCons (tVar 0) (tCons (tOp (rIxU K) (tVar 2) (tC (.int 2))) (tNil)))))) (tNext)) (t_p_is_line_t2 K)
noncomputable def t_p_is_line (K : PySem.W.Frag) : TS := tSeq (tIfS (tOr (tNot (tB (tCall (spIsList K) [] E0 (tCons (tVar 2) (tNil))))) (tOr (tB (tNotInU K (tCB (rLenU K) (tCons (tVar 2) (tNil))) (tTupU (tCons (tC (.int 2)) (tCons (tC (.int 3)) (tNil)))))) (tOr (tNot (tB (tCB (rIsiU K) (tCons (tOp (rIxU K) (tVar 2) (tC (.int 0))) (tCons (tC (.ty "str")) (tNil)))))) (tNot (tB (tCall spIsName [] E0 (tCons (tOp (rIxU K) (tVar 2) (tC (.int 1))) (tNil)))))))) (tRet (tC (.bl false))) (tNext)) (t_p_is_line_t1 K)
noncomputable def t_l_is_expr_t2 (K : PySem.W.Frag) (m : Nat) : TS := tRet (tCB (rAllU K) (tCons (tLcU (iSeqU K (tSl (rSlU K) (tVar 1) (tPart (tC (.int 1))) (tNoPart))) (gName 2) (tYes) (tCall (spLIsExpr m) [] E0 (tCons (tVar 0) (tCons (tVar 2) (tNil)))) [2]) (tNil)))
noncomputable def t_l_is_expr_t1 (K : PySem.W.Frag) (m : Nat) : TS := tSeq (tIfS (tOr (tNot (tB (tCB (rIsiU K) (tCons (tVar 1) (tCons (tTupU (tCons (tC (.ty "list")) (tCons (tC (.ty "tuple")) (tNil)))) (tNil)))))) (tOr (tTest (tOp (rEqU K) (tCB (rLenU K) (tCons (tVar 1) (tNil))) (tC (.int 0)))) (tNot (tB (tCall spIsName [] E0 (tCons (tOp (rIxU K) (tVar 1) (tC (.int 0))) (tNil))))))) (tRet (tC (.bl false))) (tNext)) (t_l_is_expr_t2 K m)
noncomputable def t_l_is_expr (K : PySem.W.Frag) (m : Nat) : TS := tSeq (tIfS (tB (tCB (rIsiU K) (tCons (tVar 1) (tCons (tC (.ty "str")) (tNil))))) (tRet (tInU K (tVar 1) (tVar 0))) (tNext)) (t_l_is_expr_t1 K m)
noncomputable def t_l_is_line_t3 (K : PySem.W.Frag) : TS := tRet (tIf (tTest (tOp (rEqU K) (tOp (rIxU K) (tVar 2) (tC (.int 0))) (tC (.str "read")))) (tNotInU K (tOp (rIxU K) (tVar 2) (tC (.int 1))) (tVar 0)) (tAndV (tInU K (tOp (rIxU K) (tVar 2) (tC (.int 1))) (tVar 0)) (tNotInU K (tOp (rIxU K) (tVar 2) (tC (.int 1))) (tVar 1))))
noncomputable def t_l_is_line_t2 (K : PySem.W.Frag) : TS := tSeq (tIfS (tOr (tTest (tOp (rI0 fun i j => .bl (decide (j < i))) (tCB (rLenU K) (tCons (tVar 2) (tNil))) (tC (.int 2)))) (tB (tNotInU K (tOp (rIxU K) (tVar 2) (tC (.int 0))) (tTupU (tCons (tC (.str "read")) (tCons (tC (.str "tell")) (tNil))))))) (tRet (tC (.bl false))) (tNext)) (t_l_is_line_t3 K)
noncomputable def t_l_is_line_t1 (K : PySem.W.Frag) : TS := tSeq (tIfS (tTest (tOp (rEqU K) (tOp (rIxU K) (tVar 2) (tC (.int 0))) (tC (.str "give")))) (tRet (tAndV (tOp (rEqU K) (tCB (rLenU K) (tCons (tVar 2) (tNil))) (tC (.int 3))) (tCall (spLIsExpr 29) [] E0 (tCons (tVar 0) (tCons (tOp (rIxU K) (tVar 2) (tC (.int 2))) (tNil)))))) (tNext)) (t_l_is_line_t2 K)
noncomputable def t_l_is_line (K : PySem.W.Frag) : TS := tSeq (tIfS (tOr (tNot (tB (tCB (rIsiU K) (tCons (tVar 2) (tCons (tTupU (tCons (tC (.ty "list")) (tCons (tC (.ty "tuple")) (tNil)))) (tNil)))))) (tOr (tTest (tOp (rI0 fun i j => .bl (decide (i < j))) (tCB (rLenU K) (tCons (tVar 2) (tNil))) (tC (.int 2)))) (tNot (tB (tCall spIsName [] E0 (tCons (tOp (rIxU K) (tVar 2) (tC (.int 1))) (tNil))))))) (tRet (tC (.bl false))) (tNext)) (t_l_is_line_t1 K)
noncomputable def t_l_fault_b1 (K : PySem.W.Frag) : TS := tSeq (tIfS (tNot (tB (tCall spLIsLine [] E0 (tCons (tVar 1) (tCons (tVar 2) (tCons (tVar 4) (tNil))))))) (tRet (tVar 3)) (tNext))
      (tSeq (tAsg (tOp (rAddU K) (tVar 1) (tLstU (tCons (tOp (rIxU K) (tVar 4) (tC (.int 1))) (tNil)))) (gName 1))
      (tAsg (tOp (rAddU K) (tVar 2) (tIf (tTest (tOp (rEqU K) (tOp (rIxU K) (tVar 4) (tC (.int 0))) (tC (.str "tell")))) (tLstU (tCons (tOp (rIxU K) (tVar 4) (tC (.int 1))) (tNil))) (tLstU (tNil)))) (gName 2)))
noncomputable def t_l_fault_t2 (K : PySem.W.Frag) : TS := tRet (tC .non)
noncomputable def t_l_fault_t1 (K : PySem.W.Frag) : TS := tSeq (tForU (iEnumU K (tCons (tVar 0) (tNil))) (gTup K 2 (gCons (gName 3) (gCons (gName 4) (gNil)))) (t_l_fault_b1 K)) (t_l_fault_t2 K)
noncomputable def t_l_fault (K : PySem.W.Frag) : TS := tSeq (tPar 1 2 (tCons (tLstU (tNil)) (tCons (tLstU (tNil)) (tNil)))) (t_l_fault_t1 K)

theorem rd_p_is_list (K : PySem.W.Frag) {vs : List V} {H : Hp} {Q : VK} {E : XK} (h : spIsList K vs H Q E) :
    t_p_is_list K { nx := fun _ H' => Q .non H', rt := Q } (start ["thing"] vs) H := by
  rcases h with ⟨F, v, d, rfl, r, q⟩ | ⟨v, t, rfl, ty, hk, q⟩
  · refine ⟨_, rfl, ?_⟩
    refine ⟨by show 2 ≤ sizeLine; decide, fun p H1 hp e1 => ?_⟩
    exact isi_seq (r.ex (exn e1 hp)) (eqs e1) (q H1 (exn e1 hp))
  · refine ⟨_, rfl, ?_⟩
    refine ⟨by show 2 ≤ sizeLine; decide, fun p H1 hp e1 => ?_⟩
    unfold rIsiU
    exact .inr ⟨v, p, [.ty "list", .ty "tuple"], t, [.type "list", .type "tuple"], false, rfl, eqs e1, .cons (.ty _) (.cons (.ty _) .nil), ty H1 (exn e1 hp), hk, q H1 (exn e1 hp)⟩
/-- all([sign in letters + figures for sign in s]): what the comprehension gives -/
theorem lcSigns {K : PySem.W.Frag} {i k : Nat} {te : TE} {vs : List Nat} {σ : L2.St} {H : Hp} {Q : VK} {s : Str} (hv : σ[i]? = some (some (.str s))) (hz : s.length < sizeLine) (f : Nat → Bool) (hw : ∀ x, wipe ((wipe σ vs).set k (some x)) vs = wipe σ vs)
    (hs : ∀ (c : Nat) (H' : Hp), ExF [] H H' → ∀ Qc : VK, (∀ H4, ExF [] H' H4 → Qc (.bl (f c)) H4) → te ((wipe σ vs).set k (some (.str ⟨#[c]⟩))) H' Qc)
    (hd : ∀ r H', H r = none → H' r = some (.lst ((s.cps.toList.map f).map V.bl)) → ExF [] H H' → Q (.ref r) H') : tLcU (iSeqU K (tVar i)) (gName k) tYes te vs σ H Q := by
  unfold tLcU
  refine .inr (.inr ⟨_, hv, s, rfl, fun D hD => ?_⟩)
  refine lc_it (walk_str (z := s)) (fun i H' => H' D = some (.lst (((s.cps.toList.take i).map f).map V.bl)) ∧ ExF [D] H H') ⟨upd_same, exn rfl hD⟩ (fun _ _ _ _ => trivial) ?_ ?_
  · rintro i x H' H'' hi ⟨hH, x2⟩ ⟨e, c, hc, rfl⟩
    subst e
    have hc' : s.cps.toList[i]? = some c := by simpa using hc
    have x3 : ExF [] H H'' := x2.drop hD
    refine ⟨hw _, ?_⟩
    unfold tYes
    dsimp only
    rw [if_pos rfl]
    refine hs c H'' x3 _ fun H4 x4 => ?_
    refine ⟨_, x4.at_ _ _ (by simp) hH, ?_, ?_, ?_⟩
    · have hl : s.cps.toList.length = s.length := by simp [Str.length]
      rw [List.length_map, List.length_map, List.length_take]; omega
    · have et : s.cps.toList.take (i + 1) = s.cps.toList.take i ++ [c] := by rw [List.take_succ, hc']; rfl
      rw [upd_same, et, List.map_append, List.map_append]
      rfl
    · exact exm rfl (.inr (by simp)) (x2.trans x4.of)
  · rintro H' ⟨hH, x2⟩
    have hl : s.cps.toList.length = s.cps.size := by simp
    rw [← hl, List.take_length] at hH
    exact hd D H' hD hH (x2.drop hD)
theorem head_get {s : Str} (h : 0 < s.length) : ∃ c, s.cps.toList[0]? = some c ∧ headIn letters s.cps.toList = inSign letters c := by
  have hl : s.cps.toList.length = s.length := by simp [Str.length]
  cases e : s.cps.toList with
  | nil => rw [e] at hl; simp at hl; omega
  | cons c r => exact ⟨c, rfl, rfl⟩
theorem rd_p_is_name (K : PySem.W.Frag) (D : Ad) (hW : ∀ H : Hp, SqT K H D.words [.str "read", .str "tell"]) {vs : List V} {H : Hp} {Q : VK} {E : XK} (h : spIsName vs H Q E) :
    t_p_is_name K D { nx := fun _ H' => Q .non H', rt := Q } (start ["thing", "sign"] vs) H := by
  obtain ⟨F, v, d, n, rfl, r, hd, q⟩ := h
  refine ⟨_, rfl, ?_⟩
  refine isi_str r ⟨_, rfl, ?_⟩
  cases d with
  | str s =>
    rw [okx_str] at hd
    have hz := okS_sz hd
    cases r.str_inv
    refine iteF ?_
    refine ⟨_, rfl, lenS hz ⟨_, _, rfl, rfl, _, rfl, ?_⟩⟩
    have no : nameS s = false → ∀ H', ExF [] H H' → Q (.bl false) H' := fun e H' x => by
      have q' := q H' x
      rw [show nameD (.str s) = nameS s from rfl, e] at q'
      exact q'
    refine ite2 (fun h1 => ?_) (fun h1 => ?_)
    · have h1' : 0 < s.length := by have := of_decide_eq_true h1; omega
      refine ⟨_, _, rfl, rfl, _, rfl, ?_⟩
      refine ite2 (fun h2 => ?_) (fun h2 => ?_)
      · have h2' : ¬ s.length ≤ 8 := by
          intro z
          have z' : ((s.length : Int) ≤ 8) := by omega
          rw [decide_eq_true z'] at h2
          exact absurd h2 (by decide)
        exact no (by unfold nameS; rw [decide_eq_false h2', Bool.and_false]; rfl) H ExF.refl
      · have h2' : s.length ≤ 8 := by
          apply Classical.byContradiction
          intro z
          have z' : ¬ ((s.length : Int) ≤ 8) := by omega
          rw [decide_eq_false z'] at h2
          exact h2 rfl
        -- thing[0] not in SMALL
        obtain ⟨c, hc, hh⟩ := head_get h1'
        refine .inl ⟨_, rfl, ?_⟩
        refine ixS hz (atN (by decide) hc) ?_
        refine notInStr ⟨_, rfl, ?_⟩
        refine ite2 (fun h3 => ?_) (fun h3 => ?_)
        · exact no (by
            have e : headIn letters s.cps.toList = false := by rw [hh]; unfold inSign; simpa using h3
            unfold nameS; rw [e]; simp) H ExF.refl
        · have e3 : headIn letters s.cps.toList = true := by rw [hh]; unfold inSign; simpa using h3
          -- thing in WORDS
          refine .inl ⟨_, rfl, ?_⟩
          refine inStrsT (zs := ["read", "tell"]) (hW H) ⟨_, rfl, ?_⟩
          refine ite2 (fun h4 => ?_) (fun h4 => ?_)
          · exact no (by unfold nameS; rw [h4]; simp) H ExF.refl
          · have e4 : decide (s ∈ (["read", "tell"] : List Str)) = false := by simpa using h4
            refine lcSigns (i := 0) (k := 1) (vs := [1]) (σ := start ["thing", "sign"] [V.str s]) (s := s) rfl (by rw [sizeLine_eq]; have := okS_len hd; omega) (inSign (letters ++ figs)) (fun _ => rfl) (fun c H1 x1 Qc k => ?_) fun p H1 hp hP x1 => ?_
            · refine .inl ⟨_, rfl, ?_⟩
              refine addS (by rw [sizeLine_eq]; decide) ?_
              exact inStr (k H1 ExF.refl)
            · refine allB hP ?_
              have q' := q H1 x1
              have e : nameD (.str s) = (s.cps.toList.map (inSign (letters ++ figs))).all id := by
                show nameS s = _
                unfold nameS
                rw [decide_eq_true h1', decide_eq_true h2', e3, e4, List.all_map]
                rfl
              rw [e] at q'
              exact q'
    · have h1' : ¬ 0 < s.length := by
        intro z
        have z' : ((0 : Int) < s.length) := by omega
        exact h1 (decide_eq_true z')
      refine ⟨_, rfl, ?_⟩
      exact no (by unfold nameS; rw [decide_eq_false h1']; rfl) H ExF.refl
  | _ => exact q H ExF.refl
theorem rd_l_is_name (K : PySem.W.Frag) {vs : List V} {H : Hp} {Q : VK} {E : XK} (h : spIsName vs H Q E) :
    t_l_is_name K { nx := fun _ H' => Q .non H', rt := Q } (start ["_law_thing", "_law_letters", "_law_figures", "_law_sign"] vs) H := by
  obtain ⟨F, v, d, n, rfl, r0, hd, q0⟩ := h
  refine ⟨by show 2 ≤ sizeLine; decide, fun p1 H1 hp1 e1 => ?_⟩
  refine ⟨p1, _, rfl, .inl (.inl (eqs e1)), rfl, _, _, rfl, _, _, rfl, rfl, ?_⟩
  have x1 : ExF [] H H1 := exn e1 hp1
  have r := r0.ex x1.of
  have q : ∀ H', ExF [] H1 H' → Q (.bl (nameD d)) H' := fun H' x => q0 H' (x1.trans x)
  refine ⟨_, rfl, ?_⟩
  refine isi_str r ⟨_, rfl, ?_⟩
  cases d with
  | str s =>
    rw [okx_str] at hd
    have hz := okS_sz hd
    cases r.str_inv
    have no : nameS s = false → ∀ H', ExF [] H1 H' → Q (.bl false) H' := fun e H' x => by
      have q' := q H' x
      rw [show nameD (.str s) = nameS s from rfl, e] at q'
      exact q'
    refine iteF ?_
    refine ⟨_, rfl, lenS hz ⟨_, _, rfl, rfl, _, rfl, ?_⟩⟩
    refine ite2 (fun h1 => ?_) (fun h1 => ?_)
    · have h1' : 0 < s.length := by have := of_decide_eq_true h1; omega
      refine ⟨_, _, rfl, rfl, _, rfl, ?_⟩
      refine ite2 (fun h2 => ?_) (fun h2 => ?_)
      · have h2' : ¬ s.length ≤ 8 := by
          intro z
          have z' : ((s.length : Int) ≤ 8) := by omega
          rw [decide_eq_true z'] at h2
          exact absurd h2 (by decide)
        exact no (by unfold nameS; rw [decide_eq_false h2', Bool.and_false]; rfl) H1 ExF.refl
      · have h2' : s.length ≤ 8 := by
          apply Classical.byContradiction
          intro z
          have z' : ¬ ((s.length : Int) ≤ 8) := by omega
          rw [decide_eq_false z'] at h2
          exact h2 rfl
        -- thing in ("read", "tell")
        refine .inl ⟨_, rfl, ?_⟩
        refine ⟨by show 2 ≤ sizeLine; decide, fun p2 H2 hp2 e2 => ?_⟩
        have x2 : ExF [] H1 H2 := exn e2 hp2
        refine inStrsT (zs := ["read", "tell"]) (.inl (.inl (eqs e2))) ⟨_, rfl, ?_⟩
        refine ite2 (fun h4 => ?_) (fun h4 => ?_)
        · exact no (by unfold nameS; rw [h4]; simp) H2 x2
        · have e4 : decide (s ∈ (["read", "tell"] : List Str)) = false := by simpa using h4
          -- thing[0] in letters
          obtain ⟨c, hc, hh⟩ := head_get h1'
          unfold tNext t_l_is_name_t2 tRet tAndV
          refine .inl ⟨_, rfl, ?_⟩
          refine ixS hz (atN (by decide) hc) ?_
          refine ⟨_, rfl, ?_⟩
          refine inStr ⟨_, rfl, ?_⟩
          refine ite2 (fun h3 => ?_) (fun h3 => ?_)
          · have e3 : headIn letters s.cps.toList = true := by rw [hh]; unfold inSign; exact h3
            refine lcSigns (i := 0) (k := 3) (vs := [3]) (σ := [some (V.str s), some (V.str "abcdefghijklmnopqrstuvwxyz"), some (V.str "0123456789"), none]) (s := s) rfl (by rw [sizeLine_eq]; have := okS_len hd; omega) (inSign (letters ++ figs)) (fun _ => rfl) (fun c H3 x3 Qc k => ?_) fun p H3 hp hP x3 => ?_
            · refine .inl ⟨_, rfl, ?_⟩
              refine ⟨_, rfl, ?_⟩
              refine ⟨_, rfl, ?_⟩
              refine addS (by rw [sizeLine_eq]; decide) ?_
              exact inStr (k H3 ExF.refl)
            · refine allB hP ?_
              have q' := q H3 (x2.trans x3)
              have e : nameD (.str s) = (s.cps.toList.map (inSign (letters ++ figs))).all id := by
                show nameS s = _
                unfold nameS
                rw [decide_eq_true h1', decide_eq_true h2', e3, e4, List.all_map]
                rfl
              rw [e] at q'
              exact q'
          · have e3 : headIn letters s.cps.toList = false := by rw [hh]; unfold inSign; simpa using h3
            exact no (by unfold nameS; rw [e3]; simp) H2 x2
    · have h1' : ¬ 0 < s.length := by
        intro z
        have z' : ((1 : Int) ≤ s.length) := by omega
        exact h1 (decide_eq_true z')
      refine ⟨_, rfl, ?_⟩
      exact no (by unfold nameS; rw [decide_eq_false h1']; rfl) H1 ExF.refl
  | _ => exact q H1 ExF.refl
theorem rd_p_as_tuples (K : PySem.W.Frag) (m : Nat) {vs : List V} {H : Hp} {Q : VK} {E : XK} (h : spAsTuples (m + 1) vs H Q E) :
    t_p_as_tuples K m { nx := fun _ H' => Q .non H', rt := Q } (start ["thing", "part"] vs) H := by
  obtain ⟨F, G, v, d, rfl, r, ⟨_, hd⟩, tG, q⟩ := h
  have hd : ok m d = true := hd
  refine ⟨_, rfl, .inl ⟨F, v, d, rfl, r, fun H1 x1 => ⟨_, rfl, ?_⟩⟩⟩
  have r1 := r.ex x1.of
  -- a row of things: its items, each made tuples, in a new tuple
  have seq : ∀ (a : Addr) (xs : List V) (ds : List PyData), v = .ref a → Sq H1 a xs → RpL F H1 xs ds → 0 < m → oks (m - 1) ds = true → xs.length < sizeLine → (∀ r H', ExF [] H H' → Rp G H' r (.tuple (tups ds)) → Q r H') →
      tCB (rTupOf K) (tCons (tLcU (iSeqU K (tVar 0)) (gName 1) tYes (tCall (spAsTuples m) [] E0 (tCons (tVar 1) tNil)) [1]) tNil) (start ["thing", "part"] [v]) H1 Q := by
    rintro a xs ds rfl ha ra hm0 ho hz q
    refine lcMap (F := G) (xs := xs) (vs := [1]) (k := 1) (iter_var (a := a) rfl ha (by simp)) (tups ds) (by rw [tups_map, List.length_map]; exact ra.1.symm) hz (fun _ => rfl) ?_ ?_
    · intro D i x e H2 hx he x2 hD hD2 Qc k
      obtain ⟨d, hds, rx⟩ := ra.get' hx
      rw [tups_map, List.getElem?_map, hds] at he
      cases he
      refine ⟨_, rfl, F, D :: G, x, d, rfl, rx.ex x2.of, ⟨hm0, oks_iff.mp ho d (List.mem_of_getElem? hds)⟩, ?_, fun y H4 x4 ry => k y H4 x4 ry⟩
      intro b hb
      rcases List.mem_cons.mp hb with z | z
      · rw [z]; exact hD2
      · exact (x1.trans x2).kept b (tG b z)
    · intro p ys H2 hp hP rp x2
      refine tupOfL hP fun p2 H3 hp2 e3 => ?_
      have x3 : ExF [] H2 H3 := exn e3 hp2
      refine q _ H3 ((x1.trans x2).trans x3) ?_
      refine .tuple ?_ (eqs e3) (rp.ex x3.of)
      intro z
      exact (((x1.trans x2).kept p2 (tG p2 z)) hp2)
  cases d with
  | list ds =>
    obtain ⟨a, xs, rfl, n, ha, ra⟩ := r1.list_inv
    obtain ⟨m', rfl⟩ : ∃ m', m = m' + 1 := by
      cases m with
      | zero => simp [ok] at hd
      | succ m' => exact ⟨m', rfl⟩
    rw [ok_list] at hd
    refine iteT ?_
    refine seq a xs ds rfl (.inl ha) ra (Nat.succ_pos _) hd.1 (by rw [sizeLine_eq]; have := ra.1; omega) fun r H' x rr => q r H' x ?_
    rw [tupD]; exact rr
  | tuple ds =>
    obtain ⟨a, xs, rfl, n, ha, ra⟩ := r1.tuple_inv
    obtain ⟨m', rfl⟩ : ∃ m', m = m' + 1 := by
      cases m with
      | zero => simp [ok] at hd
      | succ m' => exact ⟨m', rfl⟩
    rw [ok_tuple] at hd
    refine iteT ?_
    refine seq a xs ds rfl (.inr ha) ra (Nat.succ_pos _) hd.1 (by rw [sizeLine_eq]; have := ra.1; omega) fun r H' x rr => q r H' x ?_
    rw [tupD]; exact rr
  | none => cases r1; exact ⟨_, rfl, q _ _ x1 (by rw [tupD]; exact .non)⟩
  | bool b => cases r1; exact ⟨_, rfl, q _ _ x1 (by rw [tupD]; exact .bl b)⟩
  | int i => cases r1; exact ⟨_, rfl, q _ _ x1 (by rw [tupD]; exact .int i)⟩
  | str s => cases r1; exact ⟨_, rfl, q _ _ x1 (by rw [tupD]; exact .str s)⟩
  | dict kvs => cases m <;> simp [ok] at hd
/-- what a dict's keys answer -/
theorem keysIn {K : PySem.W.Frag} {H : Hp} {a : Addr} {ns : List Str} {s : Str} {Q : VK} (h : Keys H a ns) (q : Q (.bl (decide (s ∈ ns))) H) : ∃ b o, V.ref a = .ref b ∧ DGet H b (.str s) o ∧ Q (.bl o.isSome) H := by
  obtain ⟨kvs, h1, _, h2⟩ := h
  exact ⟨a, _, rfl, .k (k := .inr s) h1, by rw [h2 s]; exact q⟩
theorem keysGet {H : Hp} {a : Addr} {ns : List Str} (h : Keys H a ns) (s : Str) : ∃ o, DGet H a (.str s) o ∧ o.isSome = decide (s ∈ ns) := by
  obtain ⟨kvs, h1, _, h2⟩ := h
  exact ⟨_, .k (k := .inr s) h1, h2 s⟩
theorem Keys.ex {H H' : Hp} {a : Addr} {ns : List Str} {F : List Addr} (h : Keys H a ns) (x : ExF F H H') (n : a ∉ F) : Keys H' a ns := by
  obtain ⟨kvs, h1, h2⟩ := h
  exact ⟨kvs, x.at_ _ _ n h1, h2⟩
theorem rd_p_is_expr (K : PySem.W.Frag) {vs : List V} {H : Hp} {Q : VK} {E : XK} (h : spPIsExpr vs H Q E) :
    t_p_is_expr K { nx := fun _ H' => Q .non H', rt := Q } (start ["known", "thing", "waiting", "here"] vs) H := by
  obtain ⟨F, kd, known, v, d, n, rfl, hk, r, hd, hn, q⟩ := h
  refine ⟨_, rfl, by show 1 ≤ sizeLine; decide, fun wt H1 hwt e1 => ?_⟩
  have nkw : kd ≠ wt := by
    obtain ⟨kvs, hkd, _⟩ := hk
    exact ne_of_none hkd hwt
  -- the things that wait: all of them exprs just if the thing is one
  refine ⟨fun m σ H' => ∃ (xs : List V) (ds : List PyData) (u : Option V), m = sizes ds ∧ σ = [some (.ref kd), some v, some (.ref wt), u] ∧ H' wt = some (.lst xs) ∧ RpL (wt :: F) H' xs ds ∧ (∀ d ∈ ds, ∃ n, okx n d = true) ∧ sizes ds ≤ 1000000 ∧
    exprD known d = ds.all (exprD known) ∧ ExF [wt] H H', ⟨_, [v], [d], none, rfl, rfl, eqs e1, .one ((r.add hwt).ex (exn e1 hwt)), by simpa using ⟨n, hd⟩, by simpa [sizes] using hn, by simp, exn e1 hwt⟩, ?_⟩
  rintro m σ H2 ⟨xs, ds, u, rfl, rfl, hw, rx, hok, hlen, hall, x2⟩
  refine ⟨_, rfl, by decide, fun p H3 hp e3 => ?_⟩
  have x3 : ExF [wt] H H3 := x2.trans (exn e3 hp)
  have hw3 := eqf e3 hp hw
  have rx3 : RpL (wt :: F) H3 xs ds := rx.ex (exn e3 hp)
  refine neE hw3 (eqs e3) ⟨_, rfl, ?_⟩
  rcases List.eq_nil_or_concat ds with e | ⟨es, e0, e⟩
  · subst e
    rw [rx3.nil_inv]
    have q' := q H3 (x3.drop hwt)
    rw [hall] at q'
    exact q'
  · rw [List.concat_eq_append] at e
    subst e
    obtain ⟨ys, y, rfl⟩ : ∃ ys y, xs = ys ++ [y] := by
      rcases List.eq_nil_or_concat xs with e | ⟨ys, y, e⟩
      · rw [e] at rx3; exact absurd rx3.1 (by simp)
      · exact ⟨ys, y, by rw [e, List.concat_eq_append]⟩
    have hl : ys.length = es.length := by have := rx3.1; simpa using this
    have ry : Rp (wt :: F) H3 y e0 := rx3.2 ys.length y e0 (by simp) (by rw [hl]; simp)
    have rys : RpL (wt :: F) H3 ys es := by
      have := rx3.take ys.length
      rw [List.take_left, hl, List.take_left] at this
      exact this
    have ne : (ys ++ [y]).isEmpty = false := by simp
    rw [ne]
    refine iteT ⟨_, fun _ _ h => h, ?_⟩
    -- here = waiting.pop()
    refine ⟨_, rfl, tyL hw3, ?_⟩
    refine popL hw3 fun H4 e4 => ?_
    have x4 : ExF [wt] H H4 := exm e4 (.inr (by simp)) x3
    have x34 : ExF (wt :: F) H3 H4 := exm e4 (.inr (by simp)) ExF.refl
    have ry4 : Rp (wt :: F) H4 y e0 := ry.ex x34
    have rys4 : RpL (wt :: F) H4 ys es := rys.ex x34
    have hw4 := eqs e4
    have hk4 : Keys H4 kd known := hk.ex x4 (by simpa using nkw)
    obtain ⟨n0, hok0⟩ := hok e0 (by simp)
    have hoks : ∀ d ∈ es, ∃ n, okx n d = true := fun d hd => hok d (by simp [hd])
    rw [List.all_append, List.all_cons, List.all_nil, Bool.and_true] at hall
    rw [sizes_append, sizes, sizes, Nat.add_zero] at hlen
    have hsz : sizes es < sizes (es ++ [e0]) := by rw [sizes_append, sizes, sizes]; have := size_pos e0; omega
    have yes : ∀ H', ExF [] H4 H' → exprD known e0 = true → ∃ m', m' < sizes (es ++ [e0]) ∧ ∃ (xs : List V) (ds : List PyData) (u : Option V), m' = sizes ds ∧ [some (.ref kd), some v, some (.ref wt), some y] = [some (.ref kd), some v, some (.ref wt), u] ∧ H' wt = some (.lst xs) ∧ RpL (wt :: F) H' xs ds ∧ (∀ d ∈ ds, ∃ n, okx n d = true) ∧ sizes ds ≤ 1000000 ∧
        exprD known d = ds.all (exprD known) ∧ ExF [wt] H H' := fun H' x e => ⟨_, hsz, ys, es, _, rfl, rfl, x.at_ _ _ (by simp) hw4, rys4.ex x.of, hoks, by omega, by rw [hall, e, Bool.and_true], x4.trans x.of⟩
    have no : ∀ H', ExF [] H4 H' → exprD known e0 = false → Q (.bl false) H' := fun H' x e => by
      have q' := q H' ((x4.trans x.of).drop hwt)
      rw [hall, e, Bool.and_false] at q'
      exact q'
    -- a list or a tuple: its name, then the rest waits
    have seq : ∀ (a : Addr) (zs : List V) (fs : List PyData), y = .ref a → Sq H4 a zs → RpL (wt :: F) H4 zs fs → a ≠ wt → isSeq e0 = true → exprD known e0 = exprL known fs → sizes fs < size e0 → okxs (n0 - 1) fs = true →
        tIfS (tOr (tNot (tB (tCall (spIsList K) [] E0 (tCons (tVar 3) (tNil))))) (tOr (tTest (tOp (rEqU K) (tCB (rLenU K) (tCons (tVar 3) (tNil))) (tC (.int 0)))) (tNot (tB (tCall spIsName [] E0 (tCons (tOp (rIxU K) (tVar 3) (tC (.int 0))) (tNil)))))))
          (tRet (tC (.bl false))) (tDrop (tBM K "list" (rExtU K) (tVar 2) (tCons (tSl (rSlU K) (tVar 3) (tPart (tC (.int 1))) (tNoPart)) (tNil))))
          { nx := fun σ' H' => ∃ m', m' < sizes (es ++ [e0]) ∧ ∃ (xs : List V) (ds : List PyData) (u : Option V), m' = sizes ds ∧ σ' = [some (.ref kd), some v, some (.ref wt), u] ∧ H' wt = some (.lst xs) ∧ RpL (wt :: F) H' xs ds ∧ (∀ d ∈ ds, ∃ n, okx n d = true) ∧ sizes ds ≤ 1000000 ∧
              exprD known d = ds.all (exprD known) ∧ ExF [wt] H H', rt := Q } [some (.ref kd), some v, some (.ref wt), some y] H4 := by
      rintro a zs fs rfl ha rz naw hsq he hsz0 hokf
      refine ⟨_, rfl, .inl ⟨wt :: F, _, e0, rfl, ry4, fun H5 x5 => ⟨_, rfl, ?_⟩⟩⟩
      rw [hsq]
      refine iteF ?_
      have ha5 := ha.ex x5 (by simp)
      refine ⟨_, rfl, lenSq ha5 (eqI ⟨_, rfl, ?_⟩)⟩
      refine ite2 (fun h => ?_) (fun h => ?_)
      · have hz0 : fs = [] := by
          have h1 := of_decide_eq_true h
          have h2 := rz.1
          exact List.eq_nil_of_length_eq_zero (by omega)
        exact no H5 x5 (by rw [he, hz0, exprL])
      · cases fs with
        | nil => exact absurd (decide_eq_true (by have := rz.1; simp at this; simp [this])) h
        | cons f fs =>
          obtain ⟨z, zs', rfl, rf, rfs⟩ := rz.cons_inv
          rw [okxs_cons] at hokf
          refine ⟨_, rfl, ?_⟩
          refine ixSq ha5 (atN (v := z) (by decide) rfl) ?_
          refine ⟨wt :: F, z, f, _, rfl, rf.ex x5.of, hokf.1, fun H6 x6 => ⟨_, rfl, ?_⟩⟩
          cases hn : nameD f with
          | false =>
            refine iteT ?_
            exact no H6 (x5.trans x6) (by rw [he, exprL, hn]; rfl)
          | true =>
            refine iteF ?_
            have x46 := x5.trans x6
            refine ⟨_, rfl, tyL (x46.at_ _ _ (by simp) hw4), ?_⟩
            refine ⟨_, rfl, _, rfl, ?_⟩
            refine slFrom 1 rfl (ha.ex x46 (by simp)) (by simp) (by decide) fun p H7 hp hs7 x7 => ?_
            have x47 := x46.trans x7
            have rzs : RpL (wt :: F) H7 zs' fs := rfs.ex x47.of
            have l1 := rzs.1
            have l2 := rys.1
            have l3 := sizes_len fs
            have l4 := sizes_len es
            have hszc : sizes (f :: fs) = size f + sizes fs := by rw [sizes]
            refine extSq (x47.at_ _ _ (by simp) hw4) hs7 (by rw [sizeLine_eq]; simp; omega) fun H8 e8 => ?_
            have x8 : ExF (wt :: F) H7 H8 := exm e8 (.inr (by simp)) ExF.refl
            refine ⟨sizes (es ++ fs), ?_, ys ++ zs', es ++ fs, _, rfl, rfl, eqs e8, ((rys4.ex x47.of).ex x8).append (rzs.ex x8), ?_, ?_, ?_, exm e8 (.inr (by simp)) (x4.trans x47.of)⟩
            · rw [sizes_append, sizes_append, sizes, sizes]; omega
            · intro d hd
              rcases List.mem_append.mp hd with h | h
              · exact hoks d h
              · exact ⟨_, okxs_iff.mp hokf.2 d h⟩
            · rw [sizes_append]; omega
            · rw [hall, List.all_append, he, exprL, hn, exprs_all]; rfl
    refine ⟨_, rfl, ?_⟩
    refine isi_str ry4 ⟨_, rfl, ?_⟩
    cases e0 with
    | str s =>
      cases ry4.str_inv
      refine iteT ?_
      refine .inr ⟨_, rfl, _, rfl, ?_⟩
      obtain ⟨o, hg, ho⟩ := keysGet hk4 s
      refine ⟨kd, o, rfl, hg, ?_⟩
      rw [ho]
      refine ⟨_, rfl, ?_⟩
      refine ite2 (fun h => ?_) (fun h => ?_)
      · exact no H4 ExF.refl (by rw [exprD]; simpa using h)
      · exact yes H4 ExF.refl (by rw [exprD]; simpa using h)
    | list fs =>
      obtain ⟨a, zs, rfl, na, ha, rz⟩ := ry4.list_inv
      refine iteF ?_
      refine seq a zs fs rfl (.inl ha) rz (by intro z; exact na (by rw [z]; simp)) rfl (by rw [exprD]) (by rw [size]; omega) ?_
      cases n0 with
      | zero => simp [okx] at hok0
      | succ n0 => exact (okx_list.mp hok0).1
    | tuple fs =>
      obtain ⟨a, zs, rfl, na, ha, rz⟩ := ry4.tuple_inv
      refine iteF ?_
      refine seq a zs fs rfl (.inr ha) rz (by intro z; exact na (by rw [z]; simp)) rfl (by rw [exprD]) (by rw [size]; omega) ?_
      cases n0 with
      | zero => simp [okx] at hok0
      | succ n0 => exact (okx_tuple.mp hok0).1
    | _ =>
      refine iteF ?_
      refine ⟨_, rfl, .inl ⟨wt :: F, _, _, rfl, ry4, fun H5 x5 => ⟨_, rfl, ?_⟩⟩⟩
      refine iteT ?_
      exact no H5 x5 (by simp [exprD])
theorem isS_eqv {z : Str} (d : PyData) (h : plain d = true) : PyData.eqv d (.str z) = isS z d := by
  cases d <;> simp [PyData.eqv, isS, plain] at h ⊢
  rw [Bool.eq_iff_iff]
  simp
theorem items_some {d : PyData} {ds : List PyData} (h : items d = some ds) : isSeq d = true ∧ (d = .list ds ∨ d = .tuple ds) := by
  cases d <;> simp [items] at h <;> subst h <;> simp [isSeq]
theorem items_none {d : PyData} (h : items d = none) : isSeq d = false := by
  cases d <;> simp [items] at h <;> rfl
/-- a row by its items -/
theorem Rp.items {F : List Addr} {H : Hp} {v : V} {d : PyData} {ds : List PyData} (r : Rp F H v d) (h : items d = some ds) : ∃ a xs, v = .ref a ∧ a ∉ F ∧ Sq H a xs ∧ RpL F H xs ds := by
  rcases (items_some h).2 with e | e
  · subst e
    obtain ⟨a, xs, e, n, ha, q⟩ := r.list_inv
    exact ⟨a, xs, e, n, .inl ha, q⟩
  · subst e
    obtain ⟨a, xs, e, n, ha, q⟩ := r.tuple_inv
    exact ⟨a, xs, e, n, .inr ha, q⟩
theorem okx_items {n : Nat} {d : PyData} {ds : List PyData} (h : okx n d = true) (k : items d = some ds) : okxs (n - 1) ds = true ∧ ds.length ≤ 100000 := by
  rcases (items_some k).2 with e | e <;> subst e <;> cases n
  · simp [okx] at h
  · exact okx_list.mp h
  · simp [okx] at h
  · exact okx_tuple.mp h
theorem nameD_str {d : PyData} (h : nameD d = true) : ∃ s, d = .str s ∧ nameS s = true := by
  cases d <;> simp [nameD] at h
  exact ⟨_, rfl, h⟩
theorem sizes_mem {d : PyData} : ∀ {ds : List PyData}, d ∈ ds → size d ≤ sizes ds
  | [], h => by simp at h
  | e :: ds, h => by
    rw [sizes]
    rcases List.mem_cons.mp h with h | h
    · subst h; omega
    · have := sizes_mem h; omega
theorem size_items {d : PyData} {ds : List PyData} (k : items d = some ds) : size d = sizes ds + 1 := by
  rcases (items_some k).2 with e | e <;> subst e <;> rw [size]
theorem rd_p_is_line (K : PySem.W.Frag) {vs : List V} {H : Hp} {Q : VK} {E : XK} (h : spPIsLine vs H Q E) :
    t_p_is_line K { nx := fun _ H' => Q .non H', rt := Q } (start ["known", "told", "thing"] vs) H := by
  obtain ⟨F, kd, td, known, told, v, d, n, rfl, hk, ht, r, hd, hn, q⟩ := h
  refine ⟨_, rfl, .inl ⟨F, v, d, rfl, r, fun H1 x1 => ⟨_, rfl, ?_⟩⟩⟩
  have no : lineD known told d = false → ∀ H', ExF [] H H' → Q (.bl false) H' := fun e H' x => by
    have q' := q H' x
    rw [e] at q'
    exact q'
  cases hi : items d with
  | none =>
    rw [items_none hi]
    exact no (by unfold lineD; rw [hi]) H1 x1
  | some ds =>
    rw [(items_some hi).1]
    obtain ⟨a, xs, rfl, na, ha, ra⟩ := r.items hi
    obtain ⟨hok, hl⟩ := okx_items hd hi
    have hlD : lineD known told d = lineL known told ds := by unfold lineD; rw [hi]
    refine iteF ?_
    -- len(thing) not in (2, 3)
    refine .inl ⟨_, rfl, ?_⟩
    refine lenSq (ha.ex x1 (by simp)) ?_
    refine ⟨by show 2 ≤ sizeLine; decide, fun p2 H2 hp2 e2 => ?_⟩
    have x2 : ExF [] H H2 := x1.trans (exn e2 hp2)
    refine notInFlatT (eqs e2) rfl rfl ⟨_, rfl, ?_⟩
    have hxl := ra.1
    have a2 := ha.ex x2 (by simp)
    have r2 := ra.ex (x2.of (G := F))
    have k2 := hk.ex x2 (by simp)
    have t2 := ht.ex x2 (by simp)
    -- the first two things of a row that is long enough
    have first : ∀ (d0 d1 : PyData) (rest : List PyData), ds = d0 :: d1 :: rest → (∀ s : Str, d0 = .str s → nameD d1 = true → ∀ H3, ExF [] H2 H3 →
        t_p_is_line_t1 K { nx := fun _ H' => Q .non H', rt := Q } [some (.ref kd), some (.ref td), some (.ref a)] H3) →
        (tOr (tNot (tB (tCB (rIsiU K) (tCons (tOp (rIxU K) (tVar 2) (tC (.int 0))) (tCons (tC (.ty "str")) (tNil)))))) (tNot (tB (tCall spIsName [] E0 (tCons (tOp (rIxU K) (tVar 2) (tC (.int 1))) (tNil))))))
          [some (.ref kd), some (.ref td), some (.ref a)] H2 fun b H3 => if b = true then tRet (tC (.bl false)) { nx := t_p_is_line_t1 K { nx := fun _ H' => Q .non H', rt := Q }, rt := Q } [some (.ref kd), some (.ref td), some (.ref a)] H3
            else tNext { nx := t_p_is_line_t1 K { nx := fun _ H' => Q .non H', rt := Q }, rt := Q } [some (.ref kd), some (.ref td), some (.ref a)] H3 := by
      rintro d0 d1 rest e cont
      subst e
      obtain ⟨x0, xs', rfl, rx0, r'⟩ := r2.cons_inv
      obtain ⟨x1', xs'', rfl, rx1, r''⟩ := r'.cons_inv
      rw [okxs_cons, okxs_cons] at hok
      refine ⟨_, rfl, ?_⟩
      refine ixSq a2 (atN (v := x0) (by decide) rfl) ?_
      refine isi_str rx0 ⟨_, rfl, ?_⟩
      cases hs : isStr d0 with
      | false =>
        refine iteT ?_
        exact no (by
          rw [hlD]
          have g : ∀ z, isS z d0 = false := fun z => by cases d0 <;> simp [isStr, isS] at hs ⊢
          cases rest with
          | nil => simp [lineL, g]
          | cons e rest => cases rest <;> simp [lineL, g]) H2 x2
      | true =>
        refine iteF ?_
        refine ⟨_, rfl, ?_⟩
        refine ixSq a2 (atN (v := x1') (by decide) rfl) ?_
        refine ⟨F, x1', d1, _, rfl, rx1, hok.2.1, fun H3 x3 => ⟨_, rfl, ?_⟩⟩
        cases hnm : nameD d1 with
        | false =>
          refine iteT ?_
          exact no (by
            rw [hlD]
            cases rest with
            | nil => simp [lineL, hnm]
            | cons e rest => cases rest <;> simp [lineL, hnm]) H3 (x2.trans x3)
        | true =>
          refine iteF ?_
          cases d0 <;> simp [isStr] at hs
          exact cont _ rfl hnm H3 x3
    have noLen : (∀ d0 d1, ds ≠ [d0, d1]) → (∀ d0 d1 d2, ds ≠ [d0, d1, d2]) → lineD known told d = false := fun h2 h3 => by
      rw [hlD]
      match ds with
      | [] => rfl
      | [_] => rfl
      | [d0, d1] => exact absurd rfl (h2 d0 d1)
      | [d0, d1, d2] => exact absurd rfl (h3 d0 d1 d2)
      | _ :: _ :: _ :: _ :: _ => rfl
    have inv : inV (.int (xs.length : Int)) [.int 2, .int 3] = (decide (ds.length = 2) || decide (ds.length = 3)) := by
      show ((2 == (xs.length : Int)) || ((3 == (xs.length : Int)) || false)) = _
      rw [hxl, Bool.eq_iff_iff]
      simp
      omega
    rw [inv]
    match ds, hok, r2, first, hlD, noLen, hl, hxl with
    | [], _, _, _, _, noLen, _, _ => exact no (noLen (fun _ _ h => by cases h) (fun _ _ _ h => by cases h)) H2 x2
    | [_], _, _, _, _, noLen, _, _ => exact no (noLen (fun _ _ h => by cases h) (fun _ _ _ h => by cases h)) H2 x2
    | e1 :: e2 :: e3 :: e4 :: r, _, _, _, _, noLen, _, _ =>
      have e : (decide ((List.length (e1 :: e2 :: e3 :: e4 :: r)) = 2) || decide ((List.length (e1 :: e2 :: e3 :: e4 :: r)) = 3)) = false := by simp
      rw [e]
      exact no (noLen (fun _ _ h => by cases h) (fun _ _ _ h => by cases h)) H2 x2
    | [d0, d1], hok, r2, first, hlD, _, _, hxl =>
      refine iteF ?_
      refine first d0 d1 [] rfl fun s hs hnm H3 x3 => ?_
      subst hs
      obtain ⟨s1, rfl, hs1⟩ := nameD_str hnm
      obtain ⟨x0, xs', rfl, rx0, r'⟩ := r2.cons_inv
      obtain ⟨x1', xs'', rfl, rx1, r''⟩ := r'.cons_inv
      cases rx0.str_inv
      cases rx1.str_inv
      have a3 := a2.ex x3 (by simp)
      have k3 := k2.ex x3 (by simp)
      have t3 := t2.ex x3 (by simp)
      obtain ⟨o, hg, ho⟩ := keysGet k3 s1
      obtain ⟨o2, hg2, ho2⟩ := keysGet t3 s1
      have q' := q H3 (x2.trans x3)
      rw [hlD] at q'
      have e : lineL known told [.str s, .str s1] = ((decide (s = "read") && !decide (s1 ∈ known)) || (decide (s = "tell") && decide (s1 ∈ known) && !decide (s1 ∈ told))) := by
        simp [lineL, hnm, isS, nmIn]
      rw [e] at q'
      refine ⟨_, rfl, lenSq a3 (eqI ⟨_, rfl, ?_⟩)⟩
      refine ite2 (fun h => absurd (of_decide_eq_true h) (by rw [hxl]; simp)) (fun _ => ?_)
      refine ⟨_, rfl, ?_⟩
      refine ixSq a3 (atN (v := .str s) (by decide) rfl) ?_
      refine eqS ⟨_, rfl, ?_⟩
      refine ite2 (fun h => ?_) (fun h => ?_)
      · have h' := of_decide_eq_true h
        refine .inr ⟨_, rfl, ?_⟩
        refine ixSq a3 (atN (v := .str s1) (by decide) rfl) ?_
        refine ⟨_, rfl, kd, o, rfl, hg, ?_⟩
        rw [ho]
        rw [h] at q'
        have ns : decide (s = ("tell" : Str)) = false := decide_eq_false (by rw [h']; decide)
        rw [ns] at q'
        simpa using q'
      · have h' : decide (s = ("read" : Str)) = false := by simpa using h
        rw [h'] at q'
        refine ⟨_, rfl, ?_⟩
        refine ixSq a3 (atN (v := .str s) (by decide) rfl) ?_
        refine eqS ⟨_, rfl, ?_⟩
        refine ite2 (fun h2 => ?_) (fun h2 => ?_)
        · rw [h2] at q'
          refine .inr ⟨_, rfl, ?_⟩
          refine ixSq a3 (atN (v := .str s1) (by decide) rfl) ?_
          refine ⟨_, rfl, kd, o, rfl, hg, ⟨_, rfl, ?_⟩⟩
          rw [ho]
          refine ite2 (fun h4 => ?_) (fun h4 => ?_)
          · rw [h4] at q'
            refine .inr ⟨_, rfl, ?_⟩
            refine ixSq a3 (atN (v := .str s1) (by decide) rfl) ?_
            refine ⟨_, rfl, td, o2, rfl, hg2, ?_⟩
            rw [ho2]
            simpa using q'
          · have h4' : decide (s1 ∈ known) = false := by simpa using h4
            rw [h4'] at q'
            simpa using q'
        · have h2' : decide (s = ("tell" : Str)) = false := by simpa using h2
          rw [h2'] at q'
          simpa using q'
    | [d0, d1, d2], hok, r2, first, hlD, _, _, hxl =>
      refine iteF ?_
      refine first d0 d1 [d2] rfl fun s hs hnm H3 x3 => ?_
      subst hs
      obtain ⟨x0, xs1, rfl, rx0, r1'⟩ := r2.cons_inv
      obtain ⟨x1', xs2, rfl, rx1, r2'⟩ := r1'.cons_inv
      obtain ⟨x2', xs3, rfl, rx2, r3'⟩ := r2'.cons_inv
      cases rx0.str_inv
      have a3 := a2.ex x3 (by simp)
      have k3 := k2.ex x3 (by simp)
      have q' : ∀ H', ExF [] H3 H' → Q (.bl (decide (s = "give") && exprD known d2)) H' := fun H' x => by
        have q' := q H' ((x2.trans x3).trans x)
        rw [hlD] at q'
        have e : lineL known told [.str s, d1, d2] = (decide (s = "give") && exprD known d2) := by
          simp [lineL, hnm, isS]
        rw [e] at q'
        exact q'
      refine ⟨_, rfl, lenSq a3 (eqI ⟨_, rfl, ?_⟩)⟩
      refine ite2 (fun _ => ?_) (fun h => absurd (decide_eq_true (by rw [hxl]; rfl)) h)
      refine ⟨_, rfl, ?_⟩
      refine ixSq a3 (atN (v := .str s) (by decide) rfl) ?_
      refine eqS ⟨_, rfl, ?_⟩
      rw [okxs_cons, okxs_cons, okxs_cons] at hok
      have hsz : size d2 ≤ 1000000 := by
        have h1 := size_items hi
        rw [sizes, sizes, sizes, sizes] at h1
        omega
      refine ite2 (fun h => ?_) (fun h => ?_)
      · refine ⟨_, rfl, _, rfl, ?_⟩
        refine ixSq a3 (atN (v := x2') (by decide) rfl) ?_
        refine ⟨F, kd, known, x2', d2, _, rfl, k3, rx2.ex x3.of, hok.2.2.1, hsz, fun H4 x4 => ?_⟩
        have q'' := q' H4 x4
        rw [h] at q''
        simpa using q''
      · have h' : decide (s = ("give" : Str)) = false := by simpa using h
        have q'' := q' H3 ExF.refl
        rw [h'] at q''
        simpa using q''
theorem okx_row {m : Nat} {d : PyData} {ds : List PyData} (h : okx (m + 1) d = true) (k : items d = some ds) : okxs m ds = true ∧ ds.length ≤ 100000 := by
  rcases (items_some k).2 with e | e <;> subst e
  · exact okx_list.mp h
  · exact okx_tuple.mp h
theorem rd_l_is_expr (K : PySem.W.Frag) (m : Nat) {vs : List V} {H : Hp} {Q : VK} {E : XK} (h : spLIsExpr (m + 1) vs H Q E) :
    t_l_is_expr K m { nx := fun _ H' => Q .non H', rt := Q } (start ["_law_known", "_law_thing", "_law_part"] vs) H := by
  obtain ⟨F, kd, known, v, d, rfl, hk, r, ⟨_, hd⟩, q⟩ := h
  have hd : okx m d = true := hd
  refine ⟨_, rfl, ?_⟩
  refine isi_str r ⟨_, rfl, ?_⟩
  cases hs : isStr d with
  | true =>
    cases d <;> simp [isStr] at hs
    rename_i s
    cases r.str_inv
    refine iteT ?_
    refine .inl ⟨_, rfl, _, rfl, inStrs hk ?_⟩
    have q' := q H ExF.refl
    rw [exprD] at q'
    exact q'
  | false =>
    refine iteF ?_
    have no : exprD known d = false → ∀ H', ExF [] H H' → Q (.bl false) H' := fun e H' x => by
      have q' := q H' x
      rw [e] at q'
      exact q'
    refine ⟨_, rfl, by show 2 ≤ sizeLine; decide, fun p1 H1 hp1 e1 => ?_⟩
    have x1 : ExF [] H H1 := exn e1 hp1
    refine isi_seq (r.ex x1.of) (eqs e1) ⟨_, rfl, ?_⟩
    cases hi : items d with
    | none =>
      rw [items_none hi]
      exact no (by cases d <;> simp [items, isStr] at hi hs <;> simp [exprD]) H1 x1
    | some ds =>
      rw [(items_some hi).1]
      refine iteF ?_
      obtain ⟨a, xs, rfl, na, ha, ra⟩ := r.items hi
      obtain ⟨m', rfl⟩ : ∃ m', m = m' + 1 := by
        cases m with
        | zero => rcases (items_some hi).2 with e | e <;> subst e <;> simp [okx] at hd
        | succ m' => exact ⟨m', rfl⟩
      obtain ⟨hok, hl⟩ := okx_row hd hi
      have he : exprD known d = exprL known ds := by
        rcases (items_some hi).2 with e | e <;> subst e <;> rw [exprD]
      have a1 := ha.ex x1 (by simp)
      refine ⟨_, rfl, lenSq a1 (eqI ⟨_, rfl, ?_⟩)⟩
      cases ds with
      | nil =>
        have h0 : xs.length = 0 := ra.1
        rw [h0]
        exact no (by rw [he, exprL]) H1 x1
      | cons f fs =>
        obtain ⟨z, zs, rfl, rf, rfs⟩ := ra.cons_inv
        rw [okxs_cons] at hok
        refine ite2 (fun h => absurd (of_decide_eq_true h) (by simp; omega)) (fun _ => ?_)
        refine ⟨_, rfl, ?_⟩
        refine ixSq a1 (atN (v := z) (by decide) rfl) ?_
        refine ⟨F, z, f, _, rfl, rf.ex x1.of, hok.1, fun H2 x2 => ⟨_, rfl, ?_⟩⟩
        have x02 := x1.trans x2
        cases hn : nameD f with
        | false =>
          refine iteT ?_
          exact no (by rw [he, exprL, hn]; rfl) H2 x02
        | true =>
          refine iteF ?_
          have hzl : zs.length = fs.length := rfs.1
          have hz : zs.length < sizeLine := by rw [sizeLine_eq]; simp at hl; omega
          refine lcMapB (xs := zs) (vs := [2]) (k := 2) (iter_sl1 (a := a) (i := 1) rfl (ha.ex x02 (by simp)) (by simp) Trk.nil) (fs.map (exprD known)) (by rw [List.length_map]; exact hzl.symm) hz (fun _ => rfl) ?_ ?_
          · intro i x b H3 hx hb x3 Qc k
            obtain ⟨e, he3, rx⟩ := rfs.get' hx
            rw [List.getElem?_map, he3] at hb
            cases hb
            refine ⟨_, rfl, _, rfl, F, kd, known, x, e, rfl, (x02.trans x3).at_ _ _ (by simp) hk, rx.ex (x02.trans x3).of, ⟨Nat.succ_pos _, okxs_iff.mp hok.2 e (List.mem_of_getElem? he3)⟩, fun H4 x4 => k H4 x4⟩
          · intro p H3 hp hP x3
            refine allB hP ?_
            have q' := q H3 (x02.trans x3)
            rw [he, exprL, hn, exprs_all, Bool.true_and] at q'
            rw [List.all_map]
            exact q'
theorem rd_l_is_line (K : PySem.W.Frag) {vs : List V} {H : Hp} {Q : VK} {E : XK} (h : spLIsLine vs H Q E) :
    t_l_is_line K { nx := fun _ H' => Q .non H', rt := Q } (start ["_law_known", "_law_told", "_law_thing"] vs) H := by
  obtain ⟨F, kd, td, known, told, v, d, n, rfl, hk, ht, r, hd, hn, hf, q⟩ := h
  have no : lineD known told d = false → ∀ H', ExF [] H H' → Q (.bl false) H' := fun e H' x => by
    have q' := q H' x
    rw [e] at q'
    exact q'
  refine ⟨_, rfl, by show 2 ≤ sizeLine; decide, fun p1 H1 hp1 e1 => ?_⟩
  have x1 : ExF [] H H1 := exn e1 hp1
  refine isi_seq (r.ex x1.of) (eqs e1) ⟨_, rfl, ?_⟩
  cases hi : items d with
  | none =>
    rw [items_none hi]
    exact no (by unfold lineD; rw [hi]) H1 x1
  | some ds =>
    rw [(items_some hi).1]
    refine iteF ?_
    obtain ⟨a, xs, rfl, na, ha, ra⟩ := r.items hi
    obtain ⟨hok, hl⟩ := okx_items hd hi
    have hlD : lineD known told d = lineL known told ds := by unfold lineD; rw [hi]
    have a1 := ha.ex x1 (by simp)
    have hxl := ra.1
    refine ⟨_, rfl, lenSq a1 ⟨_, _, rfl, rfl, _, rfl, ?_⟩⟩
    match ds, hok, ra, hlD, hl, hxl, hi with
    | [], _, _, hlD, _, hxl, _ =>
      rw [hxl]
      exact no (by rw [hlD]; rfl) H1 x1
    | [_], _, _, hlD, _, hxl, _ =>
      rw [hxl]
      exact no (by rw [hlD]; rfl) H1 x1
    | d0 :: d1 :: rest, hok, ra, hlD, hl, hxl, hi =>
      obtain ⟨x0, xs1, rfl, rx0, ra1⟩ := ra.cons_inv
      obtain ⟨x1', xs2, rfl, rx1, ra2⟩ := ra1.cons_inv
      rw [okxs_cons, okxs_cons] at hok
      have hf0 : ok 20 d0 = true := by unfold fine at hf; rw [hi] at hf; exact hf
      refine ite2 (fun h => absurd (of_decide_eq_true h) (by simp; omega)) (fun _ => ?_)
      refine ⟨_, rfl, ?_⟩
      refine ixSq a1 (atN (v := x1') (by decide) rfl) ?_
      refine ⟨F, x1', d1, _, rfl, rx1.ex x1.of, hok.2.1, fun H2 x2 => ⟨_, rfl, ?_⟩⟩
      have x02 := x1.trans x2
      cases hnm : nameD d1 with
      | false =>
        refine iteT ?_
        exact no (by
          rw [hlD]
          cases rest with
          | nil => simp [lineL, hnm]
          | cons e rest => cases rest <;> simp [lineL, hnm]) H2 x02
      | true =>
        refine iteF ?_
        obtain ⟨s1, rfl, hs1⟩ := nameD_str hnm
        cases rx1.str_inv
        have a2 := ha.ex x02 (by simp)
        have l0 : rest.length = xs2.length := ra2.1.symm
        -- thing[0] == "give"
        refine ⟨_, rfl, ?_⟩
        refine ixSq a2 (atN (v := x0) (by decide) rfl) ?_
        refine eqO (n := 20) (m := 20) (rx0.ex x02.of) (Rp.str (F := []) "give") hf0 (by rw [ok_str]; decide +kernel) ⟨_, rfl, ?_⟩
        rw [isS_eqv d0 (ok_plain hf0)]
        cases hg : isS "give" d0 with
        | true =>
          refine iteT ?_
          have hd0 : isS "read" d0 = false ∧ isS "tell" d0 = false := by
            cases d0 <;> simp [isS] at hg ⊢
            subst hg
            decide
          refine ⟨_, rfl, lenSq a2 (eqI ⟨_, rfl, ?_⟩)⟩
          match rest, hlD, ra2, l0, hok with
          | [], hlD, _, l0, _ =>
            have e : xs2.length = 0 := l0.symm
            refine ite2 (fun h => absurd (of_decide_eq_true h) (by simp [e])) (fun h => ?_)
            exact no (by rw [hlD]; simp [lineL, hd0.1, hd0.2]) H2 x02
          | _ :: _ :: r, hlD, _, l0, _ =>
            refine ite2 (fun h => absurd (of_decide_eq_true h) (by simp at l0 ⊢; omega)) (fun h => ?_)
            exact no (by rw [hlD]; rfl) H2 x02
          | [d2], hlD, ra2, l0, hok =>
            obtain ⟨x2', xs3, rfl, rx2, ra3⟩ := ra2.cons_inv
            cases ra3.nil_inv
            refine iteT ?_
            refine ⟨_, rfl, _, rfl, ?_⟩
            refine ixSq a2 (atN (v := x2') (by decide) rfl) ?_
            rw [okxs_cons] at hok
            have hm : ∀ {k : Nat} {d : PyData}, k ≤ 28 → okx k d = true → okx 28 d = true := fun h1 h2 => okx_le h2 h1
            refine ⟨F, kd, known, x2', d2, rfl, x02.at_ _ _ (by simp) hk, rx2.ex x02.of, ⟨by decide, hm (by omega) hok.2.2.1⟩, fun H4 x4 => ?_⟩
            have q' := q H4 (x02.trans x4)
            have e : lineL known told [d0, .str s1, d2] = exprD known d2 := by simp [lineL, hnm, hg]
            rw [hlD, e] at q'
            exact q'
        | false =>
          refine iteF ?_
          refine ⟨_, rfl, lenSq a2 ⟨_, _, rfl, rfl, _, rfl, ?_⟩⟩
          cases rest with
          | cons e rest =>
            refine ite2 (fun h => ?_) (fun h => absurd (decide_eq_true (by simp at l0 ⊢; omega)) h)
            exact no (by rw [hlD]; cases rest <;> simp [lineL, hg]) H2 x02
          | nil =>
            have e : xs2 = [] := List.eq_nil_of_length_eq_zero l0.symm
            subst e
            refine ite2 (fun h => absurd (of_decide_eq_true h) (by simp)) (fun _ => ?_)
            refine .inl ⟨_, rfl, ?_⟩
            refine ixSq a2 (atN (v := x0) (by decide) rfl) ?_
            refine ⟨by show 2 ≤ sizeLine; decide, fun p3 H3 hp3 e3 => ?_⟩
            have x03 := x02.trans (exn e3 hp3)
            refine notInOT (n := 20) (m := 20) (G := []) (ds := [.str "read", .str "tell"]) (rx0.ex x03.of) (.tuple (by simp) (eqs e3) (.cons (.str _) (.cons (.str _) .nil))) hf0 (by decide +kernel) ⟨_, rfl, ?_⟩
            have ee : ([PyData.str "read", PyData.str "tell"].any fun z => PyData.eqv z d0) = (isS "read" d0 || isS "tell" d0) := by
              cases d0 with
              | str s =>
                show ((("read" : Str) == s) || ((("tell" : Str) == s) || false)) = (decide (s = "read") || decide (s = "tell"))
                rw [Bool.eq_iff_iff]
                simp only [Bool.or_eq_true, beq_iff_eq, decide_eq_true_eq, Bool.or_false]
                exact ⟨fun h => h.elim (fun h => .inl h.symm) (fun h => .inr h.symm), fun h => h.elim (fun h => .inl h.symm) (fun h => .inr h.symm)⟩
              | _ => simp [isS, PyData.eqv]
            rw [ee]
            have hL : lineL known told [d0, .str s1] = ((isS "read" d0 && !decide (s1 ∈ known)) || (isS "tell" d0 && decide (s1 ∈ known) && !decide (s1 ∈ told))) := by
              simp [lineL, hnm, nmIn]
            have q' : ∀ H', ExF [] H3 H' → Q (.bl ((isS "read" d0 && !decide (s1 ∈ known)) || (isS "tell" d0 && decide (s1 ∈ known) && !decide (s1 ∈ told)))) H' := fun H' x => by
              have q' := q H' (x03.trans x)
              rw [hlD, hL] at q'
              exact q'
            have a3 := ha.ex x03 (by simp)
            have k3 : StrsAt H3 kd known := x03.at_ _ _ (by simp) hk
            have t3 : StrsAt H3 td told := x03.at_ _ _ (by simp) ht
            cases hr : isS "read" d0 with
            | true =>
              rw [Bool.true_or]
              refine iteF ?_
              refine ⟨_, rfl, ?_⟩
              refine ixSq a3 (atN (v := x0) (by decide) rfl) ?_
              refine eqO (n := 20) (m := 20) (rx0.ex x03.of) (Rp.str (F := []) "read") hf0 (by rw [ok_str]; decide +kernel) ⟨_, rfl, ?_⟩
              rw [isS_eqv d0 (ok_plain hf0), hr]
              refine iteT ?_
              refine .inl ⟨_, rfl, ?_⟩
              refine ixSq a3 (atN (v := .str s1) (by decide) rfl) ?_
              refine ⟨_, rfl, notInStrs k3 ?_⟩
              have q'' := q' H3 ExF.refl
              have nt : isS "tell" d0 = false := by
                cases d0 <;> simp [isS] at hr ⊢
                subst hr
                decide
              rw [hr, nt] at q''
              simpa using q''
            | false =>
              rw [Bool.false_or]
              cases ht2 : isS "tell" d0 with
              | false =>
                refine iteT ?_
                have q'' := q' H3 ExF.refl
                rw [hr, ht2] at q''
                have q3 : Q (.bl false) H3 := by simpa using q''
                exact q3
              | true =>
                refine iteF ?_
                refine ⟨_, rfl, ?_⟩
                refine ixSq a3 (atN (v := x0) (by decide) rfl) ?_
                refine eqO (n := 20) (m := 20) (rx0.ex x03.of) (Rp.str (F := []) "read") hf0 (by rw [ok_str]; decide +kernel) ⟨_, rfl, ?_⟩
                rw [isS_eqv d0 (ok_plain hf0), hr]
                refine iteF ?_
                refine .inl ⟨_, rfl, ?_⟩
                refine ixSq a3 (atN (v := .str s1) (by decide) rfl) ?_
                refine ⟨_, rfl, inStrs k3 ⟨_, rfl, ?_⟩⟩
                have q'' := q' H3 ExF.refl
                rw [hr, ht2] at q''
                refine ite2 (fun h => ?_) (fun h => ?_)
                · rw [h] at q''
                  refine .inl ⟨_, rfl, ?_⟩
                  refine ixSq a3 (atN (v := .str s1) (by decide) rfl) ?_
                  refine ⟨_, rfl, notInStrs t3 ?_⟩
                  simpa using q''
                · have h' : decide (s1 ∈ known) = false := by simpa using h
                  rw [h'] at q''
                  simpa using q''
theorem lineD_parts {known told : List Str} {d : PyData} (h : lineD known told d = true) : ∃ d0 s1 rest, items d = some (d0 :: .str s1 :: rest) ∧ lineN d = s1 ∧ lineT d = isS "tell" d0 := by
  unfold lineD at h
  cases hi : items d with
  | none => rw [hi] at h; cases h
  | some ds =>
    rw [hi] at h
    have hn : ∀ {b : PyData} {c : Bool}, (nameD b && c) = true → ∃ s, b = .str s := fun h => by
      rw [Bool.and_eq_true] at h
      obtain ⟨s, hs, _⟩ := nameD_str h.1
      exact ⟨s, hs⟩
    match ds, h, hi with
    | [], h, _ => cases h
    | [_], h, _ => cases h
    | [a, b], h, hi =>
      obtain ⟨s, rfl⟩ := hn h
      exact ⟨a, s, [], rfl, by unfold lineN; rw [hi], by unfold lineT; rw [hi]⟩
    | [a, b, c], h, hi =>
      have h' : (nameD b && isS "give" a && exprD known c) = true := h
      rw [Bool.and_assoc] at h'
      obtain ⟨s, rfl⟩ := hn h'
      exact ⟨a, s, [c], rfl, by unfold lineN; rw [hi], by unfold lineT; rw [hi]⟩
    | _ :: _ :: _ :: _ :: _, h, _ => cases h
theorem rd_l_fault (K : PySem.W.Frag) {vs : List V} {H : Hp} {Q : VK} {E : XK} (h : spFault vs H Q E) :
    t_l_fault K { nx := fun _ H' => Q .non H', rt := Q } (start ["_law_lines", "_law_known", "_law_told", "_law_at", "_law_thing"] vs) H := by
  obtain ⟨F, l, xs, ds, n, rfl, hl, rx, hok, hn, hfine, hlen, q⟩ := h
  refine ⟨by decide, fun p1 H1 hp1 e1 => ?_⟩
  refine ⟨by decide, fun p2 H2 hp2 e2 => ?_⟩
  refine ⟨_, _, rfl, ?_⟩
  have x2 : ExF [] H H2 := (exn e1 hp1).trans (exn e2 hp2)
  have hxl := rx.1
  refine forE (i := 0) (a := l) (xs := xs) (M := []) rfl (hl.ex x2 (by simp)) (by simp)
    (fun i σ H' => ∃ (kd td : Addr) (known told : List Str) (u w : Option V), σ = [some (.ref l), some (.ref kd), some (.ref td), u, w] ∧ StrsAt H' kd known ∧ StrsAt H' td told ∧ known.length ≤ i ∧ told.length ≤ i ∧
      faultL [] [] 0 ds = faultL known told i (ds.drop i) ∧ ExF [] H2 H')
    ⟨p1, p2, [], [], none, none, rfl, eqf e2 hp2 (eqs e1), eqs e2, Nat.le_refl _, Nat.le_refl _, rfl, ExF.refl⟩ (fun i σ' H' ⟨_, _, _, _, _, _, _, _, _, _, _, _, x⟩ => x) ?_ ?_
  · rintro i x σ' H3 H4 hx ⟨kd, td, known, told, u, w, rfl, hk, ht, lk, lt, hf, x3⟩ x4
    obtain ⟨d, hd, rd⟩ := rx.get' hx
    have hi : i < ds.length := (List.getElem?_eq_some_iff.mp hd).1
    have hm : d ∈ ds := List.mem_of_getElem? hd
    have x04 := (x2.trans x3).trans x4
    have k4 : StrsAt H4 kd known := x4.at_ _ _ (by simp) hk
    have t4 : StrsAt H4 td told := x4.at_ _ _ (by simp) ht
    have hdrop : ds.drop i = d :: ds.drop (i + 1) := by
      have h1 := List.drop_eq_getElem_cons hi
      rw [h1]
      congr 1
      have := (List.getElem?_eq_some_iff.mp hd).2
      exact this
    rw [hdrop, faultL] at hf
    refine ⟨_, rfl, _, rfl, _, rfl, ?_⟩
    refine ⟨F, kd, td, known, told, x, d, n, rfl, k4, t4, rd.ex x04.of, okxs_iff.mp hok d hm, hn, hfine d hm, fun H5 x5 => ⟨_, rfl, ?_⟩⟩
    have x05 := x04.trans x5
    cases hL : lineD known told d with
    | false =>
      rw [hL, if_neg Bool.false_ne_true] at hf
      refine iteT ?_
      refine ⟨_, rfl, q _ H5 x05 ?_⟩
      rw [hf]
      exact .int _
    | true =>
      rw [hL, if_pos rfl] at hf
      refine iteF ?_
      obtain ⟨d0, s1, rest, hit, hnm, htl⟩ := lineD_parts hL
      obtain ⟨a, zs, rfl, na, ha, rz⟩ := rd.items hit
      obtain ⟨x0, xs1, rfl, rx0, rz1⟩ := rz.cons_inv
      obtain ⟨x1', xs2, rfl, rx1, rz2⟩ := rz1.cons_inv
      cases rx1.str_inv
      have hf0 : ok 20 d0 = true := by have := hfine d hm; unfold fine at this; rw [hit] at this; exact this
      have a5 := ha.ex x05 (by simp)
      have k5 : StrsAt H5 kd known := x5.at_ _ _ (by simp) k4
      have t5 : StrsAt H5 td told := x5.at_ _ _ (by simp) t4
      have sz : sizeLine = 16777216 := sizeLine_eq
      -- known = known + [thing[1]]
      refine ⟨_, rfl, _, rfl, ?_⟩
      refine ixSq a5 (atN (v := .str s1) (by decide) rfl) ?_
      refine ⟨by show 1 ≤ sizeLine; decide, fun p6 H6 hp6 e6 => ?_⟩
      have x06 := x05.trans (exn e6 hp6)
      refine catL (eqf e6 hp6 k5) (eqs e6) (by rw [List.length_map, sz]; simp; omega) fun p7 H7 hp7 e7 => ?_
      have x07 := x06.trans (exn e7 hp7)
      have a7 := ha.ex x07 (by simp)
      have k7 : StrsAt H7 p7 (known ++ [s1]) := by
        have := eqs e7
        unfold StrsAt
        rw [this, List.map_append]
        rfl
      have t7 : StrsAt H7 td told := eqf e7 hp7 (eqf e6 hp6 t5)
      -- told = told + ([thing[1]] if thing[0] == "tell" else [])
      refine ⟨_, rfl, _, rfl, ?_⟩
      refine ixSq a7 (atN (v := x0) (by decide) rfl) ?_
      refine eqO (n := 20) (m := 20) (rx0.ex x07.of) (Rp.str (F := []) "tell") hf0 (by rw [ok_str]; decide +kernel) ⟨_, rfl, ?_⟩
      rw [isS_eqv d0 (ok_plain hf0)]
      have x27 : ExF [] H2 H7 := (((x3.trans x4).trans x5).trans (exn e6 hp6)).trans (exn e7 hp7)
      cases hT : isS "tell" d0 with
      | true =>
        refine iteT ?_
        refine ⟨_, rfl, ?_⟩
        refine ixSq a7 (atN (v := .str s1) (by decide) rfl) ?_
        refine ⟨by show 1 ≤ sizeLine; decide, fun p8 H8 hp8 e8 => ?_⟩
        refine catL (eqf e8 hp8 t7) (eqs e8) (by rw [List.length_map, sz]; simp; omega) fun p9 H9 hp9 e9 => ?_
        refine ⟨p7, p9, known ++ [s1], told ++ [s1], _, _, rfl, eqf e9 hp9 (eqf e8 hp8 k7), ?_, by simp; omega, by simp; omega, ?_, (x27.trans (exn e8 hp8)).trans (exn e9 hp9)⟩
        · have := eqs e9
          unfold StrsAt
          rw [this, List.map_append]
          rfl
        · rw [hnm, htl, hT] at hf
          exact hf
      | false =>
        refine iteF ?_
        refine ⟨by decide, fun p8 H8 hp8 e8 => ?_⟩
        refine catL (eqf e8 hp8 t7) (eqs e8) (by rw [List.length_map, sz]; simp; omega) fun p9 H9 hp9 e9 => ?_
        refine ⟨p7, p9, known ++ [s1], told ++ [], _, _, rfl, eqf e9 hp9 (eqf e8 hp8 k7), ?_, by simp; omega, by simp; omega, ?_, (x27.trans (exn e8 hp8)).trans (exn e9 hp9)⟩
        · have := eqs e9
          unfold StrsAt
          rw [this, List.map_append]
          rfl
        · rw [hnm, htl, hT] at hf
          exact hf
  · rintro σ' H3 ⟨kd, td, known, told, u, w, rfl, hk, ht, lk, lt, hf, x3⟩
    rw [hxl, List.drop_length, faultL] at hf
    refine q _ H3 (x2.trans x3) ?_
    rw [hf]
    exact .non

end Tw
end

section
set_option Elab.async false
set_option linter.all false
set_option maxRecDepth 100000
set_option maxHeartbeats 4000000
namespace Tw
open PySem L2 PyProof.Rows
noncomputable def t_l_each_once_b1 (K : PySem.W.Frag) : TS := tIfS (tB (tNotInU K (tVar 2) (tVar 1))) (tDrop (tBM K "list" (rAppendU) (tVar 1) (tCons (tVar 2) (tNil)))) (tNext)
noncomputable def t_l_each_once_t2 (K : PySem.W.Frag) : TS := tRet (tVar 1)
noncomputable def t_l_each_once_t1 (K : PySem.W.Frag) : TS := tSeq (tForU (iSeqU K (tVar 0)) (gName 2) (t_l_each_once_b1 K)) (t_l_each_once_t2 K)
noncomputable def t_l_each_once (K : PySem.W.Frag) : TS := tSeq (tAsg (tLstU (tNil)) (gName 1)) (t_l_each_once_t1 K)
noncomputable def t_l_a_name_b2 (K : PySem.W.Frag) : TS := tAsg (tOp (rAddU K) (tVar 4) (tC (.int 1))) (gName 4)
noncomputable def t_l_a_name_t3 (K : PySem.W.Frag) : TS := tRet (tCall spPick [] E0 (tCons (tVar 0) (tCons (tOp (rAddU K) (tVar 3) (tLstU (tCons (tOp (rAddU K) (tC (.str "n")) (tCB (rStr1) (tCons (tVar 4) (tNil)))) (tNil)))) (tNil))))
noncomputable def t_l_a_name_t2 (K : PySem.W.Frag) : TS := tSeq (tWhile (tB (tInU K (tOp (rAddU K) (tC (.str "n")) (tCB (rStr1) (tCons (tVar 4) (tNil)))) (tVar 1))) (t_l_a_name_b2 K)) (t_l_a_name_t3 K)
noncomputable def t_l_a_name_t1 (K : PySem.W.Frag) : TS := tSeq (tPar 3 4 (tCons (tLcU (iSeqU K (tVar 2)) (gName 5) (tB (tNotInU K (tVar 5) (tVar 1))) (tVar 5) [5]) (tCons (tCB (rLenU K) (tCons (tVar 1) (tNil))) (tNil)))) (t_l_a_name_t2 K)
noncomputable def t_l_a_name (K : PySem.W.Frag) : TS := tSeq (tAsg (tLt (.lst [.str "a", .str "b", .str "x", .str "y1", .str "zed", .str "k9", .str "eightsgn", .str "eightsg", .str "q", .str "m", .str "u2", .str "reads", .str "tella", .str "rea", .str "t"])) (gName 2)) (t_l_a_name_t1 K)
noncomputable def t_l_a_expr_t3 (K : PySem.W.Frag) (m : Nat) : TS := tRet (tCB (rTupOf K) (tCons (tOp (rAddU K) (tLstU (tCons (tCall spPick [] E0 (tCons (tVar 0) (tCons (tVar 2) (tNil)))) (tNil))) (tLcU (iRng1 (tCons (tVar 5) (tNil))) (gName 6) (tYes) (tCall (spAExpr m) [] E0 (tCons (tVar 0) (tCons (tVar 1) (tCons (tVar 2) (tCons (tCB (rMax2) (tCons (tC (.int 0)) (tCons (tOp (rI0 fun i j => .int (i - j)) (tVar 3) (tC (.int 1))) (tNil)))) (tNil)))))) [6])) (tNil)))
noncomputable def t_l_a_expr_t2 (K : PySem.W.Frag) (m : Nat) : TS := tSeq (tAsg (tIf (tAnd (tTest (tOp (rEqU K) (tVar 1) (tLt (.lst [])))) (tTest (tOp (rEqU K) (tVar 3) (tC (.int 0))))) (tC (.int 0)) (tCall spPick [] E0 (tCons (tVar 0) (tCons (tLt (.lst [.int 0, .int 1, .int 1, .int 2, .int 2, .int 2, .int 3])) (tNil))))) (gName 5)) (t_l_a_expr_t3 K m)
noncomputable def t_l_a_expr_t1 (K : PySem.W.Frag) (m : Nat) : TS := tSeq (tIfS (tAnd (tTest (tOp (rNeU K) (tVar 1) (tLt (.lst [])))) (tOr (tTest (tOp (rEqU K) (tVar 3) (tC (.int 0)))) (tTest (tOp (rEqU K) (tVar 4) (tC (.int 0)))))) (tRet (tCall spPick [] E0 (tCons (tVar 0) (tCons (tVar 1) (tNil))))) (tNext)) (t_l_a_expr_t2 K m)
noncomputable def t_l_a_expr (K : PySem.W.Frag) (m : Nat) : TS := tSeq (tAsg (tCall spDraw [] E0 (tCons (tVar 0) (tCons (tC (.int 4)) (tNil)))) (gName 4)) (t_l_a_expr_t1 K m)
noncomputable def t_l_a_lines_b2 (K : PySem.W.Frag) : TS := tSeq (tDrop (tBM K "list" (rAppendU) (tVar 4) (tCons (tTupU (tCons (tC (.str "read")) (tCons (tCall spAName [] E0 (tCons (tVar 0) (tCons (tVar 5) (tNil)))) (tNil)))) (tNil))))
      (tDrop (tBM K "list" (rAppendU) (tVar 5) (tCons (tOp (rIxU K) (tOp (rIxU K) (tVar 4) (tUn (rU fun i => .int (-i)) (tC (.int 1)))) (tC (.int 1))) (tNil))))
noncomputable def t_l_a_lines_b3 (K : PySem.W.Frag) : TS := tSeq (tPar 8 9 (tCons (tCall spDraw [] E0 (tCons (tVar 0) (tCons (tC (.int 12)) (tNil)))) (tCons (tLcU (iSeqU K (tVar 5)) (gName 10) (tB (tNotInU K (tVar 10) (tVar 6))) (tVar 10) [10]) (tNil))))
      (tSeq (tIfS (tTest (tOp (rEqU K) (tVar 8) (tC (.int 0)))) (tDrop (tBM K "list" (rAppendU) (tVar 4) (tCons (tTupU (tCons (tC (.str "read")) (tCons (tCall spAName [] E0 (tCons (tVar 0) (tCons (tVar 5) (tNil)))) (tNil)))) (tNil)))) (tIfS (tAnd (tTest (tOp (rEqU K) (tVar 8) (tC (.int 1)))) (tTest (tOp (rNeU K) (tVar 9) (tLstU (tNil))))) (tSeq (tDrop (tBM K "list" (rAppendU) (tVar 4) (tCons (tTupU (tCons (tC (.str "tell")) (tCons (tCall spPick [] E0 (tCons (tVar 0) (tCons (tVar 9) (tNil)))) (tNil)))) (tNil))))
      (tDrop (tBM K "list" (rAppendU) (tVar 6) (tCons (tOp (rIxU K) (tOp (rIxU K) (tVar 4) (tUn (rU fun i => .int (-i)) (tC (.int 1)))) (tC (.int 1))) (tNil))))) (tSeq (tAsg (tIf (tAnd (tTest (tOp (rNeU K) (tVar 5) (tLstU (tNil)))) (tTest (tOp (rI0 fun i j => .bl (decide (i < j))) (tVar 8) (tC (.int 5))))) (tCall spPick [] E0 (tCons (tVar 0) (tCons (tVar 5) (tNil)))) (tCall spAName [] E0 (tCons (tVar 0) (tCons (tVar 5) (tNil))))) (gName 10))
      (tDrop (tBM K "list" (rAppendU) (tVar 4) (tCons (tTupU (tCons (tC (.str "give")) (tCons (tVar 10) (tCons (tCall (spAExpr 5) [] E0 (tCons (tVar 0) (tCons (tVar 5) (tCons (tVar 3) (tCons (tVar 2) (tNil)))))) (tNil))))) (tNil)))))))
      (tAsg (tCall spOnce [] E0 (tCons (tOp (rAddU K) (tVar 5) (tLstU (tCons (tOp (rIxU K) (tOp (rIxU K) (tVar 4) (tUn (rU fun i => .int (-i)) (tC (.int 1)))) (tC (.int 1))) (tNil)))) (tNil))) (gName 5)))
noncomputable def t_l_a_lines_t5 (K : PySem.W.Frag) : TS := tRet (tOp (rAddU K) (tVar 4) (tLcU (iSeqU K (tSl (rSlU K) (tVar 9) (tNoPart) (tPart (tCall spPick [] E0 (tCons (tVar 0) (tCons (tLt (.lst [.int 0, .int 1, .int 1, .int 1, .int 2, .int 2, .int 3])) (tNil))))))) (gName 10) (tYes) (tLt (.tup [.str "tell", .var 10])) [10]))
noncomputable def t_l_a_lines_t4 (K : PySem.W.Frag) : TS := tSeq (tAsg (tCall spMixed [] E0 (tCons (tVar 0) (tCons (tLcU (iSeqU K (tVar 5)) (gName 10) (tB (tNotInU K (tVar 10) (tVar 6))) (tVar 10) [10]) (tNil)))) (gName 9)) (t_l_a_lines_t5 K)
noncomputable def t_l_a_lines_t3 (K : PySem.W.Frag) : TS := tSeq (tForU (iRng1 (tCons (tVar 1) (tNil))) (gName 7) (t_l_a_lines_b3 K)) (t_l_a_lines_t4 K)
noncomputable def t_l_a_lines_t2 (K : PySem.W.Frag) : TS := tSeq (tForU (iRng1 (tCons (tCall spDraw [] E0 (tCons (tVar 0) (tCons (tC (.int 4)) (tNil)))) (tNil))) (gName 7) (t_l_a_lines_b2 K)) (t_l_a_lines_t3 K)
noncomputable def t_l_a_lines_t1 (K : PySem.W.Frag) : TS := tSeq (tAsg (tTupU (tCons (tLstU (tNil)) (tCons (tLstU (tNil)) (tCons (tLstU (tNil)) (tNil))))) (gTup K 3 (gCons (gName 4) (gCons (gName 5) (gCons (gName 6) (gNil)))))) (t_l_a_lines_t2 K)
noncomputable def t_l_a_lines (K : PySem.W.Frag) : TS := tSeq (tAsg (tSl (rSlU K) (tCall spMixed [] E0 (tCons (tVar 0) (tCons (tLt (.lst [.str "f", .str "g", .str "h", .str "mul", .str "a", .str "k"])) (tNil)))) (tNoPart) (tPart (tOp (rAddU K) (tC (.int 1)) (tCall spDraw [] E0 (tCons (tVar 0) (tCons (tC (.int 3)) (tNil))))))) (gName 3)) (t_l_a_lines_t1 K)

/-- for k in range(n): what a tForU over it asks -/
theorem forRg {D : Ends} {σ : L2.St} {H : Hp} {tb : TS} {k n : Nat} (Pv : Nat → L2.St → Hp → Prop) (h0 : Pv 0 σ H)
    (hs : ∀ i σ' H', i < n → Pv i σ' H' → tb { D with nx := Pv (i + 1), ct := Pv (i + 1), bk := D.nx } (σ'.set k (some (.int (0 + (i : Nat))))) H') (hd : ∀ σ' H', Pv n σ' H' → D.nx σ' H') :
    ∃ W : Nat → Nat → L2.St → Hp → Prop, (∃ m, W 0 m σ H) ∧ ∀ i m σ H, W i m σ H →
      ((Itr 0 ((n : Int)).toNat).stop i H ∧ D.nx σ H) ∨ ((Itr 0 ((n : Int)).toNat).go i H ∧ ∃ N : L2.St → Hp → Prop, (∀ σ' H', N σ' H' → ∃ m', m' < m ∧ W (i + 1) m' σ' H') ∧ ∀ x H', (Itr 0 ((n : Int)).toNat).yld i H x H' → gName k x σ H' fun σ2 H2 => tb { D with nx := N, ct := N, bk := D.nx } σ2 H2) := by
  have en : ((n : Int)).toNat = n := by omega
  rw [en]
  exact for_range Pv h0 hs hd
/-- [te for k in range(x)], x a name -/
theorem lcRV {i n : Nat} {g : TG} {tt : TT} {te : TE} {vs : List Nat} {σ : L2.St} {H : Hp} {Q : VK} (hv : σ[i]? = some (some (.int (n : Int)))) (hn : n < 2 ^ 62) (Pv : Addr → Nat → Hp → Prop)
    (h0 : ∀ D H', H D = none → H' = upd H D (.lst []) → Pv D 0 H')
    (hs : ∀ D i H', H D = none → i < n → Pv D i H' → g (.int (0 + (i : Nat))) (wipe σ vs) H' fun σ2 H2 => wipe σ2 vs = wipe σ vs ∧ tt σ2 H2 fun b H3 =>
      if b = true then te σ2 H3 fun y H4 => ∃ acc, H4 D = some (.lst acc) ∧ acc.length < sizeLine ∧ Pv D (i + 1) (upd H4 D (.lst (acc ++ [y]))) else Pv D (i + 1) H3)
    (hd : ∀ D H', H D = none → Pv D n H' → Q (.ref D) H') : tLcU (iRng1 (tCons (tVar i) tNil)) g tt te vs σ H Q := by
  unfold tLcU
  refine ⟨_, hv, (n : Int), rfl, by omega, by omega, ?_⟩
  have en : ((n : Int)).toNat = n := by omega
  rw [en]
  exact lcR Pv h0 hs hd
/-- a list at a known place -/
def iAt (K : PySem.W.Frag) (a : Addr) : TI := fun _ H R => R (Itl K a) H
theorem iter_at {K : PySem.W.Frag} {M : List Addr} {σ : L2.St} {H : Hp} {a : Addr} {xs : List V} (ha : H a = some (.lst xs)) (hM : a ∉ M) : IterS M (iAt K a) σ H xs := fun R h => h _ a _ H wkL ha hM ExF.refl
/-- what a comprehension over it asks -/
theorem lcAt {K : PySem.W.Frag} {a D : Addr} {g : TG} {tt : TT} {te : TE} {vs : List Nat} {σ : L2.St} {H : Hp} {Qd : Hp → Prop} (hD : H D = none) (h : tLcU (iAt K a) g tt te vs σ H fun v H' => v = .ref D → Qd H') :
    ∃ W : Nat → Nat → Hp → Prop, (∃ m, W 0 m (upd H D (.lst []))) ∧ ∀ i m H, W i m H →
      ((Itl K a).stop i H ∧ Qd H) ∨ ((Itl K a).go i H ∧ ∃ Nx : Hp → Prop, (∀ H', Nx H' → ∃ m', m' < m ∧ W (i + 1) m' H') ∧ ∀ x H', (Itl K a).yld i H x H' → g x (wipe σ vs) H' fun σ2 H2 => wipe σ2 vs = wipe σ vs ∧ tt σ2 H2 fun b H3 =>
        if b = true then te σ2 H3 fun y H4 => ∃ acc, H4 D = some (.lst acc) ∧ acc.length < sizeLine ∧ Nx (upd H4 D (.lst (acc ++ [y]))) else Nx H3) := by
  unfold tLcU tLc iAt at h
  obtain ⟨W, h0, hs⟩ := h D hD
  exact ⟨W, h0, fun i m H w => (hs i m H w).imp (fun ⟨a, b⟩ => ⟨a, b rfl⟩) id⟩
theorem ne_strs {H : Hp} {a p : Addr} {zs : List Str} (h : StrsAt H a zs) (hp : H p = none) : a ≠ p := ne_of_none h hp
theorem StrsAt.ex {H H' : Hp} {F : List Addr} {a : Addr} {zs : List Str} (h : StrsAt H a zs) (x : ExF F H H') (n : a ∉ F) : StrsAt H' a zs := x.at_ _ _ n h
theorem rd_l_each_once (K : PySem.W.Frag) {vs : List V} {H : Hp} {Q : VK} {E : XK} (h : spOnce vs H Q E) :
    t_l_each_once K { nx := fun _ H' => Q .non H', rt := Q } (start ["_law_things", "_law_found", "_law_thing"] vs) H := by
  obtain ⟨l, zs, rfl, hl, hn, q⟩ := h
  have sz : sizeLine = 16777216 := sizeLine_eq
  refine ⟨by decide, fun p H1 hp e1 => ?_⟩
  have nlp : l ≠ p := ne_strs hl hp
  refine forS (xs := zs.map V.str) (M := [p]) (iter_var (a := l) rfl (.inl (eqf e1 hp hl)) (by simpa using nlp))
    (fun H2 i σ H' => ∃ (acc : List Str) (u : Option V), σ = [some (.ref l), some (.ref p), u] ∧ StrsAt H' p acc ∧ onceL [] zs = onceL acc (zs.drop i) ∧ acc.length ≤ i ∧ ExF [p] H2 H') ?_ (fun H2 i σ' H' ⟨_, _, _, _, _, _, x⟩ => x) ?_ ?_
  · intro H2 x2
    exact ⟨[], none, rfl, x2.at_ _ _ (by simp) (eqs e1), rfl, Nat.le_refl _, ExF.refl⟩
  · rintro H2 i x σ' H3 x2 hx ⟨acc, u, rfl, ha, ho, hlen, x3⟩
    rw [List.getElem?_map] at hx
    cases hz : zs[i]? with
    | none => rw [hz] at hx; cases hx
    | some z =>
      rw [hz] at hx
      cases hx
      have hi := (List.getElem?_eq_some_iff.mp hz).1
      have hdrop : zs.drop i = z :: zs.drop (i + 1) := by
        rw [List.drop_eq_getElem_cons hi]
        congr 1
        exact (List.getElem?_eq_some_iff.mp hz).2
      rw [hdrop, onceL] at ho
      refine .inl ⟨_, rfl, _, rfl, notInStrs ha ⟨_, rfl, ?_⟩⟩
      by_cases hm : z ∈ acc
      · rw [if_pos hm] at ho
        rw [decide_eq_true hm]
        refine iteF ?_
        exact ⟨acc, _, rfl, ha, ho, by omega, x3⟩
      · rw [if_neg hm] at ho
        rw [decide_eq_false hm]
        refine iteT ?_
        refine ⟨_, rfl, tyL ha, _, rfl, ?_⟩
        refine app ha (by rw [List.length_map, sz]; omega) fun H4 e4 => ?_
        refine ⟨acc ++ [z], _, rfl, ?_, ho, by simp; omega, exm e4 (.inr (by simp)) x3⟩
        have := eqs e4
        unfold StrsAt
        rw [this, List.map_append]
        rfl
  · rintro H2 σ' H3 x2 ⟨acc, u, rfl, ha, ho, hlen, x3⟩
    rw [List.length_map, List.drop_length, onceL] at ho
    refine ⟨_, rfl, q p H3 hp (by rw [ho]; exact ha) ?_⟩
    exact ((exn (F := [p]) e1 hp).trans (x2.of.trans x3)).drop hp
abbrev someN : List Str := ["a", "b", "x", "y1", "zed", "k9", "eightsgn", "eightsg", "q", "m", "u2", "reads", "tella", "rea", "t"]
theorem someN_ok : ∀ s ∈ someN, nmOk s = true := by decide +kernel
theorem num_len : ∀ k, k < 64 → (Str.ofString (toString ((k : Nat) : Int))).length ≤ 10 := by decide +kernel
theorem log2_small {n : Nat} (h : n < 1000) : ((n : Int)).natAbs.log2 < 1920 := by
  have := Nat.log2_le_self ((n : Int)).natAbs
  omega
theorem rd_l_a_name (K : PySem.W.Frag) {vs : List V} {H : Hp} {Q : VK} {E : XK} (h : spAName vs H Q E) :
    t_l_a_name K { nx := fun _ H' => Q .non H', rt := Q } (start ["_law_stream", "_law_taken", "_law_some", "_law_left", "_law_number", "_law_name"] vs) H := by
  obtain ⟨st, cl, c, l, taken, rfl, S, hc, hl, n1, n2, hn, q⟩ := h
  have sz : sizeLine = 16777216 := sizeLine_eq
  refine lit0 [] rfl Trk.nil fun v H1 x1 r1 => ?_
  have r1 : Rp [] H1 v (.list (someN.map PyData.str)) := r1
  obtain ⟨a, xs, rfl, _, ha, rx⟩ := r1.list_inv
  have rx := rx.all_str
  subst rx
  refine lcFil (zs := someN) (fun z => !decide (z ∈ taken)) (iter_var (a := a) rfl (.inl ha) (by simp)) (by rw [sz]; decide) (by show 5 < 6; decide) rfl ?_ ?_
  · intro D z H2 hz x2 Qc k
    exact .inl ⟨_, rfl, _, rfl, notInStrs ((x1.trans x2).at_ _ _ (by simp) hl) ⟨_, rfl, k H2 ExF.refl⟩⟩
  intro lf H2 hlf hf x2
  have x02 := x1.trans x2
  have hl2 : StrsAt H2 l taken := x02.at_ _ _ (by simp) hl
  refine ⟨_, rfl, lenL hl2 ⟨_, _, rfl, ?_⟩⟩
  rw [List.length_map]
  refine ⟨fun m σ H' => ∃ (j : Nat) (u : Option V), m = taken.length - j ∧ j ≤ taken.length ∧ σ = [some (.ref st), some (.ref l), some (.ref a), some (.ref lf), some (.int ((taken.length + j : Nat) : Int)), u] ∧ (∀ i, i < j → nN (taken.length + i) ∈ taken) ∧ ExF [] H2 H',
    ⟨_, 0, none, rfl, Nat.zero_le _, rfl, by omega, ExF.refl⟩, ?_⟩
  rintro m σ H3 ⟨j, u, rfl, hj, rfl, hin, x3⟩
  have hl3 : StrsAt H3 l taken := x3.at_ _ _ (by simp) hl2
  have h64 : taken.length + j < 64 := by omega
  refine .inl ⟨_, rfl, str1 (log2_small (by omega)) ?_⟩
  refine addS (by rw [sz]; have := num_len _ h64; have : ("n" : Str).length = 1 := by decide
                  omega) ⟨_, rfl, inStrs hl3 ⟨_, rfl, ?_⟩⟩
  by_cases hm : nN (taken.length + j) ∈ taken
  · refine ite2 (fun _ => ⟨_, fun _ _ h => h, ?_⟩) (fun h => absurd (decide_eq_true hm) h)
    have hj1 : j + 1 ≤ taken.length := pigeon (l := taken.length) (j := j + 1) (by omega) fun i hi => by
      rcases Nat.lt_or_ge i j with h | h
      · exact hin i h
      · have : i = j := by omega
        rw [this]; exact hm
    refine ⟨_, rfl, addI ?_⟩
    refine ⟨_, (by omega : taken.length - (j + 1) < taken.length - j), j + 1, u, rfl, hj1, rfl, fun i hi => ?_, x3⟩
    rcases Nat.lt_or_ge i j with h | h
    · exact hin i h
    · have : i = j := by omega
      rw [this]; exact hm
  · refine ite2 (fun h => absurd (of_decide_eq_true h) hm) (fun _ => ?_)
    have hf3 := x3.at_ _ _ (by simp) hf
    refine ⟨_, rfl, _, rfl, ⟨_, rfl, str1 (log2_small (by omega)) ?_⟩⟩
    refine addS (by rw [sz]; have := num_len _ h64; have : ("n" : Str).length = 1 := by decide
                    omega) ?_
    refine ⟨by show 1 ≤ sizeLine; decide, fun p4 H4 hp4 e4 => ?_⟩
    have hfl : (someN.filter fun z => !decide (z ∈ taken)).length ≤ 15 := Nat.le_trans (List.length_filter_le _ _) (by decide)
    refine catL (eqf e4 hp4 hf3) (eqs e4) (by rw [List.length_map, sz]; simp only [List.length_cons, List.length_nil]; omega) fun p5 H5 hp5 e5 => ?_
    have x05 : ExF [] H H5 := (x02.trans x3).trans ((exn e4 hp4).trans (exn e5 hp5))
    have S5 : Strm st cl H5 c := S.ex' (by simp) (by simp) x05
    have tr := S.trk.ex ((x02.trans x3).trans (exn (F := []) e4 hp4))
    have np : p5 ∉ [st, cl] := tr.nin hp5
    refine ⟨st, cl, c, p5, _, rfl, S5, hc, .inl (eqs e5), fun e => np (by simp [e]), fun e => np (by simp [e]), by simp, by simp only [List.length_append, List.length_map, List.length_cons, List.length_nil]; omega, fun k v H6 hk S6 x6 => ?_⟩
    have e : ((someN.filter fun z => !decide (z ∈ taken)).map V.str ++ [V.str (nN (taken.length + j))]) = ((someN.filter fun z => !decide (z ∈ taken)) ++ [nN (taken.length + j)]).map V.str := by rw [List.map_append]; rfl
    have hk := List.mem_of_getElem? hk
    have hk : v ∈ ((someN.filter fun z => !decide (z ∈ taken)) ++ [nN (taken.length + j)]).map V.str := by rw [← e]; exact hk
    obtain ⟨s, hs, rfl⟩ := List.mem_map.mp hk
    rcases List.mem_append.mp hs with hs | hs
    · have hs' := List.mem_filter.mp hs
      exact q s H6 (someN_ok s hs'.1) (by simpa using hs'.2) S6 (x05.of.trans x6)
    · rw [List.mem_singleton.mp hs]
      exact q _ H6 (nN_ok _ h64) hm S6 (x05.of.trans x6)

theorem rd_l_a_expr (K : PySem.W.Frag) (m : Nat) {vs : List V} {H : Hp} {Q : VK} {E : XK} (h : spAExpr (m + 1) vs H Q E) :
    t_l_a_expr K m { nx := fun _ H' => Q .non H', rt := Q } (start ["_law_stream", "_law_known", "_law_ops", "_law_deep", "_law_way", "_law_many", "_law_k"] vs) H := by
  obtain ⟨st, cl, c, kn, on, known, ops, n, G, rfl, hnm, hn4, S, hc, hkn, hon, nk, no, okk, oko, hne, lk, lo, tG, q⟩ := h
  have sz : sizeLine = 16777216 := sizeLine_eq
  have hE : 3 ≤ eCost n := by cases n <;> simp [eCost]
  have hp30 : (2 : Nat) ^ 30 = 1073741824 := by decide
  -- a name that is known
  have pick : ∀ (kx : Int) (u5 u6 : Option V) (H2 : Hp), known ≠ [] → Strm st cl H2 (c + 1) → ExF [st, cl] H H2 → tRet (tCall spPick [] E0 (tCons (tVar 0) (tCons (tVar 1) (tNil)))) { nx := fun σ H' => t_l_a_expr_t2 K m { nx := fun _ H' => Q .non H', rt := Q } σ H', rt := Q } [some (.ref st), some (.ref kn), some (.ref on), some (.int (n : Int)), some (.int kx), u5, u6] H2 := by
    intro kx u5 u6 H2 hk S2 x2
    refine ⟨_, rfl, _, rfl, st, cl, c + 1, kn, known.map V.str, rfl, S2, by omega, .inl (hkn.ex x2 nk), fun e => nk (by simp [e]), fun e => nk (by simp [e]), ?_, by rw [List.length_map, hp30]; omega, fun k v H3 hv S3 x3 => ?_⟩
    · rw [List.length_map]; exact List.length_pos_iff.mpr hk
    · obtain ⟨s, hs, rfl⟩ := List.mem_map.mp (List.mem_of_getElem? hv)
      exact q _ (.str s) _ H3 (by omega) (by omega) S3 (x2.trans x3) (.str s) (by rw [exprD]; exact decide_eq_true hs) (by rw [tupD]) (by rw [ok_str]; exact (nmOk_iff.mp (okk s hs)).2) (by rw [txt]) (by rw [size]; omega)
  -- a tuple
  have mk : ∀ (many : Nat) (kx : Int) (u6 : Option V) (c1 : Nat) (H2 : Hp), many ≤ 3 → (many = 0 ∨ 0 < n) → c + 1 ≤ c1 → c1 ≤ c + 2 → Strm st cl H2 c1 → ExF [st, cl] H H2 →
      t_l_a_expr_t3 K m { nx := fun _ H' => Q .non H', rt := Q } [some (.ref st), some (.ref kn), some (.ref on), some (.int (n : Int)), some (.int kx), some (.int (many : Int)), u6] H2 := by
    intro many kx u6 c1 H2 hm hmn g1 g2 S2 x2
    have hEn : c1 + 1 + many * eCost (n - 1) ≤ c + eCost n := by
      rcases hmn with e | e
      · subst e; omega
      · obtain ⟨n', rfl⟩ : ∃ n', n = n' + 1 := ⟨n - 1, by omega⟩
        rw [eCost, Nat.add_sub_cancel]
        have : many * eCost n' ≤ 3 * eCost n' := Nat.mul_le_mul_right _ hm
        omega
    refine ⟨_, rfl, _, rfl, st, cl, c1, on, ops.map V.str, rfl, S2, by omega, .inl (hon.ex x2 no), fun e => no (by simp [e]), fun e => no (by simp [e]), ?_, by rw [List.length_map, hp30]; omega, fun k v H3 hv S3 x3 => ?_⟩
    · rw [List.length_map]; exact List.length_pos_iff.mpr hne
    obtain ⟨s, hs, rfl⟩ := List.mem_map.mp (List.mem_of_getElem? hv)
    refine ⟨by show 1 ≤ sizeLine; decide, fun p4 H4 hp4 e4 => ?_⟩
    have x04 : ExF [st, cl] H H4 := (x2.trans x3).trans (exn e4 hp4)
    have S4 : Strm st cl H4 (c1 + 1) := S3.ex' (F := []) (by simp) (by simp) (exn e4 hp4)
    have t4 : Trk (p4 :: st :: cl :: G) H4 := by
      intro a ha
      rcases List.mem_cons.mp ha with z | z
      · rw [z, eqs e4]; exact fun z => nomatch z
      · rcases List.mem_cons.mp z with z | z
        · rw [z]; exact S4.trk st (by simp)
        · rcases List.mem_cons.mp z with z | z
          · rw [z]; exact S4.trk cl (by simp)
          · exact x04.kept a (tG a z)
    refine lcRV (n := many) rfl (by omega) (fun D i H' => ∃ (acc : List V) (ds : List PyData) (c' : Nat), acc.length = i ∧ H' D = some (.lst acc) ∧ RpL (D :: p4 :: st :: cl :: G) H' acc ds ∧ c1 + 1 ≤ c' ∧ c' ≤ c1 + 1 + i * eCost (n - 1) ∧ Strm st cl H' c' ∧ (∀ d ∈ ds, exprD known d = true ∧ tupD d = d ∧ ok n d = true ∧ txt d = true) ∧ sizes ds ≤ i * eCost (n - 1) ∧ ExF [D, st, cl] H4 H') ?_ ?_ ?_
    · intro D H5 hD e5
      exact ⟨[], [], c1 + 1, rfl, eqs e5, .nil, Nat.le_refl _, by omega, S4.ex' (F := []) (by simp) (by simp) (exn e5 hD), by simp, by simp [sizes], exn e5 hD⟩
    · rintro D i H5 hD hi ⟨acc, ds, c', ha, hH, rx, l1, l2, S5, hds, hsz, x5⟩
      have n0 : 0 < n := by omega
      refine ⟨rfl, ?_⟩
      unfold tYes
      dsimp only
      rw [if_pos rfl]
      refine ⟨_, rfl, _, rfl, _, rfl, _, rfl, _, _, rfl, rfl, max2 ?_⟩
      have e : (if (n : Int) - 1 > 0 then (n : Int) - 1 else 0) = ((n - 1 : Nat) : Int) := by split <;> omega
      have hb : c' + eCost (n - 1) < 2 ^ 48 := by
        have : i * eCost (n - 1) + eCost (n - 1) ≤ many * eCost (n - 1) := by
          rw [← Nat.succ_mul]
          exact Nat.mul_le_mul_right _ hi
        omega
      have xk : ExF [D, st, cl] H H5 := by
        have := x04.add (p := D)
        exact this.trans x5
      have nD : ∀ {a : Addr} {o : HO}, H a = some o → a ∉ [st, cl] → a ∉ [D, st, cl] := fun h1 h2 z => by
        rcases List.mem_cons.mp z with z | z
        · subst z; rw [x04.free hD] at h1; cases h1
        · exact h2 z
      have nDs : D ≠ st := fun z => t4 st (by simp) (by rw [← z]; exact hD)
      have nDc : D ≠ cl := fun z => t4 cl (by simp) (by rw [← z]; exact hD)
      refine ⟨st, cl, c', kn, on, known, ops, n - 1, D :: p4 :: st :: cl :: G, by rw [e]; rfl, by omega, by omega, S5, hb, hkn.ex xk (nD hkn nk), hon.ex xk (nD hon no), nk, no, okk, oko, hne, lk, lo, ?_, fun v d c'' H6 l3 l4 S6 x6 rv he ht ho htx hsd => ?_⟩
      · intro a ha
        rcases List.mem_cons.mp ha with z | z
        · rw [z, hH]; exact fun z => nomatch z
        · exact x5.kept a (t4 a z)
      · have h6 : H6 D = some (.lst acc) := x6.at_ _ _ (by simp [nDs, nDc]) hH
        refine ⟨acc, h6, by omega, ?_⟩
        generalize e7 : upd H6 D (.lst (acc ++ [v])) = H7
        have e7 := e7.symm
        have x67 : ExF (D :: p4 :: st :: cl :: G) H6 H7 := exm e7 (.inr (by simp)) ExF.refl
        refine ⟨acc ++ [v], ds ++ [d], c'', by simp [ha], eqs e7, ((rx.ex (x6.sub (by intro a z; simp at z; rcases z with z | z <;> simp [z]))).ex x67).snoc (rv.ex x67), by omega, ?_, S6.ex' (F := [D]) (by simp [Ne.symm nDs]) (by simp [Ne.symm nDc]) (exm e7 (.inr (by simp)) ExF.refl), ?_, ?_, ?_⟩
        · rw [Nat.succ_mul]; omega
        · intro z hz
          rcases List.mem_append.mp hz with hz | hz
          · exact hds z hz
          · rw [List.mem_singleton.mp hz]
            have e8 : n - 1 + 1 = n := by omega
            rw [e8] at ho
            exact ⟨he, ht, ho, htx⟩
        · rw [sizes_append, sizes, sizes, Nat.succ_mul]; omega
        · exact exm e7 (.inr (by simp)) (x5.trans (x6.sub (by simp)))
    · rintro D H5 hD ⟨acc, ds, c', ha, hH, rx, l1, l2, S5, hds, hsz, x5⟩
      have x45 : ExF [st, cl] H4 H5 := x5.drop hD
      have n4 : p4 ∉ [st, cl] := (S3.trk).nin hp4
      have h4 := x45.at_ _ _ n4 (eqs e4)
      refine catL h4 hH (by rw [sz]; simp only [List.length_cons, List.length_nil]; omega) fun p6 H6 hp6 e6 => ?_
      refine tupOfL (eqs e6) fun p7 H7 hp7 e7 => ?_
      have x57 : ExF [] H5 H7 := (exn e6 hp6).trans (exn e7 hp7)
      have t5 : Trk (p4 :: st :: cl :: G) H5 := t4.ex x5
      refine q (.ref p7) (.tuple (.str s :: ds)) c' H7 (by omega) (by omega) (S5.ex' (by simp) (by simp) x57) ((x04.trans x45).trans x57.of) ?_ ?_ ?_ ?_ ?_ ?_
      · have nG : p7 ∉ G := fun z => (t5.ex (exn (F := []) e6 hp6)) p7 (by simp [z]) hp7
        have rr : RpL G H7 acc ds := (rx.ex x57.of).sub (by intro a z; simp [z])
        exact .tuple nG (eqs e7) (.cons (.str s) rr)
      · rw [exprD, exprL, exprs_all]
        have h1 : nameD (.str s) = true := (nmOk_iff.mp (oko s hs)).1
        rw [h1, Bool.true_and, List.all_eq_true]
        exact fun d hd => (hds d hd).1
      · rw [tupD, tups, tupD, tups_map]
        congr 2
        exact (List.map_congr_left fun d hd => (hds d hd).2.1).trans (List.map_id _)
      · rw [ok_tuple, oks_cons, ok_str]
        have hl : ds.length = acc.length := rx.1.symm
        exact ⟨⟨(nmOk_iff.mp (oko s hs)).2, oks_iff.mpr fun d hd => (hds d hd).2.2.1⟩, by rw [List.length_cons]; omega⟩
      · rw [txt, txts, txt, Bool.true_and]
        exact txts_iff.mpr fun d hd => (hds d hd).2.2.2
      · rw [size, sizes, size]
        rcases hmn with e | e
        · subst e; omega
        · obtain ⟨n', rfl⟩ : ∃ n', n = n' + 1 := ⟨n - 1, by omega⟩
          rw [Nat.add_sub_cancel] at hsz
          rw [eCost]
          have : many * eCost n' ≤ 3 * eCost n' := Nat.mul_le_mul_right _ hm
          omega
  refine ⟨_, rfl, st, cl, c, 4, rfl, S, by omega, by decide, by decide, fun k H1 g0 g1 S1 x1 => ?_⟩
  refine ⟨_, rfl, lit0 [] rfl Trk.nil fun v H2 x2 r2 => ?_⟩
  have r2 : Rp [] H2 v (.list []) := r2
  obtain ⟨a2, ys2, rfl, _, ha2, ry2⟩ := r2.list_inv
  rw [ry2.nil_inv] at ha2
  have x02 : ExF [st, cl] H H2 := x1.trans x2.of
  have S2 : Strm st cl H2 (c + 1) := S1.ex' (by simp) (by simp) x2
  refine neE (hkn.ex x02 nk) ha2 ⟨_, rfl, ?_⟩
  -- what stands behind the if
  have rest : ∀ H2, Strm st cl H2 (c + 1) → ExF [st, cl] H H2 → (known = [] ∨ 0 < n) → t_l_a_expr_t2 K m { nx := fun _ H' => Q .non H', rt := Q } [some (.ref st), some (.ref kn), some (.ref on), some (.int (n : Int)), some (.int k), none, none] H2 := by
    intro H2 S2 x2 hkn0
    refine ⟨_, rfl, lit0 [] rfl Trk.nil fun v H3 x3 r3 => ?_⟩
    have r3 : Rp [] H3 v (.list []) := r3
    obtain ⟨a3, ys3, rfl, _, ha3, ry3⟩ := r3.list_inv
    rw [ry3.nil_inv] at ha3
    have x03 : ExF [st, cl] H H3 := x2.trans x3.of
    have S3 : Strm st cl H3 (c + 1) := S2.ex' (by simp) (by simp) x3
    have pk : 0 < n → tCall spPick [] E0 (tCons (tVar 0) (tCons (tLt (.lst [.int 0, .int 1, .int 1, .int 2, .int 2, .int 2, .int 3])) (tNil))) [some (.ref st), some (.ref kn), some (.ref on), some (.int (n : Int)), some (.int k), none, none] H3 fun x H1 => gName 5 x [some (.ref st), some (.ref kn), some (.ref on), some (.int (n : Int)), some (.int k), none, none] H1 fun σ H' => t_l_a_expr_t3 K m { nx := fun _ H' => Q .non H', rt := Q } σ H' := by
      intro n0
      refine ⟨_, rfl, lit0 [st, cl] rfl S3.trk fun v H4 x4 r4 => ?_⟩
      have r4 : Rp [st, cl] H4 v (.list ([0, 1, 1, 2, 2, 2, 3].map PyData.int)) := r4
      obtain ⟨a4, ys4, rfl, n4, ha4, ry4⟩ := r4.list_inv
      have ry4 := ry4.all_int
      subst ry4
      refine ⟨st, cl, c + 1, a4, _, rfl, S3.ex' (by simp) (by simp) x4, by omega, .inl ha4, fun e => n4 (by simp [e]), fun e => n4 (by simp [e]), by decide, by decide, fun j v H5 hv S5 x5 => ?_⟩
      obtain ⟨i, hi, rfl⟩ := List.mem_map.mp (List.mem_of_getElem? hv)
      have hi3 : ∃ b : Nat, i = (b : Int) ∧ b ≤ 3 := by
        simp at hi
        rcases hi with h | h | h | h <;> subst h
        · exact ⟨0, rfl, by decide⟩
        · exact ⟨1, rfl, by decide⟩
        · exact ⟨2, rfl, by decide⟩
        · exact ⟨3, rfl, by decide⟩
      obtain ⟨b, rfl, hb⟩ := hi3
      exact mk b k none (c + 2) H5 hb (.inr n0) (by omega) (by omega) S5 ((x03.trans x4.of).trans x5)
    refine eqE (hkn.ex x03 nk) ha3 ⟨_, rfl, ?_⟩
    cases hk : known with
    | nil =>
      refine ite2 (fun _ => ?_) (fun h => absurd rfl h)
      refine ⟨_, rfl, eqI ⟨_, rfl, ?_⟩⟩
      refine ite2 (fun h => ?_) (fun h => ?_)
      · exact mk 0 k none (c + 1) H3 (by omega) (.inl rfl) (by omega) (by omega) S3 x03
      · refine pk ?_
        rcases Nat.eq_zero_or_pos n with e | e
        · subst e; exact absurd (by decide) h
        · exact e
    | cons z zs =>
      refine ite2 (fun h => absurd h (by simp)) (fun _ => ?_)
      refine ite2 (fun h => absurd h (by simp)) (fun _ => ?_)
      refine pk ?_
      rcases hkn0 with e | e
      · rw [e] at hk; cases hk
      · exact e
  cases hk : known with
  | nil =>
    refine ite2 (fun h => absurd h (by simp)) (fun _ => ?_)
    refine ite2 (fun h => absurd h (by simp)) (fun _ => ?_)
    exact rest H2 S2 x02 (.inl hk)
  | cons z zs =>
    have kne : known ≠ [] := by rw [hk]; exact fun z => nomatch z
    refine ite2 (fun _ => ?_) (fun h => absurd rfl h)
    refine ⟨_, rfl, eqI ⟨_, rfl, ?_⟩⟩
    refine ite2 (fun h => ?_) (fun h => ?_)
    · refine iteT ?_
      exact pick k none none H2 kne S2 x02
    · have n0 : 0 < n := by
        rcases Nat.eq_zero_or_pos n with e | e
        · subst e; exact absurd (by decide) h
        · exact e
      refine ⟨_, rfl, eqI ⟨_, rfl, ?_⟩⟩
      refine ite2 (fun h => ?_) (fun h => ?_)
      · exact pick k none none H2 kne S2 x02
      · exact rest H2 S2 x02 (.inr n0)
def unS : V → Str | .str s => s | _ => ""
theorem perm_strs {ys : List V} {zs : List Str} (p : ys.Perm (zs.map V.str)) : ∃ ws : List Str, ws.Perm zs ∧ ys = ws.map V.str := by
  refine ⟨ys.map unS, ?_, ?_⟩
  · have := p.map unS
    rw [List.map_map] at this
    have e : (unS ∘ V.str) = id := rfl
    rw [e, List.map_id] at this
    exact this
  · rw [List.map_map]
    have : ∀ y ∈ ys, (V.str ∘ unS) y = y := fun y hy => by
      obtain ⟨s, _, rfl⟩ := List.mem_map.mp (p.mem_iff.mp hy)
      rfl
    exact ((List.map_congr_left this).trans (List.map_id _)).symm
/-- the lines so far, at L -/
structure LS (st cl L kn td : Addr) (G : List Addr) (H0 H' : Hp) (ds : List PyData) (told : List Str) (c' : Nat) : Prop where
  xs : ∃ xs, H' L = some (.lst xs) ∧ RpL (L :: kn :: td :: st :: cl :: G) H' xs ds
  tl : StrsAt H' td told
  S : Strm st cl H' c'
  x : ExF [L, kn, td, st, cl] H0 H'
structure Dst (st cl L kn td : Addr) : Prop where
  a : L ≠ kn ∧ L ≠ td ∧ L ≠ st ∧ L ≠ cl
  b : kn ≠ td ∧ kn ≠ st ∧ kn ≠ cl
  c : td ≠ st ∧ td ≠ cl
section
variable {st cl L kn td : Addr} {G : List Addr} {H0 H1 H2 : Hp} {ds : List PyData} {told : List Str} {c c' : Nat}
theorem LS.call (d : Dst st cl L kn td) (h : LS st cl L kn td G H0 H1 ds told c) (S : Strm st cl H2 c') (x : ExF [st, cl] H1 H2) : LS st cl L kn td G H0 H2 ds told c' := by
  obtain ⟨xs, h1, r⟩ := h.xs
  have h2 := d.a; have h3 := d.c
  exact ⟨⟨xs, x.at_ _ _ (by simp [h2.2.2.1, h2.2.2.2]) h1, r.ex (x.sub (by intro a z; simp at z; rcases z with z | z <;> simp [z]))⟩, x.at_ _ _ (by simp [h3.1, h3.2]) h.tl, S, h.x.trans (x.sub (by intro a z; simp at z; rcases z with z | z <;> simp [z]))⟩
theorem LS.pure (d : Dst st cl L kn td) (h : LS st cl L kn td G H0 H1 ds told c) (x : ExF [] H1 H2) : LS st cl L kn td G H0 H2 ds told c := h.call d (h.S.ex' (by simp) (by simp) x) x.of
theorem LS.add (d : Dst st cl L kn td) (h : LS st cl L kn td G H0 H1 ds told c) {v : V} {e : PyData} (r : Rp (L :: kn :: td :: st :: cl :: G) H1 v e) {xs : List V} (hx : H1 L = some (.lst xs)) (eq : H2 = upd H1 L (.lst (xs ++ [v]))) : LS st cl L kn td G H0 H2 (ds ++ [e]) told c := by
  obtain ⟨xs', h1, rx⟩ := h.xs
  rw [hx] at h1
  cases h1
  have h2 := d.a
  have x : ExF (L :: kn :: td :: st :: cl :: G) H1 H2 := exm eq (.inr (by simp)) ExF.refl
  have x' : ExF [L] H1 H2 := exm eq (.inr (by simp)) ExF.refl
  exact ⟨⟨_, eqs eq, (rx.snoc r).ex x⟩, eqn eq h2.2.1.symm h.tl, h.S.ex' (by simp [h2.2.2.1.symm]) (by simp [h2.2.2.2.symm]) x', exm eq (.inr (by simp)) h.x⟩
theorem LS.tells (d : Dst st cl L kn td) (h : LS st cl L kn td G H0 H1 ds told c) {s : Str} (eq : H2 = upd H1 td (.lst (told.map V.str ++ [V.str s]))) : LS st cl L kn td G H0 H2 ds (told ++ [s]) c := by
  obtain ⟨xs, h1, rx⟩ := h.xs
  have h2 := d.a
  have h3 := d.c
  have x : ExF (L :: kn :: td :: st :: cl :: G) H1 H2 := exm eq (.inr (by simp)) ExF.refl
  have x' : ExF [td] H1 H2 := exm eq (.inr (by simp)) ExF.refl
  refine ⟨⟨xs, eqn eq h2.2.1 h1, rx.ex x⟩, ?_, h.S.ex' (by simp [h3.1.symm]) (by simp [h3.2.symm]) x', exm eq (.inr (by simp)) h.x⟩
  have := eqs eq
  unfold StrsAt
  rw [this, List.map_append]
  rfl
theorem LS.mutk (d : Dst st cl L kn td) (h : LS st cl L kn td G H0 H1 ds told c) {o : HO} (eq : H2 = upd H1 kn o) : LS st cl L kn td G H0 H2 ds told c := by
  obtain ⟨xs, h1, rx⟩ := h.xs
  have h2 := d.a
  have h3 := d.b
  have x : ExF (L :: kn :: td :: st :: cl :: G) H1 H2 := exm eq (.inr (by simp)) ExF.refl
  have x' : ExF [kn] H1 H2 := exm eq (.inr (by simp)) ExF.refl
  exact ⟨⟨xs, eqn eq h2.1 h1, rx.ex x⟩, eqn eq h3.1.symm h.tl, h.S.ex' (by simp [h3.2.1.symm]) (by simp [h3.2.2.symm]) x', exm eq (.inr (by simp)) h.x⟩
/-- lines[-1][1] -/
theorem last1 {K : PySem.W.Frag} {i : Nat} {σ : L2.St} {F : List Addr} {xs : List V} {d a : PyData} {s : Str} {r : List PyData} {Q : VK} (hv : σ[i]? = some (some (.ref L))) (hL : H1 L = some (.lst xs)) (rx : RpL F H1 xs (ds ++ [d])) (hd : d = .tuple (a :: .str s :: r)) (q : Q (.str s) H1) :
    tOp (rIxU K) (tOp (rIxU K) (tVar i) (tUn (rU fun i => .int (-i)) (tC (.int 1)))) (tC (.int 1)) σ H1 Q := by
  have hl : xs.length = ds.length + 1 := by have := rx.1; simpa using this
  have hx : xs[ds.length]? = some xs[ds.length] := by simp [hl]
  have rv := rx.2 ds.length xs[ds.length] d hx (by simp)
  rw [hd] at rv
  obtain ⟨p, zs, e, _, hp, rz⟩ := rv.tuple_inv
  obtain ⟨z0, zs1, rfl, _, rz1⟩ := rz.cons_inv
  obtain ⟨z1, zs2, rfl, r1, _⟩ := rz1.cons_inv
  cases r1.str_inv
  refine ⟨_, hv, 1, rfl, ixL hL (v := .ref p) ?_ (ixT hp (v := .str s) (atN (by decide) rfl) q)⟩
  unfold atI ixN
  rw [if_neg (by decide), if_pos (by rw [hl]; omega)]
  show xs[((xs.length : Int) + -1).toNat]? = _
  have : ((xs.length : Int) + -1).toNat = ds.length := by omega
  rw [this, hx, e]
end
abbrev opsN : List Str := ["f", "g", "h", "mul", "a", "k"]
theorem opsN_ok : ∀ s ∈ opsN, nmOk s = true := by decide +kernel

def LoopP (st cl L kn td on : Addr) (G : List Addr) (H4 H0 : Hp) (n e c r9 : Nat) (ops : List Str) (i : Nat) (σ : L2.St) (H' : Hp) : Prop :=
  ∃ (ds : List PyData) (known told : List Str) (kk : Addr) (c' : Nat) (u v w x : Option V), σ = [some (.ref st), some (.int (n : Int)), some (.int (e : Int)), some (.ref on), some (.ref L), some (.ref kk), some (.ref td), u, v, w, x] ∧
    LS st cl L kn td G H4 H' ds told c' ∧ c ≤ c' ∧ c' ≤ c + 12 + 130 * i ∧ kk ∉ [L, td, st, cl] ∧ StrsAt H' kk known ∧ InvL (eCost e) known told ds ∧ ds.length = r9 + i ∧ known.length ≤ r9 + i ∧ StrsAt H' on ops ∧ ExF [L, kn, td, st, cl] H0 H'

theorem rd_l_a_lines (K : PySem.W.Frag) {vs : List V} {H : Hp} {Q : VK} {E : XK} (h : spALines vs H Q E) :
    t_l_a_lines K { nx := fun _ H' => Q .non H', rt := Q } (start ["_law_stream", "_law_many", "_law_deep", "_law_ops", "_law_lines", "_law_known", "_law_told", "_law_k", "_law_way", "_law_left", "_law_name"] vs) H := by
  obtain ⟨st, cl, c, n, e, G, rfl, hn2, hn10, he3, S, hc, tG, q⟩ := h
  have sz : sizeLine = 16777216 := sizeLine_eq
  have hp30 : (2 : Nat) ^ 30 = 1073741824 := by decide
  have hp20 : (2 : Nat) ^ 20 = 1048576 := by decide
  -- ops = mixed(..)[:1 + draw(3)]
  refine ⟨_, rfl, lit0 [] rfl Trk.nil fun v H1 x1 r1 => ?_⟩
  have r1 : Rp [] H1 v (.list (opsN.map PyData.str)) := r1
  obtain ⟨a1, ys1, rfl, _, ha1, ry1⟩ := r1.list_inv
  have ry1 := ry1.all_str
  subst ry1
  refine ⟨st, cl, c, a1, _, rfl, S.ex' (by simp) (by simp) x1, by show c + 6 < _; omega, .inl ha1, by rw [hp20]; decide, fun a2 ys2 H2 hp2 ha2n ha2 S2 x2 => ?_⟩
  have S2 : Strm st cl H2 (c + 6) := S2
  obtain ⟨ws, hws, rfl⟩ := perm_strs hp2
  have hwl : ws.length = 6 := hws.length_eq
  have x02 : ExF [st, cl] H H2 := x1.of.trans x2
  refine ⟨_, rfl, st, cl, c + 6, 3, rfl, S2, by omega, by decide, by decide, fun k0 H3 g0 g1 S3 x3 => addI ⟨_, rfl, ?_⟩⟩
  have n2 : a2 ∉ [st, cl] := (S.ex' (F := []) (by simp) (by simp) x1).trk.nin ha2n
  have ha3 := x3.at_ _ _ n2 ha2
  obtain ⟨j0, rfl⟩ : ∃ j : Nat, k0 = j := ⟨k0.toNat, by omega⟩
  refine slToL (1 + j0) (by omega) ha3 fun on H4 hon e4 => ?_
  have ekn : (ws.map V.str).take (1 + j0) = (ws.take (1 + j0)).map V.str := (List.map_take).symm
  rw [ekn] at e4
  have hops : StrsAt H4 on (ws.take (1 + j0)) := eqs e4
  have x04 : ExF [st, cl] H H4 := (x02.trans x3).trans (exn e4 hon)
  have S4 : Strm st cl H4 (c + 7) := S3.ex' (F := []) (by simp) (by simp) (exn e4 hon)
  have n4 : on ∉ [st, cl] := S3.trk.nin hon
  have opok : ∀ s ∈ ws.take (1 + j0), nmOk s = true := fun s hs => opsN_ok s (hws.mem_iff.mp (List.mem_of_mem_take hs))
  have opne : ws.take (1 + j0) ≠ [] := fun e => by
    have := congrArg List.length e
    rw [List.length_take, hwl, List.length_nil] at this
    omega
  have opl : (ws.take (1 + j0)).length ≤ 100 := by rw [List.length_take]; omega
  generalize ws.take (1 + j0) = ops at hops opok opne opl
  -- lines, known, told = [], [], []
  refine ⟨by decide, fun L H5 hL5 e5 => ⟨by decide, fun kn H6 hk6 e6 => ⟨by decide, fun td H7 ht7 e7 => ⟨by show 3 ≤ sizeLine; decide, fun p8 H8 hp8 e8 => ⟨p8, _, rfl, .inl (.inl (eqs e8)), rfl, _, _, rfl, _, _, rfl, _, _, rfl, rfl, ?_⟩⟩⟩⟩⟩
  have tS4 : Trk [st, cl] H4 := S4.trk
  have tS5 : Trk [st, cl] H5 := tS4.ex (exn (F := []) e5 hL5)
  have tS6 : Trk [st, cl] H6 := tS5.ex (exn (F := []) e6 hk6)
  have nL : L ∉ [st, cl] := tS4.nin hL5
  have nk : kn ∉ [st, cl] := tS5.nin hk6
  have nt : td ∉ [st, cl] := tS6.nin ht7
  have h5 : H5 L = some (.lst []) := eqs e5
  have h6 : H6 kn = some (.lst []) := eqs e6
  have h7 : H7 td = some (.lst []) := eqs e7
  have h6L := eqf e6 hk6 h5
  have h7L := eqf e7 ht7 h6L
  have h7k := eqf e7 ht7 h6
  have dst : Dst st cl L kn td := by
    refine ⟨⟨ne_of_none h5 hk6, ne_of_none h6L ht7, fun e => nL (by simp [e]), fun e => nL (by simp [e])⟩, ⟨ne_of_none h6 ht7, fun e => nk (by simp [e]), fun e => nk (by simp [e])⟩, ⟨fun e => nt (by simp [e]), fun e => nt (by simp [e])⟩⟩
  have x48 : ExF [L, kn, td, st, cl] H4 H8 := (((exn e5 hL5).trans (exn e6 hk6)).trans (exn e7 ht7)).trans (exn e8 hp8)
  have non : on ∉ [L, kn, td, st, cl] := by
    have h1 : on ≠ L := ne_strs hops hL5
    have h2 : on ≠ kn := ne_strs (zs := ops) (eqf e5 hL5 hops) hk6
    have h3 : on ≠ td := ne_strs (zs := ops) (eqf e6 hk6 (eqf e5 hL5 hops)) ht7
    intro z
    simp [h1, h2, h3] at z
    exact n4 (by simpa using z)
  have l0 : LS st cl L kn td G H4 H8 [] [] (c + 7) :=
    ⟨⟨[], eqf e8 hp8 h7L, .nil⟩, eqf e8 hp8 h7, S4.ex' (F := []) (by simp) (by simp) ((((exn e5 hL5).trans (exn e6 hk6)).trans (exn e7 ht7)).trans (exn e8 hp8)), x48⟩
  have k0 : StrsAt H8 kn [] := eqf e8 hp8 h7k
  have dropx : ∀ {H'}, ExF [L, kn, td, st, cl] H4 H' → ExF [st, cl] H H' := fun {H'} x => by
    have y1 : ExF [kn, td, st, cl] H4 H' := x.drop hL5
    have y2 : ExF [td, st, cl] H4 H' := y1.drop ((exn (F := []) e5 hL5).free hk6)
    have y3 : ExF [st, cl] H4 H' := y2.drop (((exn (F := []) e5 hL5).trans (exn e6 hk6)).free ht7)
    exact x04.trans y3
  have tF : Trk (L :: kn :: td :: st :: cl :: G) H8 := by
    intro a ha
    simp only [List.mem_cons] at ha
    rcases ha with z | z | z | z | z | z
    · rw [z, eqf e8 hp8 h7L]; exact fun z => nomatch z
    · rw [z, eqf e8 hp8 h7k]; exact fun z => nomatch z
    · rw [z, eqf e8 hp8 h7]; exact fun z => nomatch z
    · exact x48.kept a (by rw [z]; exact tS4 st (by simp))
    · exact x48.kept a (by rw [z]; exact tS4 cl (by simp))
    · exact x48.kept a (x04.kept a (tG a z))
  generalize eH : H8 = H0 at *
  clear eH
  -- reading a name: the state behind it
  have tF' : ∀ {H' ds told c'}, LS st cl L kn td G H4 H' ds told c' → ExF [L, kn, td, st, cl] H0 H' → Trk (L :: kn :: td :: st :: cl :: G) H' := fun _ x => tF.ex x
  have addRead : ∀ (σ : L2.St) (D : Ends) (H' : Hp) (kk : Addr) (known told : List Str) (ds : List PyData) (c' : Nat), σ[0]? = some (some (.ref st)) → σ[4]? = some (some (.ref L)) → σ[5]? = some (some (.ref kk)) → kk ∉ [st, cl] → kk ≠ L → StrsAt H' kk known → known.length ≤ 20 → ds.length ≤ 100 →
      LS st cl L kn td G H4 H' ds told c' → ExF [L, kn, td, st, cl] H0 H' → c' < 2 ^ 48 →
      (∀ s H'', nmOk s = true → s ∉ known → StrsAt H'' kk known → LS st cl L kn td G H4 H'' (ds ++ [readD s]) told (c' + 1) → ExF [L, kn, td, st, cl] H0 H'' → D.nx σ H'') →
      tDrop (tBM K "list" (rAppendU) (tVar 4) (tCons (tTupU (tCons (tC (.str "read")) (tCons (tCall spAName [] E0 (tCons (tVar 0) (tCons (tVar 5) (tNil)))) (tNil)))) (tNil))) D σ H' := by
    intro σ D H' kk known told ds c' s0 s4 s5 nkk nkL hk hkl hdl hL xH hc' k
    obtain ⟨xs, h1, rx⟩ := hL.xs
    refine ⟨_, s4, tyL h1, _, s0, _, s5, st, cl, c', kk, known, rfl, hL.S, hc', hk, fun e => nkk (by simp [e]), fun e => nkk (by simp [e]), hkl, fun s H1 hs hnk S1 y1 => ⟨by show 2 ≤ sizeLine; decide, fun p H2 hp e2 => ?_⟩⟩
    have hL1 := hL.call dst S1 y1
    have hL2 := hL1.pure dst (exn e2 hp)
    have xH1 : ExF [L, kn, td, st, cl] H0 H1 := xH.trans (y1.sub (by intro a z; simp at z; rcases z with z | z <;> simp [z]))
    obtain ⟨xs2, h2, rx2⟩ := hL2.xs
    refine app h2 (by have := rx2.1; omega) fun H3 e3 => ?_
    have hk1 := hk.ex y1 nkk
    have hk3 : StrsAt H3 kk known := eqn e3 nkL (eqf e2 hp hk1)
    have np : p ∉ L :: kn :: td :: st :: cl :: G := (tF.ex xH1).nin hp
    refine k s H3 hs hnk hk3 (hL2.add dst (.tuple np (eqs e2) (.cons (.str _) (.cons (.str _) .nil))) h2 e3) ?_
    exact exm e3 (.inr (by simp)) (xH1.trans (exn e2 hp))
  -- for k in range(draw(4)): a read
  unfold t_l_a_lines_t2 tSeq tForU
  refine ⟨_, rfl, st, cl, c + 7, 4, rfl, l0.S, by omega, by decide, by decide, fun k9 H9 g2 g3 S9 x9 => ⟨k9, rfl, by omega, by omega, ?_⟩⟩
  obtain ⟨r9, rfl⟩ : ∃ j : Nat, k9 = j := ⟨k9.toNat, by omega⟩
  have x09 : ExF [L, kn, td, st, cl] H0 H9 := x9.sub (by intro a z; simp at z; rcases z with z | z <;> simp [z])
  refine forRg (n := r9) (fun i σ H' => ∃ (ds : List PyData) (known : List Str) (u : Option V), σ = [some (.ref st), some (.int (n : Int)), some (.int (e : Int)), some (.ref on), some (.ref L), some (.ref kn), some (.ref td), u, none, none, none] ∧
      LS st cl L kn td G H4 H' ds [] (c + 8 + i) ∧ StrsAt H' kn known ∧ InvL (eCost e) known [] ds ∧ ds.length = i ∧ known.length = i ∧ StrsAt H' on ops ∧ ExF [L, kn, td, st, cl] H0 H')
    ⟨[], [], none, rfl, l0.call dst S9 x9, k0.ex x9 nk, InvL.nil, rfl, rfl, ((show StrsAt H0 on ops from hops.ex x48 non).ex x9 n4), x09⟩ ?_ ?_
  · rintro i σ' H1 hi ⟨ds, known, u, rfl, hL, hk, I, hd, hkl, ho, xH⟩
    refine addRead _ _ H1 kn known [] ds _ rfl rfl rfl nk dst.a.1.symm hk (by omega) (by omega) hL xH (by omega) fun s H2 hs hnk hk2 hL2 xH2 => ?_
    obtain ⟨xs, h1, rx⟩ := hL2.xs
    refine ⟨_, rfl, tyL hk2, ?_⟩
    refine last1 (r := []) rfl h1 rx rfl ?_
    refine app hk2 (by rw [List.length_map, sz]; omega) fun H3 e3 => ?_
    refine ⟨ds ++ [readD s], known ++ [s], _, rfl, hL2.mutk dst e3, ?_, I.read hs hnk, by simp [hd], by simp [hkl], ?_, exm e3 (.inr (by simp)) xH2⟩
    · have := eqs e3
      unfold StrsAt
      rw [this, List.map_append]
      rfl
    · exact (hops.ex x48 non).ex (exm e3 (.inr (by simp)) xH2) non
  rintro σ1 H1 ⟨ds1, known1, u1, rfl, hL1, hk1, I1, hd1, hkl1, ho1, xH1⟩
  -- for k in range(many)
  unfold t_l_a_lines_t3 tSeq tForU
  refine ⟨_, rfl, (n : Int), rfl, by omega, by omega, ?_⟩
  have nkL : kn ∉ [L, td, st, cl] := by
    have := dst.a; have h2 := dst.b
    simp [this.1.symm, h2.1, h2.2.1, h2.2.2]
  refine forRg (n := n) (LoopP st cl L kn td on G H4 H0 n e c r9 ops)
    ⟨ds1, known1, [], kn, c + 8 + r9, _, _, _, _, rfl, hL1, by omega, by omega, nkL, hk1, I1, by omega, by omega, ho1, xH1⟩ ?_ ?_
  · rintro i σ' H2 hi ⟨ds, known, told, kk, c', u, v, w, x, rfl, hL, lc, uc, nkk, hk, I, hd, hkl, ho, xH⟩
    have nkk' : kk ∉ [st, cl] := fun z => nkk (by simp at z; rcases z with z | z <;> simp [z])
    have nkL : kk ≠ L := fun e => nkk (by simp [e])
    have ntd : kk ≠ td := fun e => nkk (by simp [e])
    -- known = each_once(known + [lines[-1][1]])
    have fin : ∀ (ds' : List PyData) (d a : PyData) (s : Str) (r : List PyData) (told' : List Str) (c'' : Nat) (v w x : Option V) (H3 : Hp), d = .tuple (a :: .str s :: r) → ds'.length = r9 + i → LS st cl L kn td G H4 H3 (ds' ++ [d]) told' c'' → c ≤ c'' → c'' ≤ c + 12 + 130 * (i + 1) → StrsAt H3 kk known → InvL (eCost e) (if s ∈ known then known else known ++ [s]) told' (ds' ++ [d]) → ExF [L, kn, td, st, cl] H0 H3 →
        tAsg (tCall spOnce [] E0 (tCons (tOp (rAddU K) (tVar 5) (tLstU (tCons (tOp (rIxU K) (tOp (rIxU K) (tVar 4) (tUn (rU fun i => .int (-i)) (tC (.int 1)))) (tC (.int 1))) (tNil)))) (tNil))) (gName 5)
          { nx := LoopP st cl L kn td on G H4 H0 n e c r9 ops (i + 1), ct := LoopP st cl L kn td on G H4 H0 n e c r9 ops (i + 1), bk := fun σ H' => t_l_a_lines_t4 K { nx := fun _ H' => Q .non H', rt := Q } σ H', rt := Q } [some (.ref st), some (.int (n : Int)), some (.int (e : Int)), some (.ref on), some (.ref L), some (.ref kk), some (.ref td), some (.int (0 + (i : Nat))), v, w, x] H3 := by
      intro ds' d a s r told' c'' v w x H3 hdd hdl hL3 lc2 uc2 hk3 I3 xH3
      obtain ⟨xs, h1, rx⟩ := hL3.xs
      refine ⟨_, rfl, last1 rfl h1 rx hdd ⟨by show 1 ≤ sizeLine; decide, fun p4 H4' hp4 e4' => ?_⟩⟩
      refine catL (eqf e4' hp4 hk3) (eqs e4') (by rw [List.length_map, sz]; simp only [List.length_cons, List.length_nil]; omega) fun p5 H5' hp5 e5' => ?_
      refine ⟨p5, known ++ [s], rfl, ?_, by simp; omega, fun p6 H6' hp6 hk6' x6 => ?_⟩
      · have := eqs e5'
        unfold StrsAt
        rw [this, List.map_append]
        rfl
      · have y : ExF [] H3 H6' := ((exn e4' hp4).trans (exn e5' hp5)).trans x6
        rw [onceL_add I.nk] at hk6'
        have t5 : Trk (L :: kn :: td :: st :: cl :: G) H5' := tF.ex (xH3.trans ((exn e4' hp4).trans (exn e5' hp5)))
        refine ⟨_, _, _, p6, c'', _, _, _, _, rfl, hL3.pure dst y, lc2, uc2, ?_, hk6', I3, by simp; omega, ?_, (hops.ex x48 non).ex (xH3.trans y.of) non, xH3.trans y.of⟩
        · intro z
          have h1 := t5.nin hp6
          simp at z h1
          rcases z with z | z | z | z
          · exact h1.1 z
          · exact h1.2.2.1 z
          · exact h1.2.2.2.1 z
          · exact h1.2.2.2.2.1 z
        · split
          · omega
          · simp; omega
    -- way, left = draw(12), [.. not told]
    refine ⟨_, rfl, st, cl, c', 12, rfl, hL.S, by omega, by decide, by decide, fun k H3 g4 g5 S3 y3 => ?_⟩
    have hL3 := hL.call dst S3 y3
    have hk3 := hk.ex y3 nkk'
    have xH3 : ExF [L, kn, td, st, cl] H0 H3 := xH.trans (y3.sub (by intro a z; simp at z; rcases z with z | z <;> simp [z]))
    refine lcFil (zs := known) (fun z => !decide (z ∈ told)) (iter_var (a := kk) rfl (.inl hk3) (by simp)) (by rw [sz]; omega) (by show 10 < 11; decide) rfl ?_ ?_
    · intro D z H5 hz x5 Qc kq
      exact .inl ⟨_, rfl, _, rfl, notInStrs (x5.at_ _ _ (by simp) hL3.tl) ⟨_, rfl, kq H5 ExF.refl⟩⟩
    intro lf H5 hlf hf x5
    refine ⟨_, _, rfl, ?_⟩
    have hL5 := hL3.pure dst x5
    have hk5 := hk3.ex x5 (by simp)
    have xH5 : ExF [L, kn, td, st, cl] H0 H5 := xH3.trans x5.of
    have nlf : lf ∉ L :: kn :: td :: st :: cl :: G := (tF.ex xH3).nin hlf
    have nlf' : lf ∉ [st, cl] := fun z => nlf (by simp at z; rcases z with z | z <;> simp [z])
    refine ⟨_, rfl, eqI ⟨_, rfl, ?_⟩⟩
    refine ite2 (fun h => ?_) (fun h => ?_)
    · -- read
      refine addRead _ _ H5 kk known told ds _ rfl rfl rfl nkk' nkL hk5 (by omega) (by omega) hL5 xH5 (by omega) fun s H6 hs hnk hk6 hL6 xH6 => ?_
      exact fin ds (readD s) (.str "read") s [] told (c' + 2) _ _ _ H6 rfl hd hL6 (by omega) (by omega) hk6 (by rw [if_neg hnk]; exact I.read hs hnk) xH6
    · have xpick : ∀ {a b : Hp}, ExF [st, cl] a b → ExF [L, kn, td, st, cl] a b := fun x => x.sub (by intro a z; simp at z; rcases z with z | z <;> simp [z])
      -- give name expr
      have give : ∀ (D : Ends) (nm : Str) (c1 : Nat) (H6 : Hp) (σ : L2.St), σ[0]? = some (some (.ref st)) → σ[2]? = some (some (.int (e : Int))) → σ[3]? = some (some (.ref on)) → σ[4]? = some (some (.ref L)) → σ[5]? = some (some (.ref kk)) → σ[10]? = some (some (.str nm)) → nmOk nm = true → c' ≤ c1 → c1 ≤ c' + 2 → StrsAt H6 kk known → LS st cl L kn td G H4 H6 ds told c1 → ExF [L, kn, td, st, cl] H0 H6 →
          (∀ d c2 H', c1 ≤ c2 → c2 ≤ c1 + 120 → LS st cl L kn td G H4 H' (ds ++ [giveD nm d]) told c2 → StrsAt H' kk known → exprD known d = true → tupD d = d → ok 5 d = true → txt d = true → size d ≤ eCost e → ExF [L, kn, td, st, cl] H0 H' → D.nx σ H') →
          tDrop (tBM K "list" (rAppendU) (tVar 4) (tCons (tTupU (tCons (tC (.str "give")) (tCons (tVar 10) (tCons (tCall (spAExpr 5) [] E0 (tCons (tVar 0) (tCons (tVar 5) (tCons (tVar 3) (tCons (tVar 2) (tNil)))))) (tNil))))) (tNil))) D σ H6 := by
        intro D nm c1 H6 σ s0 s2 s3 s4 s5 s10 hnm l1 u1 hk6 hL6 xH6 kq
        obtain ⟨xs, h1, rx⟩ := hL6.xs
        have ho6 : StrsAt H6 on ops := (hops.ex x48 non).ex xH6 non
        have hE : eCost e ≤ 120 := by
          have : e = 0 ∨ e = 1 ∨ e = 2 ∨ e = 3 := by omega
          rcases this with h | h | h | h <;> subst h <;> decide
        refine ⟨_, s4, tyL h1, _, s10, _, s0, _, s5, _, s3, _, s2, st, cl, c1, kk, on, known, ops, e, L :: kn :: td :: st :: cl :: G, rfl, by omega, by omega, hL6.S, by omega, hk6, ho6, nkk', n4, I.nm, opok, opne, by omega, opl, tF.ex xH6, fun v d c2 H7 l2 u2 S7 y7 rv hed htd hod htx hsd => ⟨by show 3 ≤ sizeLine; decide, fun p H8 hp8 e8 => ?_⟩⟩
        have xH7 := xH6.trans (xpick y7)
        have hL8 := (hL6.call dst S7 y7).pure dst (exn e8 hp8)
        obtain ⟨xs2, h2, rx2⟩ := hL8.xs
        refine app h2 (by have := rx2.1; omega) fun H9 e9 => ?_
        have np : p ∉ L :: kn :: td :: st :: cl :: G := (tF.ex xH7).nin hp8
        have hk9 : StrsAt H9 kk known := eqn e9 nkL (eqf e8 hp8 (hk6.ex y7 nkk'))
        refine kq d c2 H9 l2 (by omega) (hL8.add dst (.tuple np (eqs e8) (.cons (.str _) (.cons (.str _) (.cons (rv.ex (exn e8 hp8)) .nil)))) h2 e9) hk9 hed htd (ok_le hod (by omega)) htx (by omega) (exm e9 (.inr (by simp)) (xH7.trans (exn e8 hp8)))
      have other : ∀ (D : Ends) (H6 : Hp) (σ : L2.St), σ.length = 11 → σ[0]? = some (some (.ref st)) → σ[2]? = some (some (.int (e : Int))) → σ[3]? = some (some (.ref on)) → σ[4]? = some (some (.ref L)) → σ[5]? = some (some (.ref kk)) → σ[8]? = some (some (.int k)) → StrsAt H6 kk known → LS st cl L kn td G H4 H6 ds told (c' + 1) → ExF [L, kn, td, st, cl] H0 H6 →
          (∀ nm d c2 H', nmOk nm = true → c' ≤ c2 → c2 ≤ c' + 122 → LS st cl L kn td G H4 H' (ds ++ [giveD nm d]) told c2 → StrsAt H' kk known → exprD known d = true → tupD d = d → ok 5 d = true → txt d = true → size d ≤ eCost e → ExF [L, kn, td, st, cl] H0 H' → D.nx (σ.set 10 (some (.str nm))) H') →
          tSeq (tAsg (tIf (tAnd (tTest (tOp (rNeU K) (tVar 5) (tLstU (tNil)))) (tTest (tOp (rI0 fun i j => .bl (decide (i < j))) (tVar 8) (tC (.int 5))))) (tCall spPick [] E0 (tCons (tVar 0) (tCons (tVar 5) (tNil)))) (tCall spAName [] E0 (tCons (tVar 0) (tCons (tVar 5) (tNil))))) (gName 10)) (tDrop (tBM K "list" (rAppendU) (tVar 4) (tCons (tTupU (tCons (tC (.str "give")) (tCons (tVar 10) (tCons (tCall (spAExpr 5) [] E0 (tCons (tVar 0) (tCons (tVar 5) (tCons (tVar 3) (tCons (tVar 2) (tNil)))))) (tNil))))) (tNil)))) D σ H6 := by
        intro D H6 σ sl s0 s2 s3 s4 s5 s8 hk6 hL6 xH6 kq
        have setn : ∀ (nm : Str) {j : Nat} {y : V}, j ≠ 10 → σ[j]? = some (some y) → (σ.set 10 (some (.str nm)))[j]? = some (some y) := fun nm j y hj h => by
          rw [List.getElem?_set_ne (by omega)]; exact h
        have go : ∀ (nm : Str) (c1 : Nat) (H7 : Hp), nmOk nm = true → c' ≤ c1 → c1 ≤ c' + 2 → StrsAt H7 kk known → LS st cl L kn td G H4 H7 ds told c1 → ExF [L, kn, td, st, cl] H0 H7 →
            (tDrop (tBM K "list" (rAppendU) (tVar 4) (tCons (tTupU (tCons (tC (.str "give")) (tCons (tVar 10) (tCons (tCall (spAExpr 5) [] E0 (tCons (tVar 0) (tCons (tVar 5) (tCons (tVar 3) (tCons (tVar 2) (tNil)))))) (tNil))))) (tNil)))) D (σ.set 10 (some (.str nm))) H7 := by
          intro nm c1 H7 hnm l1 u1 hk7 hL7 xH7
          refine give D nm c1 H7 _ (setn nm (by decide) s0) (setn nm (by decide) s2) (setn nm (by decide) s3) (setn nm (by decide) s4) (setn nm (by decide) s5) (List.getElem?_set_self (by rw [sl]; decide)) hnm l1 u1 hk7 hL7 xH7 fun d c2 H' l2 u2 h1 h2 h3 h4 h5 g1 g2 h6 => ?_
          exact kq nm d c2 H' hnm (by omega) (by omega) h1 h2 h3 h4 h5 g1 g2 h6
        have nameCall : ∀ (H7 : Hp), StrsAt H7 kk known → LS st cl L kn td G H4 H7 ds told (c' + 1) → ExF [L, kn, td, st, cl] H0 H7 → tCall spAName [] E0 (tCons (tVar 0) (tCons (tVar 5) (tNil))) σ H7 fun x H1 => gName 10 x σ H1 fun σ1 H1 => (tDrop (tBM K "list" (rAppendU) (tVar 4) (tCons (tTupU (tCons (tC (.str "give")) (tCons (tVar 10) (tCons (tCall (spAExpr 5) [] E0 (tCons (tVar 0) (tCons (tVar 5) (tCons (tVar 3) (tCons (tVar 2) (tNil)))))) (tNil))))) (tNil)))) D σ1 H1 := by
          intro H7 hk7 hL7 xH7
          refine ⟨_, s0, _, s5, st, cl, c' + 1, kk, known, rfl, hL7.S, by omega, hk7, fun e => nkk' (by simp [e]), fun e => nkk' (by simp [e]), by omega, fun s H8 hs hnk S8 y8 => ?_⟩
          exact go s (c' + 2) H8 hs (by omega) (by omega) (hk7.ex y8 nkk') (hL7.call dst S8 y8) (xH7.trans (xpick y8))
        refine ⟨_, s5, by decide, fun p H7 hp e7 => ?_⟩
        have hk7 : StrsAt H7 kk known := eqf e7 hp hk6
        have hL7 := hL6.pure dst (exn e7 hp)
        have xH7 := xH6.trans (exn (F := [L, kn, td, st, cl]) e7 hp)
        refine neE hk7 (eqs e7) ⟨_, rfl, ?_⟩
        cases hkn : known with
        | nil =>
          refine ite2 (fun h => absurd h (by simp)) (fun _ => ?_)
          refine ite2 (fun h => absurd h (by simp)) (fun _ => ?_)
          exact nameCall H7 hk7 hL7 xH7
        | cons z zs =>
          refine ite2 (fun _ => ?_) (fun h => absurd rfl h)
          refine ⟨_, s8, _, _, rfl, rfl, _, rfl, ?_⟩
          refine ite2 (fun _ => ?_) (fun _ => ?_)
          · refine ⟨_, s0, _, s5, st, cl, c' + 1, kk, known.map V.str, rfl, hL7.S, by omega, .inl hk7, fun e => nkk' (by simp [e]), fun e => nkk' (by simp [e]), by rw [hkn]; simp, by rw [List.length_map, hp30]; omega, fun j v H8 hv S8 y8 => ?_⟩
            obtain ⟨s, hs, rfl⟩ := List.mem_map.mp (List.mem_of_getElem? hv)
            exact go s (c' + 2) H8 (I.nm s hs) (by omega) (by omega) (hk7.ex y8 nkk') (hL7.call dst S8 y8) (xH7.trans (xpick y8))
          · exact nameCall H7 hk7 hL7 xH7
      refine ⟨_, rfl, eqI ⟨_, rfl, ?_⟩⟩
      have last : ∀ (H6 : Hp) (v w x : Option V) nm d c2 , nmOk nm = true → c' ≤ c2 → c2 ≤ c' + 122 → LS st cl L kn td G H4 H6 (ds ++ [giveD nm d]) told c2 → StrsAt H6 kk known → exprD known d = true → tupD d = d → ok 5 d = true → txt d = true → size d ≤ eCost e → ExF [L, kn, td, st, cl] H0 H6 → _ :=
        fun H6 v w x nm d c2 hnm l2 u2 h1 h2 h3 h4 h5 g1' g2' h6 => fin ds (giveD nm d) (.str "give") nm [d] told c2 v w x H6 rfl hd h1 (by omega) (by omega) h2 (I.give hnm h3 h5 h4 g1' g2') h6
      refine ite2 (fun h2 => ?_) (fun h2 => ?_)
      · refine ⟨_, rfl, by decide, fun p H6 hp e6 => ?_⟩
        have hk6 : StrsAt H6 kk known := eqf e6 hp hk5
        have hf6 := eqf e6 hp hf
        have hL6 := hL5.pure dst (exn e6 hp)
        have xH6 := xH5.trans (exn (F := [L, kn, td, st, cl]) e6 hp)
        refine neE hf6 (eqs e6) ⟨_, rfl, ?_⟩
        refine ite2 (fun h3 => ?_) (fun h3 => ?_)
        · -- tell
          obtain ⟨xs, h1, rx⟩ := hL6.xs
          refine ⟨_, rfl, tyL h1, _, rfl, _, rfl, st, cl, c' + 1, lf, _, rfl, hL6.S, by omega, .inl hf6, fun e => nlf' (by simp [e]), fun e => nlf' (by simp [e]), ?_, ?_, fun j v H7 hv S7 y7 => ⟨by show 2 ≤ sizeLine; decide, fun p8 H8 hp8 e8 => ?_⟩⟩
          · apply List.length_pos_iff.mpr
            intro e
            rw [e] at h3
            exact absurd h3 (by simp)
          · rw [List.length_map, hp30]
            have := List.length_filter_le (fun z => !decide (z ∈ told)) known
            omega
          · obtain ⟨s, hs, rfl⟩ := List.mem_map.mp (List.mem_of_getElem? hv)
            have hs' := List.mem_filter.mp hs
            have hst : s ∉ told := by simpa using hs'.2
            have xH7 := xH6.trans (xpick y7)
            have hL8 := (hL6.call dst S7 y7).pure dst (exn e8 hp8)
            obtain ⟨xs2, h2', rx2⟩ := hL8.xs
            refine app h2' (by have := rx2.1; omega) fun H9 e9 => ?_
            have np : p8 ∉ L :: kn :: td :: st :: cl :: G := (tF.ex xH7).nin hp8
            have hk9 : StrsAt H9 kk known := eqn e9 nkL (eqf e8 hp8 (hk6.ex y7 nkk'))
            have hL9 := hL8.add dst (e := tellD s) (.tuple np (eqs e8) (.cons (.str _) (.cons (.str _) .nil))) h2' e9
            obtain ⟨xs3, h3', rx3⟩ := hL9.xs
            refine ⟨_, rfl, tyL hL9.tl, ?_⟩
            refine last1 (r := []) rfl h3' rx3 rfl ?_
            refine app hL9.tl (by rw [List.length_map, sz]; have := len_sub (xs := told) (ys := known) I.td I.tk; omega) fun H10 e10 => ?_
            have hk10 : StrsAt H10 kk known := eqn e10 ntd hk9
            refine fin ds (tellD s) (.str "tell") s [] (told ++ [s]) (c' + 2) _ _ _ H10 rfl hd (hL9.tells dst e10) (by omega) (by omega) hk10 (by rw [if_pos hs'.1]; exact I.tell hs'.1 hst) ?_
            exact exm e10 (.inr (by simp)) (exm e9 (.inr (by simp)) (xH7.trans (exn e8 hp8)))
        · refine other _ H6 _ rfl rfl rfl rfl rfl rfl rfl hk6 hL6 xH6 fun nm d c2 H7 hnm l2 u2 h1 h2 h3 h4 h5 g1 g2 h6 => ?_
          exact last H7 _ _ _ nm d c2 hnm l2 u2 h1 h2 h3 h4 h5 g1 g2 h6
      · refine ite2 (fun h => absurd h (by simp)) (fun _ => ?_)
        refine other _ H5 _ rfl rfl rfl rfl rfl rfl rfl hk5 hL5 xH5 fun nm d c2 H7 hnm l2 u2 h1 h2 h3 h4 h5 g1 g2 h6 => ?_
        exact last H7 _ _ _ nm d c2 hnm l2 u2 h1 h2 h3 h4 h5 g1 g2 h6
  · rintro σ2 H2 ⟨ds, known, told, kk, c', u, v, w, x, rfl, hL, lc, uc, nkk, hk, I, hd, hkl, ho, xH⟩
    have nkk' : kk ∉ [st, cl] := fun z => nkk (by simp at z; rcases z with z | z <;> simp [z])
    -- left = mixed(.., [.. not told])
    refine ⟨_, rfl, ?_⟩
    refine lcFil (zs := known) (fun z => !decide (z ∈ told)) (iter_var (a := kk) rfl (.inl hk) (by simp)) (by rw [sz]; omega) (by show 10 < 11; decide) rfl ?_ ?_
    · intro D z H5 hz x5 Qc kq
      exact .inl ⟨_, rfl, _, rfl, notInStrs (x5.at_ _ _ (by simp) hL.tl) ⟨_, rfl, kq H5 ExF.refl⟩⟩
    intro lf H3 hlf hf x3
    have hL3 := hL.pure dst x3
    have xH3 : ExF [L, kn, td, st, cl] H0 H3 := xH.trans x3.of
    have hfl := List.length_filter_le (fun z => !decide (z ∈ told)) known
    refine ⟨st, cl, c', lf, _, rfl, hL3.S, by rw [List.length_map]; omega, .inl hf, by rw [List.length_map, hp20]; omega, fun r ys H5 hp hr hy S5 x5 => ?_⟩
    obtain ⟨zs, hzs, rfl⟩ := perm_strs hp
    rw [List.length_map] at S5
    have hzl : zs.length ≤ 13 := by have := hzs.length_eq; omega
    have hL5 := hL3.call dst S5 x5
    have xH5 : ExF [L, kn, td, st, cl] H0 H5 := xH3.trans (x5.sub (by intro a z; simp at z; rcases z with z | z <;> simp [z]))
    have nr : r ∉ [st, cl] := hL3.S.trk.nin hr
    obtain ⟨xs5, h5, rx5⟩ := hL5.xs
    -- lines + [("tell", name) for name in left[:..]]
    refine ⟨_, rfl, ?_⟩
    unfold tLcU
    refine .inl ⟨_, rfl, _, rfl, lit0 [st, cl] rfl S5.trk fun v H6 x6 r6 => ?_⟩
    have r6 : Rp [st, cl] H6 v (.list ([0, 1, 1, 1, 2, 2, 3].map PyData.int)) := r6
    obtain ⟨a6, ys6, rfl, n6, ha6, ry6⟩ := r6.list_inv
    have ry6 := ry6.all_int
    subst ry6
    have hL6 := hL5.pure dst x6
    refine ⟨st, cl, _, a6, _, rfl, hL6.S, by omega, .inl ha6, fun e => n6 (by simp [e]), fun e => n6 (by simp [e]), by decide, by decide, fun j v H7 hv S7 y7 => ?_⟩
    obtain ⟨iv, hiv, rfl⟩ := List.mem_map.mp (List.mem_of_getElem? hv)
    have hi3 : ∃ b : Nat, iv = (b : Int) ∧ b ≤ 3 := by
      simp at hiv
      rcases hiv with h | h | h | h <;> subst h
      · exact ⟨0, rfl, by decide⟩
      · exact ⟨1, rfl, by decide⟩
      · exact ⟨2, rfl, by decide⟩
      · exact ⟨3, rfl, by decide⟩
    obtain ⟨b, rfl, hb⟩ := hi3
    have hL7 := hL6.call dst S7 y7
    have y67 : ExF [st, cl] H5 H7 := x6.of.trans y7
    have xH7 : ExF [L, kn, td, st, cl] H0 H7 := xH5.trans (y67.sub (by intro a z; simp at z; rcases z with z | z <;> simp [z]))
    have hr7 := y67.at_ _ _ nr hy
    refine ⟨_, rfl, slToL b rfl hr7 fun p8 H8 hp8 e8 => ⟨p8, rfl, ⟨_, .inl (.inl (eqs e8))⟩, fun D hD => ?_⟩⟩
    refine lcAt hD ?_
    have ezs : (zs.map V.str).take b = (zs.take b).map V.str := (List.map_take).symm
    rw [ezs] at e8
    have x8 : ExF [] H7 H8 := exn e8 hp8
    have hL8 := hL7.pure dst x8
    have xH8 : ExF [L, kn, td, st, cl] H0 H8 := xH7.trans x8.of
    have tF8 := tF.ex xH8
    refine lcMap (F := G) (xs := (zs.take b).map V.str) (vs := [10]) (k := 10) (iter_at (eqs e8) (by simp)) ((zs.take b).map tellD) (by simp) (by rw [List.length_map, List.length_take, sz]; omega) (fun _ => rfl) ?_ ?_
    · intro D' i x e H9 hx he x9 hD1 hD2 Qc kq
      rw [List.getElem?_map] at hx he
      cases hz : (zs.take b)[i]? with
      | none => rw [hz] at hx; cases hx
      | some z =>
        rw [hz] at hx he
        cases hx; cases he
        refine lit (fun _ => .str z) (D' :: G) [10] rfl (fun k hk => ?_) ?_ fun v H10 x10 rv => ?_
        · have e : k = 10 := by simpa using hk
          subst e
          exact ⟨_, rfl, .str z⟩
        · intro a ha
          rcases List.mem_cons.mp ha with h | h
          · rw [h]; exact hD2
          · exact x9.kept a (tF8 a (by simp [h]))
        · exact kq v H10 x10 rv
    · intro r9' ys H9 hr9 hy9 ry9 x9 hD9
      obtain ⟨xs9, h9, rx9⟩ := (hL8.pure dst x9).xs
      have l9 := rx9.1
      have l9' := ry9.1
      rw [List.length_map, List.length_take] at l9'
      cases hD9
      refine catL h9 hy9 (by rw [sz]; omega) fun p10 H10 hp10 e10 => ?_
      have hL10 := (hL8.pure dst x9).pure dst (exn e10 hp10)
      have J := I.tells (zs := zs.take b) (List.Nodup.sublist (List.take_sublist _ _) (hzs.nodup_iff.mpr (List.Nodup.sublist (List.filter_sublist) I.nk))) fun z hz => by
        have hz' := List.mem_filter.mp (hzs.mem_iff.mp (List.mem_of_mem_take hz))
        exact ⟨hz'.1, by simpa using hz'.2⟩
      have rG : RpL G H9 xs9 ds := rx9.sub (by intro a z; simp [z])
      have hE9 : eCost e ≤ 120 := by
        have : e = 0 ∨ e = 1 ∨ e = 2 ∨ e = 3 := by omega
        rcases this with h | h | h | h <;> rw [h] <;> decide
      refine q p10 _ (ds ++ (zs.take b).map tellD) _ H10 ?_ ?_ hL10.S (dropx hL10.x) ?_ (eqs e10) ((rG.append ry9).ex (exn e10 hp10)) ⟨J.f, ?_, ?_, fun d hd => ⟨(J.good d hd).1, (J.good d hd).2.1, (J.good d hd).2.2.1, by have := (J.good d hd).2.2.2; omega⟩⟩ ?_ fun d hd => (J.good d hd).2.2.2
      · omega
      · omega
      · have := (x48.trans (xH8.trans x9.of)).free hp10
        exact x04.free this
      · rw [List.length_append]; omega
      · rw [List.length_append, List.length_map, List.length_take]; omega
      · rw [List.length_append, List.length_map, List.length_take]; omega

end Tw
end

section
set_option Elab.async false
set_option linter.all false
set_option maxRecDepth 100000
set_option maxHeartbeats 4000000
namespace Tw
open PySem L2 PyProof.Rows

/-! ### literals are good data -/
mutual
def Lt.okxL : Nat → Lt → Bool
  | _, .non => true
  | _, .bl _ => true
  | _, .int _ => true
  | _, .dct => true
  | _, .str s => okS s
  | n, .var _ => decide (6 ≤ n)
  | 0, .tup _ => false
  | 0, .lst _ => false
  | n + 1, .tup ls => decide (ls.length ≤ 1000) && Lt.okxLs n ls
  | n + 1, .lst ls => decide (ls.length ≤ 1000) && Lt.okxLs n ls
def Lt.okxLs : Nat → List Lt → Bool
  | _, [] => true
  | n, l :: ls => Lt.okxL n l && Lt.okxLs n ls
end
section
variable {dv : Nat → PyData}
mutual
theorem Lt.okx_d : ∀ {n : Nat} {L : Lt}, Lt.okxL n L = true → (∀ k, okx 6 (dv k) = true) → okx n (L.d dv) = true
  | n, .non, _, _ => by rw [Lt.d]; cases n <;> rw [okx]
  | n, .bl _, _, _ => by rw [Lt.d]; cases n <;> rw [okx]
  | n, .int _, _, _ => by rw [Lt.d]; cases n <;> rw [okx]
  | n, .dct, _, _ => by rw [Lt.d]; cases n <;> rw [okx] <;> rfl
  | n, .str s, h, _ => by rw [Lt.d, okx_str]; cases n <;> (rw [Lt.okxL] at h; exact h)
  | n, .var k, h, hv => by
    have h' : 6 ≤ n := by cases n <;> (rw [Lt.okxL] at h; exact of_decide_eq_true h)
    rw [Lt.d]
    exact okx_le (hv k) h'
  | 0, .tup _, h, _ => by simp [Lt.okxL] at h
  | 0, .lst _, h, _ => by simp [Lt.okxL] at h
  | n + 1, .tup ls, h, hv => by
    rw [Lt.okxL, Bool.and_eq_true] at h
    have := of_decide_eq_true h.1
    rw [Lt.d, okx_tuple, Lt.ds_len]
    exact ⟨Lt.okx_ds h.2 hv, by omega⟩
  | n + 1, .lst ls, h, hv => by
    rw [Lt.okxL, Bool.and_eq_true] at h
    have := of_decide_eq_true h.1
    rw [Lt.d, okx_list, Lt.ds_len]
    exact ⟨Lt.okx_ds h.2 hv, by omega⟩
theorem Lt.okx_ds : ∀ {n : Nat} {ls : List Lt}, Lt.okxLs n ls = true → (∀ k, okx 6 (dv k) = true) → okxs n (Lt.ds dv ls) = true
  | n, [], _, _ => by rw [Lt.ds, okxs]
  | n, l :: ls, h, hv => by
    rw [Lt.okxLs, Bool.and_eq_true] at h
    rw [Lt.ds, okxs_cons]
    exact ⟨Lt.okx_d h.1 hv, Lt.okx_ds h.2 hv⟩
end
end
/-- a first thing that is a text or a list of one -/
def Lt.okL : Lt → Bool
  | .non => true
  | .bl _ => true
  | .int _ => true
  | .str s => okS s
  | .lst [.str s] => okS s
  | _ => false
def Lt.fineL : Lt → Bool
  | .tup (a :: _) => a.okL
  | .lst (a :: _) => a.okL
  | .var _ => false
  | _ => true
theorem Lt.ok_d {dv : Nat → PyData} : ∀ {L : Lt}, L.okL = true → ok 20 (L.d dv) = true
  | .non, _ => by rw [Lt.d, ok]
  | .bl _, _ => by rw [Lt.d, ok]
  | .int _, _ => by rw [Lt.d, ok]
  | .str s, h => by rw [Lt.d, ok_str]; exact h
  | .lst [.str s], h => by
    rw [Lt.d, Lt.ds, Lt.ds, Lt.d, ok_list, oks_cons, ok_str]
    exact ⟨⟨h, by rw [oks]⟩, by simp⟩
theorem Lt.fine_d {dv : Nat → PyData} {L : Lt} (h : L.fineL = true) : fine (L.d dv) = true := by
  cases L with
  | tup ls =>
    cases ls with
    | nil => rw [Lt.d, Lt.ds]; rfl
    | cons a ls => rw [Lt.d, Lt.ds]; exact Lt.ok_d h
  | lst ls =>
    cases ls with
    | nil => rw [Lt.d, Lt.ds]; rfl
    | cons a ls => rw [Lt.d, Lt.ds]; exact Lt.ok_d h
  | var k => cases h
  | non => rw [Lt.d]; rfl
  | bl b => rw [Lt.d]; rfl
  | int b => rw [Lt.d]; rfl
  | str b => rw [Lt.d]; rfl
  | dct => rw [Lt.d]; rfl
/-- an odd thing -/
def odd (d : PyData) : Prop := okx 12 d = true ∧ fine d = true ∧ size d ≤ 1000
mutual
def Lt.sz : Lt → Nat
  | .non => 1
  | .bl _ => 1
  | .int _ => 1
  | .dct => 1
  | .str _ => 1
  | .var _ => 20
  | .tup ls => Lt.szs ls + 1
  | .lst ls => Lt.szs ls + 1
def Lt.szs : List Lt → Nat
  | [] => 0
  | l :: ls => Lt.sz l + Lt.szs ls
end
section
variable {dv : Nat → PyData}
mutual
theorem Lt.size_d : ∀ {L : Lt}, (∀ k, size (dv k) ≤ 20) → size (L.d dv) ≤ L.sz
  | .non, _ => by rw [Lt.d, Lt.sz, size]; exact Nat.le_refl _
  | .bl _, _ => by rw [Lt.d, Lt.sz, size]; exact Nat.le_refl _
  | .int _, _ => by rw [Lt.d, Lt.sz, size]; exact Nat.le_refl _
  | .dct, _ => by rw [Lt.d, Lt.sz, size]; exact Nat.le_refl _
  | .str _, _ => by rw [Lt.d, Lt.sz, size]; exact Nat.le_refl _
  | .var k, h => by rw [Lt.d, Lt.sz]; exact h k
  | .tup ls, h => by rw [Lt.d, Lt.sz, size]; exact Nat.succ_le_succ (Lt.size_ds h)
  | .lst ls, h => by rw [Lt.d, Lt.sz, size]; exact Nat.succ_le_succ (Lt.size_ds h)
theorem Lt.size_ds : ∀ {ls : List Lt}, (∀ k, size (dv k) ≤ 20) → sizes (Lt.ds dv ls) ≤ Lt.szs ls
  | [], _ => by rw [Lt.ds, Lt.szs, sizes]; exact Nat.le_refl _
  | l :: ls, h => by rw [Lt.ds, Lt.szs, sizes]; exact Nat.add_le_add (Lt.size_d h) (Lt.size_ds h)
end
end
theorem odd_ds {dv : Nat → PyData} : ∀ {ls : List Lt}, Lt.okxLs 12 ls = true → ls.all (fun l => Lt.fineL l && decide (Lt.sz l ≤ 1000)) = true → (∀ k, okx 6 (dv k) = true) → (∀ k, size (dv k) ≤ 20) → ∀ d ∈ Lt.ds dv ls, odd d
  | [], _, _, _, _, d, hd => by rw [Lt.ds] at hd; simp at hd
  | l :: ls, h, g, hv, hz, d, hd => by
    rw [Lt.okxLs, Bool.and_eq_true] at h
    rw [List.all_cons, Bool.and_eq_true, Bool.and_eq_true] at g
    rw [Lt.ds] at hd
    rcases List.mem_cons.mp hd with e | e
    · rw [e]; exact ⟨Lt.okx_d h.1 hv, Lt.fine_d g.1.1, Nat.le_trans (Lt.size_d hz) (of_decide_eq_true g.1.2)⟩
    · exact odd_ds h.2 g.2 hv hz d e
theorem faultL_each : ∀ {ds : List PyData} {known told : List Str} {i : Nat}, faultL known told i ds = none → ∀ d ∈ ds, ∃ k t, lineD k t d = true
  | [], _, _, _, _, d, hd => by simp at hd
  | e :: ds, known, told, i, h, d, hd => by
    rw [faultL] at h
    by_cases hl : lineD known told e = true
    · rw [if_pos hl] at h
      rcases List.mem_cons.mp hd with z | z
      · exact ⟨_, _, z ▸ hl⟩
      · exact faultL_each h d z
    · rw [if_neg hl] at h
      cases h
theorem ok_fine {d : PyData} (h : ok 6 d = true) : fine d = true := by
  unfold fine
  cases d with
  | list ds =>
    cases ds with
    | nil => rfl
    | cons a as => rw [ok_list, oks_cons] at h; exact ok_le h.1.1 (by decide)
  | tuple ds =>
    cases ds with
    | nil => rfl
    | cons a as => rw [ok_tuple, oks_cons] at h; exact ok_le h.1.1 (by decide)
  | _ => rfl
/-! ### promises -/
def spSame (m : Nat) : Sp := fun vs H Q _ => ∃ (F G : List Addr) (v u : V) (d : PyData) (n : Nat), vs = [v, u] ∧ Rp F H v d ∧ Rp G H u d ∧ ok n d = true ∧ n < m ∧ n ≤ 60 ∧ ∀ H', ExF [] H H' → Q (.bl true) H'
def spLoose (m : Nat) : Sp := fun vs H Q _ => ∃ (st cl : Addr) (c : Nat) (F G : List Addr) (v : V) (d : PyData) (n : Nat), vs = [.ref st, v] ∧ Strm st cl H c ∧ st ∈ F ∧ cl ∈ F ∧ Rp F H v d ∧ ok n d = true ∧ n < m ∧ c + size d < 2 ^ 48 ∧ Trk G H ∧
  ∀ r d' c' H', c ≤ c' → c' ≤ c + size d → Strm st cl H' c' → ExF [st, cl] H H' → Rp G H' r d' → tupD d' = tupD d → ok n d' = true → (isSeq d = true → ∃ a, r = .ref a ∧ H a = none) → Q r H'
def spOdds : Sp := fun vs H Q _ => ∃ (st cl : Addr) (c : Nat) (F G : List Addr) (l : Addr) (xs : List V) (ds : List PyData), vs = [.ref st, .ref l] ∧ Strm st cl H c ∧ c < 2 ^ 48 ∧ st ∈ F ∧ cl ∈ F ∧ H l = some (.lst xs) ∧ l ∉ F ∧ RpL F H xs ds ∧ GoodL ds ∧ Trk G H ∧
  ∀ r ys es H', Strm st cl H' (c + 1) → ExF [st, cl] H H' → H r = none → H' r = some (.lst ys) → RpL G H' ys es → (∀ d ∈ es, odd d) → es.length ≤ 100 → Q (.ref r) H'
end Tw
end

section
set_option Elab.async false
set_option linter.all false
set_option maxRecDepth 100000
set_option maxHeartbeats 4000000
namespace Tw
open PySem L2 PyProof.Rows
noncomputable def t_l_same_t3 (K : PySem.W.Frag) (m : Nat) : TS := tRet (tAndV (tNotV (tCB (rIsiU K) (tCons (tVar 0) (tCons (tTupU (tCons (tC (.ty "int")) (tCons (tC (.ty "list")) (tCons (tC (.ty "tuple")) (tCons (tC (.ty "dict")) (tNil)))))) (tNil))))) (tOp (rEqU K) (tVar 0) (tVar 1)))
noncomputable def t_l_same_t2 (K : PySem.W.Frag) (m : Nat) : TS := tSeq (tIfS (tB (tCB (rIsiU K) (tCons (tVar 1) (tCons (tC (.ty "int")) (tNil))))) (tRet (tAndV (tCB (rIsiU K) (tCons (tVar 0) (tCons (tC (.ty "int")) (tNil)))) (tAndV (tOp (rEqU K) (tCB (rIsiU K) (tCons (tVar 0) (tCons (tC (.ty "bool")) (tNil)))) (tCB (rIsiU K) (tCons (tVar 1) (tCons (tC (.ty "bool")) (tNil))))) (tOp (rEqU K) (tVar 0) (tVar 1))))) (tNext)) (t_l_same_t3 K m)
noncomputable def t_l_same_t1 (K : PySem.W.Frag) (m : Nat) : TS := tSeq (tIfS (tB (tCB (rIsiU K) (tCons (tVar 1) (tCons (tC (.ty "dict")) (tNil))))) (tNoS) (tNext)) (t_l_same_t2 K m)
noncomputable def t_l_same (K : PySem.W.Frag) (m : Nat) : TS := tSeq (tIfS (tB (tCB (rIsiU K) (tCons (tVar 1) (tCons (tTupU (tCons (tC (.ty "list")) (tCons (tC (.ty "tuple")) (tNil)))) (tNil))))) (tSeq (tIfS (tOr (tTest (tOp (rNeU K) (tCB (rIsiU K) (tCons (tVar 0) (tCons (tC (.ty "list")) (tNil)))) (tCB (rIsiU K) (tCons (tVar 1) (tCons (tC (.ty "list")) (tNil)))))) (tTest (tOp (rNeU K) (tCB (rIsiU K) (tCons (tVar 0) (tCons (tC (.ty "tuple")) (tNil)))) (tCB (rIsiU K) (tCons (tVar 1) (tCons (tC (.ty "tuple")) (tNil))))))) (tRet (tC (.bl false))) (tNext))
      (tRet (tAndV (tOp (rEqU K) (tCB (rLenU K) (tCons (tVar 0) (tNil))) (tCB (rLenU K) (tCons (tVar 1) (tNil)))) (tCB (rAllU K) (tCons (tLcU (RZ.iZipA K (tCons (tVar 0) (tCons (tVar 1) (tNil)))) (gTup K 2 (gCons (gName 2) (gCons (gName 3) (gNil)))) (tYes) (tCall (spSame m) [] E0 (tCons (tVar 2) (tCons (tVar 3) (tNil)))) [2, 3]) (tNil)))))) (tNext)) (t_l_same_t1 K m)
noncomputable def t_l_loose_t2 (K : PySem.W.Frag) (m : Nat) : TS := tRet (tIf (tTest (tOp (rEqU K) (tCall spDraw [] E0 (tCons (tVar 0) (tCons (tC (.int 3)) (tNil)))) (tC (.int 0)))) (tVar 2) (tCB (rTupOf K) (tCons (tVar 2) (tNil))))
noncomputable def t_l_loose_t1 (K : PySem.W.Frag) (m : Nat) : TS := tSeq (tAsg (tLcU (iSeqU K (tVar 1)) (gName 3) (tYes) (tCall (spLoose m) [] E0 (tCons (tVar 0) (tCons (tVar 3) (tNil)))) [3]) (gName 2)) (t_l_loose_t2 K m)
noncomputable def t_l_loose (K : PySem.W.Frag) (m : Nat) : TS := tSeq (tIfS (tNot (tB (tCB (rIsiU K) (tCons (tVar 1) (tCons (tTupU (tCons (tC (.ty "list")) (tCons (tC (.ty "tuple")) (tNil)))) (tNil)))))) (tRet (tVar 1)) (tNext)) (t_l_loose_t1 K m)
noncomputable def t_l_odds_b4 (K : PySem.W.Frag) : TS := tSeq (tDrop (tBM K "list" (rExtU K) (tVar 3) (tCons (tLt (.lst [.tup [.str "read", .var 4], .lst [.str "give", .var 4, .tup [.str "f"]], .tup [.str "give", .str "new2", .lst [.var 4]]])) (tNil))))
      (tDrop (tBM K "list" (rAppendU) (tVar 3) (tCons (tLt (.tup [.str "give", .str "new3", .tup [.str "f", .lst [.var 4, .var 2]]])) (tNil))))
noncomputable def t_l_odds_b5 (K : PySem.W.Frag) : TS := tDrop (tBM K "list" (rAppendU) (tVar 3) (tCons (tLt (.tup [.str "give", .str "new4", .var 4])) (tNil)))
noncomputable def t_l_odds_t6 (K : PySem.W.Frag) : TS := tRet (tVar 3)
noncomputable def t_l_odds_t5 (K : PySem.W.Frag) : TS := tSeq (tForU (iSeqU K (tLt (.tup [.non, .int 5, .bl true, .tup [], .str "nobody", .dct, .lst [.int 5], .tup [.str "f", .non], .lst [.str "f", .tup [.str "g", .str "nobody"]], .lst [.tup [.str "f"]], .tup [.str "f", .str "f", .tup []]]))) (gName 4) (t_l_odds_b5 K)) (t_l_odds_t6 K)
noncomputable def t_l_odds_t4 (K : PySem.W.Frag) : TS := tSeq (tForU (iSeqU K (tLt (.tup [.str "A", .str "1a", .str "", .str "a b", .str "a_b", .str "nineletrs", .str "read", .str "tell", .int 5, .non, .lst [.str "a"], .str "a\n", .str "b7"]))) (gName 4) (t_l_odds_b4 K)) (t_l_odds_t5 K)
noncomputable def t_l_odds_t3 (K : PySem.W.Frag) : TS := tSeq (tDrop (tBM K "list" (rExtU K) (tVar 3) (tCons (tLt (.lst [.tup [.str "tell", .str "zz8"], .tup [.str "give", .var 2]])) (tNil)))) (t_l_odds_t4 K)
noncomputable def t_l_odds_t2 (K : PySem.W.Frag) : TS := tSeq (tDrop (tBM K "list" (rExtU K) (tVar 3) (tCons (tLt (.lst [.tup [.str "ask", .var 2], .tup [.lst [.str "read"], .var 2], .tup [.str "read", .var 2], .tup [.str "tell", .var 2], .lst [.str "give", .str "new1", .var 2]])) (tNil)))) (t_l_odds_t3 K)
noncomputable def t_l_odds_t1 (K : PySem.W.Frag) : TS := tSeq (tAsg (tLt (.lst [.non, .int 5, .bl true, .str "re", .str "read a", .dct, .tup [], .lst [], .tup [.str "read"], .tup [.str "give", .str "zz9"], .tup [.str "read", .var 2, .var 2]])) (gName 3)) (t_l_odds_t2 K)
noncomputable def t_l_odds (K : PySem.W.Frag) : TS := tSeq (tAsg (tCall spPick [] E0 (tCons (tVar 0) (tCons (tOp (rAddU K) (tLcU (iSeqU K (tVar 1)) (gName 5) (tYes) (tOp (rIxU K) (tVar 5) (tC (.int 1))) [5]) (tLt (.lst [.str "zz9"]))) (tNil)))) (gName 2)) (t_l_odds_t1 K)

theorem rd_l_same (K : PySem.W.Frag) (m : Nat) {vs : List V} {H : Hp} {Q : VK} {E : XK} (h : spSame (m + 1) vs H Q E) :
    t_l_same K m { nx := fun _ H' => Q .non H', rt := Q } (start ["_law_found", "_law_due", "_law_x", "_law_y"] vs) H := by
  obtain ⟨F, G, v, u, d, n, rfl, rv, ru, hd, hnm, hn60, q⟩ := h
  have sz : sizeLine = 16777216 := sizeLine_eq
  refine ⟨_, rfl, by show 2 ≤ sizeLine; decide, fun p1 H1 hp1 e1 => ?_⟩
  have x1 : ExF [] H H1 := exn e1 hp1
  have rv1 := rv.ex x1.of
  have ru1 := ru.ex x1.of
  refine isi_seq ru1 (eqs e1) ⟨_, rfl, ?_⟩
  -- a row: each the same
  have seq : ∀ (a b : Addr) (xs ys : List V) (ds : List PyData), v = .ref a → u = .ref b → Sq2 H1 a b xs ys → RpL F H1 xs ds → RpL G H1 ys ds → oks (n - 1) ds = true → 0 < n → ds.length ≤ 100000 → ∀ nx : L2.St → Hp → Prop,
      tRet (tAndV (tOp (rEqU K) (tCB (rLenU K) (tCons (tVar 0) (tNil))) (tCB (rLenU K) (tCons (tVar 1) (tNil)))) (tCB (rAllU K) (tCons (tLcU (RZ.iZipA K (tCons (tVar 0) (tCons (tVar 1) (tNil)))) (gTup K 2 (gCons (gName 2) (gCons (gName 3) (gNil)))) (tYes) (tCall (spSame m) [] E0 (tCons (tVar 2) (tCons (tVar 3) (tNil)))) [2, 3]) (tNil))))
        { nx := nx, rt := Q } [some v, some u, none, none] H1 := by
    rintro a b xs ys ds rfl rfl h2 rx ry ho hn hl nx
    have lx := rx.1
    have ly := ry.1
    refine ⟨_, rfl, lenSq h2.l ⟨_, rfl, lenSq h2.r (eqI ?_)⟩⟩
    have e : (((xs.length : Nat) : Int) = ((ys.length : Nat) : Int)) := by omega
    rw [decide_eq_true e]
    refine ⟨_, rfl, ?_⟩
    refine iteT ?_
    refine lcZipT rfl rfl h2 (by omega) (by omega) (fun _ _ => rfl) ?_ ?_
    · intro i x y H2 hx hy x2 Qc k
      obtain ⟨e, he, r1⟩ := rx.get' hx
      obtain ⟨e', he', r2⟩ := ry.get' hy
      rw [he] at he'
      cases he'
      exact ⟨_, rfl, _, rfl, F, G, x, y, e, n - 1, rfl, r1.ex x2.of, r2.ex x2.of, oks_iff.mp ho e (List.mem_of_getElem? he), by omega, by omega, fun H3 x3 => k H3 x3⟩
    · intro r H2 hr h x2
      refine allB h ?_
      have e : (List.replicate xs.length true).all id = true := by simp
      rw [e]
      exact q H2 (x1.trans x2)
  have rest : isSeq d = false → isDict d = false → t_l_same_t2 K m { nx := fun _ H' => Q .non H', rt := Q } [some v, some u, none, none] H1 := by
    intro h1 h2
    refine ⟨_, rfl, isi_int ru1 ⟨_, rfl, ?_⟩⟩
    cases d with
    | list ds => cases h1
    | tuple ds => cases h1
    | dict kvs => cases h2
    | int i =>
      cases rv1; cases ru1
      refine iteT ?_
      refine ⟨_, rfl, isi_int (F := []) (.int i) ⟨_, rfl, iteT ?_⟩⟩
      refine ⟨_, rfl, isi_bool (F := []) (.int i) ⟨_, rfl, isi_bool (F := []) (.int i) (eqB ⟨_, rfl, iteT ?_⟩)⟩⟩
      refine ⟨_, rfl, _, rfl, eqI ?_⟩
      rw [decide_eq_true rfl]
      exact q H1 x1
    | bool i =>
      cases rv1; cases ru1
      refine iteT ?_
      refine ⟨_, rfl, isi_int (F := []) (.bl i) ⟨_, rfl, iteT ?_⟩⟩
      refine ⟨_, rfl, isi_bool (F := []) (.bl i) ⟨_, rfl, isi_bool (F := []) (.bl i) (eqB ⟨_, rfl, iteT ?_⟩)⟩⟩
      refine ⟨_, rfl, _, rfl, eqB ?_⟩
      rw [beq_self_eq_true]
      exact q H1 x1
    | none =>
      refine iteF ?_
      refine ⟨_, rfl, by show 4 ≤ sizeLine; decide, fun p2 H2 hp2 e2 => ?_⟩
      have x2 : ExF [] H1 H2 := exn e2 hp2
      refine isi_iltd (rv1.ex x2.of) (eqs e2) ⟨_, rfl, ?_⟩
      refine ⟨_, rfl, iteT ?_⟩
      refine ⟨_, rfl, _, rfl, eqO (n := 0) (m := 0) (rv1.ex x2.of) (ru1.ex x2.of) (by rw [ok_none]) (by rw [ok_none]) ?_⟩
      exact q H2 (x1.trans x2)
    | str s =>
      cases rv1; cases ru1
      refine iteF ?_
      refine ⟨_, rfl, by show 4 ≤ sizeLine; decide, fun p2 H2 hp2 e2 => ?_⟩
      have x2 : ExF [] H1 H2 := exn e2 hp2
      refine isi_iltd (F := []) (.str s) (eqs e2) ⟨_, rfl, ?_⟩
      refine ⟨_, rfl, iteT ?_⟩
      refine ⟨_, rfl, _, rfl, eqS ?_⟩
      rw [decide_eq_true rfl]
      exact q H2 (x1.trans x2)
  cases hq : isSeq d with
  | false =>
    refine iteF ?_
    refine ⟨_, rfl, isi_dict ru1 ⟨_, rfl, ?_⟩⟩
    cases hdd : isDict d with
    | true =>
      cases d <;> simp [isDict] at hdd
      cases n <;> simp [ok] at hd
    | false =>
      refine iteF ?_
      exact rest hq hdd
  | true =>
    refine iteT ?_
    refine ⟨_, rfl, isi_list rv1 ⟨_, rfl, isi_list ru1 (neB ⟨_, rfl, ?_⟩)⟩⟩
    rw [bne_self_eq_false]
    refine iteF ?_
    refine ⟨_, rfl, isi_tuple rv1 ⟨_, rfl, isi_tuple ru1 (neB ⟨_, rfl, ?_⟩)⟩⟩
    rw [bne_self_eq_false]
    refine iteF ?_
    cases d with
    | list ds =>
      obtain ⟨a, xs, rfl, _, ha, rx⟩ := rv1.list_inv
      obtain ⟨b, ys, rfl, _, hb, ry⟩ := ru1.list_inv
      cases n with
      | zero => simp [ok] at hd
      | succ n =>
        rw [ok_list] at hd
        exact seq a b xs ys ds rfl rfl (.inl ⟨ha, hb⟩) rx ry hd.1 (by omega) hd.2 _
    | tuple ds =>
      obtain ⟨a, xs, rfl, _, ha, rx⟩ := rv1.tuple_inv
      obtain ⟨b, ys, rfl, _, hb, ry⟩ := ru1.tuple_inv
      cases n with
      | zero => simp [ok] at hd
      | succ n =>
        rw [ok_tuple] at hd
        exact seq a b xs ys ds rfl rfl (.inr ⟨ha, hb⟩) rx ry hd.1 (by omega) hd.2 _
    | _ => cases hq
theorem sizes_take : ∀ (ds : List PyData) (i : Nat) (d : PyData), ds[i]? = some d → sizes (ds.take (i + 1)) = sizes (ds.take i) + size d := fun ds i d h => by
  rw [List.take_succ, h, sizes_append]
  simp [sizes]
theorem sizes_take_le : ∀ (ds : List PyData) (i : Nat), sizes (ds.take i) ≤ sizes ds := fun ds i => by
  have : sizes ds = sizes (ds.take i) + sizes (ds.drop i) := by rw [← sizes_append, List.take_append_drop]
  omega
theorem tups_append : ∀ (ds es : List PyData), tups (ds ++ es) = tups ds ++ tups es := fun ds es => by rw [tups_map, tups_map, tups_map, List.map_append]
theorem tups_len (ds : List PyData) : (tups ds).length = ds.length := by rw [tups_map, List.length_map]
theorem rd_l_loose (K : PySem.W.Frag) (m : Nat) {vs : List V} {H : Hp} {Q : VK} {E : XK} (h : spLoose (m + 1) vs H Q E) :
    t_l_loose K m { nx := fun _ H' => Q .non H', rt := Q } (start ["_law_stream", "_law_thing", "_law_found", "_law_part"] vs) H := by
  obtain ⟨st, cl, c, F, G, v, d, n, rfl, S, fs, fc, rv, hd, hnm, hc, tG, q⟩ := h
  have sz : sizeLine = 16777216 := sizeLine_eq
  have sub : ∀ {a b : Hp}, ExF [st, cl] a b → ExF F a b := fun x => x.sub (by intro a z; simp at z; rcases z with z | z <;> (rw [z]; assumption))
  refine ⟨_, rfl, by show 2 ≤ sizeLine; decide, fun p1 H1 hp1 e1 => ?_⟩
  have x1 : ExF [] H H1 := exn e1 hp1
  have rv1 := rv.ex x1.of
  have S1 : Strm st cl H1 c := S.ex' (by simp) (by simp) x1
  refine isi_seq rv1 (eqs e1) ⟨_, rfl, ?_⟩
  -- a row
  have seq : ∀ (a : Addr) (xs : List V) (ds : List PyData), v = .ref a → a ∉ F → Sq H1 a xs → RpL F H1 xs ds → oks (n - 1) ds = true → 0 < n → ds.length ≤ 100000 → tupD d = .tuple (tups ds) → size d = sizes ds + 1 →
      t_l_loose_t1 K m { nx := fun _ H' => Q .non H', rt := Q } [some (.ref st), some v, none, none] H1 := by
    rintro a xs ds rfl nF ha rx ho hn hl ht hsz
    have lx := rx.1
    have nM : a ∉ [st, cl] := fun z => nF (by simp at z; rcases z with z | z <;> (rw [z]; assumption))
    refine lcS (M := [st, cl]) (xs := xs) (iter_var (a := a) rfl ha nM) (fun H0 D i H' => ∃ (acc : List V) (es : List PyData) (c' : Nat), acc.length = i ∧ H' D = some (.lst acc) ∧ RpL (D :: st :: cl :: G) H' acc es ∧ tups es = tups (ds.take i) ∧ oks (n - 1) es = true ∧ c ≤ c' ∧ c' ≤ c + sizes (ds.take i) ∧ Strm st cl H' c' ∧ ExF [D, st, cl] H0 H')
      ?_ (fun H0 D i H' hD ⟨_, _, _, _, _, _, _, _, _, _, _, x⟩ => x) ?_ ?_
    · intro H0 D H2 x0 hD e2
      exact ⟨[], [], c, rfl, eqs e2, .nil, by simp [tups], by rw [oks], Nat.le_refl _, by omega, (S1.ex' (F := []) (by simp) (by simp) x0).ex' (F := []) (by simp) (by simp) (exn e2 hD), exn e2 hD⟩
    · rintro H0 D i x H2 x0 hD hx ⟨acc, es, c', ha2, hH, rr, ht2, ho2, l1, u1, S2, x2⟩
      obtain ⟨e, he, re⟩ := rx.get' hx
      have hi : i < xs.length := (List.getElem?_eq_some_iff.mp hx).1
      refine ⟨rfl, ?_⟩
      unfold tYes
      dsimp only
      rw [if_pos rfl]
      have hst := sizes_take ds i e he
      have hle := sizes_take_le ds (i + 1)
      have x12 : ExF [st, cl] H1 H2 := by
        have y : ExF [D, st, cl] H1 H2 := x0.of.trans x2
        exact y.drop (x0.free hD)
      have hDs : D ≠ st := fun z => (S1.trk.ex x0) st (by simp) (by rw [← z]; exact hD)
      have hDc : D ≠ cl := fun z => (S1.trk.ex x0) cl (by simp) (by rw [← z]; exact hD)
      refine ⟨_, rfl, _, rfl, st, cl, c', F, D :: st :: cl :: G, x, e, n - 1, rfl, S2, fs, fc, re.ex (sub x12), oks_iff.mp ho e (List.mem_of_getElem? he), by omega, by omega, ?_, fun r d' c'' H3 l2 u2 S3 x3 rr' ht' ho' _ => ?_⟩
      · intro b hb
        simp only [List.mem_cons] at hb
        rcases hb with z | z | z | z
        · rw [z, hH]; exact fun z => nomatch z
        · rw [z]; exact S2.trk st (by simp)
        · rw [z]; exact S2.trk cl (by simp)
        · exact x12.kept b (x1.kept b (tG b z))
      · have h3 : H3 D = some (.lst acc) := x3.at_ _ _ (by simp [hDs, hDc]) hH
        refine ⟨acc, h3, by omega, ?_⟩
        generalize e7 : upd H3 D (.lst (acc ++ [r])) = H4
        have e7 := e7.symm
        have x34 : ExF (D :: st :: cl :: G) H3 H4 := exm e7 (.inr (by simp)) ExF.refl
        refine ⟨acc ++ [r], es ++ [d'], c'', by simp [ha2], eqs e7, ((rr.ex (x3.sub (by intro a z; simp at z; rcases z with z | z <;> simp [z]))).ex x34).snoc (rr'.ex x34), ?_, ?_, by omega, by omega, S3.ex' (F := [D]) (by simp [Ne.symm hDs]) (by simp [Ne.symm hDc]) (exm e7 (.inr (by simp)) ExF.refl), ?_⟩
        · rw [List.take_succ, he, tups_append, tups_append, ht2]
          simp [tups, ht']
        · rw [oks_append, oks_cons]
          exact ⟨ho2, ho', by rw [oks]⟩
        · exact exm e7 (.inr (by simp)) (x2.trans (x3.sub (by intro a z; simp at z; rcases z with z | z <;> simp [z])))
    · rintro H0 D H2 x0 hD ⟨acc, es, c', ha2, hH, rr, ht2, ho2, l1, u1, S2, x2⟩
      rw [lx, List.take_length] at ht2 u1
      have hel : es.length ≤ 100000 := by have := congrArg List.length ht2; rw [tups_len, tups_len] at this; omega
      have x12 : ExF [st, cl] H H2 := by
        have y : ExF [D, st, cl] H H2 := (x1.trans x0).of.trans x2
        exact y.drop ((x1.trans x0).free hD)
      have nDG : D ∉ G := fun z => (tG.ex (x1.trans x0)) D z hD
      have hDs : D ≠ st := fun z => (S1.trk.ex x0) st (by simp) (by rw [← z]; exact hD)
      have hDc : D ≠ cl := fun z => (S1.trk.ex x0) cl (by simp) (by rw [← z]; exact hD)
      refine ⟨_, rfl, st, cl, c', 3, rfl, S2, by omega, by decide, by decide, fun k H3 g0 g1 S3 x3 => ?_⟩
      have h3 : H3 D = some (.lst acc) := x3.at_ _ _ (by simp [hDs, hDc]) hH
      have rr3 : RpL (D :: st :: cl :: G) H3 acc es := rr.ex (x3.sub (by intro a z; simp at z; rcases z with z | z <;> simp [z]))
      have rG : RpL G H3 acc es := rr3.sub (by intro a z; simp [z])
      have en : n - 1 + 1 = n := by omega
      refine eqI ⟨_, rfl, ?_⟩
      refine ite2 (fun _ => ?_) (fun _ => ?_)
      · refine ⟨_, rfl, q (.ref D) (.list es) (c' + 1) H3 (by omega) (by omega) S3 (x12.trans x3) (.list nDG h3 rG) ?_ ?_ fun _ => ⟨D, rfl, (x1.trans x0).free hD⟩⟩
        · rw [ht, tupD, ht2]
        · rw [← en, ok_list]; exact ⟨ho2, hel⟩
      · refine ⟨_, rfl, tupOfL h3 fun p4 H4 hp4 e4 => ?_⟩
        have x4 : ExF [] H3 H4 := exn e4 hp4
        have n4 : p4 ∉ G := fun z => (tG.ex (x12.trans x3)) p4 z hp4
        refine q (.ref p4) (.tuple es) (c' + 1) H4 (by omega) (by omega) (S3.ex' (by simp) (by simp) x4) ((x12.trans x3).trans x4.of) (.tuple n4 (eqs e4) (rG.ex x4.of)) ?_ ?_ fun _ => ⟨p4, rfl, (x12.trans x3).free hp4⟩
        · rw [ht, tupD, ht2]
        · rw [← en, ok_tuple]; exact ⟨ho2, hel⟩
  have leaf : ∀ nx : L2.St → Hp → Prop, isSeq d = false → Rp G H1 v d → tRet (tVar 1) { nx := nx, rt := Q } [some (.ref st), some v, none, none] H1 := fun nx _ rr => ⟨_, rfl, q v d c H1 (Nat.le_refl _) (by omega) S1 x1.of rr rfl hd fun h => absurd h (by simp [*])⟩
  cases d with
  | list ds =>
    obtain ⟨a, xs, rfl, nF, ha, rx⟩ := rv1.list_inv
    refine iteF ?_
    cases n with
    | zero => simp [ok] at hd
    | succ n =>
      rw [ok_list] at hd
      exact seq a xs ds rfl nF (.inl ha) rx hd.1 (by omega) hd.2 (by rw [tupD]) (by rw [size])
  | tuple ds =>
    obtain ⟨a, xs, rfl, nF, ha, rx⟩ := rv1.tuple_inv
    refine iteF ?_
    cases n with
    | zero => simp [ok] at hd
    | succ n =>
      rw [ok_tuple] at hd
      exact seq a xs ds rfl nF (.inr ha) rx hd.1 (by omega) hd.2 (by rw [tupD]) (by rw [size])
  | none => cases rv1; exact iteT (leaf _ rfl .non)
  | bool b => cases rv1; exact iteT (leaf _ rfl (.bl b))
  | int i => cases rv1; exact iteT (leaf _ rfl (.int i))
  | str s => cases rv1; exact iteT (leaf _ rfl (.str s))
  | dict kvs => cases n <;> simp [ok] at hd
/-- what is found so far, at fl -/
def FS (fl : Addr) (G : List Addr) (H : Hp) (es : List PyData) : Prop := ∃ xs, H fl = some (.lst xs) ∧ RpL (fl :: G) H xs es
section
variable {K : PySem.W.Frag} {D : Ends} {σ : L2.St} {H : Hp} {fl : Addr} {G : List Addr} {es : List PyData} {dv : Nat → PyData}
theorem FS.ex {H' : Hp} (h : FS fl G H es) (x : ExF [] H H') : FS fl G H' es := by
  obtain ⟨xs, h1, r⟩ := h
  exact ⟨xs, x.at_ _ _ (by simp) h1, r.ex x.of⟩
theorem FS.trk (h : FS fl G H es) (t : Trk G H) : Trk (fl :: G) H := by
  obtain ⟨xs, h1, r⟩ := h
  exact t.cons h1
theorem extLit {ls : List Lt} {vs : List Nat} (s3 : σ[3]? = some (some (.ref fl))) (g : Lt.goods vs ls = true) (hl : ls.length ≤ 1000) (hv : ∀ k, vs.contains k = true → ∃ v, σ[k]? = some (some v) ∧ Rp (fl :: G) H v (dv k)) (t : Trk G H) (F : FS fl G H es) (hz : es.length ≤ 1000)
    (q : ∀ H', ExF [fl] H H' → FS fl G H' (es ++ Lt.ds dv ls) → D.nx σ H') : tDrop (tBM K "list" (rExtU K) (tVar 3) (tCons (tLt (.lst ls)) (tNil))) D σ H := by
  obtain ⟨xs, h1, r⟩ := F
  have sz : sizeLine = 16777216 := sizeLine_eq
  refine ⟨_, s3, tyL h1, lit dv (fl :: G) vs (by rw [Lt.good, Bool.and_eq_true]; exact ⟨decide_eq_true hl, g⟩) hv (t.cons h1) fun v H1 x1 rv => ?_⟩
  rw [Lt.d] at rv
  obtain ⟨b, ys, rfl, nb, hb, ry⟩ := rv.list_inv
  have h1' := x1.at_ _ _ (by simp) h1
  have ly := ry.1
  rw [Lt.ds_len] at ly
  have lx := r.1
  refine extL h1' hb (by omega) fun H2 e2 => ?_
  have x2 : ExF (fl :: G) H1 H2 := exm e2 (.inr (by simp)) ExF.refl
  exact q H2 (exm e2 (.inr (by simp)) x1.of) ⟨_, eqs e2, ((r.ex x1.of).append ry).ex x2⟩
theorem appLit {L : Lt} {vs : List Nat} (s3 : σ[3]? = some (some (.ref fl))) (g : L.good vs = true) (hv : ∀ k, vs.contains k = true → ∃ v, σ[k]? = some (some v) ∧ Rp (fl :: G) H v (dv k)) (t : Trk G H) (F : FS fl G H es) (hz : es.length ≤ 1000)
    (q : ∀ H', ExF [fl] H H' → FS fl G H' (es ++ [L.d dv]) → D.nx σ H') : tDrop (tBM K "list" (rAppendU) (tVar 3) (tCons (tLt L) (tNil))) D σ H := by
  obtain ⟨xs, h1, r⟩ := F
  have sz : sizeLine = 16777216 := sizeLine_eq
  refine ⟨_, s3, tyL h1, lit dv (fl :: G) vs g hv (t.cons h1) fun v H1 x1 rv => ?_⟩
  have h1' := x1.at_ _ _ (by simp) h1
  have lx := r.1
  refine app h1' (by omega) fun H2 e2 => ?_
  have x2 : ExF (fl :: G) H1 H2 := exm e2 (.inr (by simp)) ExF.refl
  exact q H2 (exm e2 (.inr (by simp)) x1.of) ⟨_, eqs e2, ((r.ex x1.of).snoc rv).ex x2⟩
end

theorem litLen {dv : Nat → PyData} {ls : List Lt} {e : PyData} {i : Nat} (h : (Lt.ds dv ls)[i]? = some e) : ∃ l, l ∈ ls ∧ e = l.d dv := by
  induction ls generalizing i with
  | nil => rw [Lt.ds] at h; simp at h
  | cons l ls ih =>
    rw [Lt.ds] at h
    cases i with
    | zero => exact ⟨l, by simp, by simpa using h.symm⟩
    | succ i =>
      obtain ⟨l', h1, h2⟩ := ih (by simpa using h)
      exact ⟨l', by simp [h1], h2⟩
theorem rd_l_odds (K : PySem.W.Frag) {vs : List V} {H : Hp} {Q : VK} {E : XK} (h : spOdds vs H Q E) :
    t_l_odds K { nx := fun _ H' => Q .non H', rt := Q } (start ["_law_stream", "_law_lines", "_law_name", "_law_found", "_law_odd", "_law_line"] vs) H := by
  obtain ⟨st, cl, c, F, G, l, xs, ds, rfl, S, hc, fs, fc, hl, nlF, rx, gd, tG, q⟩ := h
  have sz : sizeLine = 16777216 := sizeLine_eq
  have hp30 : (2 : Nat) ^ 30 = 1073741824 := by decide
  have lx := rx.1
  have l20 := gd.l20
  -- a line's name
  have part : ∀ d ∈ ds, ∃ d0 s1 rest, items d = some (d0 :: .str s1 :: rest) ∧ lineN d = s1 ∧ okS s1 = true := fun d hd => by
    obtain ⟨k, t, h⟩ := faultL_each gd.f d hd
    obtain ⟨d0, s1, rest, hi, hn, _⟩ := lineD_parts h
    have ho := (gd.good d hd).1
    refine ⟨d0, s1, rest, hi, hn, ?_⟩
    rcases (items_some hi).2 with e | e <;> subst e
    · rw [ok_list, oks_cons, oks_cons, ok_str] at ho; exact ho.1.2.1
    · rw [ok_tuple, oks_cons, oks_cons, ok_str] at ho; exact ho.1.2.1
  refine ⟨_, rfl, ?_⟩
  refine lcMap (F := []) (xs := xs) (vs := [5]) (k := 5) (iter_var (a := l) rfl (.inl hl) (by simp)) ((ds.map lineN).map PyData.str) (by simp [lx]) (by omega) (fun _ => rfl) ?_ ?_
  · intro D i x e H2 hx he x2 hD hD2 Qc k
    obtain ⟨d, hd, rd⟩ := rx.get' hx
    rw [List.getElem?_map, List.getElem?_map, hd] at he
    cases he
    obtain ⟨d0, s1, rest, hi, hn, _⟩ := part d (List.mem_of_getElem? hd)
    obtain ⟨a, zs, rfl, na, ha, rz⟩ := (rd.ex (x2.of)).items hi
    obtain ⟨z0, zs1, rfl, _, rz1⟩ := rz.cons_inv
    obtain ⟨z1, zs2, rfl, r1, _⟩ := rz1.cons_inv
    cases r1.str_inv
    refine ⟨_, rfl, ixSq ha (atN (v := .str s1) (by decide) rfl) ?_⟩
    refine k _ H2 ExF.refl ?_
    show Rp (D :: []) H2 (V.str s1) (PyData.str (lineN d))
    rw [hn]
    exact .str s1
  · intro r ys H1 hr hy ry x1
    have ry := ry.all_str
    subst ry
    refine litL (fun _ => .none) [] [] rfl (by simp) Trk.nil fun p2 ys2 H2 hp2 h2 r2 x2 => ?_
    have r2 : RpL [p2] H2 ys2 ((["zz9"] : List Str).map PyData.str) := r2
    have r2 := r2.all_str
    subst r2
    refine catL (x2.at_ _ _ (by simp) hy) h2 (by rw [sz]; simp; omega) fun p3 H3 hp3 e3 => ?_
    have x03 : ExF [] H H3 := (x1.trans x2).trans (exn e3 hp3)
    have S3 : Strm st cl H3 c := S.ex' (by simp) (by simp) x03
    have n3 : p3 ∉ [st, cl] := (S.trk.ex (x1.trans x2)).nin hp3
    refine ⟨st, cl, c, p3, _, rfl, S3, hc, .inl (eqs e3), fun e => n3 (by simp [e]), fun e => n3 (by simp [e]), by simp, by simp [hp30]; omega, fun j v H4 hv S4 x4 => ?_⟩
    have hv := List.mem_of_getElem? hv
    have hs : ∃ s, v = .str s ∧ okS s = true := by
      rcases List.mem_append.mp hv with h | h
      · obtain ⟨s, hs, rfl⟩ := List.mem_map.mp h
        obtain ⟨d, hd, rfl⟩ := List.mem_map.mp hs
        obtain ⟨d0, s1, rest, _, hn, ho⟩ := part d hd
        exact ⟨_, rfl, by rw [hn]; exact ho⟩
      · obtain ⟨s, hs, rfl⟩ := List.mem_map.mp h
        have : s = "zz9" := by simpa using hs
        exact ⟨s, rfl, by rw [this]; decide +kernel⟩
    obtain ⟨s, rfl, hs⟩ := hs
    have x04 : ExF [st, cl] H H4 := x03.of.trans x4
    have tG4 : Trk (st :: cl :: G) H4 := by
      intro a ha
      simp only [List.mem_cons] at ha
      rcases ha with z | z | z
      · rw [z]; exact S4.trk st (by simp)
      · rw [z]; exact S4.trk cl (by simp)
      · exact x04.kept a (tG a z)
    have o6 : ∀ k : Nat, okx 6 ((fun _ => PyData.str s) k) = true := fun _ => by rw [okx_str]; exact hs
    have z6 : ∀ k : Nat, size ((fun _ => PyData.str s) k) ≤ 20 := fun _ => by rw [size]; decide
    have v2 : ∀ (u3 u4 u5 : Option V) (A : List Addr) (H' : Hp) (k : Nat), ([2] : List Nat).contains k = true → ∃ v, ([some (.ref st), some (.ref l), some (.str s), u3, u4, u5] : L2.St)[k]? = some (some v) ∧ Rp A H' v ((fun _ => PyData.str s) k) := fun u3 u4 u5 A H' k hk => by
      have e : k = 2 := by simpa using hk
      subst e
      exact ⟨_, rfl, .str s⟩
    refine litL (fun _ => .str s) (st :: cl :: G) [2] rfl (v2 _ _ _ _ _) tG4 fun fl ys5 H5 hfl h5 r5 x5 => ?_
    have nfl : fl ∉ st :: cl :: G := tG4.nin hfl
    have tG5 := tG4.ex x5
    have nst : fl ≠ st := fun e => nfl (by simp [e])
    have ncl : fl ≠ cl := fun e => nfl (by simp [e])
    have S5 : Strm st cl H5 (c + 1) := S4.ex' (by simp) (by simp) x5
    have F5 : FS fl (st :: cl :: G) H5 (Lt.ds (fun _ => .str s) [.non, .int 5, .bl true, .str "re", .str "read a", .dct, .tup [], .lst [], .tup [.str "read"], .tup [.str "give", .str "zz9"], .tup [.str "read", .var 2, .var 2]]) := ⟨_, h5, r5⟩
    have O5 := odd_ds (dv := fun _ => .str s) (ls := [.non, .int 5, .bl true, .str "re", .str "read a", .dct, .tup [], .lst [], .tup [.str "read"], .tup [.str "give", .str "zz9"], .tup [.str "read", .var 2, .var 2]]) (by decide +kernel) (by decide +kernel) o6 z6
    have L5 := Lt.ds_len (fun _ => .str s) [.non, .int 5, .bl true, .str "re", .str "read a", .dct, .tup [], .lst [], .tup [.str "read"], .tup [.str "give", .str "zz9"], .tup [.str "read", .var 2, .var 2]]
    generalize Lt.ds (fun _ => .str s) [.non, .int 5, .bl true, .str "re", .str "read a", .dct, .tup [], .lst [], .tup [.str "read"], .tup [.str "give", .str "zz9"], .tup [.str "read", .var 2, .var 2]] = es5 at F5 O5 L5
    have L5 : es5.length = 11 := L5
    refine extLit (fl := fl) (G := st :: cl :: G) (es := es5) (dv := fun _ => .str s) (vs := [2]) rfl rfl (by decide) (v2 _ _ _ _ _) tG5 F5 (by omega) fun H6 x6 F6 => ?_
    refine extLit (fl := fl) (G := st :: cl :: G) (dv := fun _ => .str s) (vs := [2]) rfl rfl (by decide) (v2 _ _ _ _ _) (tG5.ex x6) F6 (by rw [List.length_append, Lt.ds_len, L5]; decide) fun H7 x7 F7 => ?_
    have O7 : ∀ d ∈ es5 ++ Lt.ds (fun _ => .str s) [.tup [.str "ask", .var 2], .tup [.lst [.str "read"], .var 2], .tup [.str "read", .var 2], .tup [.str "tell", .var 2], .lst [.str "give", .str "new1", .var 2]] ++ Lt.ds (fun _ => .str s) [.tup [.str "tell", .str "zz8"], .tup [.str "give", .var 2]], odd d := by
      intro d hd
      rcases List.mem_append.mp hd with h | h
      · rcases List.mem_append.mp h with h | h
        · exact O5 d h
        · exact odd_ds (by decide +kernel) (by decide +kernel) o6 z6 d h
      · exact odd_ds (by decide +kernel) (by decide +kernel) o6 z6 d h
    have L7 : (es5 ++ Lt.ds (fun _ => .str s) [.tup [.str "ask", .var 2], .tup [.lst [.str "read"], .var 2], .tup [.str "read", .var 2], .tup [.str "tell", .var 2], .lst [.str "give", .str "new1", .var 2]] ++ Lt.ds (fun _ => .str s) [.tup [.str "tell", .str "zz8"], .tup [.str "give", .var 2]]).length = 18 := by
      rw [List.length_append, List.length_append, Lt.ds_len, Lt.ds_len, L5]; rfl
    generalize es5 ++ Lt.ds (fun _ => .str s) [.tup [.str "ask", .var 2], .tup [.lst [.str "read"], .var 2], .tup [.str "read", .var 2], .tup [.str "tell", .var 2], .lst [.str "give", .str "new1", .var 2]] ++ Lt.ds (fun _ => .str s) [.tup [.str "tell", .str "zz8"], .tup [.str "give", .var 2]] = es7 at F7 O7 L7
    have x57 : ExF [fl] H5 H7 := x6.trans x7
    -- the loops
    unfold t_l_odds_t4 tSeq tForU
    refine .inr (.inl ?_)
    refine litT (fun _ => .none) (fl :: st :: cl :: G) [] rfl (by simp) (F7.trk (tG5.ex x57)) fun p8 xs8 H8 hp8 h8 r8 x8 => ⟨p8, rfl, ⟨xs8, .inl (.inl h8)⟩, ?_⟩
    have l8 := r8.1
    rw [Lt.ds_len] at l8
    have l8 : xs8.length = 13 := l8
    have np8 : p8 ≠ fl := fun e => (F7.trk (tG5.ex x57)) p8 (by simp [e]) hp8
    refine for_it (wkT (xs := xs8)) (fun i σ' H' => ∃ (es : List PyData) (u4 : Option V), σ' = [some (.ref st), some (.ref l), some (.str s), some (.ref fl), u4, none] ∧ FS fl (st :: cl :: G) H' es ∧ es.length = 18 + 4 * i ∧ (∀ d ∈ es, odd d) ∧ ExF [fl] H8 H') ⟨es7, none, rfl, F7.ex x8, by omega, O7, ExF.refl⟩ ?_ ?_ ?_
    · rintro i σ' H' _ ⟨_, _, _, _, _, _, x⟩
      exact x.at_ _ _ (by simp [np8]) h8
    · rintro i v σ' H9 H' hi ⟨es, u4, rfl, F9, L9, O9, x9⟩ ⟨e, hv⟩
      subst e
      have rv := r8.ex (x9.sub (G := p8 :: fl :: st :: cl :: G) (by simp))
      obtain ⟨d, hd, rd⟩ := rv.get' hv
      obtain ⟨Ld, hLd, ed⟩ := litLen hd
      have od : okx 6 d = true := by
        rw [ed]
        refine Lt.okx_d ?_ fun _ => by rw [okx]
        have : ([.str "A", .str "1a", .str "", .str "a b", .str "a_b", .str "nineletrs", .str "read", .str "tell", .int 5, .non, .lst [.str "a"], .str "a\n", .str "b7"] : List Lt).all (Lt.okxL 6) = true := by decide +kernel
        exact List.all_eq_true.mp this Ld hLd
      have zd : size d ≤ 20 := by
        rw [ed]
        refine Nat.le_trans (Lt.size_d fun _ => by rw [size]; decide) ?_
        have : ([.str "A", .str "1a", .str "", .str "a b", .str "a_b", .str "nineletrs", .str "read", .str "tell", .int 5, .non, .lst [.str "a"], .str "a\n", .str "b7"] : List Lt).all (fun l => decide (Lt.sz l ≤ 20)) = true := by decide +kernel
        exact of_decide_eq_true (List.all_eq_true.mp this Ld hLd)
      have t9 : Trk (st :: cl :: G) H' := (tG5.ex x57).ex (x8.of.trans x9)
      have z6' : ∀ k : Nat, size ((fun k => if k = 4 then d else PyData.str s) k) ≤ 20 := fun k => by
        by_cases h : k = 4
        · simp only [h, if_true]; exact zd
        · simp only [h, if_false]; exact z6 k
      have o6' : ∀ k : Nat, okx 6 ((fun k => if k = 4 then d else PyData.str s) k) = true := fun k => by
        by_cases h : k = 4
        · simp only [h, if_true]; exact od
        · simp only [h, if_false]; exact o6 k
      have v24 : ∀ (H' : Hp), Rp (fl :: st :: cl :: G) H' v d → ∀ k : Nat, ([2, 4] : List Nat).contains k = true → ∃ w, ([some (.ref st), some (.ref l), some (.str s), some (.ref fl), some v, none] : L2.St)[k]? = some (some w) ∧ Rp (fl :: st :: cl :: G) H' w ((fun k => if k = 4 then d else PyData.str s) k) := fun H' rd k hk => by
        have e : k = 2 ∨ k = 4 := by simpa using hk
        rcases e with e | e <;> subst e
        · exact ⟨_, rfl, .str s⟩
        · exact ⟨_, rfl, rd⟩
      refine extLit (fl := fl) (G := st :: cl :: G) (vs := [2, 4]) rfl rfl (by decide) (v24 _ rd.drop) t9 F9 (by omega) fun H10 x10 F10 => ?_
      refine appLit (fl := fl) (G := st :: cl :: G) (vs := [2, 4]) rfl rfl (v24 _ (rd.drop.ex (x10.sub (by simp)))) (t9.ex x10) F10 (by rw [List.length_append, Lt.ds_len]; simp; omega) fun H11 x11 F11 => ?_
      refine ⟨_, _, rfl, F11, ?_, ?_, x9.trans (x10.trans x11)⟩
      · rw [List.length_append, List.length_append, Lt.ds_len]; simp; omega
      · intro z hz
        rcases List.mem_append.mp hz with h | h
        · rcases List.mem_append.mp h with h | h
          · exact O9 z h
          · exact odd_ds (by decide +kernel) (by decide +kernel) o6' z6' z h
        · rw [List.mem_singleton.mp h]
          exact ⟨Lt.okx_d (by decide +kernel) o6', Lt.fine_d (by decide +kernel), Nat.le_trans (Lt.size_d z6') (by decide +kernel)⟩
    · rintro σ' H9 ⟨es, u4, rfl, F9, L9, O9, x9⟩
      rw [l8] at L9
      have t9 : Trk (st :: cl :: G) H9 := (tG5.ex x57).ex (x8.of.trans x9)
      unfold t_l_odds_t5 tSeq tForU
      refine .inr (.inl ?_)
      refine litT (fun _ => .none) (fl :: st :: cl :: G) [] rfl (by simp) (F9.trk t9) fun p10 xs10 H10 hp10 h10 r10 x10 => ⟨p10, rfl, ⟨xs10, .inl (.inl h10)⟩, ?_⟩
      have l10 := r10.1
      rw [Lt.ds_len] at l10
      have l10 : xs10.length = 11 := l10
      have np10 : p10 ≠ fl := fun e => (F9.trk t9) p10 (by simp [e]) hp10
      refine for_it (wkT (xs := xs10)) (fun i σ' H' => ∃ (es : List PyData) (u4 : Option V), σ' = [some (.ref st), some (.ref l), some (.str s), some (.ref fl), u4, none] ∧ FS fl (st :: cl :: G) H' es ∧ es.length = 70 + i ∧ (∀ d ∈ es, odd d) ∧ ExF [fl] H10 H') ⟨es, u4, rfl, F9.ex x10, by omega, O9, ExF.refl⟩ ?_ ?_ ?_
      · rintro i σ' H' _ ⟨_, _, _, _, _, _, x⟩
        exact x.at_ _ _ (by simp [np10]) h10
      · rintro i v σ' H11 H' hi ⟨es, u4, rfl, F11, L11, O11, x11⟩ ⟨e, hv⟩
        subst e
        have rv := r10.ex (x11.sub (G := p10 :: fl :: st :: cl :: G) (by simp))
        obtain ⟨d, hd, rd⟩ := rv.get' hv
        obtain ⟨Ld, hLd, ed⟩ := litLen hd
        have od : okx 6 d = true := by
          rw [ed]
          refine Lt.okx_d ?_ fun _ => by rw [okx]
          have : ([.non, .int 5, .bl true, .tup [], .str "nobody", .dct, .lst [.int 5], .tup [.str "f", .non], .lst [.str "f", .tup [.str "g", .str "nobody"]], .lst [.tup [.str "f"]], .tup [.str "f", .str "f", .tup []]] : List Lt).all (Lt.okxL 6) = true := by decide +kernel
          exact List.all_eq_true.mp this Ld hLd
        have zd : size d ≤ 20 := by
          rw [ed]
          refine Nat.le_trans (Lt.size_d fun _ => by rw [size]; decide) ?_
          have : ([.non, .int 5, .bl true, .tup [], .str "nobody", .dct, .lst [.int 5], .tup [.str "f", .non], .lst [.str "f", .tup [.str "g", .str "nobody"]], .lst [.tup [.str "f"]], .tup [.str "f", .str "f", .tup []]] : List Lt).all (fun l => decide (Lt.sz l ≤ 20)) = true := by decide +kernel
          exact of_decide_eq_true (List.all_eq_true.mp this Ld hLd)
        refine appLit (fl := fl) (G := st :: cl :: G) (dv := fun _ => d) (vs := [4]) rfl rfl (fun k hk => ?_) (t9.ex (x10.of.trans x11)) F11 (by omega) fun H12 x12 F12 => ?_
        · have e : k = 4 := by simpa using hk
          subst e
          exact ⟨_, rfl, rd.drop⟩
        · refine ⟨_, _, rfl, F12, by rw [List.length_append]; simp; omega, ?_, x11.trans x12⟩
          intro z hz
          rcases List.mem_append.mp hz with h | h
          · exact O11 z h
          · rw [List.mem_singleton.mp h]
            exact ⟨Lt.okx_d (by decide +kernel) fun _ => od, Lt.fine_d (by decide +kernel), Nat.le_trans (Lt.size_d fun _ => zd) (by decide +kernel)⟩
      · rintro σ' H11 ⟨es, u4, rfl, F11, L11, O11, x11⟩
        obtain ⟨ys, hy, ry⟩ := F11
        have xx : ExF [fl] H5 H11 := ((x57.trans x8.of).trans x9).trans (x10.of.trans x11)
        have xf : ExF [fl, st, cl] H H11 := ((x04.add (p := fl)).trans x5.of).trans (xx.sub (by simp))
        have hflH : H fl = none := x04.free hfl
        refine ⟨_, rfl, q fl ys es H11 (S5.ex' (F := [fl]) (by simp [Ne.symm nst]) (by simp [Ne.symm ncl]) xx) (xf.drop hflH) hflH hy (ry.sub (by intro a z; simp [z])) O11 (by omega)⟩

end Tw
end

section
set_option Elab.async false
set_option linter.all false
set_option maxRecDepth 100000
set_option maxHeartbeats 4000000
namespace Tw
open PySem L2 PyProof.Rows

/-! ### repr of a row: what the list or the tuple shows, where no repr is under way -/
@[irreducible] def rRepr (K : PySem.W.Frag) : List V → Hp → VK → Prop := fun xs H Q => ∃ (a : Addr) (d : PyData), xs = [.ref a] ∧ Dp K H (.ref a) d ∧ d.showable = true ∧ d.hasDict = false ∧ d.depth ≤ 64 ∧ d.shown.length ≤ sizeLine ∧ Q (.str d.shown) H
theorem call_repr {X : Cx} (hg : X.A.guards = some []) (hu : X.A.units + 65 < cLine) : CallR X (.builtin "repr") (rRepr X.K) := by
  intro pins s σ H xs us Q I r h
  unfold rRepr at h
  obtain ⟨a, d, rfl, hd, hs, hn, hdep, hz, q⟩ := h
  obtain ⟨u, rfl, ru⟩ := r.one
  obtain ⟨as, hr⟩ := Dp.reads I d _ u hd ru
  cases ru
  refine repr_of_reads' hr hs (fun h => absurd h (by rw [hn]; exact Bool.false_ne_true)) hg (by omega) (fun _ _ h => h) (fun h' u tk hk => ?_) hz
  exact ⟨.str _, H, I.kept hk, ⟨_, rfl⟩, q⟩

/-! ### an instance's own == and the != that comes of it -/
structure OwnE (K : PySem.W.Frag) (C f : Addr) : Prop where
  hs : PySem.W.findIn K (.ref C) "__eq__" = some (some (.ref f))
  hf : PySem.W.isFn K (.ref f) = true
  hn : PySem.W.findIn K (.ref C) "__ne__" = some (some (.builtin "object.__ne__"))
  hm : PySem.W.mroIn K C (.type "object") = some true
theorem ifBound_objNe {M : Model} {A : Around} {E : Value → Shared → Prop} {s : Shared} {K : PySem.W.Frag} {x C : Addr} {ox : Obj} {od : Option Obj} {args : List Value} {Q : Option Value → Shared → Prop} (X : K.In s.heap) (I : PySem.W.InstAt s.heap x ox C od)
    (hs : PySem.W.findIn K (.ref C) "__ne__" = some (some (.builtin "object.__ne__"))) (h : wpAny M A (call (.builtin "object.__ne__") (.ref x :: args)) (fun v => Q (some v)) E s) : wpAny M A (callSpecialIfBound? (.ref x) "__ne__" args) Q E s := by
  simp only [callSpecialIfBound?, bindSpecialIfBound?]
  refine wpAny_holding (wpAny_bind (wpAny_bind (wpAny_bind (I.type.here ((PySem.W.looks_findIn X hs).here ?_)))))
  refine wpAny_bind (wpAny_askSetting (wpAny_ite ?_))
  have fin : wpAny M A (call (.builtin "object.__ne__") ([.ref x] ++ args) >>= fun v => pure (some v)) Q E s := wpAny_bind (wpAny_mono h (fun v s' h' => wpAny_pure h') fun _ _ h' => h')
  split
  · exact wpAny_bind (wpAny_of_eq (PySem.F.cmp_object.ne.bind _) (wpAny_pure (by exact fin)))
  · exact wpAny_tryCatch (wpAny_bind (wpAny_of_eq (PySem.F.cmp_object.ne.bind _) (wpAny_pure (by exact fin))))
/-- what stands on the right: such an instance, a list, a tuple -/
def RightOk (H : Hp) (C : Addr) (y : V) : Prop := ∃ b, y = .ref b ∧ ((∃ dx fs, H b = some (.ins C dx fs)) ∨ (∃ xs, H b = some (.lst xs)) ∨ ∃ xs, H b = some (.tup xs))
theorem sub_seq {K : PySem.W.Frag} {C : Addr} {T : String} (h : T = "list" ∨ T = "tuple") : PySem.W.subIn K (.type T) (.ref C) = some false := by
  rcases h with h | h <;> subst h
  · have e : fastBuiltinMro "list" = some [.type "list", .type "object"] := by decide +kernel
    show (fastBuiltinMro "list").map (·.contains (.ref C)) = some false
    rw [e]
    simp
  · have e : fastBuiltinMro "tuple" = some [.type "tuple", .type "object"] := by decide +kernel
    show (fastBuiltinMro "tuple").map (·.contains (.ref C)) = some false
    rw [e]
    simp
section
variable {X : Cx} {pins : List (Addr × Obj)} {σ : L2.St} {H : Hp} {s : Shared} {C f : Addr}
theorem right_looks (I : Inv X pins σ H s) {b : Addr} (h : RightOk H C (.ref b)) : ∃ tb, PySem.W.Looks (model X.prog X.w) s.heap (typeOf (.ref b)) tb ∧ PySem.W.notFirst X.K C tb = true := by
  obtain ⟨_, e, h⟩ := h
  cases e
  rcases h with ⟨dx, fs, h⟩ | ⟨xs, h⟩ | ⟨xs, h⟩
  · obtain ⟨m, J, _⟩ := ins_get I.hok h
    obtain ⟨od, J, _⟩ := J.look
    exact ⟨_, J.type, by simp [PySem.W.notFirst]⟩
  · obtain ⟨its, n, _, e, _⟩ := I.lst h
    refine ⟨.type "list", fun A Q E s k q => wpAny_typeOf_ref (k _ _ e) q, ?_⟩
    unfold PySem.W.notFirst
    rw [sub_seq (.inl rfl)]
    simp
  · obtain ⟨its, _, ⟨o, e, hc, _⟩, _⟩ := I.tuple (.inl (.inl h))
    refine ⟨.type "tuple", fun A Q E s k q => wpAny_typeOf_ref (k _ _ e) (by rw [hc]; exact q), ?_⟩
    unfold PySem.W.notFirst
    rw [sub_seq (.inr rfl)]
    simp
/-- the call of the text's __eq__, somewhere below the running body -/
theorem run_eq {CX : CXT} {fd : FuncData} {ps : List Str} {sp : Sp} {n : Nat} (Fd : FnOk X.prog X.w X.K X.mg X.base CX n f fd ps sp) (hb : Binds X.K fd ps []) (hx : Passes CX X E0) {A : Around} (hr : Room n A) (fr : A.frames = X.A.frames)
    (I : Inv X pins σ H s) {x y : V} {u v : Value} (rx : RelV x u) (ry : RelV y v) {Q : VK} (h : sp [x, y] H Q E0) :
    wpAny (model X.prog X.w) A (call (.ref f) [u, v]) (EP X pins σ Q) X.xe s := by
  have e0 : Env0 X.prog X.w X.K X.mg X.base A X.stack s H := by
    have e := I.env0
    exact ⟨by rw [fr]; exact e.frames, e.mod, e.bs, e.bsz, e.funs, e.frf, e.hok, e.bare⟩
  have hl := Fd.len _ _ _ _ h
  have r2 : Vals [x, y] [u, v] := .cons rx (.cons ry .nil)
  refine wpAny_call (codeAny_mono (Fd.run A X.stack s H ⟨[u, v], []⟩ [u, v] [x, y] _ E0 hr e0 (by
    have := hb s [u, v] I.kIn (by simpa using hl)
    simpa using this) r2 h) fun r s' hq => ?_)
  cases r with
  | error e => exact hx pins σ H s e s' I hq
  | ok fl =>
    cases fl with
    | ret w => exact I.after hq
    | next => exact False.elim hq
    | brk => exact False.elim hq
    | cont => exact False.elim hq
end
/-- x == y, x an instance with an own == that keeps sp -/
def rEqOwn (C : Addr) (sp : Sp) : R2 := fun x y H Q => ∃ a dx fs, x = .ref a ∧ H a = some (.ins C dx fs) ∧ RightOk H C y ∧ sp [x, y] H (fun v H' => ∃ b, v = .bl b ∧ Q (.bl b) H') E0
def rNeOwn (C : Addr) (sp : Sp) : R2 := fun x y H Q => ∃ a dx fs, x = .ref a ∧ H a = some (.ins C dx fs) ∧ RightOk H C y ∧ sp [x, y] H (fun v H' => ∃ b, v = .bl b ∧ Q (.bl (!b)) H') E0
section
variable {X : Cx} {C f : Addr} {CX : CXT} {fd : FuncData} {ps : List Str} {sp : Sp} {n : Nat}
theorem op_eqOwn (O : OwnE X.K C f) (Fd : FnOk X.prog X.w X.K X.mg X.base CX n f fd ps sp) (hb : Binds X.K fd ps []) (hx : Passes CX X E0) (hr : Room n X.A) : OpR X (compareOp .Eq) (rEqOwn C sp) := by
  intro pins s σ H x y u v Q I rx ry h
  obtain ⟨a, dx, fs, rfl, ha, hR, h⟩ := h
  obtain ⟨b, rfl, _⟩ := id hR
  cases rx
  cases ry
  obtain ⟨mA, J, _⟩ := ins_get I.hok ha
  obtain ⟨od, J, _⟩ := J.look
  obtain ⟨m, hF⟩ := I.fr
  obtain ⟨tb, L, hn⟩ := right_looks I hR
  show wpAny (model X.prog X.w) X.A (richCompare .Eq (.ref a) (.ref b)) (EP X pins σ Q) X.xe s
  refine PySem.W.cmp_K (op := .Eq) (tb := tb) hr.units0 hF I.ok.mod.kin J L hn O.hs O.hf ?_
  refine wpAny_mono (run_eq (x := .ref a) (y := .ref b) Fd hb hx hr rfl I rfl rfl h) (fun w s' hq => ?_) fun _ _ e => e
  obtain ⟨z, H', I', rz, b', rfl, q⟩ := hq
  cases rz
  exact ⟨.bl b', H', I', rfl, q⟩
theorem op_neOwn (O : OwnE X.K C f) (Fd : FnOk X.prog X.w X.K X.mg X.base CX n f fd ps sp) (hb : Binds X.K fd ps []) (hx : Passes CX X E0) (hr : Room (n + 1) X.A) : OpR X (compareOp .NotEq) (rNeOwn C sp) := by
  intro pins s σ H x y u v Q I rx ry h
  obtain ⟨a, dx, fs, rfl, ha, hR, h⟩ := h
  obtain ⟨b, rfl, _⟩ := id hR
  cases rx
  cases ry
  obtain ⟨mA, J, _⟩ := ins_get I.hok ha
  obtain ⟨od, J, _⟩ := J.look
  obtain ⟨tb, L, hn⟩ := right_looks I hR
  have Xk := I.kIn
  -- the base's __ne__: asks __eq__, turns the answer
  have inner : wpAny (model X.prog X.w) X.A (call (.builtin "object.__ne__") [.ref a, .ref b]) (fun w s' => ∃ b', w = .bool b' ∧ EP X pins σ Q (.bool b') s') X.xe s := by
    refine wpAny_call (codeAny_call_builtin F.cmp_object.ne.plain F.cmpEntry_ne (PySem.W.check_slot F.cmpKind_ne F.cmpSplit_ne (J.type.andThen (PySem.W.looks_mroIn Xk O.hm)) (F.cmpArgs_ne _ _) ?_))
    unfold Builtin.«object.__ne__»
    have hu : X.A.in1.units < cLine := hr.in1.units0
    repeat (first
      | with_reducible refine wpAny_cRoomFor hu ?_
      | (refine wpAny_bind (m := callSpecialIfBound? (.ref a) (Str.ofString "__eq__") [.ref b])
          (PySem.W.ifBound_K Xk J O.hs O.hf (wpAny_mono (run_eq (A := X.A.in1) Fd hb hx hr.in1 rfl I (x := .ref a) (y := .ref b) rfl rfl h) (fun r s' hr' => by
            obtain ⟨z, H', I', rz, b', rfl, q⟩ := hr'
            cases rz
            repeat (first | exact ⟨_, rfl, .bl (!b'), H', I', rfl, q⟩ | refine wpAny_pure ?_ | refine wpAny_truthy_bool ?_ | (refine wpAny_bind (m := truthy (.bool _)) (wpAny_truthy_bool ?_)) | wp_step)) fun _ _ e => e)))
      | wp_step)
  show wpAny (model X.prog X.w) X.A (richCompare .NotEq (.ref a) (.ref b)) (EP X pins σ Q) X.xe s
  have one : wpAny (model X.prog X.w) X.A (tryCompare (.ref a) (cmpInfo .NotEq).2.1 (.ref b)) (fun r s' => ∃ v, r = some v ∧ EP X pins σ Q v s') X.xe s := by
    unfold tryCompare
    refine wpAny_bind (ifBound_objNe Xk J O.hn (wpAny_mono inner (fun w s' hq => ?_) fun _ _ e => e))
    obtain ⟨b', rfl, q⟩ := hq
    exact wpAny_pure ⟨_, rfl, q⟩
  unfold richCompare
  simp only [oneThing_ref]
  refine wpAny_holding (wpAny_bind (wpAny_cRoomFor hr.units0 ?_))
  refine wpAny_bind (J.type.here (wpAny_bind (L.here ?_)))
  split
  · rename_i q
    have e : PySem.W.subIn X.K tb (.ref C) = some false := by
      rcases Bool.or_eq_true_iff.mp hn with e | e
      · rw [beq_iff_eq.mp e] at q; simp at q
      · exact beq_iff_eq.mp e
    refine wpAny_bind ((PySem.W.looks_subIn Xk e).here ?_)
    simp only [Bool.false_eq_true, if_false]
    refine wpAny_bind (wpAny_mono one (fun r s' z => ?_) fun _ _ e => e)
    obtain ⟨v, rfl, hq⟩ := z
    exact wpAny_pure hq
  · refine wpAny_bind (wpAny_pure ?_)
    simp only [Bool.false_eq_true, if_false]
    refine wpAny_bind (wpAny_mono one (fun r s' z => ?_) fun _ _ e => e)
    obtain ⟨v, rfl, hq⟩ := z
    exact wpAny_pure hq
end
/-! ### C(e, ..) in a try: what its __init__ lets out is taken at the slots -/
def tMakeS (C : Addr) (sp : Sp) (E : L2.St → XK) (t : TA) : TE := fun σ H Q => t σ H fun vs H1 => ∀ x dx, H1 x = none → H1 dx = none → dx ≠ x →
  sp (.ref x :: vs) (upd (upd H1 dx (.own x)) x (.ins C dx [])) (fun v H2 => v = .non ∧ Q (.ref x) H2) (E σ)
section
variable {X : Cx} {CX : CXT} {k : Nat} {f C : Addr} {fd : FuncData} {ps : List Str} {sp : Sp} {E : L2.St → XK} {x : Str} {p pos : Pos} {e : Expr} {es : List Expr} {t : TA}
theorem pe_makeS (M : Mk X.K C f) (Fd : FnOk X.prog X.w X.K X.mg X.base CX k f fd ps sp) (hr : Room (k + 1) X.A) (hg : Gl X x) (hm : X.mg x = some (.ref C)) (hb : Binds X.K fd ps []) (hx : ∀ σ, PassesAt CX X σ (E σ))
    (ha : PA X (e :: es) t) (hdb : (x == ("__debug__" : Str)) = false := by decide) (he : starEach (e :: es) X.env = (false, eval e X.env) :: starEach es X.env := by rfl) (hpl : (backTo pos (starEach es X.env)).any (·.1) = false := by rfl) :
    PE X (.Call (.Name x p) (e :: es) [] pos) (tMakeS C sp E t) := by
  refine ⟨fun pins s σ H Q I h => ?_⟩
  refine wpAny_Call_Name_kw (ld_glob I hg hm ?_ hdb)
  refine PySem.W.callWith_K (h₀ := X.base) I.ok.mod.kin M.kp (thn (ha.run pos pins s σ H _ I h) fun us s1 ⟨vs, H1, I1, r, q⟩ => ⟨I1.kIn, ?_⟩) he hpl
  have hq := q (s1.heap.objs.size + 1) s1.heap.objs.size (I1.hok.fresh (Nat.le_succ _)) (I1.hok.fresh (Nat.le_refl _)) (Nat.ne_of_lt (Nat.lt_succ_self _))
  have I2 := Inv.made (C := C) I1
  have r2 : Vals (V.ref (s1.heap.objs.size + 1) :: vs) (Value.ref (s1.heap.objs.size + 1) :: us) := .cons rfl r
  have hl : (Value.ref (s1.heap.objs.size + 1) :: us).length = ps.length := by rw [← r2.length]; exact Fd.len _ _ _ _ hq
  have b := hb _ (Value.ref (s1.heap.objs.size + 1) :: us) I2.kIn (by rw [List.append_nil]; exact hl)
  rw [List.append_nil] at b
  refine wpAny_call (make_map (f := f) I1.kIn M.makes M.init (beq_iff_eq.mp M.fn) (codeAny_mono (Fd.run _ X.stack _ _ ⟨Value.ref (s1.heap.objs.size + 1) :: us, []⟩ _ _ _ (E σ) (hr.make C us []) (I2.env0.make C us []) b r2 hq) fun r s' hq' => ?_))
  cases r with
  | error e => exact hx σ pins _ _ e s' I2 hq'
  | ok fl =>
    cases fl with
    | ret u =>
      obtain ⟨v, H', I3, rv, ev, q3⟩ := I2.after hq'
      subst ev
      exact ⟨rv, ⟨V.ref (s1.heap.objs.size + 1), H', I3, rfl, q3⟩⟩
    | next => exact False.elim hq'
    | brk => exact False.elim hq'
    | cont => exact False.elim hq'
end
/-! ### defs called where no repr is under way -/
structure FnG (P : Program) (w : World) (K : PySem.W.Frag) (mg : Str → Option Value) (base : Heap) (k : Nat) (f : Addr) (ps : List Str) (sp : Sp) : Prop where
  len : ∀ vs H Q E, sp vs H Q E → vs.length = ps.length
  run : ∀ (A : Around) (outer : List Env) (s : Shared) (H : Hp) (us : List Value) (vs : List V) (Q : VK) (E : XK), A.guards = some [] → Room k A → Env0 P w K mg base A outer s H → Vals vs us → sp vs H Q E →
    codeAny (model P w) A (.call (.ref f) ⟨us, []⟩) (CR CX0 outer P w H s Q E) s
/-- a def by its body, no repr under way -/
theorem Fun.okG {P : Program} {w : World} {K : PySem.W.Frag} {mg : Str → Option Value} {base : Heap} {x qual : Str} {st : Stmt} {f : Addr} {fd : FuncData} {N ps : List Str} {k : Nat} {sp : Sp} (Fd : Fun K x qual st f fd) (S : FnScope N ps (defScope st)) (b : Binds K fd ps []) (len : ∀ vs H Q E, sp vs H Q E → vs.length = ps.length)
    (hbody : ∀ (cdv : Value) (A : Around) (outer : List Env) (s : Shared) (H : Hp) (vs : List V) (Q : VK) (E : XK), A.guards = some [] → Room k (A.deeper (envOfC qual (defScope st) s.heap.objs.size f cdv)) → sp vs H Q E →
      ∃ t, PSs (cxOf CX0 P w K mg base N qual (defScope st) f cdv A outer s H E).nox (defBody st) t ∧ t { nx := fun _ H' => Q .non H', rt := Q } (start N vs) H) : FnG P w K mg base (k + 1) f ps sp := by
  obtain ⟨oc, od, kV, doc, pm, an, cdv, ct, osl, rfl, lk, hcd⟩ := Fd.ex
  refine ⟨len, fun A outer s H us vs Q E hg hr e0 r hsp => ?_⟩
  have hl := len _ _ _ _ hsp
  have hul : us.length = ps.length := by rw [← r.length]; exact hl
  have KX : K.In s.heap := e0.mod.kin.keeps fun b o e => (e0.bs b o e).1
  have bb := b s us KX (by rw [List.append_nil]; exact hul)
  rw [List.append_nil] at bb
  have lim : s.heap.NoLimit := e0.mod.nolimit.keeps fun b o e => (e0.bs b o e).1
  have hkind : ∀ y ∈ ps.zip us, (defScope st).names.lookup y.1 = some .local ∨ ((defScope st).names.lookup y.1 = some .cell ∧ ((cellsFrom (s.heap.objs.size + 1) (defScope st).names []).lookup y.1).isSome = true) := fun ⟨n, v⟩ hy =>
    (S.par n (List.of_mem_zip hy).1).imp id fun q => ⟨q, PySem.W.cellsFrom_some _ _ _ (.inl q)⟩
  refine codeAny_call_function hr.depth (KX _ _ lk) rfl S.co S.gen rfl (PySem.W.codeRec_of KX hcd) (bb _ _ _ _ ?_)
  refine wpAny_newFunctionEnv_cells S.kind hkind fun env he s1 y => ?_
  subst he
  refine ⟨lim.keeps y.toInCall.keep, codeAny_func ?_⟩
  obtain ⟨t, ht, hq⟩ := hbody cdv A outer s H vs Q E hg (hr.deeper _) hsp
  refine wpAny_mono (ht.nox.run [] s1 (start N vs) H _ (inv_start S hr.hd e0 hl r y) hq) (fun fl s' hs => ?_) fun e s' hs => hs
  cases fl with
  | ret u =>
    obtain ⟨v, σ', H', J, rv, q⟩ := hs
    exact ⟨v, H', J.os, J.bare, J.base, J.hok, rv, q⟩
  | next =>
    obtain ⟨σ', H', J, q⟩ := hs
    exact ⟨V.non, H', J.os, J.bare, J.base, J.hok, rfl, q⟩
  | brk =>
    obtain ⟨_, _, _, q⟩ := hs
    exact False.elim q
  | cont =>
    obtain ⟨_, _, _, q⟩ := hs
    exact False.elim q
/-- such a def by its name -/
structure CalG (P : Program) (w : World) (K : PySem.W.Frag) (mg : Str → Option Value) (base : Heap) (k : Nat) (x : Str) (sp : Sp) : Prop where
  ex : ∃ (f : Addr) (ps : List Str), FnG P w K mg base k f ps sp ∧ mg x = some (.ref f) ∧ PySem.W.keepIn K (.ref f) = true
theorem pe_cG {X : Cx} {x : Str} {sp : Sp} {j k : Nat} {e : Expr} {es : List Expr} {t : TA} {p pos : Pos} (c : CalG X.prog X.w X.K X.mg X.base k x sp) (hg' : X.A.guards = some []) (hr : Room j X.A) (hk : k ≤ j) (hg : Gl X x) (ha : PA X (e :: es) t)
    (hdb : (x == ("__debug__" : Str)) = false := by decide) (he : starEach (e :: es) X.env = (false, eval e X.env) :: starEach es X.env := by rfl) (hpl : (backTo pos (starEach es X.env)).any (·.1) = false := by rfl) :
    PE X (.Call (.Name x p) (e :: es) [] pos) (tCall sp [] E0 t) := by
  obtain ⟨f, ps, Fd, hm, kp⟩ := c.ex
  refine ⟨fun pins s σ H Q I h => ?_⟩
  refine wpAny_Call_Name_kw (ld_glob I hg hm ?_ hdb)
  refine PySem.W.callWith_K (h₀ := X.base) I.ok.mod.kin kp (thn (ha.run pos pins s σ H _ I h) fun us s1 ⟨vs, H1, I1, r, q⟩ => ⟨I1.kIn, ?_⟩) he hpl
  have q : sp (vs ++ []) H1 Q E0 := q
  rw [List.append_nil] at q
  refine wpAny_call (codeAny_mono (Fd.run X.A X.stack s1 H1 us vs Q E0 hg' (hr.mono hk) I1.env0 r q) fun r s' hq => ?_)
  cases r with
  | error e => exact pass0 pins σ H1 s1 e s' I1 hq
  | ok fl =>
    cases fl with
    | ret u => exact I1.after hq
    | next => exact False.elim hq
    | brk => exact False.elim hq
    | cont => exact False.elim hq

/-! ### own errors with an __init__ of their own -/
structure OwnErr (P : Program) (w : World) (K : PySem.W.Frag) (mg : Str → Option Value) (base : Heap) (k : Nat) (x : Str) (C : Addr) (sp : Sp) : Prop where
  oex : OexC K C
  ex : ∃ (fI : Addr) (fd : FuncData) (ps : List Str), PySem.W.findIn K (.ref C) "__init__" = some (some (.ref fI)) ∧ PySem.W.typeIn K (.ref fI) = some (.type "function") ∧ FnOk P w K mg base CX0 k fI fd ps sp ∧ Binds K fd ps []
  gC : mg x = some (.ref C)
def tRaise (E : XK) (t : L2.St → Hp → XK → Prop) : TS := fun _ σ H => t σ H E
theorem ps_rz {X : Cx} {x : Str} {C : Addr} {sp : Sp} {j k : Nat} {E : XK} {e : Expr} {es : List Expr} {ta : TA} {p pos pos2 : Pos} (B : OwnErr X.prog X.w X.K X.mg X.base k x C sp) (hc : X.calm = true) (hr : Room j X.A) (hk : k + 1 ≤ j) (tk : Takes X (fun cls d _ H => E cls d H)) (hg : Gl X x) (ha : PA X (e :: es) ta)
    (hdb : (x == ("__debug__" : Str)) = false := by decide) (he : starEach (e :: es) X.env = (false, eval e X.env) :: starEach es X.env := by rfl) (hpl : (backTo pos (starEach es X.env)).any (·.1) = false := by rfl) :
    PS X (.Raise (some (.Call (.Name x p) (e :: es) [] pos)) none pos2) (tRaise E (tMkO C sp [] ta)) := by
  obtain ⟨fI, fd, ps, iC, tI, Fd, hb⟩ := B.ex
  exact ps_raise hc tk (pmk_oex B.oex iC tI Fd (hr.mono hk) hb .nil pass0 hg B.gC ha hdb he hpl)
/-- C(v): the field set by an __init__ that does no more -/
def spOneF (f : Str) (C : Addr) : Sp := fun vs H Q _ => ∃ (a : Addr) (v : V), vs = [.ref a, v] ∧ H a = some (exo a C none) ∧ ∀ dx, H dx = none → dx ≠ a → Q .non (upd (upd H dx (exd dx [(f, v)])) a (exo a C (some dx)))
theorem mkOne {C : Addr} {f : Str} {ta : TA} {σ : L2.St} {H : Hp} {Q : XK} (h : ta σ H fun vs H1 => ∃ v, vs = [v] ∧ ∀ d H', H1 d = none → H' d = some (.xd [(f, v)]) → ExF [] H1 H' → Q (.ref C) (some d) H')
    (mono : ∀ {P P' : List V → Hp → Prop}, (∀ vs H, P vs H → P' vs H) → ta σ H P → ta σ H P') : tMkO C (spOneF f C) [] ta σ H Q := by
  refine mono ?_ h
  rintro vs H1 ⟨v, rfl, q⟩
  refine ⟨by simp, fun a ha => ⟨a, v, rfl, upd_same, fun dx hdx ne => ⟨rfl, dx, [(f, v)], upd_same, ?_, ?_, ?_⟩⟩⟩
  · rw [upd_ne ne, upd_same]
  · rw [upd_ne ne] at hdx; exact hdx
  · have hd1 : H1 dx = none := by rw [upd_ne ne] at hdx; exact hdx
    refine q dx _ hd1 upd_same ⟨fun b o _ hb => ?_, fun b hb => ?_⟩
    · have n1 : b ≠ dx := ne_of_none hb hd1
      have n2 : b ≠ a := ne_of_none hb ha
      rw [upd_ne n1, del_ne n2, upd_ne n2, upd_ne n1, upd_ne n2]
      exact hb
    · obtain ⟨o, ho⟩ : ∃ o, H1 b = some o := by
        cases e : H1 b with
        | none => exact absurd e hb
        | some o => exact ⟨o, rfl⟩
      have n1 : b ≠ dx := ne_of_none ho hd1
      have n2 : b ≠ a := ne_of_none ho ha
      rw [upd_ne n1, del_ne n2, upd_ne n2, upd_ne n1, upd_ne n2]
      exact hb
end Tw
end

section
set_option Elab.async false
set_option linter.all false
set_option maxRecDepth 100000
set_option maxHeartbeats 4000000
namespace Tw
open PySem L2 PyProof.Rows
/-! ### cells, pairs, instructions, hours: plain functions of data -/
def cellI (i : Int) : Bool := decide (0 < i) && decide (i < 1000)
def cellD : PyData → Bool
  | .int i => cellI i
  | _ => false
def intD : PyData → Bool
  | .int _ => true
  | _ => false
def pairL : List PyData → Bool
  | [a, b] => nameD a && cellD b
  | _ => false
def pairD (d : PyData) : Bool := match items d with
  | some ds => pairL ds
  | none => false
def cellsD (d : PyData) : Bool := match items d with
  | some ds => ds.all cellD
  | none => false
def rowL : List PyData → Bool
  | [c, f, p] => cellD c && nameD f && cellsD p
  | _ => false
def rowD (d : PyData) : Bool := match items d with
  | some ds => rowL ds
  | none => false
def hourD (d : PyData) : Bool := match items d with
  | some ds => decide (ds.length ≤ 2) && ds.all rowD
  | none => false
/-- the name of a pair, its cell -/
def pnm (d : PyData) : Str := match items d with
  | some (.str s :: _) => s
  | _ => ""
def pce (d : PyData) : Int := match items d with
  | some (_ :: .int i :: _) => i
  | _ => 0
def pairsF (rd : Bool) (ns : List Str) (cs : List Int) (i : Nat) : List PyData → Option Nat
  | [] => none
  | d :: ds => if (pairD d && !decide (pnm d ∈ ns) && !(rd && decide (pce d ∈ cs))) = true then pairsF rd (ns ++ [pnm d]) (cs ++ [pce d]) (i + 1) ds else some i
def pairsM (rd : Bool) (d : PyData) : Option Nat := match items d with
  | some ds => pairsF rd [] [] 0 ds
  | none => some 0
def hoursF (i : Nat) : List PyData → Option Nat
  | [] => none
  | d :: ds => if hourD d = true then hoursF (i + 1) ds else some i
def hoursM (d : PyData) : Option Nat := match items d with
  | some ds => hoursF 0 ds
  | none => some 0
/-- how a program of these is refused -/
def progF (r h t : PyData) : Option (Str × Nat) := match pairsM true r with
  | some i => some ("reads", i)
  | none => match hoursM h with
    | some i => some ("hours", i)
    | none => (pairsM false t).map fun i => ("tells", i)
def whyD : Option (Str × Nat) → PyData
  | none => .none
  | some (w, i) => .tuple [.str w, .int i]
theorem pairD_parts {d : PyData} (h : pairD d = true) : ∃ s i, items d = some [.str s, .int i] ∧ nameS s = true ∧ cellI i = true ∧ pnm d = s ∧ pce d = i := by
  unfold pairD at h
  cases e : items d with
  | none => rw [e] at h; cases h
  | some ds =>
    rw [e] at h
    match ds, h with
    | [a, b], h =>
      simp only [pairL, Bool.and_eq_true] at h
      obtain ⟨ha, hb⟩ := h
      cases a <;> simp [nameD] at ha
      cases b <;> simp [cellD] at hb
      rename_i s i
      exact ⟨s, i, rfl, ha, hb, by unfold pnm; rw [e], by unfold pce; rw [e]⟩
    | [], h => cases h
    | [_], h => cases h
    | _ :: _ :: _ :: _, h => cases h
theorem pairsF_snoc {rd : Bool} : ∀ (ds : List PyData) (d : PyData) (ns : List Str) (cs : List Int) (i : Nat), pairsF rd ns cs i ds = none →
    (pairD d && !decide (pnm d ∈ ns ++ ds.map pnm) && !(rd && decide (pce d ∈ cs ++ ds.map pce))) = true → pairsF rd ns cs i (ds ++ [d]) = none
  | [], d, ns, cs, i, _, h => by
    rw [List.nil_append, pairsF, if_pos (by simpa using h), pairsF]
  | e :: ds, d, ns, cs, i, h0, h => by
    rw [pairsF] at h0
    rw [List.cons_append, pairsF]
    split at h0
    · rename_i hc
      rw [if_pos hc]
      exact pairsF_snoc ds d _ _ _ h0 (by simpa using h)
    · cases h0
theorem hoursF_all : ∀ (ds : List PyData) (i : Nat), (∀ d ∈ ds, hourD d = true) → hoursF i ds = none
  | [], _, _ => rfl
  | d :: ds, i, h => by
    rw [hoursF, if_pos (h d (by simp))]
    exact hoursF_all ds _ fun e he => h e (by simp [he])
theorem Rp.int_inv {F : List Addr} {H : Hp} {v : V} {i : Int} (r : Rp F H v (.int i)) : v = .int i := by cases r; rfl
theorem Rp.non_inv {F : List Addr} {H : Hp} {v : V} (r : Rp F H v .none) : v = .non := by cases r; rfl
/-! ### promises -/
def spBoolOf (f : PyData → Bool) : Sp := fun vs H Q _ => ∃ (F : List Addr) (v : V) (d : PyData) (n : Nat), vs = [v] ∧ Rp F H v d ∧ okx n d = true ∧ ∀ H', ExF [] H H' → Q (.bl (f d)) H'
def spLPairsF : Sp := fun vs H Q _ => ∃ (F : List Addr) (v : V) (d : PyData) (n : Nat) (rd : Bool), vs = [v, .bl rd] ∧ Rp F H v d ∧ okx n d = true ∧ (∀ ds, items d = some ds → ds.length ≤ 1000) ∧ ∀ v H', ExF [] H H' → Rp [] H' v (optD (pairsM rd d)) → Q v H'
def spLFault : Sp := fun vs H Q _ => ∃ (F : List Addr) (v1 v2 v3 : V) (r h t : PyData) (n : Nat), vs = [v1, v2, v3] ∧ Rp F H v1 r ∧ Rp F H v2 h ∧ Rp F H v3 t ∧ okx n r = true ∧ okx n h = true ∧ okx n t = true ∧
  (∀ ds, items r = some ds → ds.length ≤ 1000) ∧ (∀ ds, items h = some ds → ds.length ≤ 1000) ∧ (∀ ds, items t = some ds → ds.length ≤ 1000) ∧ ∀ v H', ExF [] H H' → Rp [] H' v (whyD (progF r h t)) → Q v H'
end Tw
end

section
set_option Elab.async false
set_option linter.all false
set_option maxRecDepth 100000
set_option maxHeartbeats 4000000
namespace Tw
open PySem L2 PyProof.Rows
noncomputable def t_p_is_integer (K : PySem.W.Frag) : TS := tRet (tAndV (tCB (rIsiU K) (tCons (tVar 0) (tCons (tC (.ty "int")) (tNil)))) (tNotV (tCB (rIsiU K) (tCons (tVar 0) (tCons (tC (.ty "bool")) (tNil))))))
noncomputable def t_p_is_cell (K : PySem.W.Frag) : TS := tRet (tAndV (tCall (spBoolOf intD) [] E0 (tCons (tVar 0) (tNil))) (tChain (rI0 fun i j => .bl (decide (i ≤ j))) (rI0 fun i j => .bl (decide (i ≤ j))) (tC (.int 1)) (tVar 0) (tC (.int 999))))
noncomputable def t_l_is_cell (K : PySem.W.Frag) : TS := tRet (tAndV (tCB (rIsiU K) (tCons (tVar 0) (tCons (tC (.ty "int")) (tNil)))) (tAndV (tNotV (tCB (rIsiU K) (tCons (tVar 0) (tCons (tC (.ty "bool")) (tNil))))) (tChain (rI0 fun i j => .bl (decide (i < j))) (rI0 fun i j => .bl (decide (i < j))) (tC (.int 0)) (tVar 0) (tC (.int 1000)))))
noncomputable def t_p_is_pair (K : PySem.W.Frag) : TS := tRet (tAndV (tCall (spIsList K) [] E0 (tCons (tVar 0) (tNil))) (tAndV (tOp (rEqU K) (tCB (rLenU K) (tCons (tVar 0) (tNil))) (tC (.int 2))) (tAndV (tCall spIsName [] E0 (tCons (tOp (rIxU K) (tVar 0) (tC (.int 0))) (tNil))) (tCall (spBoolOf cellD) [] E0 (tCons (tOp (rIxU K) (tVar 0) (tC (.int 1))) (tNil))))))
noncomputable def t_l_is_pair (K : PySem.W.Frag) : TS := tRet (tAndV (tCB (rIsiU K) (tCons (tVar 0) (tCons (tTupU (tCons (tC (.ty "list")) (tCons (tC (.ty "tuple")) (tNil)))) (tNil)))) (tAndV (tOp (rEqU K) (tCB (rLenU K) (tCons (tVar 0) (tNil))) (tC (.int 2))) (tAndV (tCall spIsName [] E0 (tCons (tOp (rIxU K) (tVar 0) (tC (.int 0))) (tNil))) (tCall (spBoolOf cellD) [] E0 (tCons (tOp (rIxU K) (tVar 0) (tC (.int 1))) (tNil))))))
noncomputable def t_p_is_instruction_t1 (K : PySem.W.Frag) : TS := tRet (tAndV (tCall (spIsList K) [] E0 (tCons (tOp (rIxU K) (tVar 0) (tC (.int 2))) (tNil))) (tCB (rAllU K) (tCons (tLcU (iSeqU K (tOp (rIxU K) (tVar 0) (tC (.int 2)))) (gName 1) (tYes) (tCall (spBoolOf cellD) [] E0 (tCons (tVar 1) (tNil))) [1]) (tNil))))
noncomputable def t_p_is_instruction (K : PySem.W.Frag) : TS := tSeq (tIfS (tOr (tNot (tB (tCall (spIsList K) [] E0 (tCons (tVar 0) (tNil))))) (tOr (tTest (tOp (rNeU K) (tCB (rLenU K) (tCons (tVar 0) (tNil))) (tC (.int 3)))) (tOr (tNot (tB (tCall (spBoolOf cellD) [] E0 (tCons (tOp (rIxU K) (tVar 0) (tC (.int 0))) (tNil))))) (tNot (tB (tCall spIsName [] E0 (tCons (tOp (rIxU K) (tVar 0) (tC (.int 1))) (tNil)))))))) (tRet (tC (.bl false))) (tNext)) (t_p_is_instruction_t1 K)
noncomputable def t_l_is_row_t1 (K : PySem.W.Frag) : TS := tRet (tAndV (tCall (spBoolOf cellD) [] E0 (tCons (tOp (rIxU K) (tVar 0) (tC (.int 0))) (tNil))) (tAndV (tCall spIsName [] E0 (tCons (tOp (rIxU K) (tVar 0) (tC (.int 1))) (tNil))) (tCB (rAllU K) (tCons (tLcU (iSeqU K (tOp (rIxU K) (tVar 0) (tC (.int 2)))) (gName 1) (tYes) (tCall (spBoolOf cellD) [] E0 (tCons (tVar 1) (tNil))) [1]) (tNil)))))
noncomputable def t_l_is_row (K : PySem.W.Frag) : TS := tSeq (tIfS (tOr (tNot (tB (tCB (rIsiU K) (tCons (tVar 0) (tCons (tTupU (tCons (tC (.ty "list")) (tCons (tC (.ty "tuple")) (tNil)))) (tNil)))))) (tOr (tTest (tOp (rNeU K) (tCB (rLenU K) (tCons (tVar 0) (tNil))) (tC (.int 3)))) (tNot (tB (tCB (rIsiU K) (tCons (tOp (rIxU K) (tVar 0) (tC (.int 2))) (tCons (tTupU (tCons (tC (.ty "list")) (tCons (tC (.ty "tuple")) (tNil)))) (tNil)))))))) (tRet (tC (.bl false))) (tNext)) (t_l_is_row_t1 K)
noncomputable def t_p_is_hour (K : PySem.W.Frag) : TS := tRet (tAndV (tCall (spIsList K) [] E0 (tCons (tVar 0) (tNil))) (tAndV (tOp (rI0 fun i j => .bl (decide (i ≤ j))) (tCB (rLenU K) (tCons (tVar 0) (tNil))) (tC (.int 2))) (tCB (rAllU K) (tCons (tLcU (iSeqU K (tVar 0)) (gName 1) (tYes) (tCall (spBoolOf rowD) [] E0 (tCons (tVar 1) (tNil))) [1]) (tNil)))))
noncomputable def t_l_pairs_fault_b2 (K : PySem.W.Frag) : TS := tSeq (tIfS (tOr (tNot (tB (tCall (spBoolOf pairD) [] E0 (tCons (tVar 5) (tNil))))) (tOr (tB (tInU K (tOp (rIxU K) (tVar 5) (tC (.int 0))) (tVar 2))) (tAnd (tB (tVar 1)) (tB (tInU K (tOp (rIxU K) (tVar 5) (tC (.int 1))) (tVar 3)))))) (tRet (tVar 4)) (tNext))
      (tSeq (tDrop (tBM K "list" (rAppendU) (tVar 2) (tCons (tOp (rIxU K) (tVar 5) (tC (.int 0))) (tNil))))
      (tDrop (tBM K "list" (rAppendU) (tVar 3) (tCons (tOp (rIxU K) (tVar 5) (tC (.int 1))) (tNil)))))
noncomputable def t_l_pairs_fault_t3 (K : PySem.W.Frag) : TS := tRet (tC .non)
noncomputable def t_l_pairs_fault_t2 (K : PySem.W.Frag) : TS := tSeq (tForU (iEnumU K (tCons (tVar 0) (tNil))) (gTup K 2 (gCons (gName 4) (gCons (gName 5) (gNil)))) (t_l_pairs_fault_b2 K)) (t_l_pairs_fault_t3 K)
noncomputable def t_l_pairs_fault_t1 (K : PySem.W.Frag) : TS := tSeq (tPar 2 3 (tCons (tLstU (tNil)) (tCons (tLstU (tNil)) (tNil)))) (t_l_pairs_fault_t2 K)
noncomputable def t_l_pairs_fault (K : PySem.W.Frag) : TS := tSeq (tIfS (tNot (tB (tCB (rIsiU K) (tCons (tVar 0) (tCons (tTupU (tCons (tC (.ty "list")) (tCons (tC (.ty "tuple")) (tNil)))) (tNil)))))) (tRet (tC (.int 0))) (tNext)) (t_l_pairs_fault_t1 K)
noncomputable def t_l_fault5_b3 (K : PySem.W.Frag) : TS := tIfS (tOr (tNot (tB (tCB (rIsiU K) (tCons (tVar 5) (tCons (tTupU (tCons (tC (.ty "list")) (tCons (tC (.ty "tuple")) (tNil)))) (tNil)))))) (tOr (tTest (tOp (rI0 fun i j => .bl (decide (j < i))) (tCB (rLenU K) (tCons (tVar 5) (tNil))) (tC (.int 2)))) (tNot (tB (tCB (rAllU K) (tCons (tLcU (iSeqU K (tVar 5)) (gName 6) (tYes) (tCall (spBoolOf rowD) [] E0 (tCons (tVar 6) (tNil))) [6]) (tNil))))))) (tRet (tTupU (tCons (tC (.str "hours")) (tCons (tVar 4) (tNil))))) (tNext)
noncomputable def t_l_fault5_t5 (K : PySem.W.Frag) : TS := tRet (tIf (tTest (tOp rIsN (tVar 3) (tC .non))) (tC .non) (tTupU (tCons (tC (.str "tells")) (tCons (tVar 3) (tNil)))))
noncomputable def t_l_fault5_t4 (K : PySem.W.Frag) : TS := tSeq (tAsg (tCall spLPairsF [] E0 (tCons (tVar 2) (tCons (tC (.bl false)) (tNil)))) (gName 3)) (t_l_fault5_t5 K)
noncomputable def t_l_fault5_t3 (K : PySem.W.Frag) : TS := tSeq (tForU (iEnumU K (tCons (tVar 1) (tNil))) (gTup K 2 (gCons (gName 4) (gCons (gName 5) (gNil)))) (t_l_fault5_b3 K)) (t_l_fault5_t4 K)
noncomputable def t_l_fault5_t2 (K : PySem.W.Frag) : TS := tSeq (tIfS (tNot (tB (tCB (rIsiU K) (tCons (tVar 1) (tCons (tTupU (tCons (tC (.ty "list")) (tCons (tC (.ty "tuple")) (tNil)))) (tNil)))))) (tRet (tTupU (tCons (tC (.str "hours")) (tCons (tC (.int 0)) (tNil))))) (tNext)) (t_l_fault5_t3 K)
noncomputable def t_l_fault5_t1 (K : PySem.W.Frag) : TS := tSeq (tIfS (tTest (tOp rNotN (tVar 3) (tC .non))) (tRet (tTupU (tCons (tC (.str "reads")) (tCons (tVar 3) (tNil))))) (tNext)) (t_l_fault5_t2 K)
noncomputable def t_l_fault5 (K : PySem.W.Frag) : TS := tSeq (tAsg (tCall spLPairsF [] E0 (tCons (tVar 0) (tCons (tC (.bl true)) (tNil)))) (gName 3)) (t_l_fault5_t1 K)

theorem rd_p_is_integer (K : PySem.W.Frag) {vs : List V} {H : Hp} {Q : VK} {E : XK} (h : spBoolOf intD vs H Q E) :
    t_p_is_integer K { nx := fun _ H' => Q .non H', rt := Q } (start ["thing"] vs) H := by
  obtain ⟨F, v, d, n, rfl, r, hd, q⟩ := h
  have q' := q H ExF.refl
  refine ⟨_, rfl, isi_int r ⟨_, rfl, ?_⟩⟩
  cases d with
  | int i => exact iteT ⟨_, rfl, isi_bool r ⟨_, rfl, q'⟩⟩
  | bool b => exact iteT ⟨_, rfl, isi_bool r ⟨_, rfl, q'⟩⟩
  | _ => exact iteF q'
theorem rd_p_is_cell (K : PySem.W.Frag) {vs : List V} {H : Hp} {Q : VK} {E : XK} (h : spBoolOf cellD vs H Q E) :
    t_p_is_cell K { nx := fun _ H' => Q .non H', rt := Q } (start ["thing"] vs) H := by
  obtain ⟨F, v, d, n, rfl, r, hd, q⟩ := h
  refine ⟨_, rfl, F, v, d, n, rfl, r, hd, fun H1 x1 => ⟨_, rfl, ?_⟩⟩
  have q' := q H1 x1
  cases d with
  | int i =>
    cases r.int_inv
    refine iteT ?_
    refine ⟨_, rfl, _, _, rfl, rfl, _, rfl, ?_⟩
    have e : cellD (.int i) = (decide ((1 : Int) ≤ i) && decide (i ≤ 999)) := by
      show (decide (0 < i) && decide (i < 1000)) = _
      rw [Bool.eq_iff_iff]
      simp only [Bool.and_eq_true, decide_eq_true_eq]
      omega
    rw [e] at q'
    cases h1 : decide ((1 : Int) ≤ i) with
    | true =>
      rw [h1, Bool.true_and] at q'
      exact iteT ⟨_, _, rfl, rfl, q'⟩
    | false =>
      rw [h1, Bool.false_and] at q'
      exact iteF q'
  | _ => exact iteF q'
theorem rd_l_is_cell (K : PySem.W.Frag) {vs : List V} {H : Hp} {Q : VK} {E : XK} (h : spBoolOf cellD vs H Q E) :
    t_l_is_cell K { nx := fun _ H' => Q .non H', rt := Q } (start ["_law_thing"] vs) H := by
  obtain ⟨F, v, d, n, rfl, r, hd, q⟩ := h
  have q' := q H ExF.refl
  refine ⟨_, rfl, isi_int r ⟨_, rfl, ?_⟩⟩
  cases d with
  | int i =>
    cases r.int_inv
    refine iteT ⟨_, rfl, isi_bool r ⟨_, rfl, _, rfl, iteT ?_⟩⟩
    refine ⟨_, rfl, _, _, rfl, rfl, _, rfl, ?_⟩
    have e : cellD (.int i) = (decide ((0 : Int) < i) && decide (i < 1000)) := rfl
    rw [e] at q'
    cases h1 : decide ((0 : Int) < i) with
    | true =>
      rw [h1, Bool.true_and] at q'
      exact iteT ⟨_, _, rfl, rfl, q'⟩
    | false =>
      rw [h1, Bool.false_and] at q'
      exact iteF q'
  | bool b => exact iteT ⟨_, rfl, isi_bool r ⟨_, rfl, _, rfl, iteF q'⟩⟩
  | _ => exact iteF q'
theorem pair_rest {K : PySem.W.Frag} {F : List Addr} {H : Hp} {v : V} {d : PyData} {n : Nat} {ds : List PyData} {Q : VK} (r : Rp F H v d) (hd : okx n d = true) (hi : items d = some ds) (q : ∀ H', ExF [] H H' → Q (.bl (pairD d)) H') :
    tAndV (tOp (rEqU K) (tCB (rLenU K) (tCons (tVar 0) (tNil))) (tC (.int 2))) (tAndV (tCall spIsName [] E0 (tCons (tOp (rIxU K) (tVar 0) (tC (.int 0))) (tNil))) (tCall (spBoolOf cellD) [] E0 (tCons (tOp (rIxU K) (tVar 0) (tC (.int 1))) (tNil)))) [some v] H Q := by
  obtain ⟨a, xs, rfl, na, ha, ra⟩ := r.items hi
  obtain ⟨hok, hl⟩ := okx_items hd hi
  have eP : pairD d = pairL ds := by unfold pairD; rw [hi]
  have hxl := ra.1
  refine ⟨_, rfl, lenSq ha (eqI ⟨_, rfl, ?_⟩)⟩
  match ds, hok, ra, eP, hxl with
  | [], _, _, eP, hxl =>
    refine ite2 (fun h => absurd (of_decide_eq_true h) (by simp at hxl; simp [hxl])) (fun h => ?_)
    have q' := q H ExF.refl
    rw [eP] at q'
    exact q'
  | [_], _, _, eP, hxl =>
    refine ite2 (fun h => absurd (of_decide_eq_true h) (by simp at hxl; simp [hxl])) (fun h => ?_)
    have q' := q H ExF.refl
    rw [eP] at q'
    exact q'
  | _ :: _ :: _ :: _, _, _, eP, hxl =>
    refine ite2 (fun h => absurd (of_decide_eq_true h) (by simp at hxl; rw [hxl]; omega)) (fun h => ?_)
    have q' := q H ExF.refl
    rw [eP] at q'
    exact q'
  | [d0, d1], hok, ra, eP, hxl =>
    obtain ⟨x0, xs1, rfl, rx0, ra1⟩ := ra.cons_inv
    obtain ⟨x1, xs2, rfl, rx1, ra2⟩ := ra1.cons_inv
    cases ra2.nil_inv
    rw [okxs_cons, okxs_cons] at hok
    refine iteT ?_
    refine ⟨_, rfl, ?_⟩
    refine ixSq ha (atN (v := x0) (by decide) rfl) ?_
    refine ⟨F, x0, d0, _, rfl, rx0, hok.1, fun H2 x2 => ⟨_, rfl, ?_⟩⟩
    cases hn : nameD d0 with
    | false =>
      refine iteF ?_
      have q' := q H2 x2
      rw [eP] at q'
      simp only [pairL, hn, Bool.false_and] at q'
      exact q'
    | true =>
      refine iteT ?_
      refine ⟨_, rfl, ?_⟩
      refine ixSq (ha.ex x2 (by simp)) (atN (v := x1) (by decide) rfl) ?_
      refine ⟨F, x1, d1, _, rfl, rx1.ex x2.of, hok.2.1, fun H3 x3 => ?_⟩
      have q' := q H3 (x2.trans x3)
      rw [eP] at q'
      simp only [pairL, hn, Bool.true_and] at q'
      exact q'
theorem rd_p_is_pair (K : PySem.W.Frag) {vs : List V} {H : Hp} {Q : VK} {E : XK} (h : spBoolOf pairD vs H Q E) :
    t_p_is_pair K { nx := fun _ H' => Q .non H', rt := Q } (start ["thing"] vs) H := by
  obtain ⟨F, v, d, n, rfl, r, hd, q⟩ := h
  refine ⟨_, rfl, .inl ⟨F, v, d, rfl, r, fun H1 x1 => ⟨_, rfl, ?_⟩⟩⟩
  cases hi : items d with
  | none =>
    rw [items_none hi]
    have q' := q H1 x1
    rw [show pairD d = false by unfold pairD; rw [hi]] at q'
    exact iteF q'
  | some ds =>
    rw [(items_some hi).1]
    exact iteT (pair_rest (r.ex x1.of) hd hi fun H2 x2 => q H2 (x1.trans x2))
theorem rd_l_is_pair (K : PySem.W.Frag) {vs : List V} {H : Hp} {Q : VK} {E : XK} (h : spBoolOf pairD vs H Q E) :
    t_l_is_pair K { nx := fun _ H' => Q .non H', rt := Q } (start ["_law_thing"] vs) H := by
  obtain ⟨F, v, d, n, rfl, r, hd, q⟩ := h
  refine ⟨_, rfl, by show 2 ≤ sizeLine; decide, fun p1 H1 hp1 e1 => ?_⟩
  have x1 : ExF [] H H1 := exn e1 hp1
  refine isi_seq (r.ex x1.of) (eqs e1) ⟨_, rfl, ?_⟩
  cases hi : items d with
  | none =>
    rw [items_none hi]
    have q' := q H1 x1
    rw [show pairD d = false by unfold pairD; rw [hi]] at q'
    exact iteF q'
  | some ds =>
    rw [(items_some hi).1]
    exact iteT (pair_rest (r.ex x1.of) hd hi fun H2 x2 => q H2 (x1.trans x2))
/-- xs[j], where that is a row -/
theorem iter_ix {K : PySem.W.Frag} {M : List Addr} {i : Nat} {b a : Addr} {j : Int} {ys xs : List V} {σ : L2.St} {H : Hp} (hv : σ[i]? = some (some (.ref b))) (hb : Sq H b ys) (hj : atI ys j = some (.ref a)) (ha : Sq H a xs) (hM : a ∉ M) :
    IterS M (iSeqU K (tOp (rIxU K) (tVar i) (tC (.int j)))) σ H xs := fun R h => by
  rcases ha with ha | ha
  · exact .inl ⟨_, hv, ixSq hb hj ⟨a, rfl, ⟨xs, .inl (.inl ha)⟩, h _ a _ H wkL ha hM ExF.refl⟩⟩
  · exact .inr (.inl ⟨_, hv, ixSq hb hj ⟨a, rfl, ⟨xs, .inl (.inl ha)⟩, h _ a _ H wkT ha hM ExF.refl⟩⟩)
/-- all([f(x) for x in row]) -/
theorem all_of {K : PySem.W.Frag} {F : List Addr} {wi : TI} {f : PyData → Bool} {k : Nat} {n : Nat} {vs : List Nat} {σ : L2.St} {H : Hp} {xs : List V} {ds : List PyData} {Q : VK} (hi : IterS [] wi σ H xs) (rx : RpL F H xs ds) (hok : okxs n ds = true) (hl : ds.length ≤ 100000)
    (hw : ∀ x, wipe ((wipe σ vs).set k (some x)) vs = wipe σ vs) (hg : ∀ x, ((wipe σ vs).set k (some x))[k]? = some (some x)) (q : ∀ H', ExF [] H H' → Q (.bl (ds.all f)) H') :
    tCB (rAllU K) (tCons (tLcU wi (gName k) tYes (tCall (spBoolOf f) [] E0 (tCons (tVar k) tNil)) vs) tNil) σ H Q := by
  have hxl : xs.length = ds.length := rx.1
  refine lcMapB (k := k) hi (ds.map f) (by rw [List.length_map]; exact hxl.symm) (by rw [sizeLine_eq]; omega) hw ?_ ?_
  · intro i x b H3 hx hb x3 Qc kk
    obtain ⟨e, he3, re⟩ := rx.get' hx
    rw [List.getElem?_map, he3] at hb
    cases hb
    exact ⟨_, hg x, F, x, e, _, rfl, re.ex x3.of, okxs_iff.mp hok e (List.mem_of_getElem? he3), fun H4 x4 => kk H4 x4⟩
  · intro p H3 hp hP x3
    refine allB hP ?_
    have q' := q H3 x3
    rw [List.all_map]
    exact q'
theorem rd_p_is_instruction (K : PySem.W.Frag) {vs : List V} {H : Hp} {Q : VK} {E : XK} (h : spBoolOf rowD vs H Q E) :
    t_p_is_instruction K { nx := fun _ H' => Q .non H', rt := Q } (start ["thing", "cell"] vs) H := by
  obtain ⟨F, v, d, n, rfl, r, hd, q⟩ := h
  have no : rowD d = false → ∀ H', ExF [] H H' → Q (.bl false) H' := fun e H' x => by
    have q' := q H' x
    rw [e] at q'
    exact q'
  refine ⟨_, rfl, .inl ⟨F, v, d, rfl, r, fun H1 x1 => ⟨_, rfl, ?_⟩⟩⟩
  cases hi : items d with
  | none =>
    rw [items_none hi]
    exact iteT (no (by unfold rowD; rw [hi]) H1 x1)
  | some ds =>
    rw [(items_some hi).1]
    refine iteF ?_
    obtain ⟨a, xs, rfl, na, ha, ra⟩ := r.items hi
    obtain ⟨hok, hl⟩ := okx_items hd hi
    have eP : rowD d = rowL ds := by unfold rowD; rw [hi]
    have hxl := ra.1
    have a1 := ha.ex x1 (by simp)
    refine ⟨_, rfl, lenSq a1 (neI ⟨_, rfl, ?_⟩)⟩
    have nol : ds.length ≠ 3 → rowD d = false := fun hn => by
      rw [eP]
      match ds, hn with
      | [], _ => rfl
      | [_], _ => rfl
      | [_, _], _ => rfl
      | [_, _, _], hn => exact absurd rfl hn
      | _ :: _ :: _ :: _ :: _, _ => rfl
    by_cases hn : ds.length = 3
    · match ds, hn, hok, ra, eP with
      | [d0, d1, d2], _, hok, ra, eP =>
        obtain ⟨y0, xs1, rfl, ry0, ra1⟩ := ra.cons_inv
        obtain ⟨y1, xs2, rfl, ry1, ra2⟩ := ra1.cons_inv
        obtain ⟨y2, xs3, rfl, ry2, ra3⟩ := ra2.cons_inv
        cases ra3.nil_inv
        rw [okxs_cons, okxs_cons, okxs_cons] at hok
        refine iteF ?_
        refine ⟨_, rfl, ?_⟩
        refine ixSq a1 (atN (v := y0) (by decide) rfl) ?_
        refine ⟨F, y0, d0, _, rfl, ry0.ex x1.of, hok.1, fun H2 x2 => ⟨_, rfl, ?_⟩⟩
        have x02 := x1.trans x2
        cases hc : cellD d0 with
        | false => exact iteT (no (by rw [eP]; simp [rowL, hc]) H2 x02)
        | true =>
          refine iteF ?_
          refine ⟨_, rfl, ?_⟩
          refine ixSq (ha.ex x02 (by simp)) (atN (v := y1) (by decide) rfl) ?_
          refine ⟨F, y1, d1, _, rfl, ry1.ex x02.of, hok.2.1, fun H3 x3 => ⟨_, rfl, ?_⟩⟩
          have x03 := x02.trans x3
          cases hnm : nameD d1 with
          | false => exact iteT (no (by rw [eP]; simp [rowL, hnm]) H3 x03)
          | true =>
            refine iteF ?_
            have eR : rowD d = cellsD d2 := by rw [eP]; simp [rowL, hc, hnm]
            refine ⟨_, rfl, ?_⟩
            refine ixSq (ha.ex x03 (by simp)) (atN (v := y2) (by decide) rfl) ?_
            refine .inl ⟨F, y2, d2, rfl, ry2.ex x03.of, fun H4 x4 => ⟨_, rfl, ?_⟩⟩
            have x04 := x03.trans x4
            cases hi2 : items d2 with
            | none =>
              rw [items_none hi2]
              exact iteF (no (by rw [eR]; unfold cellsD; rw [hi2]) H4 x04)
            | some cs =>
              rw [(items_some hi2).1]
              refine iteT ?_
              obtain ⟨c, zs, rfl, nc, hz, rz⟩ := ry2.items hi2
              obtain ⟨hok2, hl2⟩ := okx_items hok.2.2.1 hi2
              refine all_of (iter_ix (i := 0) (b := a) rfl (ha.ex x04 (by simp)) (atN (v := V.ref c) (by decide) rfl) (hz.ex x04 (by simp)) (by simp)) (rz.ex x04.of) hok2 hl2 (fun _ => rfl) (fun _ => rfl) fun H5 x5 => ?_
              have q' := q H5 (x04.trans x5)
              rw [eR] at q'
              unfold cellsD at q'
              rw [hi2] at q'
              exact q'
    · refine ite2 (fun h => no (nol hn) H1 x1) (fun h => absurd (show (xs.length : Int) = 3 by simpa using h) (by omega))
/-- len(x) == 3, and what is asked of the parts -/
theorem rd_l_is_row (K : PySem.W.Frag) {vs : List V} {H : Hp} {Q : VK} {E : XK} (h : spBoolOf rowD vs H Q E) :
    t_l_is_row K { nx := fun _ H' => Q .non H', rt := Q } (start ["_law_thing", "_law_cell"] vs) H := by
  obtain ⟨F, v, d, n, rfl, r, hd, q⟩ := h
  have no : rowD d = false → ∀ H', ExF [] H H' → Q (.bl false) H' := fun e H' x => by
    have q' := q H' x
    rw [e] at q'
    exact q'
  refine ⟨_, rfl, by show 2 ≤ sizeLine; decide, fun p1 H1 hp1 e1 => ?_⟩
  have x1 : ExF [] H H1 := exn e1 hp1
  refine isi_seq (r.ex x1.of) (eqs e1) ⟨_, rfl, ?_⟩
  cases hi : items d with
  | none =>
    rw [items_none hi]
    exact iteT (no (by unfold rowD; rw [hi]) H1 x1)
  | some ds =>
    rw [(items_some hi).1]
    refine iteF ?_
    obtain ⟨a, xs, rfl, na, ha, ra⟩ := r.items hi
    obtain ⟨hok, hl⟩ := okx_items hd hi
    have eP : rowD d = rowL ds := by unfold rowD; rw [hi]
    have hxl := ra.1
    have a1 := ha.ex x1 (by simp)
    refine ⟨_, rfl, lenSq a1 (neI ⟨_, rfl, ?_⟩)⟩
    have nol : ds.length ≠ 3 → rowD d = false := fun hn => by
      rw [eP]
      match ds, hn with
      | [], _ => rfl
      | [_], _ => rfl
      | [_, _], _ => rfl
      | [_, _, _], hn => exact absurd rfl hn
      | _ :: _ :: _ :: _ :: _, _ => rfl
    by_cases hn : ds.length = 3
    · match ds, hn, hok, ra, eP with
      | [d0, d1, d2], _, hok, ra, eP =>
        obtain ⟨y0, xs1, rfl, ry0, ra1⟩ := ra.cons_inv
        obtain ⟨y1, xs2, rfl, ry1, ra2⟩ := ra1.cons_inv
        obtain ⟨y2, xs3, rfl, ry2, ra3⟩ := ra2.cons_inv
        cases ra3.nil_inv
        rw [okxs_cons, okxs_cons, okxs_cons] at hok
        refine iteF ?_
        refine ⟨_, rfl, ?_⟩
        refine ixSq a1 (atN (v := y2) (by decide) rfl) ?_
        refine ⟨by show 2 ≤ sizeLine; decide, fun p2 H2 hp2 e2 => ?_⟩
        have x02 : ExF [] H H2 := x1.trans (exn e2 hp2)
        refine isi_seq (ry2.ex x02.of) (eqs e2) ⟨_, rfl, ?_⟩
        cases hi2 : items d2 with
        | none =>
          rw [items_none hi2]
          exact iteT (no (by rw [eP]; simp [rowL, cellsD, hi2]) H2 x02)
        | some cs =>
          rw [(items_some hi2).1]
          refine iteF ?_
          refine ⟨_, rfl, ?_⟩
          refine ixSq (ha.ex x02 (by simp)) (atN (v := y0) (by decide) rfl) ?_
          refine ⟨F, y0, d0, _, rfl, ry0.ex x02.of, hok.1, fun H3 x3 => ⟨_, rfl, ?_⟩⟩
          have x03 := x02.trans x3
          cases hc : cellD d0 with
          | false => exact iteF (no (by rw [eP]; simp [rowL, hc]) H3 x03)
          | true =>
            refine iteT ?_
            refine ⟨_, rfl, ?_⟩
            refine ixSq (ha.ex x03 (by simp)) (atN (v := y1) (by decide) rfl) ?_
            refine ⟨F, y1, d1, _, rfl, ry1.ex x03.of, hok.2.1, fun H4 x4 => ⟨_, rfl, ?_⟩⟩
            have x04 := x03.trans x4
            cases hnm : nameD d1 with
            | false => exact iteF (no (by rw [eP]; simp [rowL, hnm]) H4 x04)
            | true =>
              refine iteT ?_
              have eR : rowD d = cellsD d2 := by rw [eP]; simp [rowL, hc, hnm]
              obtain ⟨c, zs, rfl, nc, hz, rz⟩ := ry2.items hi2
              obtain ⟨hok2, hl2⟩ := okx_items hok.2.2.1 hi2
              refine all_of (iter_ix (i := 0) (b := a) rfl (ha.ex x04 (by simp)) (atN (v := V.ref c) (by decide) rfl) (hz.ex x04 (by simp)) (by simp)) (rz.ex x04.of) hok2 hl2 (fun _ => rfl) (fun _ => rfl) fun H5 x5 => ?_
              have q' := q H5 (x04.trans x5)
              rw [eR] at q'
              unfold cellsD at q'
              rw [hi2] at q'
              exact q'
    · refine ite2 (fun h => no (nol hn) H1 x1) (fun h => absurd (show (xs.length : Int) = 3 by simpa using h) (by omega))
theorem rd_p_is_hour (K : PySem.W.Frag) {vs : List V} {H : Hp} {Q : VK} {E : XK} (h : spBoolOf hourD vs H Q E) :
    t_p_is_hour K { nx := fun _ H' => Q .non H', rt := Q } (start ["thing", "one"] vs) H := by
  obtain ⟨F, v, d, n, rfl, r, hd, q⟩ := h
  refine ⟨_, rfl, .inl ⟨F, v, d, rfl, r, fun H1 x1 => ⟨_, rfl, ?_⟩⟩⟩
  cases hi : items d with
  | none =>
    rw [items_none hi]
    have q' := q H1 x1
    rw [show hourD d = false by unfold hourD; rw [hi]] at q'
    exact iteF q'
  | some ds =>
    rw [(items_some hi).1]
    refine iteT ?_
    obtain ⟨a, xs, rfl, na, ha, ra⟩ := r.items hi
    obtain ⟨hok, hl⟩ := okx_items hd hi
    have eP : hourD d = (decide (ds.length ≤ 2) && ds.all rowD) := by unfold hourD; rw [hi]
    have hxl := ra.1
    have a1 := ha.ex x1 (by simp)
    refine ⟨_, rfl, lenSq a1 ⟨_, _, rfl, rfl, _, rfl, ?_⟩⟩
    by_cases hn : ds.length ≤ 2
    · rw [decide_eq_true (show ((xs.length : Int) ≤ 2) by omega)]
      refine iteT ?_
      refine all_of (iter_var (i := 0) (a := a) rfl a1 (by simp)) (ra.ex x1.of) hok hl (fun _ => rfl) (fun _ => rfl) fun H5 x5 => ?_
      have q' := q H5 (x1.trans x5)
      rw [eP, decide_eq_true hn, Bool.true_and] at q'
      exact q'
    · rw [decide_eq_false (show ¬ ((xs.length : Int) ≤ 2) by omega)]
      have q' := q H1 x1
      rw [eP, decide_eq_false hn, Bool.false_and] at q'
      exact iteF q'
theorem drop_cons {α : Type} {xs : List α} {i : Nat} {x : α} (h : xs[i]? = some x) : xs.drop i = x :: xs.drop (i + 1) := by
  have hi := (List.getElem?_eq_some_iff.mp h)
  rw [List.drop_eq_getElem_cons hi.1]
  congr 1
  exact hi.2
theorem inV_int {i : Int} : ∀ cs : List Int, inV (.int i) (cs.map V.int) = decide (i ∈ cs)
  | [] => by simp [inV]
  | z :: zs => by
    have ih := inV_int (i := i) zs
    unfold inV at ih ⊢
    rw [List.map_cons, List.any_cons, ih]
    have e : eqV (V.int z) (V.int i) = decide (z = i) := by
      show (z == i) = decide (z = i)
      rw [Bool.eq_iff_iff]
      simp
    rw [e, Bool.eq_iff_iff]
    simp only [Bool.or_eq_true, decide_eq_true_eq, List.mem_cons]
    exact ⟨fun h => h.elim (fun h => .inl h.symm) .inr, fun h => h.elim (fun h => .inl h.symm) .inr⟩
theorem flat_int : ∀ zs : List Int, (zs.map V.int).all flatV = true
  | [] => rfl
  | z :: zs => by rw [List.map_cons, List.all_cons, flat_int zs]; rfl
/-- an int in a list of ints -/
theorem inInts {K : PySem.W.Frag} {H : Hp} {Q : VK} {a : Addr} {i : Int} {cs : List Int} (ha : H a = some (.lst (cs.map V.int))) (q : Q (.bl (decide (i ∈ cs))) H) : rInU K (.int i) (.ref a) H Q := by
  unfold rInU
  exact .inr (.inr (.inr ⟨a, cs.map V.int, rfl, .inl (.inl (.inl ha)), rfl, flat_int cs, by rw [inV_int]; exact q⟩))
theorem rd_l_pairs_fault (K : PySem.W.Frag) {vs : List V} {H : Hp} {Q : VK} {E : XK} (h : spLPairsF vs H Q E) :
    t_l_pairs_fault K { nx := fun _ H' => Q .non H', rt := Q } (start ["_law_thing", "_law_is_read", "_law_names", "_law_cells", "_law_at", "_law_pair"] vs) H := by
  obtain ⟨F, v, d, n, rd, rfl, r, hd, hlen, q⟩ := h
  refine ⟨_, rfl, by show 2 ≤ sizeLine; decide, fun p1 H1 hp1 e1 => ?_⟩
  have x1 : ExF [] H H1 := exn e1 hp1
  refine isi_seq (r.ex x1.of) (eqs e1) ⟨_, rfl, ?_⟩
  cases hi : items d with
  | none =>
    rw [items_none hi]
    refine iteT ?_
    refine q _ H1 x1 ?_
    unfold pairsM
    rw [hi]
    exact .int _
  | some ds =>
    rw [(items_some hi).1]
    refine iteF ?_
    obtain ⟨a, xs, rfl, na, ha, ra⟩ := r.items hi
    obtain ⟨hok, hl⟩ := okx_items hd hi
    have hlen := hlen ds hi
    have eP : pairsM rd d = pairsF rd [] [] 0 ds := by unfold pairsM; rw [hi]
    have sz : sizeLine = 16777216 := sizeLine_eq
    refine ⟨by decide, fun p2 H2 hp2 e2 => ?_⟩
    refine ⟨by decide, fun p3 H3 hp3 e3 => ?_⟩
    refine ⟨_, _, rfl, ?_⟩
    have x2 : ExF [] H H2 := x1.trans (exn e2 hp2)
    have x3 : ExF [] H H3 := x2.trans (exn e3 hp3)
    have a1 := ha.ex x1 (by simp)
    have a2 := ha.ex x2 (by simp)
    have n2 : a ≠ p2 := a1.elim (fun h => ne_of_none h hp2) fun h => ne_of_none h hp2
    have n3 : a ≠ p3 := a2.elim (fun h => ne_of_none h hp3) fun h => ne_of_none h hp3
    have rA : RpL (p3 :: p2 :: F) H3 xs ds := ((((ra.ex x1.of).add hp2).ex (exn e2 hp2)).add hp3).ex (exn e3 hp3)
    have lf : ∀ {H' : Hp}, ExF [p3, p2] H3 H' → ExF [] H H' := fun x => ((x3.of.trans x).drop (x2.free hp3)).drop (x1.free hp2)
    refine forE (i := 0) (a := a) (xs := xs) (M := [p3, p2]) rfl (ha.ex x3 (by simp)) (by simp [n2, n3])
      (fun i σ H' => ∃ (ns : List Str) (cs : List Int) (u w : Option V), σ = [some (.ref a), some (.bl rd), some (.ref p2), some (.ref p3), u, w] ∧ StrsAt H' p2 ns ∧ H' p3 = some (.lst (cs.map V.int)) ∧ ns.length ≤ i ∧ cs.length ≤ i ∧
        pairsF rd [] [] 0 ds = pairsF rd ns cs i (ds.drop i) ∧ ExF [p3, p2] H3 H')
      ⟨[], [], none, none, rfl, eqf e3 hp3 (eqs e2), eqs e3, Nat.le_refl _, Nat.le_refl _, rfl, ExF.refl⟩ (fun i σ' H' ⟨_, _, _, _, _, _, _, _, _, _, x⟩ => x) ?_ ?_
    · rintro i x σ' H4 H5 hx ⟨ns, cs, u, w, rfl, hk, ht, lk, lt, hf, x4⟩ x5
      obtain ⟨d', hd', rd'⟩ := rA.get' hx
      have hi' : i < ds.length := (List.getElem?_eq_some_iff.mp hd').1
      rw [drop_cons hd', pairsF] at hf
      have x45 : ExF [p3, p2] H3 H5 := x4.trans x5.of
      have r5 : Rp (p3 :: p2 :: F) H5 x d' := rd'.ex (x45.sub (by simp))
      refine ⟨_, rfl, _, x, d', n, rfl, r5, okx_le (okxs_iff.mp hok d' (List.mem_of_getElem? hd')) (by omega), fun H6 x6 => ⟨_, rfl, ?_⟩⟩
      have r6 := r5.ex x6.of
      have k6 : StrsAt H6 p2 ns := (x5.trans x6).at_ _ _ (by simp) hk
      have t6 : H6 p3 = some (.lst (cs.map V.int)) := (x5.trans x6).at_ _ _ (by simp) ht
      have x36 : ExF [p3, p2] H3 H6 := x45.trans x6.of
      have out : pairsF rd [] [] 0 ds = some i → Q (.int (i : Nat)) H6 := fun e => q _ H6 (lf x36) (by rw [eP, e]; exact .int _)
      cases hP : pairD d' with
      | false =>
        rw [hP, if_neg (by simp)] at hf
        exact iteT ⟨_, rfl, out hf⟩
      | true =>
        refine iteF ?_
        obtain ⟨s, j, hit, hs, hc, hn, hce⟩ := pairD_parts hP
        rw [hP, hn, hce] at hf
        obtain ⟨b, zs, rfl, nb, hb, rz⟩ := r6.items hit
        obtain ⟨y0, zs1, rfl, ry0, rz1⟩ := rz.cons_inv
        obtain ⟨y1, zs2, rfl, ry1, rz2⟩ := rz1.cons_inv
        cases ry0.str_inv
        cases ry1.int_inv
        cases rz2.nil_inv
        refine .inl ⟨_, rfl, ixSq hb (atN (v := .str s) (by decide) rfl) ⟨_, rfl, inStrs k6 ⟨_, rfl, ?_⟩⟩⟩
        refine ite2 (fun h => ?_) (fun h => ?_)
        · rw [h, if_neg (by simp)] at hf
          exact iteT ⟨_, rfl, out hf⟩
        · rw [Bool.not_eq_true] at h
          rw [h] at hf
          refine ⟨_, rfl, _, rfl, ?_⟩
          have fin : ∀ (hz : (rd && decide (j ∈ cs)) = false), (tSeq (tDrop (tBM K "list" (rAppendU) (tVar 2) (tCons (tOp (rIxU K) (tVar 5) (tC (.int 0))) (tNil))))
              (tDrop (tBM K "list" (rAppendU) (tVar 3) (tCons (tOp (rIxU K) (tVar 5) (tC (.int 1))) (tNil))))) { nx := fun σ H' => ∃ (ns : List Str) (cs : List Int) (u w : Option V), σ = [some (.ref a), some (.bl rd), some (.ref p2), some (.ref p3), u, w] ∧ StrsAt H' p2 ns ∧ H' p3 = some (.lst (cs.map V.int)) ∧ ns.length ≤ i + 1 ∧ cs.length ≤ i + 1 ∧ pairsF rd [] [] 0 ds = pairsF rd ns cs (i + 1) (ds.drop (i + 1)) ∧ ExF [p3, p2] H3 H', rt := Q } [some (.ref a), some (.bl rd), some (.ref p2), some (.ref p3), some (.int (i : Nat)), some (.ref b)] H6 := fun hz => by
            rw [hz, if_pos (by simp)] at hf
            refine ⟨_, rfl, tyL k6, _, rfl, ixSq hb (atN (v := .str s) (by decide) rfl) ?_⟩
            refine app k6 (by rw [List.length_map, sz]; omega) fun H7 e7 => ?_
            have bq : b ≠ p2 := fun z => nb (by rw [z]; simp)
            have hb7 : Sq H7 b [.str s, .int j] := hb.elim (fun h => .inl (eqn e7 bq h)) fun h => .inr (eqn e7 bq h)
            have n23 : p3 ≠ p2 := (ne_of_none (eqs e2) hp3).symm
            have t7 : H7 p3 = some (.lst (cs.map V.int)) := eqn e7 n23 t6
            refine ⟨_, rfl, tyL t7, _, rfl, ixSq hb7 (atN (v := .int j) (by decide) rfl) ?_⟩
            refine app t7 (by rw [List.length_map, sz]; omega) fun H8 e8 => ?_
            refine ⟨ns ++ [s], cs ++ [j], _, _, rfl, ?_, ?_, by simp; omega, by simp; omega, hf, (exm e8 (.inr (by simp)) (exm e7 (.inr (by simp)) x36))⟩
            · have := eqn e8 n23.symm (eqs e7)
              unfold StrsAt
              rw [this, List.map_append]
              rfl
            · have := eqs e8
              rw [this, List.map_append]
              rfl
          cases rd with
          | false => exact iteF (iteF (fin rfl))
          | true =>
            refine iteT ?_
            refine .inl ⟨_, rfl, ixSq hb (atN (v := .int j) (by decide) rfl) ⟨_, rfl, inInts t6 ⟨_, rfl, ?_⟩⟩⟩
            refine ite2 (fun h2 => ?_) (fun h2 => ?_)
            · rw [h2, if_neg (by simp)] at hf
              exact ⟨_, rfl, out hf⟩
            · rw [Bool.not_eq_true] at h2
              exact fin (by rw [h2]; rfl)
    · rintro σ' H4 ⟨ns, cs, u, w, rfl, hk, ht, lk, lt, hf, x4⟩
      rw [ra.1, List.drop_length, pairsF] at hf
      refine q _ H4 (lf x4) ?_
      rw [eP, hf]
      exact .non
theorem rd_l_fault5 (K : PySem.W.Frag) {vs : List V} {H : Hp} {Q : VK} {E : XK} (h : spLFault vs H Q E) :
    t_l_fault5 K { nx := fun _ H' => Q .non H', rt := Q } (start ["_law_reads", "_law_hours", "_law_tells", "_law_found", "_law_at", "_law_hour", "_law_row"] vs) H := by
  obtain ⟨F, v1, v2, v3, r, h, t, n, rfl, r1, r2, r3, k1, k2, k3, l1, l2, l3, q⟩ := h
  have why : ∀ {H' H'' : Hp} {w : Str} {i : Nat} {p : Addr}, ExF [] H H' → progF r h t = some (w, i) → H' p = none → H'' = upd H' p (.tup [.str w, .int (i : Nat)]) → Q (.ref p) H'' := fun {H' H'' w i p} x e hp e2 => by
    refine q _ H'' (x.trans (exn e2 hp)) ?_
    rw [e]
    exact .tuple (by simp) (eqs e2) (.cons (.str _) (.cons (.int _) .nil))
  refine ⟨_, rfl, F, v1, r, n, true, rfl, r1, k1, l1, fun w1 H1 x1 rw1 => ?_⟩
  cases e1 : pairsM true r with
  | some i =>
    rw [e1] at rw1
    cases rw1.int_inv
    refine ⟨_, rfl, rfl, _, rfl, iteT ?_⟩
    exact ⟨_, rfl, by show 2 ≤ sizeLine; decide, fun p H2 hp e2 => why x1 (by unfold progF; rw [e1]) hp e2⟩
  | none =>
    rw [e1] at rw1
    cases rw1.non_inv
    refine ⟨_, rfl, rfl, _, rfl, iteF ?_⟩
    refine ⟨_, rfl, by show 2 ≤ sizeLine; decide, fun p1 H2 hp1 e2 => ?_⟩
    have x2 : ExF [] H H2 := x1.trans (exn e2 hp1)
    refine isi_seq (r2.ex x2.of) (eqs e2) ⟨_, rfl, ?_⟩
    cases hi : items h with
    | none =>
      rw [items_none hi]
      refine iteT ?_
      exact ⟨by show 2 ≤ sizeLine; decide, fun p H3 hp e3 => why (i := 0) x2 (by unfold progF hoursM; rw [e1, hi]) hp e3⟩
    | some ds =>
      rw [(items_some hi).1]
      refine iteF ?_
      obtain ⟨a, xs, rfl, na, ha, ra⟩ := r2.items hi
      obtain ⟨hok, hl⟩ := okx_items k2 hi
      have hM : hoursM h = hoursF 0 ds := by unfold hoursM; rw [hi]
      refine forE (i := 1) (a := a) (xs := xs) (M := []) rfl (ha.ex x2 (by simp)) (by simp)
        (fun i σ H' => ∃ (u4 u5 : Option V), σ = [some v1, some (.ref a), some v3, some .non, u4, u5, none] ∧ hoursF 0 ds = hoursF i (ds.drop i) ∧ ExF [] H2 H')
        ⟨none, none, rfl, rfl, ExF.refl⟩ (fun i σ' H' ⟨_, _, _, _, x⟩ => x) ?_ ?_
      · rintro i x σ' H3 H4 hx ⟨u4, u5, rfl, hf, x3⟩ x4
        obtain ⟨d, hd, rd⟩ := ra.get' hx
        rw [drop_cons hd, hoursF] at hf
        have x24 := x2.trans (x3.trans x4)
        have rd4 := rd.ex x24.of
        have kd : okx n d = true := okx_le (okxs_iff.mp hok d (List.mem_of_getElem? hd)) (by omega)
        have out : hourD d = false → ∀ {H' H'' : Hp} {p : Addr}, ExF [] H H' → H' p = none → H'' = upd H' p (.tup [.str "hours", .int (i : Nat)]) → Q (.ref p) H'' := fun e {H' H'' p} x hp e2 => by
          refine why (w := "hours") x ?_ hp e2
          unfold progF
          rw [e1, hM, hf, e, if_neg Bool.false_ne_true]
        refine ⟨_, rfl, by show 2 ≤ sizeLine; decide, fun p1 H5 hp1 e5 => ?_⟩
        have x5 : ExF [] H H5 := x24.trans (exn e5 hp1)
        refine isi_seq (rd.ex x5.of) (eqs e5) ⟨_, rfl, ?_⟩
        cases hj : items d with
        | none =>
          rw [items_none hj]
          refine iteT ?_
          exact ⟨_, rfl, by show 2 ≤ sizeLine; decide, fun p H6 hp e6 => out (by unfold hourD; rw [hj]) x5 hp e6⟩
        | some es =>
          rw [(items_some hj).1]
          refine iteF ?_
          obtain ⟨b, ys, rfl, nb, hb, rb⟩ := rd.items hj
          obtain ⟨hok2, hl2⟩ := okx_items kd hj
          have eH : hourD d = (decide (es.length ≤ 2) && es.all rowD) := by unfold hourD; rw [hj]
          have b5 := hb.ex x5 (by simp)
          have hyl := rb.1
          refine ⟨_, rfl, lenSq b5 ⟨_, _, rfl, rfl, _, rfl, ?_⟩⟩
          by_cases hn : es.length ≤ 2
          · rw [decide_eq_false (show ¬ ((2 : Int) < ys.length) by omega)]
            refine iteF ?_
            refine all_of (iter_var (i := 5) (a := b) rfl b5 (by simp)) (rb.ex x5.of) hok2 hl2 (fun _ => rfl) (fun _ => rfl) fun H6 x6 => ⟨_, rfl, ?_⟩
            cases hr : es.all rowD with
            | false =>
              refine iteT ?_
              exact ⟨_, rfl, by show 2 ≤ sizeLine; decide, fun p H7 hp e7 => out (by rw [eH, hr, Bool.and_false]) (x5.trans x6) hp e7⟩
            | true =>
              refine iteF ?_
              rw [eH, hr, decide_eq_true hn, if_pos (show (true && true) = true from rfl)] at hf
              exact ⟨_, _, rfl, hf, ((x3.trans x4).trans (exn e5 hp1)).trans x6⟩
          · rw [decide_eq_true (show ((2 : Int) < ys.length) by omega)]
            refine iteT ?_
            refine iteT ?_
            exact ⟨_, rfl, by show 2 ≤ sizeLine; decide, fun p H7 hp e7 => out (by rw [eH, decide_eq_false hn, Bool.false_and]) x5 hp e7⟩
      · rintro σ' H3 ⟨u4, u5, rfl, hf, x3⟩
        rw [ra.1, List.drop_length, hoursF] at hf
        have x03 := x2.trans x3
        refine ⟨_, rfl, F, v3, t, n, false, rfl, r3.ex x03.of, k3, l3, fun w4 H4 x4 rw4 => ?_⟩
        have eF : progF r h t = (pairsM false t).map fun i => (("tells" : Str), i) := by
          unfold progF
          rw [e1, hM, hf]
        cases e4 : pairsM false t with
        | none =>
          rw [e4] at rw4
          cases rw4.non_inv
          refine ⟨_, rfl, rfl, _, rfl, iteT ?_⟩
          refine q _ H4 (x03.trans x4) ?_
          rw [eF, e4]
          exact .non
        | some i =>
          rw [e4] at rw4
          cases rw4.int_inv
          refine ⟨_, rfl, rfl, _, rfl, iteF ?_⟩
          exact ⟨_, rfl, by show 2 ≤ sizeLine; decide, fun p H5 hp e5 => why (x03.trans x4) (by rw [eF, e4]; rfl) hp e5⟩

end Tw
end

section
set_option Elab.async false
set_option linter.all false
set_option maxRecDepth 100000
set_option maxHeartbeats 4000000
namespace Tw
open PySem L2 PyProof.Rows

/-! ### a source -/
/-- an instance at x whose lines are xs -/
def SrcAt (C : Addr) (H : Hp) (x : Addr) (xs : List V) : Prop := ∃ dx a, H x = some (.ins C dx [("own_lines", .ref a)]) ∧ H a = some (.tup xs)
theorem SrcAt.ex {C : Addr} {H H' : Hp} {x : Addr} {xs : List V} (h : SrcAt C H x xs) (y : ExF [] H H') : SrcAt C H' x xs := by
  obtain ⟨dx, a, h1, h2⟩ := h
  exact ⟨dx, a, y.at_ _ _ (by simp) h1, y.at_ _ _ (by simp) h2⟩
/-- the class, as the text has it -/
structure SrcC (K : PySem.W.Frag) (C : Addr) : Prop where
  cl : Cls K C
  ha : PySem.W.findIn K (.ref C) "__class__" = some (some (.builtin "object.__class__"))
  hn : PySem.W.specialIn K (.builtin "object.__class__") "__get__" = some (some (.builtin "getset_descriptor.__get__"))
  htk : PySem.W.takesIn K (.builtin "object.__class__") = some true
  hm : PySem.W.mroIn K C (.type "object") = some true
  me : PySem.W.kitOne K (.ref C) (.ref C) = some true
  no : NoAttr K C "own_lines"
  subL : PySem.W.kitOne K (.type "list") (.ref C) = some false
  subT : PySem.W.kitOne K (.type "tuple") (.ref C) = some false
  nl : PySem.W.kitAny K (.ref C) [.type "list", .type "tuple"] = some false
theorem SrcC.ty {K : PySem.W.Frag} {C a dx : Addr} {H : Hp} {fs : List (Str × V)} (T : SrcC K C) (h : H a = some (.ins C dx fs)) : TyX K H (.ref a) (.ref C) := .base (.ins h T.cl T.ha T.hn T.htk T.hm)
/-- a line: a tuple of its word, its name .. -/
def lnOk (d : PyData) : Prop := ∃ (w s : Str) (r : List PyData), d = .tuple (.str w :: .str s :: r)
/-- the names of the lines of one word -/
def namesOf (z : Str) (ds : List PyData) : List Str := (ds.filter fun d => match items d with
  | some (a :: _) => isS z a
  | _ => false).map lineN
/-- what is passed: data, or an instance (then d is none) -/
def AnyV (F : List Addr) (C : Addr) (H : Hp) (v : V) (d : PyData) : Prop := Rp F H v d ∨ (d = .none ∧ ∃ b dx fs, v = .ref b ∧ H b = some (.ins C dx fs) ∧ b ∉ F)
theorem AnyV.ex {F : List Addr} {C : Addr} {H H' : Hp} {v : V} {d : PyData} (h : AnyV F C H v d) (x : ExF F H H') : AnyV F C H' v d := by
  rcases h with h | ⟨h1, b, dx, fs, h2, h3, h4⟩
  · exact .inl (h.ex x)
  · exact .inr ⟨h1, b, dx, fs, h2, x.at_ _ _ h4 h3, h4⟩
def spSLines (C : Addr) : Sp := fun vs H Q _ => ∃ (x : Addr) (xs : List V), vs = [.ref x] ∧ SrcAt C H x xs ∧ ∀ r H', H r = none → H' r = some (.lst xs) → ExF [] H H' → Q (.ref r) H'
def spSNames (z : Str) (C : Addr) : Sp := fun vs H Q _ => ∃ (x : Addr) (F : List Addr) (xs : List V) (ds : List PyData), vs = [.ref x] ∧ SrcAt C H x xs ∧ RpL F H xs ds ∧ (∀ d ∈ ds, lnOk d) ∧ ds.length ≤ 1000 ∧
  ∀ r H', H r = none → H' r = some (.lst ((namesOf z ds).map V.str)) → ExF [] H H' → Q (.ref r) H'
/-- ==: with a source, by the lines; with a list, a tuple: no -/
def spSEq (C : Addr) : Sp := fun vs H Q _ => ∃ (x : Addr) (xs : List V) (F : List Addr) (ds : List PyData) (v : V), vs = [.ref x, v] ∧ SrcAt C H x xs ∧ RpL F H xs ds ∧ ok 20 (.tuple ds) = true ∧
  ((∃ (y : Addr) (ys : List V) (G : List Addr) (es : List PyData), v = .ref y ∧ SrcAt C H y ys ∧ RpL G H ys es ∧ ok 20 (.tuple es) = true ∧ ∀ H', ExF [] H H' → Q (.bl (PyData.eqv (.tuple ds) (.tuple es))) H') ∨
   ∃ (G : List Addr) (d : PyData), Rp G H v d ∧ isSeq d = true ∧ ∀ H', ExF [] H H' → Q (.bl false) H')
/-- Source(v): its lines, or BadLines -/
def spSInit (C cB : Addr) : Sp := fun vs H Q E => ∃ (x dx : Addr) (v : V) (F G : List Addr) (d : PyData) (n : Nat), vs = [.ref x, v] ∧ x ∈ F ∧ H x = some (.ins C dx []) ∧ AnyV F C H v d ∧ okx n d = true ∧ n ≤ 29 ∧ size d ≤ 1000000 ∧ (∀ ds, items d = some ds → ds.length ≤ 1000) ∧ Trk G H ∧
  (∀ ds a xs H', items d = some ds → metD d = none → ExF [x] H H' → a ∉ G → H' x = some (.ins C dx [("own_lines", .ref a)]) → H' a = some (.tup xs) → RpL G H' xs (tups ds) → Q .non H') ∧
  (∀ i dd H', metD d = some i → ExF [x] H H' → H dd = none → H' dd = some (.xd [("index", .int i)]) → E (.ref cB) (some dd) H')
def spMet (C : Addr) : Sp := fun vs H Q _ => ∃ (v : V) (F : List Addr) (d : PyData) (n : Nat), vs = [v] ∧ AnyV F C H v d ∧ okx n d = true ∧ n ≤ 29 ∧ size d ≤ 1000000 ∧ (∀ ds, items d = some ds → ds.length ≤ 1000) ∧
  ∀ r H', ExF [] H H' → Rp [] H' r (optD (metD d)) → Q r H'

/-! ### good lines hold no dict -/
mutual
theorem exprD_ok {known : List Str} : ∀ {n : Nat} {d : PyData}, okx n d = true → exprD known d = true → ok n d = true
  | n, .str s, h, _ => by rw [okx_str] at h; rw [ok_str]; exact h
  | 0, .list ds, h, _ => by simp [okx] at h
  | 0, .tuple ds, h, _ => by simp [okx] at h
  | n + 1, .list ds, h, k => by rw [okx_list] at h; rw [exprD] at k; rw [ok_list]; exact ⟨exprL_ok h.1 k, h.2⟩
  | n + 1, .tuple ds, h, k => by rw [okx_tuple] at h; rw [exprD] at k; rw [ok_tuple]; exact ⟨exprL_ok h.1 k, h.2⟩
  | _, .none, _, k => by simp [exprD] at k
  | _, .bool _, _, k => by simp [exprD] at k
  | _, .int _, _, k => by simp [exprD] at k
  | _, .dict _, _, k => by simp [exprD] at k
theorem exprL_ok {known : List Str} : ∀ {n : Nat} {ds : List PyData}, okxs n ds = true → exprL known ds = true → oks n ds = true
  | n, [], _, k => by simp [exprL] at k
  | n, d :: ds, h, k => by
    rw [okxs_cons] at h
    rw [exprL, Bool.and_eq_true] at k
    rw [oks_cons]
    obtain ⟨s, rfl, _⟩ := nameD_str k.1
    exact ⟨by rw [ok_str]; have := h.1; rw [okx_str] at this; exact this, exprs_ok h.2 k.2⟩
theorem exprs_ok {known : List Str} : ∀ {n : Nat} {ds : List PyData}, okxs n ds = true → exprs known ds = true → oks n ds = true
  | n, [], _, _ => by rw [oks]
  | n, d :: ds, h, k => by
    rw [okxs_cons] at h
    rw [exprs, Bool.and_eq_true] at k
    rw [oks_cons]
    exact ⟨exprD_ok h.1 k.1, exprs_ok h.2 k.2⟩
end
theorem lineL_ok {known told : List Str} {n : Nat} {ds : List PyData} (h : okxs n ds = true) (k : lineL known told ds = true) : oks n ds = true := by
  have isStr_ok : ∀ {z : Str} {a : PyData}, isS z a = true → okx n a = true → ok n a = true := fun {z a} hz ha => by
    cases a <;> simp [isS] at hz
    rw [okx_str] at ha
    rw [ok_str]
    exact ha
  have nm_ok : ∀ {b : PyData}, nameD b = true → okx n b = true → ok n b = true := fun {b} hb ho => by
    obtain ⟨s, rfl, _⟩ := nameD_str hb
    rw [okx_str] at ho
    rw [ok_str]
    exact ho
  match ds, h, k with
  | [], _, k => cases k
  | [_], _, k => cases k
  | [a, b], h, k =>
    rw [okxs_cons, okxs_cons] at h
    simp only [lineL, Bool.and_eq_true, Bool.or_eq_true] at k
    rw [oks_cons, oks_cons]
    refine ⟨?_, nm_ok k.1 h.2.1, by rw [oks]⟩
    rcases k.2 with k | k
    · exact isStr_ok k.1 h.1
    · exact isStr_ok k.1.1 h.1
  | [a, b, e], h, k =>
    rw [okxs_cons, okxs_cons, okxs_cons] at h
    simp only [lineL, Bool.and_eq_true] at k
    rw [oks_cons, oks_cons, oks_cons]
    exact ⟨isStr_ok k.1.2 h.1, nm_ok k.1.1 h.2.1, exprD_ok h.2.2.1 k.2, by rw [oks]⟩
  | _ :: _ :: _ :: _ :: _, _, k => cases k
theorem lineD_ok {known told : List Str} {n : Nat} {d : PyData} (h : okx n d = true) (k : lineD known told d = true) : ok n d = true := by
  unfold lineD at k
  cases d with
  | list ds =>
    cases n with
    | zero => simp [okx] at h
    | succ n => rw [okx_list] at h; rw [ok_list]; exact ⟨lineL_ok h.1 k, h.2⟩
  | tuple ds =>
    cases n with
    | zero => simp [okx] at h
    | succ n => rw [okx_tuple] at h; rw [ok_tuple]; exact ⟨lineL_ok h.1 k, h.2⟩
  | _ => cases k
theorem faultL_ok {n : Nat} {known told : List Str} {i : Nat} {ds : List PyData} (h : okxs n ds = true) (k : faultL known told i ds = none) : oks n ds = true :=
  oks_iff.mpr fun d hd => by
    obtain ⟨k, t, hl⟩ := faultL_each k d hd
    exact lineD_ok (okxs_iff.mp h d hd) hl
end Tw
end

section
set_option Elab.async false
set_option linter.all false
set_option maxRecDepth 100000
set_option maxHeartbeats 4000000
namespace Tw
open PySem L2 PyProof.Rows
structure Ad2 where
  cSrc : Addr
  cBad : Addr
def t_met_try (K : PySem.W.Frag) (D : Ad2) : TS := fun X σ H =>
  tSeq (tDrop (tMakeS D.cSrc (spSInit D.cSrc D.cBad) (WE (wAs K (.ref D.cBad) 1 (fun a cls d => tRet (tXf a cls d D.cBad "index" (tVar 1))) (fun _ _ _ _ => False) X)) (tCons (tVar 0) tNil))) (tRet (tC .non)) X σ H
noncomputable def t_p_BadLines_init (K : PySem.W.Frag) (D : Ad2) : TS := tOst K "index" (tVar 0) (tVar 1)
noncomputable def t_p_Source_init_b2 (K : PySem.W.Frag) (D : Ad2) (E : XK) : TS := tSeq (tIfS (tNot (tB (tCall spPIsLine [] E0 (tCons (tVar 2) (tCons (tVar 3) (tCons (tVar 5) (tNil))))))) (tRaise E (tMkO D.cBad (spOneF "index" D.cBad) [] (tCons (tVar 4) (tNil)))) (tNext))
      (tSeq (tAsg (tC (.bl true)) (gSub (tVar 2) (tOp (rIxU K) (tVar 5) (tC (.int 1))) rSetU))
      (tIfS (tTest (tOp (rEqU K) (tOp (rIxU K) (tVar 5) (tC (.int 0))) (tC (.str "tell")))) (tAsg (tC (.bl true)) (gSub (tVar 3) (tOp (rIxU K) (tVar 5) (tC (.int 1))) rSetU)) (tNext)))
noncomputable def t_p_Source_init_t3 (K : PySem.W.Frag) (D : Ad2) (E : XK) : TS := sFld K (tVar 0) (tCall (spAsTuples 30) [] E0 (tCons (tVar 1) (tNil))) "own_lines"
noncomputable def t_p_Source_init_t2 (K : PySem.W.Frag) (D : Ad2) (E : XK) : TS := tSeq (tForU (iEnumU K (tCons (tVar 1) (tNil))) (gTup K 2 (gCons (gName 4) (gCons (gName 5) (gNil)))) (t_p_Source_init_b2 K D E)) (t_p_Source_init_t3 K D E)
noncomputable def t_p_Source_init_t1 (K : PySem.W.Frag) (D : Ad2) (E : XK) : TS := tSeq (tIfS (tNot (tB (tCall (spIsList K) [] E0 (tCons (tVar 1) (tNil))))) (tRaise E (tMkO D.cBad (spOneF "index" D.cBad) [] (tCons (tC (.int 0)) (tNil)))) (tNext)) (t_p_Source_init_t2 K D E)
noncomputable def t_p_Source_init (K : PySem.W.Frag) (D : Ad2) (E : XK) : TS := tSeq (tPar 2 3 (tCons (tDNewK) (tCons (tDNewK) (tNil)))) (t_p_Source_init_t1 K D E)
noncomputable def t_p_Source_lines (K : PySem.W.Frag) (D : Ad2) : TS := tRet (tCB (rLstOf K) (tCons (tFld K (tVar 0) "own_lines") (tNil)))
noncomputable def t_p_Source_reads (K : PySem.W.Frag) (D : Ad2) : TS := tRet (tLcU (iSeqU K (tFld K (tVar 0) "own_lines")) (gName 1) (tTest (tOp (rEqU K) (tOp (rIxU K) (tVar 1) (tC (.int 0))) (tC (.str "read")))) (tOp (rIxU K) (tVar 1) (tC (.int 1))) [1])
noncomputable def t_p_Source_tells (K : PySem.W.Frag) (D : Ad2) : TS := tRet (tLcU (iSeqU K (tFld K (tVar 0) "own_lines")) (gName 1) (tTest (tOp (rEqU K) (tOp (rIxU K) (tVar 1) (tC (.int 0))) (tC (.str "tell")))) (tOp (rIxU K) (tVar 1) (tC (.int 1))) [1])
noncomputable def t_p_Source_eq (K : PySem.W.Frag) (D : Ad2) : TS := tRet (tAndV (tCB (rIsiU K) (tCons (tVar 1) (tCons (tC (.ref D.cSrc)) (tNil)))) (tOp (rEqU K) (tFld K (tVar 0) "own_lines") (tFld K (tVar 1) "own_lines")))
noncomputable def t_l_met (K : PySem.W.Frag) (D : Ad2) : TS := t_met_try K D

section
variable {K : PySem.W.Frag} {D : Ad2} {vs : List V} {H : Hp} {Q : VK} {E : XK}
theorem rd_p_BadLines_init (hO : OexC K D.cBad) (hno : PySem.W.findIn K (.ref D.cBad) "index" = some none) (h : spOneF "index" D.cBad vs H Q E) :
    t_p_BadLines_init K D { nx := fun _ H' => Q .non H', rt := Q } (start ["self", "index"] vs) H := by
  obtain ⟨a, v, rfl, ha, q⟩ := h
  exact ⟨_, rfl, _, rfl, a, D.cBad, rfl, hO, hno, .inl ⟨ha, q⟩⟩
theorem lk_own {v : V} : List.lookup ("own_lines" : Str) [(("own_lines" : Str), v)] = some v := by simp [List.lookup]
theorem rd_p_Source_lines (T : SrcC K D.cSrc) (h : spSLines D.cSrc vs H Q E) : t_p_Source_lines K D { nx := fun _ H' => Q .non H', rt := Q } (start ["self"] vs) H := by
  obtain ⟨x, xs, rfl, ⟨dx, a, h1, h2⟩, q⟩ := h
  exact ⟨_, rfl, x, D.cSrc, dx, _, _, rfl, h1, T.cl, T.no, lk_own, lstOfT h2 fun p H' hp e => q p H' hp (eqs e) (exn e hp)⟩
/-- [line[1] for line in .. if line[0] == z] -/
def hd (z : Str) (d : PyData) : Bool := match items d with
  | some (a :: _) => isS z a
  | _ => false
theorem selD_names (z : Str) : ∀ ds : List PyData, selD (ds.map fun d => (hd z d, PyData.str (lineN d))) = (namesOf z ds).map PyData.str
  | [] => rfl
  | d :: ds => by
    have ih := selD_names z ds
    have e : namesOf z (d :: ds) = (if hd z d then [lineN d] else []) ++ namesOf z ds := by
      show ((d :: ds).filter (hd z)).map lineN = _
      rw [List.filter_cons]
      cases h : hd z d <;> rfl
    rw [e, List.map_append, ← ih]
    unfold selD
    rw [List.map_cons, List.filter_cons]
    cases h : hd z d <;> rfl
theorem lcHead {z : Str} {k : Nat} {wi : TI} {σ : L2.St} {F : List Addr} {xs : List V} {ds : List PyData} (hi : IterS [] wi σ H xs) (hk : k < σ.length) (rx : RpL F H xs ds) (hl : ∀ d ∈ ds, lnOk d) (hz : ds.length ≤ 1000)
    (q : ∀ r H', H r = none → H' r = some (.lst ((namesOf z ds).map V.str)) → ExF [] H H' → Q (.ref r) H') :
    tLcU wi (gName k) (tTest (tOp (rEqU K) (tOp (rIxU K) (tVar k) (tC (.int 0))) (tC (.str z)))) (tOp (rIxU K) (tVar k) (tC (.int 1))) [k] σ H Q := by
  have hwk : ∀ x : V, ((wipe σ [k]).set k (some x))[k]? = some (some x) := fun x => by
    have e : wipe σ [k] = σ.set k none := rfl
    rw [e, List.getElem?_set_self (by rw [List.length_set]; exact hk)]
  have lx := rx.1
  have at_ : ∀ {i : Nat} {x : V} {b : Bool} {e : PyData} {H' : Hp}, xs[i]? = some x → (ds.map fun d => (hd z d, PyData.str (lineN d)))[i]? = some (b, e) → ExF [] H H' →
      ∃ (a : Addr) (w s : Str) (vs : List V), x = .ref a ∧ H' a = some (.tup (.str w :: .str s :: vs)) ∧ b = decide (w = z) ∧ e = .str s := fun {i x b e H'} h1 h2 x1 => by
    obtain ⟨d, hd', rd⟩ := rx.get' h1
    rw [List.getElem?_map, hd'] at h2
    cases h2
    obtain ⟨w, s, r, rfl⟩ := hl d (List.mem_of_getElem? hd')
    obtain ⟨a, zs, rfl, _, ha, rz⟩ := (rd.ex x1.of).tuple_inv
    obtain ⟨z0, zs1, rfl, r0, rz1⟩ := rz.cons_inv
    obtain ⟨z1, zs2, rfl, r1, _⟩ := rz1.cons_inv
    cases r0.str_inv
    cases r1.str_inv
    exact ⟨a, w, s, zs2, rfl, ha, rfl, rfl⟩
  refine lcSel (F := []) hi (ds.map fun d => (hd z d, PyData.str (lineN d))) (by rw [List.length_map]; exact lx.symm) (by rw [sizeLine_eq]; omega) (fun x => ?_) ?_ ?_ ?_
  · show ((σ.set k none).set k (some x)).set k none = σ.set k none
    simp
  · intro D i x b e H' h1 h2 x1 hD hD2 Qc k'
    obtain ⟨a, w, s, vs, rfl, ha, rfl, rfl⟩ := at_ h1 h2 x1
    exact ⟨_, hwk _, ixT ha (v := .str w) (atN (by decide) rfl) (eqS ⟨_, rfl, k' H' ExF.refl⟩)⟩
  · intro D i x e H' h1 h2 x1 hD hD2 Qc k'
    obtain ⟨a, w, s, vs, rfl, ha, _, rfl⟩ := at_ h1 h2 x1
    exact ⟨_, hwk _, ixT ha (v := .str s) (atN (by decide) rfl) (k' _ H' ExF.refl (.str s))⟩
  · intro r ys H' hr hy ry x
    rw [selD_names] at ry
    rw [ry.all_str] at hy
    exact q r H' hr hy x
theorem rd_names {z : Str} (T : SrcC K D.cSrc) (h : spSNames z D.cSrc vs H Q E) :
    tRet (tLcU (iSeqU K (tFld K (tVar 0) "own_lines")) (gName 1) (tTest (tOp (rEqU K) (tOp (rIxU K) (tVar 1) (tC (.int 0))) (tC (.str z)))) (tOp (rIxU K) (tVar 1) (tC (.int 1))) [1]) { nx := fun _ H' => Q .non H', rt := Q } (start ["self", "line"] vs) H := by
  obtain ⟨x, F, xs, ds, rfl, ⟨dx, a, h1, h2⟩, rx, hl, hz, q⟩ := h
  refine lcHead (iter_T fun Qc k => ⟨_, rfl, x, D.cSrc, dx, _, _, rfl, h1, T.cl, T.no, lk_own, k a H h2 (by simp) ExF.refl⟩) (by show 1 < 2; decide) rx hl hz q
theorem rd_p_Source_reads (T : SrcC K D.cSrc) (h : spSNames "read" D.cSrc vs H Q E) : t_p_Source_reads K D { nx := fun _ H' => Q .non H', rt := Q } (start ["self", "line"] vs) H := rd_names T h
theorem rd_p_Source_tells (T : SrcC K D.cSrc) (h : spSNames "tell" D.cSrc vs H Q E) : t_p_Source_tells K D { nx := fun _ H' => Q .non H', rt := Q } (start ["self", "line"] vs) H := rd_names T h
theorem rd_p_Source_eq (T : SrcC K D.cSrc) (h : spSEq D.cSrc vs H Q E) : t_p_Source_eq K D { nx := fun _ H' => Q .non H', rt := Q } (start ["self", "other"] vs) H := by
  obtain ⟨x, xs, F, ds, v, rfl, ⟨dx, a, h1, h2⟩, rx, hok, h⟩ := h
  rcases h with ⟨y, ys, G, es, rfl, ⟨dy, b, g1, g2⟩, ry, hok2, q⟩ | ⟨G, d, rv, hs, q⟩
  · refine ⟨_, rfl, ?_⟩
    unfold rIsiU
    refine .inl ⟨.ref y, .ref D.cSrc, .ref D.cSrc, .ref D.cSrc, true, rfl, .own _, T.ty g1, T.me, ⟨_, rfl, iteT ?_⟩⟩
    refine ⟨_, rfl, x, D.cSrc, dx, _, _, rfl, h1, T.cl, T.no, lk_own, _, rfl, y, D.cSrc, dy, _, _, rfl, g1, T.cl, T.no, lk_own, ?_⟩
    exact eqO (F := []) (G := []) (.tuple (by simp) h2 (rx.sub (by simp))) (.tuple (by simp) g2 (ry.sub (by simp))) hok hok2 (q H ExF.refl)
  · refine ⟨_, rfl, ?_⟩
    unfold rIsiU
    have hk : PySem.W.kitOne K (.type (tyName d)) (.ref D.cSrc) = some false := by
      cases d with
      | list _ => exact T.subL
      | tuple _ => exact T.subT
      | _ => cases hs
    exact .inl ⟨v, .ref D.cSrc, .type (tyName d), .ref D.cSrc, false, rfl, .own _, rv.ty, hk, ⟨_, rfl, iteF (q H ExF.refl)⟩⟩
end
section
variable {K : PySem.W.Frag} {D : Ad2} {vs : List V} {H : Hp} {Q : VK} {E : XK}
theorem Keys.put {H' : Hp} {a : Addr} {ns : List Str} {s : Str} {v : V} {kvs : List (Key × V)} (h : Keys H a ns) (hk : H a = some (.dK kvs)) (e : H' = upd H a (.dK (putK kvs (.inr s) v))) : Keys H' a (ns ++ [s]) := by
  obtain ⟨kvs', h1, h2, h3⟩ := h
  rw [hk] at h1
  cases h1
  refine ⟨_, eqs e, ?_, fun t => ?_⟩
  · have := length_putK kvs (.inr s) v
    rw [List.length_append]
    simp
    omega
  · rw [valV_put]
    by_cases ht : t = s
    · subst ht
      rw [if_pos rfl]
      simp
    · have ht' : (Sum.inr t : Key) ≠ .inr s := fun z => ht (by cases z; rfl)
      rw [if_neg ht', h3 t]
      simp [ht]
theorem Keys.eqf {H' : Hp} {a p : Addr} {ns : List Str} {o : HO} (h : Keys H a ns) (e : H' = upd H p o) (n : a ≠ p) : Keys H' a ns := by
  obtain ⟨kvs, h1, h2⟩ := h
  exact ⟨kvs, eqn e n h1, h2⟩
theorem size_mem {ds : List PyData} {d : PyData} (h : d ∈ ds) : size d ≤ sizes ds := by
  induction ds with
  | nil => cases h
  | cons e ds ih =>
    rw [sizes]
    rcases List.mem_cons.mp h with z | z
    · rw [z]; omega
    · have := ih z; omega
theorem rd_p_Source_init (T : SrcC K D.cSrc) (h : spSInit D.cSrc D.cBad vs H Q E) :
    t_p_Source_init K D E { nx := fun _ H' => Q .non H', rt := Q } (start ["self", "lines", "known", "told", "index", "thing"] vs) H := by
  obtain ⟨x, dx, v, F, G, d, n, rfl, hxF, hx, rv, hd, hn, hsz, hlen, tG, qN, qE⟩ := h
  have sz : sizeLine = 16777216 := sizeLine_eq
  intro kd hkd td htd
  generalize e1 : upd H kd (.dK []) = H1 at *
  have e1 := e1.symm
  generalize e2 : upd H1 td (.dK []) = H2 at *
  have e2 := e2.symm
  refine ⟨_, _, rfl, ?_⟩
  have x02 : ExF [] H H2 := (exn e1 hkd).trans (exn e2 htd)
  have k1 : H1 kd = some (.dK []) := eqs e1
  have nkt : kd ≠ td := ne_of_none k1 htd
  have k2 : Keys H2 kd [] := ⟨[], eqf e2 htd k1, by simp, fun s => by simp [valV]⟩
  have t2 : Keys H2 td [] := ⟨[], eqs e2, by simp, fun s => by simp [valV]⟩
  have nkx : kd ≠ x := (ne_of_none hx hkd).symm
  have ntx : td ≠ x := (ne_of_none (a := x) ((exn (F := []) e1 hkd).at_ _ _ (by simp) hx) htd).symm
  -- an error of this place
  have err : ∀ (i : Nat) (H3 : Hp), metD d = some i → ExF [x] H H3 → ∀ dd H', H3 dd = none → H' dd = some (.xd [("index", .int (i : Int))]) → ExF [] H3 H' → E (.ref D.cBad) (some dd) H' :=
    fun i H3 hm x3 dd H' n1 n2 x4 => qE i dd H' hm (x3.trans x4.of) (x3.free n1) n2
  -- no list
  have noSeq : items d = none → ∀ (D' : Ends) (σ : L2.St) (H3 : Hp), ExF [] H H3 → tRaise E (tMkO D.cBad (spOneF "index" D.cBad) [] (tCons (tC (.int 0)) (tNil))) D' σ H3 := by
    intro hi D' σ H3 x3
    refine mkOne ⟨_, rfl, fun dd H' n1 n2 x4 => err 0 H3 ?_ x3.of dd H' n1 n2 x4⟩ fun k h => k _ _ h
    unfold metD
    rw [hi]
  rcases rv with rv | ⟨hdn, b, bx, bf, rfl, hb, nb⟩
  · -- data
    refine ⟨_, rfl, .inl ⟨F, v, d, rfl, rv.ex x02.of, fun H3 x3 => ⟨_, rfl, ?_⟩⟩⟩
    have x03 := x02.trans x3
    cases hi : items d with
    | none =>
      rw [items_none hi]
      refine iteT ?_
      exact noSeq hi _ _ H3 x03
    | some ds =>
      rw [(items_some hi).1]
      refine iteF ?_
      obtain ⟨a, xs, rfl, na, ha, rx⟩ := rv.items hi
      have hl := hlen ds hi
      have hokx : okxs n ds = true := by
        rcases (items_some hi).2 with e | e <;> subst e
        · exact okx_items hd hi |>.1 |> fun h => okxs_iff.mpr fun d hd => okx_le (okxs_iff.mp h d hd) (by omega)
        · exact okx_items hd hi |>.1 |> fun h => okxs_iff.mpr fun d hd => okx_le (okxs_iff.mp h d hd) (by omega)
      have hm : metD d = faultL [] [] 0 ds := by unfold metD; rw [hi]
      have hs1 := size_items hi
      have lx := rx.1
      have nax : a ≠ x := fun e => na (e ▸ hxF)
      have ha3 := ha.ex x03 (by simp)
      have nak : a ≠ kd := fun e => by
        have := ha.ne
        rw [e] at this
        exact this hkd
      have nat : a ≠ td := fun e => by
        have := (ha.ex (exn (F := []) e1 hkd) (by simp)).ne
        rw [e] at this
        exact this htd
      refine forE (i := 1) (a := a) (xs := xs) (M := [kd, td]) rfl ha3 (by simp [nak, nat])
        (fun i σ H' => ∃ (known told : List Str) (u w : Option V), σ = [some (.ref x), some (.ref a), some (.ref kd), some (.ref td), u, w] ∧ Keys H' kd known ∧ Keys H' td told ∧ known.length ≤ i ∧ told.length ≤ i ∧
          faultL [] [] 0 ds = faultL known told i (ds.drop i) ∧ ExF [kd, td] H3 H')
        ⟨[], [], none, none, rfl, k2.ex x3 (by simp), t2.ex x3 (by simp), Nat.le_refl _, Nat.le_refl _, rfl, ExF.refl⟩ (fun i σ' H' ⟨_, _, _, _, _, _, _, _, _, _, x⟩ => x) ?_ ?_
      · rintro i y σ' H4 H5 hy ⟨known, told, u, w, rfl, hk, ht, lk, lt, hf, x4⟩ x5
        obtain ⟨e, he, re⟩ := rx.get' hy
        have hi' : i < ds.length := (List.getElem?_eq_some_iff.mp he).1
        have hme : e ∈ ds := List.mem_of_getElem? he
        have hdrop : ds.drop i = e :: ds.drop (i + 1) := by
          rw [List.drop_eq_getElem_cons hi']
          congr 1
          exact (List.getElem?_eq_some_iff.mp he).2
        rw [hdrop, faultL] at hf
        have drop2 : ∀ {A : Hp}, ExF [kd, td] H3 A → ExF [] H A := fun {A} z => by
          have z1 : ExF [kd, td] H A := x03.of.trans z
          have z2 : ExF [td] H A := z1.drop hkd
          exact z2.drop ((exn (F := []) e1 hkd).free htd)
        have x05 : ExF [] H H5 := drop2 (x4.trans x5.of)
        have k5 := hk.ex x5 (by simp)
        have t5 := ht.ex x5 (by simp)
        have hse := size_mem hme
        refine ⟨_, rfl, _, rfl, _, rfl, F, kd, td, known, told, y, e, n, rfl, k5, t5, re.ex x05.of, okxs_iff.mp hokx e hme, by omega, fun H6 x6 => ⟨_, rfl, ?_⟩⟩
        have x06 := x05.trans x6
        cases hL : lineD known told e with
        | false =>
          rw [hL, if_neg Bool.false_ne_true] at hf
          refine iteT ?_
          refine mkOne ⟨_, rfl, _, rfl, fun dd H' n1 n2 x7 => err i H6 (by rw [hm, hf]) x06.of dd H' n1 n2 x7⟩ fun k ⟨v, e, h⟩ => ⟨v, e, k _ _ h⟩
        | true =>
          rw [hL, if_pos rfl] at hf
          refine iteF ?_
          obtain ⟨d0, s1, rest, hit, hnm, htl⟩ := lineD_parts hL
          have eok := lineD_ok (okxs_iff.mp hokx e hme) hL
          obtain ⟨p, zs, rfl, np, hp, rz⟩ := re.items hit
          obtain ⟨z0, zs1, rfl, r0, rz1⟩ := rz.cons_inv
          obtain ⟨z1, zs2, rfl, r1, rz2⟩ := rz1.cons_inv
          cases r1.str_inv
          have k6 := k5.ex x6 (by simp)
          have t6 := t5.ex x6 (by simp)
          have hp6 := hp.ex x06 (by simp)
          obtain ⟨kvs, hkv, lkv, _⟩ := id k6
          -- known[thing[1]] = True
          refine ⟨_, rfl, _, rfl, ixSq hp6 (atN (v := .str s1) (by decide) rfl) ?_⟩
          refine setD hkv (by omega) fun H7 e7 => ?_
          have k7 := k6.put hkv e7
          have t7 := t6.eqf e7 nkt.symm
          have x67 : ExF [kd, td] H6 H7 := exm e7 (.inr (by simp)) ExF.refl
          have x37 : ExF [kd, td] H3 H7 := (x4.trans (x5.trans x6).of).trans x67
          have x07 := drop2 x37
          have hp7 := hp.ex x07 (by simp)
          have d0ok : ∃ w, d0 = .str w := by
            have h := hL
            unfold lineD at h
            rw [hit] at h
            match rest, h with
            | [], h =>
              simp only [lineL, Bool.and_eq_true, Bool.or_eq_true] at h
              rcases h.2 with h | h
              · cases d0 <;> simp [isS] at h <;> exact ⟨_, rfl⟩
              · cases d0 <;> simp [isS] at h <;> exact ⟨_, rfl⟩
            | [_], h =>
              simp only [lineL, Bool.and_eq_true] at h
              cases d0 <;> simp [isS] at h <;> exact ⟨_, rfl⟩
            | _ :: _ :: _, h => cases h
          obtain ⟨w0, rfl⟩ := d0ok
          cases r0.str_inv
          refine ⟨_, rfl, ?_⟩
          refine ixSq hp7 (atN (v := .str w0) (by decide) rfl) ?_
          refine eqS ⟨_, rfl, ?_⟩
          have htl' : lineT e = decide (w0 = "tell") := htl
          rw [hnm, htl'] at hf
          refine ite2 (fun hw => ?_) (fun hw => ?_)
          · rw [hw, if_pos rfl] at hf
            obtain ⟨kvs2, hkv2, lkv2, _⟩ := id t7
            refine ⟨_, rfl, _, rfl, ixSq hp7 (atN (v := .str s1) (by decide) rfl) ?_⟩
            refine setD hkv2 (by omega) fun H8 e8 => ?_
            exact ⟨known ++ [s1], told ++ [s1], _, _, rfl, k7.eqf e8 nkt, t7.put hkv2 e8, by simp; omega, by simp; omega, hf, exm e8 (.inr (by simp)) x37⟩
          · have hw' : decide (w0 = ("tell" : Str)) = false := by simpa using hw
            rw [hw', if_neg Bool.false_ne_true, List.append_nil] at hf
            exact ⟨known ++ [s1], told, _, _, rfl, k7, t7, by simp; omega, by omega, hf, x37⟩
      · rintro σ' H4 ⟨known, told, u, w, rfl, hk, ht, lk, lt, hf, x4⟩
        rw [lx, List.drop_length, faultL] at hf
        have x04 : ExF [] H H4 := by
          have z1 : ExF [kd, td] H H4 := x03.of.trans x4
          have z2 : ExF [td] H H4 := z1.drop hkd
          exact z2.drop ((exn (F := []) e1 hkd).free htd)
        have hok : ok 29 d = true := by
          have h1 := faultL_ok hokx hf
          cases n with
          | zero => rcases (items_some hi).2 with e | e <;> subst e <;> simp [okx] at hd
          | succ n =>
            have hdd : okxs n ds = true ∧ ds.length ≤ 100000 := okx_row hd hi
            have h2 := faultL_ok hdd.1 hf
            refine ok_le (n := n + 1) ?_ hn
            rcases (items_some hi).2 with e | e <;> subst e
            · rw [ok_list]; exact ⟨h2, hdd.2⟩
            · rw [ok_tuple]; exact ⟨h2, hdd.2⟩
        have hx4 := x04.at_ _ _ (by simp) hx
        refine ⟨_, rfl, F, x :: G, .ref a, d, rfl, rv.ex x04.of, ⟨by decide, hok⟩, ?_, fun r H5 x5 rr => ?_⟩
        · intro b hb
          rcases List.mem_cons.mp hb with z | z
          · rw [z, hx4]; exact fun z => nomatch z
          · exact x04.kept b (tG b z)
        · have et : tupD d = .tuple (tups ds) := by
            rcases (items_some hi).2 with e | e <;> subst e <;> rw [tupD]
          rw [et] at rr
          obtain ⟨q1, ys, rfl, nq, hq, ry⟩ := rr.tuple_inv
          have hx5 := x5.at_ _ _ (by simp) hx4
          refine ⟨_, rfl, x, D.cSrc, dx, [], rfl, hx5, T.cl, T.no, by decide, ?_⟩
          have nqx : q1 ≠ x := fun e => nq (by simp [e])
          refine qN ds q1 ys _ hi (by rw [hm, hf]) ?_ (fun z => nq (by simp [z])) upd_same ?_ ?_
          · exact exm rfl (.inr (by simp)) (x04.trans x5).of
          · rw [upd_ne nqx]; exact hq
          · exact (ry.ex (exm rfl (.inr (by simp)) ExF.refl : ExF (x :: G) H5 _)).sub (by intro a z; simp [z])
  · -- an instance
    subst hdn
    refine ⟨_, rfl, .inr ⟨.ref b, .ref D.cSrc, rfl, fun H' y => T.ty ((x02.trans y).at_ _ _ (by simp) hb), T.nl, fun H3 x3 => ⟨_, rfl, iteT ?_⟩⟩⟩
    exact noSeq rfl _ _ H3 (x02.trans x3)
end
theorem AnyV.add {F : List Addr} {C p : Addr} {H : Hp} {v : V} {d : PyData} (h : AnyV F C H v d) (hp : H p = none) : AnyV (p :: F) C H v d := by
  rcases h with h | ⟨h1, b, dx, fs, h2, h3, h4⟩
  · exact .inl (h.add hp)
  · exact .inr ⟨h1, b, dx, fs, h2, h3, fun z => by
      rcases List.mem_cons.mp z with z | z
      · rw [z, hp] at h3; cases h3
      · exact h4 z⟩
/-- a new instance and its dict -/
theorem made_ex {H : Hp} {x dx C : Addr} (hx : H x = none) (hdx : H dx = none) : ExF [] H (upd (upd H dx (.own x)) x (.ins C dx [])) := (ExF.new hdx).mut (.inl hx)
theorem rd_l_met {K : PySem.W.Frag} {D : Ad2} {vs : List V} {H : Hp} {Q : VK} {E : XK} (hte : PySem.W.exmOne K (.ref D.cBad) (.ref D.cBad) = some true) (h : spMet D.cSrc vs H Q E) :
    t_l_met K D { nx := fun _ H' => Q .non H', rt := Q } (start ["_law_thing", "e"] vs) H := by
  obtain ⟨v, F, d, n, rfl, hv, hd, hn, hsz, hlen, q⟩ := h
  refine ⟨_, rfl, fun x dx hx hdx ne => ?_⟩
  have x1 := made_ex (C := D.cSrc) hx hdx
  refine ⟨x, dx, v, x :: F, [], d, n, rfl, by simp, upd_same, (hv.add hx).ex x1.of, hd, hn, hsz, hlen, Trk.nil, fun ds a xs H' _ hm x2 _ _ _ _ => ?_, fun i dd H' hm x2 hdd hH => ?_⟩
  · refine ⟨rfl, ?_⟩
    refine q .non H' ((x1.of.trans x2).drop hx) ?_
    rw [hm]
    exact .non
  · refine ⟨true, hte, fun _ a ha => ?_, fun z => Bool.noConfusion z⟩
    refine ⟨_, rfl, rfl, rfl, dd, [(("index" : Str), V.int (i : Int))], .int (i : Int), rfl, hH, ?_, ?_⟩
    · show List.lookup ("index" : Str) [(("index" : Str), V.int (i : Int))] = some (V.int (i : Int))
      simp [List.lookup]
    · refine q _ H' ((x1.of.trans x2).drop hx) ?_
      rw [hm]
      exact .int _

end Tw
end

section
set_option Elab.async false
set_option linter.all false
set_option maxRecDepth 100000
set_option maxHeartbeats 4000000
namespace Tw
open PySem L2 PyProof.Rows

/-! ### == of data: the same both ways, and of texts with themselves -/
mutual
theorem eqv_symm : ∀ d e : PyData, PyData.eqv d e = PyData.eqv e d
  | .none, e => by cases e <;> simp [PyData.eqv]
  | .bool a, e => by cases e <;> simp [PyData.eqv, Bool.beq_comm, BEq.comm]
  | .int a, e => by cases e <;> simp [PyData.eqv, BEq.comm]
  | .str a, e => by cases e <;> simp [PyData.eqv, BEq.comm]
  | .list ds, e => by
    cases e with
    | list es => rw [PyData.eqv, PyData.eqv]; exact eqvAll_symm ds es
    | _ => simp [PyData.eqv]
  | .tuple ds, e => by
    cases e with
    | tuple es => rw [PyData.eqv, PyData.eqv]; exact eqvAll_symm ds es
    | _ => simp [PyData.eqv]
  | .dict _, e => by cases e <;> simp [PyData.eqv]
theorem eqvAll_symm : ∀ ds es : List PyData, PyData.eqvAll ds es = PyData.eqvAll es ds
  | [], [] => rfl
  | [], _ :: _ => by simp [PyData.eqvAll]
  | _ :: _, [] => by simp [PyData.eqvAll]
  | d :: ds, e :: es => by rw [PyData.eqvAll, PyData.eqvAll, eqv_symm d e, eqvAll_symm ds es]
end
mutual
theorem eqv_self : ∀ {d : PyData}, txt d = true → PyData.eqv d d = true
  | .str s, _ => by simp [PyData.eqv]
  | .list ds, h => by rw [txt] at h; rw [PyData.eqv]; exact eqvAll_self h
  | .tuple ds, h => by rw [txt] at h; rw [PyData.eqv]; exact eqvAll_self h
  | .none, h => by simp [txt] at h
  | .bool _, h => by simp [txt] at h
  | .int _, h => by simp [txt] at h
  | .dict _, h => by simp [txt] at h
theorem eqvAll_self : ∀ {ds : List PyData}, txts ds = true → PyData.eqvAll ds ds = true
  | [], _ => by simp [PyData.eqvAll]
  | d :: ds, h => by
    rw [txts, Bool.and_eq_true] at h
    rw [PyData.eqvAll, eqv_self h.1, eqvAll_self h.2]
    rfl
end
/-! ### the same by other brackets -/
mutual
theorem exprD_tup (known : List Str) : ∀ d : PyData, exprD known (tupD d) = exprD known d
  | .str s => by rw [tupD]
  | .list ds => by rw [tupD, exprD, exprD, exprL_tup known ds]
  | .tuple ds => by rw [tupD, exprD, exprD, exprL_tup known ds]
  | .none => by rw [tupD]
  | .bool _ => by rw [tupD]
  | .int _ => by rw [tupD]
  | .dict _ => by rw [tupD]
theorem exprL_tup (known : List Str) : ∀ ds : List PyData, exprL known (tups ds) = exprL known ds
  | [] => by rw [tups]
  | d :: ds => by rw [tups, exprL, exprL, exprs_tup known ds, nameD_tup]
theorem exprs_tup (known : List Str) : ∀ ds : List PyData, exprs known (tups ds) = exprs known ds
  | [] => by rw [tups]
  | d :: ds => by rw [tups, exprs, exprs, exprs_tup known ds, exprD_tup known d]
theorem nameD_tup : ∀ d : PyData, nameD (tupD d) = nameD d
  | .str s => by rw [tupD]
  | .list ds => by rw [tupD]; rfl
  | .tuple ds => by rw [tupD]
                    rfl
  | .none => by rw [tupD]
  | .bool _ => by rw [tupD]
  | .int _ => by rw [tupD]
  | .dict _ => by rw [tupD]
end
theorem isS_tup (z : Str) (d : PyData) : isS z (tupD d) = isS z d := by cases d <;> rw [tupD] <;> rfl
theorem nmIn_tup (k : List Str) (d : PyData) : nmIn k (tupD d) = nmIn k d := by cases d <;> rw [tupD] <;> rfl
theorem items_tup (d : PyData) : items (tupD d) = (items d).map tups := by cases d <;> rw [tupD] <;> rfl
theorem lineL_tup (k t : List Str) (ds : List PyData) : lineL k t (tups ds) = lineL k t ds := by
  match ds with
  | [] => rw [tups]
  | [_] => rw [tups, tups]; rfl
  | [a, b] => rw [tups, tups, tups]; simp only [lineL]; rw [nameD_tup, isS_tup, isS_tup, nmIn_tup, nmIn_tup]
  | [a, b, e] => rw [tups, tups, tups, tups]; simp only [lineL]; rw [nameD_tup, isS_tup, exprD_tup]
  | _ :: _ :: _ :: _ :: _ => rw [tups, tups, tups, tups]; rfl
theorem lineD_tup (k t : List Str) (d : PyData) : lineD k t (tupD d) = lineD k t d := by
  unfold lineD
  rw [items_tup]
  cases items d with
  | none => rfl
  | some ds => exact lineL_tup k t ds
theorem lineN_tup (d : PyData) : lineN (tupD d) = lineN d := by
  unfold lineN
  rw [items_tup]
  cases items d with
  | none => rfl
  | some ds =>
    match ds with
    | [] => rw [Option.map_some, tups]
    | [_] => rw [Option.map_some, tups, tups]
    | a :: b :: r => rw [Option.map_some, tups, tups]; cases b <;> rw [tupD]
theorem lineT_tup (d : PyData) : lineT (tupD d) = lineT d := by
  unfold lineT
  rw [items_tup]
  cases items d with
  | none => rfl
  | some ds =>
    match ds with
    | [] => rw [Option.map_some, tups]
    | a :: r => rw [Option.map_some, tups]; exact isS_tup _ a
theorem faultL_tup : ∀ (ds : List PyData) (k t : List Str) (i : Nat), faultL k t i (tups ds) = faultL k t i ds
  | [], k, t, i => by rw [tups]
  | d :: ds, k, t, i => by rw [tups, faultL, faultL, lineD_tup, lineN_tup, lineT_tup, faultL_tup ds]
theorem metD_tup (d : PyData) : metD (tupD d) = metD d := by
  unfold metD
  rw [items_tup]
  cases items d with
  | none => rfl
  | some ds => exact faultL_tup ds [] [] 0
/-! ### how long a text is shown -/
mutual
theorem txt_tup : ∀ d : PyData, txt (tupD d) = txt d
  | .str s => by rw [tupD]
  | .list ds => by rw [tupD, txt, txt, txts_tup ds]
  | .tuple ds => by rw [tupD, txt, txt, txts_tup ds]
  | .none => by rw [tupD]
  | .bool _ => by rw [tupD]
  | .int _ => by rw [tupD]
  | .dict _ => by rw [tupD]
theorem txts_tup : ∀ ds : List PyData, txts (tups ds) = txts ds
  | [] => by rw [tups]
  | d :: ds => by rw [tups, txts, txts, txt_tup d, txts_tup ds]
end
mutual
theorem size_tup : ∀ d : PyData, size (tupD d) = size d
  | .str s => by rw [tupD]
  | .list ds => by rw [tupD, size, size, sizes_tup ds]
  | .tuple ds => by rw [tupD, size, size, sizes_tup ds]
  | .none => by rw [tupD]
  | .bool _ => by rw [tupD]
  | .int _ => by rw [tupD]
  | .dict _ => by rw [tupD]
theorem sizes_tup : ∀ ds : List PyData, sizes (tups ds) = sizes ds
  | [] => by rw [tups]
  | d :: ds => by rw [tups, sizes, sizes, size_tup d, sizes_tup ds]
end
theorem str_app_len (a b : Str) : (a ++ b).length = a.length + b.length := by
  show (Str.mk (a.cps ++ b.cps)).cps.size = _
  simp [Str.length]
theorem textFrom_le : ∀ (ts : List Str) (k : Nat) (acc : Str), (textFrom k acc ts).length ≤ acc.length + piled ts
  | [], k, acc => by show acc.length ≤ _; omega
  | t :: r, k, acc => by
    have c2 : (Str.ofString (if k > 0 then ", " else "" : String)).length ≤ 2 := by split <;> decide
    unfold textFrom
    have ih := textFrom_le r (k + 1) (acc ++ (if k > 0 then ", " else "" : String) ++ t)
    have e1 := str_app_len (acc ++ Str.ofString (if k > 0 then ", " else "" : String)) t
    have e2 := str_app_len acc (Str.ofString (if k > 0 then ", " else "" : String))
    rw [piled_cons]
    omega
theorem listText_le (ts : List Str) : (listText ts).length ≤ piled ts + 2 := by
  unfold listText
  rw [str_app_len]
  have h := textFrom_le ts 0 "["
  have e1 : ("[" : Str).length = 1 := by decide
  have e2 : ("]" : Str).length = 1 := by decide
  omega
theorem tupleText_le (ts : List Str) : (tupleText ts).length ≤ piled ts + 3 := by
  unfold tupleText
  rw [str_app_len, str_app_len]
  have e1 : ("(" : Str).length = 1 := by decide
  have e2 : (Str.ofString (if ts.length == 1 then ",)" else ")" : String)).length ≤ 2 := by split <;> decide
  have h : (Str.join ", " ts).length ≤ piled ts := by
    cases ts with
    | nil => decide
    | cons t r => have := join_length_add (t :: r) (by simp); omega
  omega
theorem okS_reprText {s : Str} (h : okS s = true) : (reprText s).length ≤ 2002 := by
  have hl := okS_len h
  unfold okS at h
  rw [Bool.and_eq_true] at h
  have h1 := StrLaws.reprText_len s fun c hc => by
    have h2 := h.1
    unfold PyData.strOk at h2
    rw [← Array.all_toList, List.all_eq_true] at h2
    have := of_decide_eq_true (h2 c hc)
    exact Nat.lt_of_lt_of_le this (by decide)
  omega
mutual
theorem shown_le : ∀ {n : Nat} {d : PyData}, ok n d = true → txt d = true → d.shown.length + 2 ≤ 2010 * size d
  | n, .str s, h, _ => by
    rw [ok_str] at h
    have := okS_reprText h
    rw [PyData.shown, size]
    omega
  | 0, .list ds, h, _ => by simp [ok] at h
  | 0, .tuple ds, h, _ => by simp [ok] at h
  | n + 1, .list ds, h, k => by
    rw [ok_list] at h
    rw [txt] at k
    have h1 := shownAll_le h.1 k
    have h2 := listText_le (PyData.shownAll ds)
    rw [PyData.shown, size]
    omega
  | n + 1, .tuple ds, h, k => by
    rw [ok_tuple] at h
    rw [txt] at k
    have h1 := shownAll_le h.1 k
    have h2 := tupleText_le (PyData.shownAll ds)
    rw [PyData.shown, size]
    omega
  | _, .none, _, k => by simp [txt] at k
  | _, .bool _, _, k => by simp [txt] at k
  | _, .int _, _, k => by simp [txt] at k
  | _, .dict _, _, k => by simp [txt] at k
theorem shownAll_le : ∀ {n : Nat} {ds : List PyData}, oks n ds = true → txts ds = true → piled (PyData.shownAll ds) ≤ 2010 * sizes ds
  | n, [], _, _ => by rw [PyData.shownAll, sizes]; decide
  | n, d :: ds, h, k => by
    rw [oks_cons] at h
    rw [txts, Bool.and_eq_true] at k
    have h1 := shown_le h.1 k.1
    have h2 := shownAll_le h.2 k.2
    rw [PyData.shownAll, piled_cons, sizes]
    omega
end
mutual
theorem txt_show : ∀ {d : PyData}, txt d = true → d.showable = true ∧ d.hasDict = false
  | .str s, _ => by simp [PyData.showable, PyData.hasDict]
  | .list ds, h => by rw [txt] at h; rw [PyData.showable, PyData.hasDict]; exact txts_show h
  | .tuple ds, h => by rw [txt] at h; rw [PyData.showable, PyData.hasDict]; exact txts_show h
  | .none, h => by simp [txt] at h
  | .bool _, h => by simp [txt] at h
  | .int _, h => by simp [txt] at h
  | .dict _, h => by simp [txt] at h
theorem txts_show : ∀ {ds : List PyData}, txts ds = true → PyData.showableAll ds = true ∧ PyData.hasDictAll ds = false
  | [], _ => by simp [PyData.showableAll, PyData.hasDictAll]
  | d :: ds, h => by
    rw [txts, Bool.and_eq_true] at h
    rw [PyData.showableAll, PyData.hasDictAll, (txt_show h.1).1, (txt_show h.1).2, (txts_show h.2).1, (txts_show h.2).2]
    exact ⟨rfl, rfl⟩
end
/-- repr of it -/
theorem reprD {K : PySem.W.Frag} {F : List Addr} {H : Hp} {a : Addr} {d : PyData} {n : Nat} {Q : VK} (r : Rp F H (.ref a) d) (h : ok n d = true) (hn : n ≤ 60) (ht : txt d = true) (hs : size d ≤ 8000) (q : Q (.str d.shown) H) : rRepr K [.ref a] H Q := by
  have h1 := shown_le h ht
  have h2 := txt_show ht
  have h3 := ok_lay h
  unfold rRepr
  exact ⟨a, d, rfl, r.dp (ok_plain h), h2.1, h2.2, by omega, by rw [sizeLine_eq]; omega, q⟩
/-- all of made.lines() == .. -/
def spTold : Sp := fun vs H Q _ => ∃ (st cl : Addr) (c : Nat) (F : List Addr) (l : Addr) (xs : List V) (ds : List PyData), vs = [.ref st, .ref l] ∧ Strm st cl H c ∧ st ∈ F ∧ cl ∈ F ∧ H l = some (.lst xs) ∧ l ∉ F ∧ RpL F H xs ds ∧ GoodL ds ∧ c + 5000 < 2 ^ 48 ∧
  ∀ c' H', c ≤ c' → c' ≤ c + 5000 → Strm st cl H' c' → ExF [st, cl] H H' → Q (.bl true) H'
end Tw
end

section
set_option Elab.async false
set_option linter.all false
set_option maxRecDepth 100000
set_option maxHeartbeats 4000000
namespace Tw
open PySem L2 PyProof.Rows
@[irreducible] def MkR (D : Ad2) (v : V) (H : Hp) (Q : VK) : Prop := ∀ x dx, H x = none → H dx = none → dx ≠ x → spSInit D.cSrc D.cBad [.ref x, v] (upd (upd H dx (.own x)) x (.ins D.cSrc dx [])) (fun v H2 => v = .non ∧ Q (.ref x) H2) E0
def tMakeU (D : Ad2) (t : TA) : TE := fun σ H Q => t σ H fun zs H1 => ∃ v, zs = [v] ∧ MkR D v H1 Q
noncomputable def t_l_told_right_b5 (K : PySem.W.Frag) (D : Ad2) : TS := tDrop (tBM K "list" (rAppendU) (tVar 6) (tCons (tC (.str "late")) (tNil)))
noncomputable def t_l_told_right_b8 (K : PySem.W.Frag) (D : Ad2) : TS := tIfS (tAnd (tTest (tOp rIsN (tCall spFault [] E0 (tCons (tVar 7) (tNil))) (tC .non))) (tTest (tOp (rNeU K) (tOp (rEqOwn D.cSrc (spSEq D.cSrc)) (tVar 4) (tMakeU D (tCons (tVar 7) (tNil)))) (tOp (rEqU K) (tVar 7) (tVar 1))))) (tRet (tC (.bl false))) (tNext)
noncomputable def t_l_told_right_t9 (K : PySem.W.Frag) (D : Ad2) : TS := tRet (tC (.bl true))
noncomputable def t_l_told_right_t8 (K : PySem.W.Frag) (D : Ad2) : TS := tSeq (tForU (iSeqU K (tTupU (tCons (tSl (rSlU K) (tVar 1) (tNoPart) (tPart (tUn (rU fun i => .int (-i)) (tC (.int 1))))) (tCons (tOp (rAddU K) (tVar 1) (tLt (.lst [.tup [.str "read", .str "late9"]]))) (tCons (tRevL K (tVar 1)) (tNil)))))) (gName 7) (t_l_told_right_b8 K D)) (t_l_told_right_t9 K D)
noncomputable def t_l_told_right_t7 (K : PySem.W.Frag) (D : Ad2) : TS := tSeq (tIfS (tOr (tNot (tTest (tOp (rEqOwn D.cSrc (spSEq D.cSrc)) (tVar 4) (tMakeU D (tCons (tVar 1) (tNil)))))) (tOr (tTest (tOp (rNeOwn D.cSrc (spSEq D.cSrc)) (tVar 4) (tMakeU D (tCons (tVar 1) (tNil))))) (tOr (tTest (tOp (rEqOwn D.cSrc (spSEq D.cSrc)) (tVar 4) (tVar 1))) (tNot (tTest (tOp (rNeOwn D.cSrc (spSEq D.cSrc)) (tVar 4) (tCB (rTupOf K) (tCons (tVar 1) (tNil))))))))) (tRet (tC (.bl false))) (tNext)) (t_l_told_right_t8 K D)
noncomputable def t_l_told_right_t6 (K : PySem.W.Frag) (D : Ad2) : TS := tSeq (tIfS (tNot (tB (tCall (spSame 20) [] E0 (tCons (tLstU (tCons (tMeth D.cSrc "lines" (spSLines D.cSrc) [] E0 (tVar 4) tNil) (tCons (tMeth D.cSrc "reads" (spSNames "read" D.cSrc) [] E0 (tVar 4) tNil) (tCons (tMeth D.cSrc "tells" (spSNames "tell" D.cSrc) [] E0 (tVar 4) tNil) (tNil))))) (tCons (tVar 5) (tNil)))))) (tRet (tC (.bl false))) (tNext)) (t_l_told_right_t7 K D)
noncomputable def t_l_told_right_t5 (K : PySem.W.Frag) (D : Ad2) : TS := tSeq (tForU (iSeqU K (tTupU (tCons (tMeth D.cSrc "lines" (spSLines D.cSrc) [] E0 (tVar 4) tNil) (tCons (tMeth D.cSrc "reads" (spSNames "read" D.cSrc) [] E0 (tVar 4) tNil) (tCons (tMeth D.cSrc "tells" (spSNames "tell" D.cSrc) [] E0 (tVar 4) tNil) (tNil)))))) (gName 6) (t_l_told_right_b5 K D)) (t_l_told_right_t6 K D)
noncomputable def t_l_told_right_t4 (K : PySem.W.Frag) (D : Ad2) : TS := tSeq (tIfS (tB (tCB (rIsiU K) (tCons (tVar 2) (tCons (tC (.ty "list")) (tNil))))) (tDrop (tBM K "list" (rAppendU) (tVar 2) (tCons (tLt (.tup [.str "read", .str "late"])) (tNil)))) (tNext)) (t_l_told_right_t5 K D)
noncomputable def t_l_told_right_t3 (K : PySem.W.Frag) (D : Ad2) : TS := tSeq (tIfS (tOr (tNot (tB (tCall (spSame 20) [] E0 (tCons (tLstU (tCons (tMeth D.cSrc "lines" (spSLines D.cSrc) [] E0 (tVar 4) tNil) (tCons (tMeth D.cSrc "reads" (spSNames "read" D.cSrc) [] E0 (tVar 4) tNil) (tCons (tMeth D.cSrc "tells" (spSNames "tell" D.cSrc) [] E0 (tVar 4) tNil) (tNil))))) (tCons (tVar 5) (tNil)))))) (tTest (tOp (rNeU K) (tCB (rRepr K) (tCons (tVar 2) (tNil))) (tVar 3)))) (tRet (tC (.bl false))) (tNext)) (t_l_told_right_t4 K D)
noncomputable def t_l_told_right_t2 (K : PySem.W.Frag) (D : Ad2) : TS := tSeq (tAsg (tLstU (tCons (tVar 1) (tCons (tLcU (iSeqU K (tVar 1)) (gName 8) (tTest (tOp (rEqU K) (tOp (rIxU K) (tVar 8) (tC (.int 0))) (tC (.str "read")))) (tOp (rIxU K) (tVar 8) (tC (.int 1))) [8]) (tCons (tLcU (iSeqU K (tVar 1)) (gName 8) (tTest (tOp (rEqU K) (tOp (rIxU K) (tVar 8) (tC (.int 0))) (tC (.str "tell")))) (tOp (rIxU K) (tVar 8) (tC (.int 1))) [8]) (tNil))))) (gName 5)) (t_l_told_right_t3 K D)
noncomputable def t_l_told_right_t1 (K : PySem.W.Frag) (D : Ad2) : TS := tSeq (tPar 3 4 (tCons (tCB (rRepr K) (tCons (tVar 2) (tNil))) (tCons (tMakeU D (tCons (tVar 2) (tNil))) (tNil)))) (t_l_told_right_t2 K D)
noncomputable def t_l_told_right (K : PySem.W.Frag) (D : Ad2) : TS := tSeq (tAsg (tCall (spLoose 20) [] E0 (tCons (tVar 0) (tCons (tVar 1) (tNil)))) (gName 2)) (t_l_told_right_t1 K D)
noncomputable def t_law_b1 (K : PySem.W.Frag) (D : Ad2) : TS := tSeq (tAsg (tCall spALines [] E0 (tCons (tVar 1) (tCons (tOp (rAddU K) (tC (.int 2)) (tCall spDraw [] E0 (tCons (tVar 1) (tCons (tC (.int 9)) (tNil))))) (tCons (tCall spDraw [] E0 (tCons (tVar 1) (tCons (tC (.int 4)) (tNil)))) (tNil))))) (gName 3))
      (tSeq (tIfS (tOr (tTest (tOp rNotN (tCall spFault [] E0 (tCons (tVar 3) (tNil))) (tC .non))) (tNot (tB (tCall spTold [] E0 (tCons (tVar 1) (tCons (tVar 3) (tNil))))))) (tRet (tC (.bl false))) (tNext))
      (tSeq (tForU (iSeqU K (tSl (rSlU K) (tCall spMixed [] E0 (tCons (tVar 1) (tCons (tCall spOdds [] E0 (tCons (tVar 1) (tCons (tVar 3) (tNil)))) (tNil)))) (tNoPart) (tPart (tC (.int 25))))) (gName 4) (tSeq (tAsg (tCall spDraw [] E0 (tCons (tVar 1) (tCons (tOp (rAddU K) (tCB (rLenU K) (tCons (tVar 3) (tNil))) (tC (.int 1))) (tNil)))) (gName 5))
      (tSeq (tAsg (tOp (rAddU K) (tOp (rAddU K) (tSl (rSlU K) (tVar 3) (tNoPart) (tPart (tVar 5))) (tLt (.lst [.var 4]))) (tSl (rSlU K) (tVar 3) (tPart (tOp (rAddU K) (tVar 5) (tCall spDraw [] E0 (tCons (tVar 1) (tCons (tC (.int 2)) (tNil)))))) (tNoPart))) (gName 6))
      (tIfS (tNot (tB (tCall (spSame 20) [] E0 (tCons (tLstU (tCons (tCall (spMet D.cSrc) [] E0 (tCons (tCall spPick [] E0 (tCons (tVar 1) (tCons (tLstU (tCons (tVar 6) (tCons (tCB (rTupOf K) (tCons (tVar 6) (tNil))) (tNil)))) (tNil)))) (tNil))) (tNil))) (tCons (tLstU (tCons (tCall spFault [] E0 (tCons (tVar 6) (tNil))) (tNil))) (tNil)))))) (tRet (tC (.bl false))) (tNext)))))
      (tForU (iRng1 (tCons (tC (.int 6)) (tNil))) (gName 7) (tSeq (tAsg (tCB (rLstOf K) (tCons (tVar 3) (tNil))) (gName 6))
      (tSeq (tDrop (tBM K "list" (rInsert) (tVar 6) (tCons (tCall spDraw [] E0 (tCons (tVar 1) (tCons (tOp (rAddU K) (tCB (rLenU K) (tCons (tVar 3) (tNil))) (tC (.int 1))) (tNil)))) (tCons (tBM K "list" rPopAtU (tVar 6) (tCons (tCall spDraw [] E0 (tCons (tVar 1) (tCons (tCB (rLenU K) (tCons (tVar 3) (tNil))) (tNil)))) (tNil))) (tNil)))))
      (tIfS (tNot (tB (tCall (spSame 20) [] E0 (tCons (tLstU (tCons (tCall (spMet D.cSrc) [] E0 (tCons (tVar 6) (tNil))) (tCons (tCall (spMet D.cSrc) [] E0 (tCons (tOp rMulU (tVar 6) (tC (.int 2))) (tNil))) (tNil)))) (tCons (tLstU (tCons (tCall spFault [] E0 (tCons (tVar 6) (tNil))) (tCons (tCall spFault [] E0 (tCons (tOp rMulU (tVar 6) (tC (.int 2))) (tNil))) (tNil)))) (tNil)))))) (tRet (tC (.bl false))) (tNext)))))))
noncomputable def t_law_t3 (K : PySem.W.Frag) (D : Ad2) : TS := tRet (tAndV (tCall (spSame 20) [] E0 (tCons (tVar 8) (tCons (tOp rMulU (tLt (.lst [.int 0])) (tC (.int 7))) (tNil)))) (tCall (spSame 20) [] E0 (tCons (tLstU (tCons (tMeth D.cSrc "lines" (spSLines D.cSrc) [] E0 (tMakeU D (tCons (tLstU (tNil)) (tNil))) tNil) (tCons (tMeth D.cSrc "tells" (spSNames "tell" D.cSrc) [] E0 (tMakeU D (tCons (tTupU (tNil)) (tNil))) tNil) (tNil)))) (tCons (tLstU (tCons (tLstU (tNil)) (tCons (tLstU (tNil)) (tNil)))) (tNil)))))
noncomputable def t_law_t2 (K : PySem.W.Frag) (D : Ad2) : TS := tSeq (tAsg (tLcU (iSeqU K (tTupU (tCons (tC .non) (tCons (tC (.int 5)) (tCons (tC (.str "ab")) (tCons (tDNewK) (tCons (tC (.bl true)) (tCons (tMakeU D (tCons (tLstU (tNil)) (tNil))) (tCons (tLt (.tup [.str "read", .str "a"])) (tNil)))))))))) (gName 4) (tYes) (tCall (spMet D.cSrc) [] E0 (tCons (tVar 4) (tNil))) [4]) (gName 8)) (t_law_t3 K D)
noncomputable def t_law_t1 (K : PySem.W.Frag) (D : Ad2) : TS := tSeq (tForU (iRng1 (tCons (tC (.int 5)) (tNil))) (gName 2) (t_law_b1 K D)) (t_law_t2 K D)
noncomputable def t_law (K : PySem.W.Frag) (D : Ad2) : TS := tSeq (tAsg (tCall (spStart K) [] E0 (tCons (tVar 0) (tNil))) (gName 1)) (t_law_t1 K D)

theorem sizes_le {m : Nat} : ∀ {ds : List PyData}, (∀ d ∈ ds, size d ≤ m) → sizes ds ≤ ds.length * m
  | [], _ => by rw [sizes]; exact Nat.zero_le _
  | d :: ds, h => by
    have h1 := h d (by simp)
    have h2 := sizes_le (ds := ds) fun e he => h e (by simp [he])
    rw [sizes, List.length_cons, Nat.succ_mul]
    omega
theorem lineD_word {k t : List Str} {d : PyData} (h : lineD k t d = true) : ∃ w s r, items d = some (.str w :: .str s :: r) := by
  obtain ⟨d0, s1, rest, hit, _, _⟩ := lineD_parts h
  unfold lineD at h
  rw [hit] at h
  have : ∃ w, d0 = .str w := by
    match rest, h with
    | [], h =>
      simp only [lineL, Bool.and_eq_true, Bool.or_eq_true] at h
      rcases h.2 with h | h
      · cases d0 <;> simp [isS] at h <;> exact ⟨_, rfl⟩
      · cases d0 <;> simp [isS] at h <;> exact ⟨_, rfl⟩
    | [_], h =>
      simp only [lineL, Bool.and_eq_true] at h
      cases d0 <;> simp [isS] at h <;> exact ⟨_, rfl⟩
    | _ :: _ :: _, h => cases h
  obtain ⟨w, rfl⟩ := this
  exact ⟨w, s1, rest, hit⟩
theorem GoodL.ln {ds : List PyData} (g : GoodL ds) : ∀ d ∈ ds, lnOk d := fun d hd => by
  obtain ⟨k, t, h⟩ := faultL_each g.f d hd
  obtain ⟨w, s, r, hi⟩ := lineD_word h
  have ht := (g.good d hd).2.1
  rcases (items_some hi).2 with e | e
  · rw [e, tupD] at ht
    cases ht
  · exact ⟨w, s, r, e⟩
theorem GoodL.tups {ds : List PyData} (g : GoodL ds) : Tw.tups ds = ds := by
  rw [tups_map]
  exact (List.map_congr_left fun d hd => (g.good d hd).2.1).trans (List.map_id _)
theorem GoodL.oks {ds : List PyData} (g : GoodL ds) : Tw.oks 6 ds = true := oks_iff.mpr fun d hd => (g.good d hd).1
theorem GoodL.txts {ds : List PyData} (g : GoodL ds) : Tw.txts ds = true := txts_iff.mpr fun d hd => (g.good d hd).2.2.1
theorem GoodL.size {ds : List PyData} (g : GoodL ds) : sizes ds ≤ 4000 := by
  have := sizes_le fun d hd => (g.good d hd).2.2.2
  have := g.l20
  have : ds.length * 200 ≤ 20 * 200 := Nat.mul_le_mul_right _ g.l20
  omega
theorem namesOf_ok {z : Str} {n : Nat} {ds : List PyData} (hl : ∀ d ∈ ds, lnOk d) (ho : oks n ds = true) : ∀ s ∈ namesOf z ds, okS s = true := fun s hs => by
  obtain ⟨d, hd, rfl⟩ := List.mem_map.mp hs
  have hd := (List.mem_filter.mp hd).1
  obtain ⟨w, s, r, rfl⟩ := hl d hd
  have := oks_iff.mp ho _ hd
  cases n with
  | zero => simp [ok] at this
  | succ n =>
    rw [ok_tuple, oks_cons, oks_cons, ok_str, ok_str] at this
    exact this.1.2.1
theorem oks_strs {n : Nat} {zs : List Str} (h : ∀ s ∈ zs, okS s = true) : oks n (zs.map PyData.str) = true := oks_iff.mpr fun d hd => by
  obtain ⟨s, hs, rfl⟩ := List.mem_map.mp hd
  rw [ok_str]
  exact h s hs
/-- Source(v) of good lines -/
theorem mkS {D : Ad2} {F G : List Addr} {H : Hp} {v : V} {d : PyData} {n : Nat} {ds : List PyData} {Q : VK} (rv : Rp F H v d) (hd : okx n d = true) (hn : n ≤ 29) (hsz : size d ≤ 1000000) (hi : items d = some ds) (hl : ds.length ≤ 1000) (hm : metD d = none) (tG : Trk G H)
    (q : ∀ x dx a ys H', ExF [] H H' → H x = none → x ∉ G → a ∉ G → H' x = some (.ins D.cSrc dx [("own_lines", .ref a)]) → H' a = some (.tup ys) → RpL G H' ys (tups ds) → Q (.ref x) H') :
    MkR D v H Q := by
  unfold MkR
  intro x dx hx hdx ne
  have x1 := made_ex (C := D.cSrc) hx hdx
  refine ⟨x, dx, v, x :: F, G, d, n, rfl, by simp, upd_same, .inl ((rv.add hx).ex x1.of), hd, hn, hsz, fun ds' h => ?_, tG.ex x1, fun ds' a ys H' h hm x2 na hxs ha ry => ?_, fun i dd H' hm' => ?_⟩
  · rw [hi] at h; cases h; exact hl
  · rw [hi] at h
    cases h
    exact ⟨rfl, q x dx a ys H' ((x1.of.trans x2).drop hx) hx (tG.nin hx) na hxs ha ry⟩
  · rw [hm] at hm'; cases hm'
theorem slToNeg1 {K : PySem.W.Frag} {H : Hp} {a : Addr} {xs : List V} {Q : VK} (ha : H a = some (.lst xs)) (q : ∀ p H', H p = none → H' = upd H p (.lst (xs.take (xs.length - 1))) → Q (.ref p) H') : rSlU K (.ref a) none (some (-1)) H Q := by
  unfold rSlU
  refine .inl ⟨a, xs, rfl, .inl (.inl ha), fun p hp => ?_⟩
  have e : cutV xs none (some (-1)) = xs.take (xs.length - 1) := by
    unfold cutV
    have e1 : HT.sIx xs.length xs.length (some (-1)) = xs.length - 1 := by
      show (if (-1 : Int) < 0 then ((-1 : Int) + (xs.length : Int)).toNat else min (-1 : Int).toNat xs.length) = _
      rw [if_pos (by decide)]
      omega
    rw [e1]
    show (xs.drop 0).take (xs.length - 1 - 0) = _
    rw [List.drop_zero, Nat.sub_zero]
  rw [e]
  exact q p _ hp rfl
/-- what stands all through: the spring, the lines at l, the source at x -/
structure TR (C : Addr) (st cl l hd x dx a : Addr) (xs ys : List V) (ds : List PyData) (c : Nat) (H : Hp) : Prop where
  S : Strm st cl H c
  hl : H l = some (.lst xs)
  rx : RpL [hd] H xs ds
  hx : H x = some (.ins C dx [("own_lines", .ref a)])
  ha : H a = some (.tup ys)
  ry : RpL [hd] H ys ds
  ne : st ≠ hd ∧ cl ≠ hd ∧ l ≠ hd ∧ x ≠ hd ∧ a ≠ hd
section
variable {K : PySem.W.Frag} {D : Ad2} {C st cl l hd x dx a : Addr} {xs ys : List V} {ds : List PyData} {c : Nat} {H H' : Hp} {σ : L2.St}
theorem TR.ex (t : TR C st cl l hd x dx a xs ys ds c H) (y : ExF [hd] H H') : TR C st cl l hd x dx a xs ys ds c H' := by
  have n := t.ne
  exact ⟨t.S.ex' (by simp [n.1]) (by simp [n.2.1]) y, y.at_ _ _ (by simp [n.2.2.1]) t.hl, t.rx.ex y, y.at_ _ _ (by simp [n.2.2.2.1]) t.hx, y.at_ _ _ (by simp [n.2.2.2.2]) t.ha, t.ry.ex y, n⟩
theorem TR.src (t : TR C st cl l hd x dx a xs ys ds c H) : SrcAt C H x ys := ⟨dx, a, t.hx, t.ha⟩
def tLines (D : Ad2) : TE := tMeth D.cSrc "lines" (spSLines D.cSrc) [] E0 (tVar 4) tNil
def tReads (D : Ad2) : TE := tMeth D.cSrc "reads" (spSNames "read" D.cSrc) [] E0 (tVar 4) tNil
def tTells (D : Ad2) : TE := tMeth D.cSrc "tells" (spSNames "tell" D.cSrc) [] E0 (tVar 4) tNil
/-- the three rows, new -/
theorem three {Q : List V → Hp → Prop} (t : TR D.cSrc st cl l hd x dx a xs ys ds c H) (g : GoodL ds) (h4 : σ[4]? = some (some (.ref x)))
    (q : ∀ r1 r2 r3 H', ExF [] H H' → H r1 = none → H r2 = none → H r3 = none → r1 ≠ r2 → r1 ≠ r3 → r2 ≠ r3 → H' r1 = some (.lst ys) → H' r2 = some (.lst ((namesOf "read" ds).map V.str)) → H' r3 = some (.lst ((namesOf "tell" ds).map V.str)) → RpL [hd] H' ys ds → Q [.ref r1, .ref r2, .ref r3] H') :
    tCons (tLines D) (tCons (tReads D) (tCons (tTells D) tNil)) σ H Q := by
  have lk : ∀ m : Str, m ≠ "own_lines" → List.lookup m [(("own_lines" : Str), V.ref a)] = none := fun m hm => by
    have e : (m == ("own_lines" : Str)) = false := by simpa using hm
    simp [List.lookup, e]
  have l20 := g.l20
  refine ⟨_, h4, x, dx, _, rfl, t.hx, lk _ (by decide), x, ys, rfl, t.src, fun r1 H1 n1 h1 x1 => ?_⟩
  have t1 := t.ex x1.of
  refine ⟨_, h4, x, dx, _, rfl, t1.hx, lk _ (by decide), x, [hd], ys, ds, rfl, t1.src, t1.ry, g.ln, by omega, fun r2 H2 n2 h2 x2 => ?_⟩
  have t2 := t1.ex x2.of
  refine ⟨_, h4, x, dx, _, rfl, t2.hx, lk _ (by decide), x, [hd], ys, ds, rfl, t2.src, t2.ry, g.ln, by omega, fun r3 H3 n3 h3 x3 => ?_⟩
  have h1' := x2.at_ _ _ (by simp) h1
  exact q r1 r2 r3 H3 ((x1.trans x2).trans x3) n1 (x1.free n2) ((x1.trans x2).free n3) (ne_of_none h1 n2) (ne_of_none h1' n3) (ne_of_none h2 n3) (x3.at_ _ _ (by simp) h1') (x3.at_ _ _ (by simp) h2) h3 (t2.ry.ex x3.of)
/-- what is due -/
def dueD (ds : List PyData) : PyData := .list [.list ds, .list ((namesOf "read" ds).map PyData.str), .list ((namesOf "tell" ds).map PyData.str)]
theorem dueD_ok (g : GoodL ds) : ok 9 (dueD ds) = true := by
  have l20 := g.l20
  have nl : ∀ z, (namesOf z ds).length ≤ 20 := fun z => by
    unfold namesOf
    rw [List.length_map]
    exact Nat.le_trans (List.length_filter_le _ _) l20
  have n1 := nl "read"
  have n2 := nl "tell"
  unfold dueD
  rw [ok_list, oks_cons, oks_cons, oks_cons, ok_list, ok_list, ok_list]
  exact ⟨⟨⟨oks_le g.oks (by decide), by omega⟩, ⟨oks_strs (namesOf_ok g.ln g.oks), by rw [List.length_map]; omega⟩, ⟨oks_strs (namesOf_ok g.ln g.oks), by rw [List.length_map]; omega⟩, by rw [oks]⟩, by simp⟩
/-- same([made.lines(), made.reads(), made.tells()], due) -/
theorem sameT {Q : VK} {u : V} (t : TR D.cSrc st cl l hd x dx a xs ys ds c H) (g : GoodL ds) (h4 : σ[4]? = some (some (.ref x))) (h5 : σ[5]? = some (some u)) (ru : Rp [hd] H u (dueD ds)) (q : ∀ H', ExF [] H H' → Q (.bl true) H') :
    tCall (spSame 20) [] E0 (tCons (tLstU (tCons (tLines D) (tCons (tReads D) (tCons (tTells D) (tNil))))) (tCons (tVar 5) (tNil))) σ H Q := by
  change (tCons (tLines D) (tCons (tReads D) (tCons (tTells D) tNil))) σ H (fun xs H1 => xs.length ≤ sizeLine ∧ ∀ p H', H1 p = none → H' = upd H1 p (.lst xs) → (tCons (tVar 5) tNil) σ H' (fun ys H2 => spSame 20 ((V.ref p :: ys) ++ []) H2 Q E0))
  refine three t g h4 fun r1 r2 r3 H1 x1 n1 n2 n3 _ _ _ k1 k2 k3 ry => ⟨by show 3 ≤ sizeLine; decide, fun p H2 hp e2 => ⟨_, h5, ?_⟩⟩
  have x2 : ExF [] H1 H2 := exn e2 hp
  refine ⟨[], [hd], .ref p, u, dueD ds, 9, rfl, ?_, ru.ex (x1.trans x2).of, dueD_ok g, by decide, by decide, fun H3 x3 => q H3 ((x1.trans x2).trans x3)⟩
  refine .list (by simp) (eqs e2) (.cons (.list (by simp) (x2.at_ _ _ (by simp) k1) ((ry.ex x2.of).sub (by simp))) (.cons (.list (by simp) (x2.at_ _ _ (by simp) k2) (RpL.strs _)) (.cons (.list (by simp) (x2.at_ _ _ (by simp) k3) (RpL.strs _)) .nil)))
end
section
variable {K : PySem.W.Frag} {D : Ad2} {st cl l hd x dx a : Addr} {xs ys : List V} {ds : List PyData} {c : Nat} {H : Hp} {Q : VK}
theorem GoodL.ok20 (g : GoodL ds) : ok 20 (.tuple ds) = true := ok_le (n := 7) (by rw [ok_tuple]; exact ⟨g.oks, by have := g.l20; omega⟩) (by decide)
theorem ownEq {x2 dx2 a2 : Addr} {ys2 : List V} {es : List PyData} {G : List Addr} (t : TR D.cSrc st cl l hd x dx a xs ys ds c H) (g : GoodL ds) (h2 : H x2 = some (.ins D.cSrc dx2 [("own_lines", .ref a2)])) (h3 : H a2 = some (.tup ys2)) (r2 : RpL G H ys2 es) (ho : ok 20 (.tuple es) = true)
    (q : ∀ H', ExF [] H H' → Q (.bl (PyData.eqvAll ds es)) H') : rEqOwn D.cSrc (spSEq D.cSrc) (.ref x) (.ref x2) H Q :=
  ⟨x, dx, _, rfl, t.hx, ⟨x2, rfl, .inl ⟨_, _, h2⟩⟩, x, ys, [hd], ds, .ref x2, rfl, t.src, t.ry, g.ok20, .inl ⟨x2, ys2, G, es, rfl, ⟨dx2, a2, h2, h3⟩, r2, ho, fun H' x' => ⟨_, rfl, by have := q H' x'; rw [PyData.eqv]; exact this⟩⟩⟩
theorem ownNe {x2 dx2 a2 : Addr} {ys2 : List V} {es : List PyData} {G : List Addr} (t : TR D.cSrc st cl l hd x dx a xs ys ds c H) (g : GoodL ds) (h2 : H x2 = some (.ins D.cSrc dx2 [("own_lines", .ref a2)])) (h3 : H a2 = some (.tup ys2)) (r2 : RpL G H ys2 es) (ho : ok 20 (.tuple es) = true)
    (q : ∀ H', ExF [] H H' → Q (.bl (!PyData.eqvAll ds es)) H') : rNeOwn D.cSrc (spSEq D.cSrc) (.ref x) (.ref x2) H Q :=
  ⟨x, dx, _, rfl, t.hx, ⟨x2, rfl, .inl ⟨_, _, h2⟩⟩, x, ys, [hd], ds, .ref x2, rfl, t.src, t.ry, g.ok20, .inl ⟨x2, ys2, G, es, rfl, ⟨dx2, a2, h2, h3⟩, r2, ho, fun H' x' => ⟨_, rfl, by have := q H' x'; rw [PyData.eqv]; exact this⟩⟩⟩
theorem ownEqSeq {b : Addr} {zs : List V} (t : TR D.cSrc st cl l hd x dx a xs ys ds c H) (g : GoodL ds) (h2 : Sq H b zs) (r2 : RpL [hd] H zs ds) (q : ∀ H', ExF [] H H' → Q (.bl false) H') : rEqOwn D.cSrc (spSEq D.cSrc) (.ref x) (.ref b) H Q := by
  rcases h2 with h2 | h2
  · exact ⟨x, dx, _, rfl, t.hx, ⟨b, rfl, .inr (.inl ⟨_, h2⟩)⟩, x, ys, [hd], ds, .ref b, rfl, t.src, t.ry, g.ok20, .inr ⟨[], .list ds, .list (by simp) h2 (r2.sub (by simp)), rfl, fun H' x' => ⟨_, rfl, q H' x'⟩⟩⟩
  · exact ⟨x, dx, _, rfl, t.hx, ⟨b, rfl, .inr (.inr ⟨_, h2⟩)⟩, x, ys, [hd], ds, .ref b, rfl, t.src, t.ry, g.ok20, .inr ⟨[], .tuple ds, .tuple (by simp) h2 (r2.sub (by simp)), rfl, fun H' x' => ⟨_, rfl, q H' x'⟩⟩⟩
theorem ownNeSeq {b : Addr} {zs : List V} (t : TR D.cSrc st cl l hd x dx a xs ys ds c H) (g : GoodL ds) (h2 : Sq H b zs) (r2 : RpL [hd] H zs ds) (q : ∀ H', ExF [] H H' → Q (.bl true) H') : rNeOwn D.cSrc (spSEq D.cSrc) (.ref x) (.ref b) H Q := by
  rcases h2 with h2 | h2
  · exact ⟨x, dx, _, rfl, t.hx, ⟨b, rfl, .inr (.inl ⟨_, h2⟩)⟩, x, ys, [hd], ds, .ref b, rfl, t.src, t.ry, g.ok20, .inr ⟨[], .list ds, .list (by simp) h2 (r2.sub (by simp)), rfl, fun H' x' => ⟨_, rfl, q H' x'⟩⟩⟩
  · exact ⟨x, dx, _, rfl, t.hx, ⟨b, rfl, .inr (.inr ⟨_, h2⟩)⟩, x, ys, [hd], ds, .ref b, rfl, t.src, t.ry, g.ok20, .inr ⟨[], .tuple ds, .tuple (by simp) h2 (r2.sub (by simp)), rfl, fun H' x' => ⟨_, rfl, q H' x'⟩⟩⟩
/-- other lines -/
structure Oth (es : List PyData) : Prop where
  all : ∀ e ∈ es, ok 6 e = true ∧ tupD e = e ∧ txt e = true
  len : es.length ≤ 21
  sz : sizes es ≤ 5000
theorem Oth.tups {es : List PyData} (o : Oth es) : Tw.tups es = es := by
  rw [tups_map]
  exact (List.map_congr_left fun d hd => (o.all d hd).2.1).trans (List.map_id _)
theorem Oth.oks {es : List PyData} (o : Oth es) : Tw.oks 6 es = true := oks_iff.mpr fun d hd => (o.all d hd).1
theorem Oth.ok20 {es : List PyData} (o : Oth es) : ok 20 (.tuple es) = true := ok_le (n := 7) (by rw [ok_tuple]; exact ⟨o.oks, by have := o.len; omega⟩) (by decide)
theorem size_rev : ∀ ds : List PyData, sizes ds.reverse = sizes ds
  | [] => rfl
  | d :: ds => by rw [List.reverse_cons, sizes_append, size_rev ds, sizes, sizes, sizes]; omega
theorem GoodL.oth (g : GoodL ds) : Oth ds := ⟨fun e he => ⟨(g.good e he).1, (g.good e he).2.1, (g.good e he).2.2.1⟩, by have := g.l20; omega, by have := g.size; omega⟩
def lateD : PyData := .tuple [.str "read", .str "late9"]
end
theorem okx_lists {n : Nat} {ds : List PyData} (h : oks n ds = true) (hl : ds.length ≤ 100000) : okx (n + 1) (.list ds) = true := by rw [okx_list]; exact ⟨okxs_of h, hl⟩
theorem fault_list (ds : List PyData) : metD (.list ds) = faultL [] [] 0 ds := rfl
theorem fault_tuple (ds : List PyData) : metD (.tuple ds) = faultL [] [] 0 ds := rfl
theorem rd_l_told_right {K : PySem.W.Frag} {D : Ad2} {vs : List V} {H : Hp} {Q : VK} {E : XK} (h : spTold vs H Q E) :
    t_l_told_right K D { nx := fun _ H' => Q .non H', rt := Q } (start ["_law_stream", "_law_lines", "_law_handed", "_law_was", "_law_made", "_law_due", "_law_told", "_law_other", "_law_line"] vs) H := by
  obtain ⟨st, cl, c, F, l, xs, ds, rfl, S, fs, fc, hl, nlF, rx, g, hc, q⟩ := h
  have sz : sizeLine = 16777216 := sizeLine_eq
  have l20 := g.l20
  have hsz := g.size
  have hok7 : ok 7 (.list ds) = true := by rw [ok_list]; exact ⟨g.oks, by omega⟩
  have htx : txt (.list ds) = true := by rw [txt]; exact g.txts
  have hs1 : size (.list ds) = sizes ds + 1 := by rw [size]
  have lx := rx.1
  -- handed
  refine ⟨_, rfl, _, rfl, st, cl, c, F, [st, cl], .ref l, .list ds, 7, rfl, S, fs, fc, .list nlF hl rx, hok7, by decide, by omega, S.trk, fun r d' c' H1 l1 u1 S1 x1 rh htup hok' hfresh => ?_⟩
  obtain ⟨hd, rfl, hhd⟩ := hfresh rfl
  have xF : ExF F H H1 := x1.sub (by intro a z; simp at z; rcases z with z | z <;> (rw [z]; assumption))
  have nhd : ∀ {b : Addr} {o : HO}, H b = some o → b ≠ hd := fun h => ne_of_none h hhd
  have nl2 : l ∉ [st, cl] := fun z => nlF (by simp at z; rcases z with z | z <;> (rw [z]; assumption))
  have hl1 := x1.at_ _ _ nl2 hl
  have rx1 : RpL [hd] H1 xs ds := ((rx.add hhd).ex (x1.sub (by intro a z; simp at z; rcases z with z | z <;> (rw [z]; simp [fs, fc])))).sub (by intro a z; simp at z; simp [z])
  have nst : st ≠ hd := by
    intro e
    exact S.trk st (by simp) (by rw [e]; exact hhd)
  have ncl : cl ≠ hd := by
    intro e
    exact S.trk cl (by simp) (by rw [e]; exact hhd)
  have hit : ∃ ds', items d' = some ds' ∧ tups ds' = ds := by
    rw [tupD, g.tups] at htup
    cases d' with
    | list es => rw [tupD] at htup; cases htup; exact ⟨es, rfl, rfl⟩
    | tuple es => rw [tupD] at htup; cases htup; exact ⟨es, rfl, rfl⟩
    | none => rw [tupD] at htup; cases htup
    | bool _ => rw [tupD] at htup; cases htup
    | int _ => rw [tupD] at htup; cases htup
    | str _ => rw [tupD] at htup; cases htup
    | dict _ => rw [tupD] at htup; cases htup
  obtain ⟨ds', hi', hds'⟩ := hit
  have hl' : ds'.length = ds.length := by rw [← hds', tups_len]
  have hm' : metD d' = none := by
    rw [← metD_tup, htup, metD_tup, fault_list]
    exact g.f
  have hsz' : size d' = sizes ds + 1 := by rw [← size_tup, htup, size_tup, hs1]
  have htx' : txt d' = true := by rw [← txt_tup, htup, txt_tup, htx]
  -- was, made = repr(handed), Source(lines=handed)
  have hdx1 : H1 hd ≠ none := by
    obtain ⟨a, zs, e, _, ha, _⟩ := rh.items hi'
    cases e
    exact ha.ne
  refine ⟨_, rfl, ?_⟩
  refine reprD rh hok' (by decide) htx' (by omega) ?_
  refine ⟨_, rfl, .ref hd, rfl, ?_⟩
  refine mkS (G := [hd, st, cl]) rh (okx_of hok') (by decide) (by omega) hi' (by omega) hm' (fun b hb => ?_) fun x dx a ys H2 x2 hx nx na hxs ha ry => ⟨_, _, rfl, ?_⟩
  · rcases List.mem_cons.mp hb with z | z
    · rw [z]; exact hdx1
    · exact S1.trk b z
  rw [hds'] at ry
  have t2 : TR D.cSrc st cl l hd x dx a xs ys ds c' H2 := ⟨S1.ex' (by simp) (by simp) x2, x2.at_ _ _ (by simp) hl1, rx1.ex x2.of, hxs, ha, ry.sub (by intro a z; simp at z; simp [z]), nst, ncl, nhd hl, fun e => nx (by simp [e]), fun e => na (by simp [e])⟩
  have rh2 := rh.ex x2.of
  have x12 : ExF [st, cl] H H2 := x1.trans x2.of
  -- due
  refine ⟨_, rfl, ?_⟩
  refine lcHead (k := 8) (iter_var (a := l) rfl (.inl t2.hl) (by simp)) (by show 8 < 9; decide) t2.rx g.ln (by omega) fun r1 H3 n1 h1 x3 => ?_
  have t3 := t2.ex x3.of
  refine lcHead (k := 8) (iter_var (a := l) rfl (.inl t3.hl) (by simp)) (by show 8 < 9; decide) t3.rx g.ln (by omega) fun r2 H4 n2 h2 x4 => ?_
  have t4 := t3.ex x4.of
  refine ⟨by show 3 ≤ sizeLine; decide, fun pd H5 hpd e5 => ?_⟩
  have t5 := t4.ex (exn (F := [hd]) e5 hpd)
  have x25 : ExF [] H2 H5 := (x3.trans x4).trans (exn e5 hpd)
  have hdx2 : H2 hd ≠ none := x2.kept _ hdx1
  have nr1 : r1 ≠ hd := fun e => hdx2 (by rw [← e]; exact n1)
  have nr2 : r2 ≠ hd := fun e => x3.kept _ hdx2 (by rw [← e]; exact n2)
  have npd : pd ≠ hd := fun e => (x3.trans x4).kept _ hdx2 (by rw [← e]; exact hpd)
  have due5 : Rp [hd] H5 (.ref pd) (dueD ds) := by
    unfold dueD
    refine .list (by simp [npd]) (eqs e5) (.cons (.list (by simp [t2.ne.2.2.1]) t5.hl t5.rx) (.cons (.list (by simp [nr1]) (eqf e5 hpd (x4.at_ _ _ (by simp) h1)) (RpL.strs _)) (.cons (.list (by simp [nr2]) (eqf e5 hpd h2) (RpL.strs _)) .nil)))
  -- the first look
  refine sameT t5 g rfl rfl due5 fun H6 x6 => ⟨_, rfl, iteF ?_⟩
  have t6 := t5.ex x6.of
  have rh6 := rh2.ex (x25.trans x6).of
  refine ⟨_, rfl, ?_⟩
  refine reprD rh6 hok' (by decide) htx' (by omega) ?_
  refine ⟨_, rfl, neS ⟨_, rfl, ?_⟩⟩
  rw [decide_eq_true rfl]
  refine iteF ?_
  have due6 := due5.ex x6.of
  -- == and !=
  have rest : ∀ H7, TR D.cSrc st cl l hd x dx a xs ys ds c' H7 → ExF [hd] H6 H7 → ∀ u : Option V, t_l_told_right_t7 K D { nx := fun _ H' => Q .non H', rt := Q } [some (.ref st), some (.ref l), some (.ref hd), some (.str d'.shown), some (.ref x), some (.ref pd), u, none, none] H7 := by
    intro H7 t7 x7 u
    have self := eqvAll_self g.txts
    have src : ∀ {Q' : VK} {H8 : Hp}, TR D.cSrc st cl l hd x dx a xs ys ds c' H8 → (∀ x2 dx2 a2 ys2 H', ExF [] H8 H' → H' x2 = some (.ins D.cSrc dx2 [("own_lines", .ref a2)]) → H' a2 = some (.tup ys2) → RpL [] H' ys2 ds → Q' (.ref x2) H') → MkR D (.ref l) H8 Q' := fun {Q' H8} t q => by
      refine mkS (G := []) (F := [hd]) (d := .list ds) (n := 7) (ds := ds) (.list (by simp [t.ne.2.2.1]) t.hl t.rx) (okx_of hok7) (by decide) (by omega) rfl (by omega) g.f Trk.nil fun x2 dx2 a2 ys2 H' y _ _ _ h2 h3 ry => ?_
      rw [g.tups] at ry
      exact q x2 dx2 a2 ys2 H' y h2 h3 ry
    refine ⟨_, rfl, _, rfl, .ref l, rfl, ?_⟩
    refine src t7 fun x2 dx2 a2 ys2 H8 y8 h2 h3 ry2 => ?_
    have t8 := t7.ex y8.of
    refine ownEq t8 g h2 h3 ry2 g.ok20 fun H9 y9 => ⟨_, rfl, ?_⟩
    rw [self]
    refine iteF ?_
    have t9 := t8.ex y9.of
    refine ⟨_, rfl, _, rfl, .ref l, rfl, ?_⟩
    refine src t9 fun x3 dx3 a3 ys3 H10 y10 h4 h5 ry3 => ?_
    have t10 := t9.ex y10.of
    refine ownNe t10 g h4 h5 ry3 g.ok20 fun H11 y11 => ⟨_, rfl, ?_⟩
    rw [self]
    refine iteF ?_
    have t11 := t10.ex y11.of
    refine ⟨_, rfl, _, rfl, ?_⟩
    refine ownEqSeq t11 g (.inl t11.hl) t11.rx fun H12 y12 => ⟨_, rfl, iteF ?_⟩
    have t12 := t11.ex y12.of
    refine ⟨_, rfl, _, rfl, tupOfL t12.hl fun p H13 hp e13 => ?_⟩
    have t13 := t12.ex (exn (F := [hd]) e13 hp)
    refine ownNeSeq t13 g (.inr (eqs e13)) (t12.rx.ex (exn e13 hp)) fun H14 y14 => ⟨_, rfl, iteF ?_⟩
    have t14 := t13.ex y14.of
    have x714 : ExF [hd] H7 H14 := ((((((y8.trans y9).trans y10).trans y11).trans y12).of.trans (exn e13 hp)).trans y14.of)
    -- other lines
    have fin : ∀ H', ExF [hd] H7 H' → Strm st cl H' c' → Q (.bl true) H' := fun H' y S' => by
      refine q c' H' l1 (by omega) S' ?_
      have y1 : ExF [hd, st, cl] H H' := ((x12.trans (x25.trans x6).of).sub (by intro a z; simp at z; rcases z with z | z <;> simp [z])).trans ((x7.trans y).sub (by simp))
      exact y1.drop hhd
    have lateOk : ok 6 lateD = true ∧ tupD lateD = lateD ∧ txt lateD = true := ⟨by decide +kernel, by simp [lateD, tupD, tups], by simp [lateD, txt, txts]⟩
    have o1 : Oth (ds.take (ds.length - 1)) := ⟨fun e he => g.oth.all e (List.mem_of_mem_take he), by rw [List.length_take]; omega, by have := sizes_take_le ds (ds.length - 1); omega⟩
    have o2 : Oth (ds ++ [lateD]) := ⟨fun e he => by
      rcases List.mem_append.mp he with h | h
      · exact g.oth.all e h
      · rw [List.mem_singleton.mp h]; exact lateOk, by rw [List.length_append]; simp; omega, by
      rw [sizes_append]
      have : sizes [lateD] = 3 + 1 - 1 := by simp [lateD, sizes, size]
      omega⟩
    have o3 : Oth ds.reverse := ⟨fun e he => g.oth.all e (List.mem_reverse.mp he), by rw [List.length_reverse]; omega, by rw [size_rev]; omega⟩
    unfold t_l_told_right_t8 tSeq tForU
    refine .inr (.inl ?_)
    unfold iTup tTupU
    refine ⟨_, rfl, 1, rfl, _, rfl, slToNeg1 t14.hl fun p1 H15 hp1 e15 => ?_⟩
    have t15 := t14.ex (exn (F := [hd]) e15 hp1)
    refine ⟨_, rfl, litL (fun _ => .none) [] [] rfl (by simp) Trk.nil fun p2 zs2 H16 hp2 h16 r16 x16 => ?_⟩
    have r16 : RpL [p2] H16 zs2 [lateD] := r16
    have t16 := t15.ex x16.of
    have hzl : zs2.length = 1 := r16.1
    refine catL t16.hl h16 (by omega) fun p3 H17 hp3 e17 => ?_
    have t17 := t16.ex (exn (F := [hd]) e17 hp3)
    refine ⟨_, rfl, l, xs, rfl, .inl (.inl t17.hl), fun p4 hp4 => ?_⟩
    generalize e18 : upd H17 p4 (.lst xs.reverse) = H18
    have e18 := e18.symm
    have t18 := t17.ex (exn (F := [hd]) e18 hp4)
    refine ⟨by show 3 ≤ sizeLine; decide, fun p5 H19 hp5 e19 => ⟨p5, rfl, ⟨_, .inl (.inl (eqs e19))⟩, ?_⟩⟩
    have t19 := t18.ex (exn (F := [hd]) e19 hp5)
    have x719 : ExF [hd] H7 H19 := ((((x714.trans (exn e15 hp1)).trans x16.of).trans (exn e17 hp3)).trans (exn e18 hp4)).trans (exn e19 hp5)
    have x1519 : ExF [] H15 H19 := ((x16.trans (exn e17 hp3)).trans (exn e18 hp4)).trans (exn e19 hp5)
    have x1719 : ExF [] H17 H19 := (exn e18 hp4).trans (exn e19 hp5)
    have b1 : H19 p1 = some (.lst (xs.take (xs.length - 1))) := x1519.at_ _ _ (by simp) (eqs e15)
    have b2 : H19 p3 = some (.lst (xs ++ zs2)) := x1719.at_ _ _ (by simp) (eqs e17)
    have b3 : H19 p4 = some (.lst xs.reverse) := eqf e19 hp5 (eqs e18)
    have rr : RpL [] H19 xs ds := t19.rx.sub (by simp)
    have q1 : RpL [] H19 (xs.take (xs.length - 1)) (ds.take (ds.length - 1)) := by rw [lx]; exact rr.take _
    have q2 : RpL [] H19 (xs ++ zs2) (ds ++ [lateD]) := rr.append ((r16.sub (by simp)).ex ((exn (F := []) e17 hp3).trans x1719))
    have q3 : RpL [] H19 xs.reverse ds.reverse := rr.reverse
    -- one of the three
    have body : ∀ (b : Addr) (zs : List V) (es : List PyData) (H' : Hp) (nx : L2.St → Hp → Prop), ExF [] H19 H' → H19 b = some (.lst zs) → RpL [] H19 zs es → Oth es → (∀ H'', ExF [] H19 H'' → nx [some (.ref st), some (.ref l), some (.ref hd), some (.str d'.shown), some (.ref x), some (.ref pd), u, some (.ref b), none] H'') →
        t_l_told_right_b8 K D { nx := nx, rt := Q, bk := t_l_told_right_t9 K D { nx := fun _ H' => Q .non H', rt := Q }, ct := nx } [some (.ref st), some (.ref l), some (.ref hd), some (.str d'.shown), some (.ref x), some (.ref pd), u, some (.ref b), none] H' := by
      intro b zs es H' nx y hb rz o k
      have tb := t19.ex y.of
      have hb' := y.at_ _ _ (by simp) hb
      have rz' := rz.ex y
      have ol := o.len
      have os := o.sz
      refine ⟨_, rfl, [], b, zs, es, 6, rfl, .inl hb', rz', okxs_of o.oks, by decide, fun e he => ok_fine (o.all e he).1, by omega, fun v H20 x20 rv => ⟨rfl, ⟨_, rfl, ?_⟩⟩⟩
      have y20 := y.trans x20
      cases hf : faultL [] [] 0 es with
      | some i =>
        rw [hf] at rv
        cases rv
        exact iteF (iteF (k H20 y20))
      | none =>
        rw [hf] at rv
        cases rv
        refine iteT ?_
        have t20 := tb.ex x20.of
        refine ⟨_, rfl, _, rfl, .ref b, rfl, ?_⟩
        refine mkS (G := []) (F := []) (d := .list es) (n := 7) (ds := es) (.list (by simp) (x20.at_ _ _ (by simp) hb') (rz'.ex x20)) (okx_lists o.oks (by omega)) (by decide) (by rw [size]; omega) rfl (by omega) hf Trk.nil fun x2 dx2 a2 ys2 H21 y21 _ _ _ h2 h3 ry => ?_
        rw [o.tups] at ry
        have t21 := t20.ex y21.of
        refine ownEq t21 g h2 h3 ry o.ok20 fun H22 y22 => ?_
        have t22 := t21.ex y22.of
        have yy : ExF [] H' H22 := (x20.trans y21).trans y22
        refine ⟨_, rfl, _, rfl, ?_⟩
        refine eqO (n := 7) (m := 7) (F := []) (G := []) (.list (by simp) (yy.at_ _ _ (by simp) hb') (rz'.ex yy)) (.list (by simp) t22.hl (t22.rx.sub (by simp))) (by rw [ok_list]; exact ⟨o.oks, by omega⟩) hok7 (neB ⟨_, rfl, ?_⟩)
        rw [PyData.eqv, eqvAll_symm es ds, bne_self_eq_false]
        exact iteF (k H22 (y.trans yy))
    refine for_it (wkT (xs := [.ref p1, .ref p3, .ref p4])) (fun i σ' H' => ∃ w : Option V, σ' = [some (.ref st), some (.ref l), some (.ref hd), some (.str d'.shown), some (.ref x), some (.ref pd), u, w, none] ∧ ExF [] H19 H') ⟨none, rfl, ExF.refl⟩ (fun i σ' H' _ ⟨_, _, y⟩ => y.at_ _ _ (by simp) (eqs e19)) ?_ ?_
    · rintro i v σ' H' H'' hi ⟨w, rfl, y⟩ ⟨e, hv⟩
      subst e
      have hi3 : i = 0 ∨ i = 1 ∨ i = 2 := by simp at hi; omega
      rcases hi3 with e | e | e <;> subst e
      · cases hv
        exact body p1 _ _ _ _ y b1 q1 o1 fun H'' y' => ⟨_, rfl, y'⟩
      · cases hv
        exact body p3 _ _ _ _ y b2 q2 o2 fun H'' y' => ⟨_, rfl, y'⟩
      · cases hv
        exact body p4 _ _ _ _ y b3 q3 o3 fun H'' y' => ⟨_, rfl, y'⟩
    · rintro σ' H' ⟨w, rfl, y⟩
      exact fin H' (x719.trans y.of) (t19.ex y.of).S
  -- if it is a list: one more
  have go : ∀ H7, ExF [hd] H6 H7 → t_l_told_right_t5 K D { nx := fun _ H' => Q .non H', rt := Q } [some (.ref st), some (.ref l), some (.ref hd), some (.str d'.shown), some (.ref x), some (.ref pd), none, none, none] H7 := by
    intro H7 x7
    have t7 := t6.ex x7
    have due7 := due6.ex x7
    unfold t_l_told_right_t5 tSeq tForU
    refine .inr (.inl ?_)
    unfold iTup tTupU
    refine three t7 g rfl fun q1 q2 q3 H8 x8 m1 m2 m3 d12 d13 d23 k1 k2 k3 _ => ⟨by show 3 ≤ sizeLine; decide, fun p H9 hp e9 => ⟨p, rfl, ⟨_, .inl (.inl (eqs e9))⟩, ?_⟩⟩
    have x9 : ExF [] H8 H9 := exn e9 hp
    have g1 := eqf e9 hp k1
    have g2 := eqf e9 hp k2
    have g3 := eqf e9 hp k3
    have np : p ∉ [q1, q2, q3] := by
      intro z
      simp at z
      rcases z with z | z | z <;> subst z
      · rw [hp] at k1; cases k1
      · rw [hp] at k2; cases k2
      · rw [hp] at k3; cases k3
    have nl : ∀ z, (namesOf z ds).length ≤ 20 := fun z => by
      unfold namesOf
      rw [List.length_map]
      exact Nat.le_trans (List.length_filter_le _ _) l20
    refine for_it (wkT (xs := [.ref q1, .ref q2, .ref q3])) (fun i σ' H' => ∃ (u : Option V) (z1 z2 z3 : List V), σ' = [some (.ref st), some (.ref l), some (.ref hd), some (.str d'.shown), some (.ref x), some (.ref pd), u, none, none] ∧ H' q1 = some (.lst z1) ∧ H' q2 = some (.lst z2) ∧ H' q3 = some (.lst z3) ∧ z1.length ≤ 100 + i ∧ z2.length ≤ 100 + i ∧ z3.length ≤ 100 + i ∧ ExF [q1, q2, q3] H9 H')
      ⟨none, _, _, _, rfl, g1, g2, g3, by have := t7.ry.1; omega, by rw [List.length_map]; have := nl "read"; omega, by rw [List.length_map]; have := nl "tell"; omega, ExF.refl⟩ ?_ ?_ ?_
    · rintro i σ' H' _ ⟨_, _, _, _, _, _, _, _, _, _, _, y⟩
      exact y.at_ _ _ np (eqs e9)
    · rintro i v σ' H' H'' hi ⟨u, z1, z2, z3, rfl, w1, w2, w3, s1, s2, s3, y⟩ ⟨e, hv⟩
      subst e
      have hi3 : i = 0 ∨ i = 1 ∨ i = 2 := by simp at hi; omega
      rcases hi3 with e | e | e <;> subst e
      · cases hv
        refine ⟨_, rfl, tyL w1, app w1 (by omega) fun H10 e10 => ?_⟩
        exact ⟨_, _, _, _, rfl, eqs e10, eqn e10 d12.symm w2, eqn e10 d13.symm w3, by simp; omega, by omega, by omega, exm e10 (.inr (by simp)) y⟩
      · cases hv
        refine ⟨_, rfl, tyL w2, app w2 (by omega) fun H10 e10 => ?_⟩
        exact ⟨_, _, _, _, rfl, eqn e10 d12 w1, eqs e10, eqn e10 d23.symm w3, by omega, by simp; omega, by omega, exm e10 (.inr (by simp)) y⟩
      · cases hv
        refine ⟨_, rfl, tyL w3, app w3 (by omega) fun H10 e10 => ?_⟩
        exact ⟨_, _, _, _, rfl, eqn e10 d13 w1, eqn e10 d23 w2, eqs e10, by omega, by omega, by simp; omega, exm e10 (.inr (by simp)) y⟩
    · rintro σ' H10 ⟨u, z1, z2, z3, rfl, w1, w2, w3, s1, s2, s3, y⟩
      have x710 : ExF [] H7 H10 := by
        have y1 : ExF [q1, q2, q3] H7 H10 := (x8.trans x9).of.trans y
        have y2 : ExF [q2, q3] H7 H10 := y1.drop m1
        have y3 : ExF [q3] H7 H10 := y2.drop m2
        exact y3.drop m3
      have t10 := t7.ex x710.of
      have due10 := due7.ex x710.of
      -- the second look
      refine sameT t10 g rfl rfl due10 fun H11 x11 => ⟨_, rfl, iteF ?_⟩
      have t11 := t10.ex x11.of
      have x_11 : ExF [hd] H6 H11 := x7.trans (x710.trans x11).of
      exact rest H11 t11 (x_11) _
  refine ⟨_, rfl, isi_list rh6 ⟨_, rfl, ?_⟩⟩
  cases hL : isList d' with
  | false =>
    refine iteF ?_
    exact go H6 ExF.refl
  | true =>
    refine iteT ?_
    cases d' with
    | list es =>
      obtain ⟨b, zs, e, nb, hb, rz⟩ := rh6.list_inv
      cases e
      refine ⟨_, rfl, tyL hb, lit0 [hd] rfl (Trk.nil.cons hb) fun v H7 x7 rv => ?_⟩
      have lz := rz.1
      have hie : items (.list es) = some es := rfl
      rw [hie] at hi'
      cases hi'
      refine app (x7.at_ _ _ (by simp) hb) (by omega) fun H8 e8 => ?_
      exact go H8 (exm e8 (.inr (by simp)) x7.of)
    | _ => cases hL

end Tw
end

section
set_option Elab.async false
set_option linter.all false
set_option maxRecDepth 100000
set_option maxHeartbeats 4000000
namespace Tw
open PySem L2 PyProof.Rows

theorem forI {wi : TI} {g : TG} {tb : TS} {D : Ends} {σ : L2.St} {H : Hp} (h : tFor wi g tb D σ H) : tForU wi g tb D σ H := by unfold tForU; exact h
theorem lcI {wi : TI} {g : TG} {tt : TT} {te : TE} {vs : List Nat} {σ : L2.St} {H : Hp} {Q : VK} (h : tLc wi g tt te vs σ H Q) : tLcU wi g tt te vs σ H Q := by unfold tLcU; exact h
theorem insL {H : Hp} {Q : VK} {l : Addr} {xs : List V} {i : Int} {y : V} (n : Nat) (hi : i = (n : Int)) (h : H l = some (.lst xs)) (hz : xs.length < sizeLine) (hn : n < 2 ^ 62) (q : ∀ H', H' = upd H l (.lst (xs.take n ++ [y] ++ xs.drop n)) → Q .non H') : rInsert (.ref l) [.int i, y] H Q := by
  unfold rInsert
  subst hi
  exact ⟨l, xs, _, y, rfl, rfl, h, hz, by omega, by omega, q _ (by rw [Int.toNat_natCast])⟩
theorem repL {H : Hp} {Q : VK} {l : Addr} {xs : List V} (n : Nat) (h : H l = some (.lst xs)) (hz : xs.length * n ≤ sizeLine) (hn : n < 2 ^ 62) (q : ∀ p H', H p = none → H' = upd H p (.lst (List.replicate n xs).flatten) → Q (.ref p) H') : rMulU (.ref l) (.int (n : Int)) H Q := by
  unfold rMulU
  exact .inr ⟨l, (n : Int), xs, rfl, rfl, h, by omega, by omega, by rw [Int.toNat_natCast]; exact hz, fun p hp => q p _ hp (by rw [Int.toNat_natCast])⟩
theorem slFromA {K : PySem.W.Frag} {H : Hp} {a : Addr} {xs : List V} {Q : VK} {j : Int} (i : Nat) (hj : j = (i : Int)) (ha : H a = some (.lst xs)) (q : ∀ p H', H p = none → H' = upd H p (.lst (xs.drop i)) → Q (.ref p) H') : rSlU K (.ref a) (some j) none H Q := by
  subst hj
  unfold rSlU
  refine .inl ⟨a, xs, rfl, .inl (.inl ha), fun p hp => ?_⟩
  have e : cutV xs (some (i : Int)) none = xs.drop i := by
    unfold cutV
    have e1 : HT.sIx xs.length 0 (some (i : Int)) = min i xs.length := by
      show (if (i : Int) < 0 then ((i : Int) + (xs.length : Int)).toNat else min (i : Int).toNat xs.length) = _
      rw [if_neg (by omega)]
      omega
    rw [e1]
    show (xs.drop (min i xs.length)).take (xs.length - min i xs.length) = xs.drop i
    by_cases h : i ≤ xs.length
    · rw [Nat.min_eq_left h]
      exact List.take_of_length_le (by simp)
    · rw [Nat.min_eq_right (by omega), List.drop_of_length_le (Nat.le_refl _), List.drop_of_length_le (by omega)]
      simp
  rw [e]
  exact q p _ hp rfl
/-- good odd lines -/
structure Bent (es : List PyData) : Prop where
  all : ∀ e ∈ es, odd e
  len : es.length ≤ 100
theorem Bent.sz {es : List PyData} (b : Bent es) : sizes es ≤ 100000 := by
  have := sizes_le fun d hd => (b.all d hd).2.2
  have h := Nat.mul_le_mul_right 1000 b.len
  omega
theorem Bent.okx {es : List PyData} (b : Bent es) : okxs 12 es = true := okxs_iff.mpr fun d hd => (b.all d hd).1
theorem GoodL.bent {ds : List PyData} (g : GoodL ds) : Bent ds := ⟨fun e he => ⟨okx_le (okx_of (g.good e he).1) (by decide), ok_fine (g.good e he).1, by have := (g.good e he).2.2.2; omega⟩, by have := g.l20; omega⟩
theorem Bent.app {es fs : List PyData} (b : Bent es) (c : Bent fs) (h : es.length + fs.length ≤ 100) : Bent (es ++ fs) := ⟨fun e he => (List.mem_append.mp he).elim (b.all e) (c.all e), by rw [List.length_append]; exact h⟩
theorem Bent.one {e : PyData} (h : odd e) : Bent [e] := ⟨fun d hd => by rw [List.mem_singleton.mp hd]; exact h, by simp⟩
theorem Bent.take {es : List PyData} (b : Bent es) (n : Nat) : Bent (es.take n) := ⟨fun e he => b.all e (List.mem_of_mem_take he), by rw [List.length_take]; have := b.len; omega⟩
theorem Bent.drop {es : List PyData} (b : Bent es) (n : Nat) : Bent (es.drop n) := ⟨fun e he => b.all e (List.mem_of_mem_drop he), by rw [List.length_drop]; have := b.len; omega⟩
theorem Bent.erase {es : List PyData} (b : Bent es) (n : Nat) : Bent (es.eraseIdx n) := ⟨fun e he => b.all e (List.mem_of_mem_eraseIdx he), Nat.le_trans (List.length_eraseIdx_le _ _) b.len⟩
section
variable {K : PySem.W.Frag} {D : Ad2} {H : Hp} {Q : VK} {F : List Addr}
/-- met of such lines, fault of them -/
theorem metB {v : V} {d : PyData} {es : List PyData} (rv : Rp F H v d) (hi : d = .list es ∨ d = .tuple es) (b : Bent es) (q : ∀ r H', ExF [] H H' → Rp [] H' r (optD (faultL [] [] 0 es)) → Q r H') : spMet D.cSrc [v] H Q E0 := by
  have hz := b.sz
  have hl := b.len
  have hit : items d = some es := by rcases hi with e | e <;> subst e <;> rfl
  have hm : metD d = faultL [] [] 0 es := by unfold metD; rw [hit]
  refine ⟨v, F, d, 13, rfl, .inl rv, ?_, by decide, ?_, fun ds h => by rw [hit] at h; cases h; omega, fun r H' x rr => q r H' x (by rw [hm] at rr; exact rr)⟩
  · rcases hi with e | e <;> subst e
    · rw [okx_list]; exact ⟨b.okx, by omega⟩
    · rw [okx_tuple]; exact ⟨b.okx, by omega⟩
  · rcases hi with e | e <;> subst e <;> (rw [size]; omega)
theorem faultB {l : Addr} {xs : List V} {es : List PyData} (hl : Sq H l xs) (rx : RpL F H xs es) (b : Bent es) (q : ∀ r H', ExF [] H H' → Rp [] H' r (optD (faultL [] [] 0 es)) → Q r H') : spFault [.ref l] H Q E0 :=
  ⟨F, l, xs, es, 12, rfl, hl, rx, b.okx, by decide, fun d hd => (b.all d hd).2.1, by have := b.len; omega, q⟩
theorem optD_ok (o : Option Nat) {n : Nat} : ok n (optD o) = true := by
  cases o with
  | none => exact ok_none
  | some i => exact ok_int
theorem sameB {v u : V} {d : PyData} {G : List Addr} {n : Nat} (rv : Rp F H v d) (ru : Rp G H u d) (ho : ok n d = true) (hn : n < 20) (q : ∀ H', ExF [] H H' → Q (.bl true) H') : spSame 20 [v, u] H Q E0 := ⟨F, G, v, u, d, n, rfl, rv, ru, ho, hn, by omega, q⟩
end

def spLaw (K : PySem.W.Frag) : Sp := fun vs H Q _ => ∃ (a : Addr) (ns : List Int), vs = [.ref a] ∧ SqL K H a (ns.map V.int) ∧ ns.length ≤ 1000 ∧ ∀ H', Q (.bl true) H'
/-- one turn: the state between the turns -/
def Turn (a st cl : Addr) (i : Nat) (σ : L2.St) (H : Hp) : Prop := ∃ (c : Nat) (u2 u3 u4 u5 u6 u7 u8 : Option V), σ = [some (.ref a), some (.ref st), u2, u3, u4, u5, u6, u7, u8] ∧ Strm st cl H c ∧ c ≤ i * 100000
section
variable {K : PySem.W.Frag} {D : Ad2} {H : Hp} {Q : VK}
theorem rd_turn {a st cl : Addr} {i : Nat} {σ : L2.St} (D' : Ends) (hD' : D'.nx = Turn a st cl (i + 1)) (hi : i < 5) (h : Turn a st cl i σ H) : t_law_b1 K D D' (σ.set 2 (some (.int (0 + (i : Nat))))) H := by
  obtain ⟨c, u2, u3, u4, u5, u6, u7, u8, rfl, S, hc⟩ := h
  have sz : sizeLine = 16777216 := sizeLine_eq
  have hp30 : (2 : Nat) ^ 30 = 1073741824 := by decide
  have hp20 : (2 : Nat) ^ 20 = 1048576 := by decide
  have hp48 : (2 : Nat) ^ 48 = 281474976710656 := by decide
  -- lines
  refine ⟨_, rfl, _, rfl, st, cl, c, 9, rfl, S, by omega, by decide, by decide, fun k1 H1 g0 g1 S1 x1 => addI ?_⟩
  refine ⟨_, rfl, st, cl, c + 1, 4, rfl, S1, by omega, by decide, by decide, fun k2 H2 g2 g3 S2 x2 => ?_⟩
  obtain ⟨m1, rfl⟩ : ∃ j : Nat, k1 = j := ⟨k1.toNat, by omega⟩
  obtain ⟨m2, rfl⟩ : ∃ j : Nat, k2 = j := ⟨k2.toNat, by omega⟩
  have e1 : (2 : Int) + (m1 : Int) = ((2 + m1 : Nat) : Int) := by omega
  rw [e1]
  refine ⟨st, cl, c + 2, 2 + m1, m2, [st, cl], rfl, by omega, by omega, by omega, S2, by omega, S2.trk, fun r xs ds c3 H3 l3 q3 S3 x3 nr hr rx g _ _ => ?_⟩
  have nrs : r ∉ [st, cl] := S2.trk.nin nr
  have lx := rx.1
  have l20 := g.l20
  -- fault(lines) is None, told_right
  refine ⟨_, rfl, ?_⟩
  refine faultB (.inl hr) rx g.bent fun v H4 x4 rv => ⟨rfl, ⟨_, rfl, ?_⟩⟩
  rw [g.f] at rv
  cases rv
  refine iteF ?_
  have hr4 := x4.at_ _ _ (by simp) hr
  have rx4 : RpL [st, cl] H4 xs ds := rx.ex x4.of
  refine ⟨_, rfl, _, rfl, st, cl, c3, [st, cl], r, xs, ds, rfl, S3.ex' (by simp) (by simp) x4, by simp, by simp, hr4, nrs, rx4, g, by omega, fun c5 H5 l5 q5 S5 x5 => ⟨_, rfl, iteF ?_⟩⟩
  have hr5 := x5.at_ _ _ nrs hr4
  have rx5 : RpL [st, cl] H5 xs ds := rx4.ex x5
  -- odd things
  refine forI (.inl ?_)
  refine ⟨_, rfl, _, rfl, _, rfl, st, cl, c5, [st, cl], [st, cl], r, xs, ds, rfl, S5, by omega, by simp, by simp, hr5, nrs, rx5, g, S5.trk, fun o os es H6 S6 x6 no ho ro hodd hlen => ?_⟩
  have lo := ro.1
  have nos : o ∉ [st, cl] := S5.trk.nin no
  refine ⟨st, cl, c5 + 1, o, os, rfl, S6, by omega, .inl ho, by omega, fun m ms H7 pm nm hm S7 x7 => ⟨_, rfl, slToL 25 rfl hm fun p H8 hp e8 => ⟨p, rfl, ⟨_, .inl (.inl (eqs e8))⟩, ?_⟩⟩⟩
  obtain ⟨es', pe, re⟩ := (ro.ex x7).perm pm
  have hr8 := eqf e8 hp ((x6.trans x7).at_ _ _ nrs hr5)
  have rx8 : RpL [st, cl] H8 xs ds := (rx5.ex (x6.trans x7)).ex (exn e8 hp)
  have S8 : Strm st cl H8 (c5 + 1 + os.length) := S7.ex' (F := []) (by simp) (by simp) (exn e8 hp)
  have np : p ∉ [st, cl] := S7.trk.nin hp
  have re8 : RpL [st, cl] H8 (ms.take 25) (es'.take 25) := (re.ex (exn e8 hp)).take 25
  have odd' : ∀ e ∈ es', odd e := fun e he => hodd e (pe.mem_iff.mp he)
  refine for_it (wkL (xs := ms.take 25)) (fun j σ' H' => ∃ (c' : Nat) (w4 w5 w6 : Option V), σ' = [some (.ref a), some (.ref st), some (.int (0 + (i : Nat))), some (.ref r), w4, w5, w6, u7, u8] ∧ Strm st cl H' c' ∧ c' ≤ c5 + 101 + 10 * j ∧ ExF [st, cl] H8 H')
    ⟨_, _, _, _, rfl, S8, by omega, ExF.refl⟩ (fun j σ' H' _ ⟨_, _, _, _, _, _, _, y⟩ => y.at_ _ _ np (eqs e8)) ?_ ?_
  · rintro j v σ' H0' H' hj ⟨c', w4, w5, w6, rfl, S', hc', y⟩ ⟨e, hv⟩
    subst e
    obtain ⟨od, hod, rv⟩ := re8.get' hv
    have hj25 : j < 25 := by rw [List.length_take] at hj; omega
    have oddd : odd od := odd' od (List.mem_of_mem_take (List.mem_of_getElem? hod))
    have hrA := y.at_ _ _ nrs hr8
    have rxA : RpL [st, cl] H' xs ds := rx8.ex y
    have rvA : Rp [st, cl] H' v od := rv.ex y
    have lr : ∀ {H1 : Hp}, ExF [st, cl] H' H1 → H1 r = some (.lst xs) := fun z => z.at_ _ _ nrs hrA
    -- at = draw(len(lines) + 1)
    refine ⟨_, rfl, _, rfl, lenL hrA (addI ?_)⟩
    refine ⟨st, cl, c', (xs.length : Int) + 1, rfl, S', by omega, by omega, by omega, fun k HA b0 b1 SA xA => ?_⟩
    obtain ⟨at_, rfl⟩ : ∃ j : Nat, k = j := ⟨k.toNat, by omega⟩
    -- bent
    refine ⟨_, rfl, _, rfl, _, rfl, slToL at_ rfl (lr xA) fun q1 HB hq1 eB => ?_⟩
    have xB : ExF [st, cl] H' HB := xA.trans (exn eB hq1)
    have SB : Strm st cl HB (c' + 1) := SA.ex' (F := []) (by simp) (by simp) (exn eB hq1)
    have rvB : Rp [st, cl] HB v od := rvA.ex xB
    refine litL (fun _ => od) [st, cl] [4] rfl (fun k hk => ?_) SB.trk fun q2 zs2 HC hq2 hC rC xC => ?_
    · have e : k = 4 := by simpa using hk
      subst e
      exact ⟨_, rfl, rvB⟩
    have rC : RpL [q2, st, cl] HC zs2 [od] := rC
    have lz : zs2.length = 1 := rC.1
    have hq1C := xC.at_ _ _ (by simp) (eqs eB)
    refine catL hq1C hC (by rw [List.length_take, sz]; omega) fun q3 HD hq3 eD => ?_
    have xD : ExF [] HC HD := exn eD hq3
    have xBD : ExF [] HB HD := xC.trans xD
    have SD := SB.ex' (F := []) (by simp) (by simp) xBD
    have nq3 : q3 ∉ [st, cl] := (SB.trk.ex xC).nin hq3
    refine ⟨_, rfl, _, rfl, _, rfl, st, cl, c' + 1, 2, rfl, SD, by omega, by decide, by decide, fun k2 HE b2 b3 SE xE => addI ⟨_, rfl, ?_⟩⟩
    obtain ⟨m3, rfl⟩ : ∃ j : Nat, k2 = j := ⟨k2.toNat, by omega⟩
    have xHE : ExF [st, cl] H' HE := (xB.trans xBD.of).trans xE
    refine slFromA (at_ + m3) (by omega) (lr xHE) fun q4 HF hq4 eF => ?_
    have h3E := xE.at_ _ _ nq3 (eqs eD)
    refine catL (eqf eF hq4 h3E) (eqs eF) (by rw [List.length_append, List.length_take, List.length_drop, sz]; omega) fun q5 HG hq5 eG => ?_
    have xDG : ExF [st, cl] HD HG := (xE.trans (exn eF hq4)).trans (exn eG hq5)
    have xHG : ExF [st, cl] H' HG := (xHE.trans (exn eF hq4)).trans (exn eG hq5)
    have SG : Strm st cl HG (c' + 1 + 1) := (SE.ex' (F := []) (by simp) (by simp) (exn eF hq4)).ex' (F := []) (by simp) (by simp) (exn eG hq5)
    have rxG : RpL [st, cl] HG xs ds := rxA.ex xHG
    have rzG : RpL [st, cl] HG zs2 [od] := ((rC.sub (by intro a z; simp at z; rcases z with z | z <;> simp [z])).ex (xD.of : ExF [st, cl] HC HD)).ex xDG
    have rb : RpL [st, cl] HG (xs.take at_ ++ zs2 ++ xs.drop (at_ + m3)) (ds.take at_ ++ [od] ++ ds.drop (at_ + m3)) := ((rxG.take at_).append rzG).append (rxG.dropN (at_ + m3))
    have hb : HG q5 = some (.lst (xs.take at_ ++ zs2 ++ xs.drop (at_ + m3))) := eqs eG
    have hbent : Bent (ds.take at_ ++ [od] ++ ds.drop (at_ + m3)) := ((g.bent.take at_).app (Bent.one oddd) (by rw [List.length_take]; simp; omega)).app (g.bent.drop _) (by rw [List.length_append, List.length_take, List.length_drop]; simp; omega)
    generalize xs.take at_ ++ zs2 ++ xs.drop (at_ + m3) = bs at rb hb
    generalize ds.take at_ ++ [od] ++ ds.drop (at_ + m3) = be at rb hbent
    have lb := rb.1
    have lbe := hbent.len
    -- same([met(pick(..))], [fault(bent)])
    have done : ∀ (b : Addr) (HX : Hp) (dd : PyData) (cx : Nat), c' ≤ cx → cx ≤ c' + 3 → ExF [st, cl] HG HX → Strm st cl HX cx → Rp [st, cl] HX (.ref b) dd → (dd = .list be ∨ dd = .tuple be) → spMet D.cSrc [.ref b] HX (fun v H1 => 
        (1 : Nat) ≤ sizeLine ∧ ∀ p1 H2, H1 p1 = none → H2 = upd H1 p1 (.lst [v]) → True) E0 := fun b HX dd cx _ _ _ _ rd hdd => metB rd hdd hbent fun r H' _ _ => ⟨by decide, fun _ _ _ _ => trivial⟩
    refine ⟨_, rfl, ⟨_, rfl, _, rfl, tupOfL hb fun q6 HI hq6 eI => ⟨by show 2 ≤ sizeLine; decide, fun q7 HJ hq7 eJ => ?_⟩⟩⟩
    have xGJ : ExF [] HG HJ := (exn eI hq6).trans (exn eJ hq7)
    have SJ := SG.ex' (F := []) (by simp) (by simp) xGJ
    have nq7 : q7 ∉ [st, cl] := (SG.trk.ex (exn (F := []) eI hq6)).nin hq7
    have nq5 : q5 ∉ [st, cl] := ((SE.ex' (F := []) (by simp) (by simp) (exn eF hq4)).trk).nin hq5
    have nq6 : q6 ∉ [st, cl] := SG.trk.nin hq6
    have b5 : HJ q5 = some (.lst bs) := xGJ.at_ _ _ (by simp) hb
    have b6 : HJ q6 = some (.tup bs) := eqf eJ hq7 (eqs eI)
    refine ⟨st, cl, c' + 1 + 1, q7, _, rfl, SJ, by omega, .inl (eqs eJ), fun e => nq7 (by simp [e]), fun e => nq7 (by simp [e]), by simp, by simp, fun kk vv HL hvv SL xL => ?_⟩
    have rbL : RpL [st, cl] HL bs be := (rb.ex xGJ.of).ex xL
    have pick : ∃ (b : Addr) (dd : PyData), vv = .ref b ∧ Rp [st, cl] HL (.ref b) dd ∧ (dd = .list be ∨ dd = .tuple be) := by
      have hm := List.mem_of_getElem? hvv
      simp at hm
      rcases hm with h | h
      · exact ⟨q5, .list be, h, .list nq5 (xL.at_ _ _ nq5 b5) rbL, .inl rfl⟩
      · exact ⟨q6, .tuple be, h, .tuple nq6 (xL.at_ _ _ nq6 b6) rbL, .inr rfl⟩
    obtain ⟨b, dd, rfl, rd, hdd⟩ := pick
    refine metB rd hdd hbent fun mr HM xM rm => ⟨by show 1 ≤ sizeLine; decide, fun q8 HN hq8 eN => ?_⟩
    have xMN : ExF [] HM HN := exn eN hq8
    have xGN : ExF [st, cl] HG HN := (xGJ.of.trans xL).trans (xM.trans xMN).of
    have SN := SL.ex' (F := []) (by simp) (by simp) (xM.trans xMN)
    refine ⟨_, rfl, ?_⟩
    refine faultB (.inl (xGN.at_ _ _ nq5 hb)) (rb.ex xGN) hbent fun fr HO xO rf => ⟨by show 1 ≤ sizeLine; decide, fun q9 HP hq9 eP => ?_⟩
    have xOP : ExF [] HO HP := exn eP hq9
    have xNP : ExF [] HN HP := xO.trans xOP
    have yy : ExF [] HM HP := xMN.trans xNP
    refine ⟨[], [], .ref q8, .ref q9, .list [optD (faultL [] [] 0 be)], 3, rfl, .list (by simp) (xNP.at_ _ _ (by simp) (eqs eN)) (.one (rm.ex yy)), .list (by simp) (eqs eP) (.one (rf.ex xOP)), by rw [ok_list, oks_cons]; exact ⟨⟨optD_ok _, by rw [oks]⟩, by simp⟩, by decide, by decide, fun HQ xQ => ⟨_, rfl, iteF ?_⟩⟩
    refine ⟨_, _, _, _, rfl, SN.ex' (F := []) (by simp) (by simp) (xNP.trans xQ), by omega, ?_⟩
    exact (y.trans xHG).trans (xGN.trans (xNP.trans xQ).of)
  · rintro σ' H9 ⟨c9, w4, w5, w6, rfl, S9, hc9, y⟩
    have l25 : (ms.take 25).length ≤ 25 := by rw [List.length_take]; omega
    have hr9 := y.at_ _ _ nrs hr8
    have rx9 : RpL [st, cl] H9 xs ds := rx8.ex y
    -- a line moved, twice
    refine forI ⟨(6 : Int), rfl, by decide, by decide, ?_⟩
    refine forRg (n := 6) (fun j σ' H' => ∃ (c' : Nat) (w4 w5 w6 w7 : Option V), σ' = [some (.ref a), some (.ref st), some (.int (0 + (i : Nat))), some (.ref r), w4, w5, w6, w7, u8] ∧ Strm st cl H' c' ∧ c' ≤ c9 + 10 * j ∧ ExF [st, cl] H9 H')
      ⟨c9, _, _, _, _, rfl, S9, by omega, ExF.refl⟩ ?_ ?_
    · rintro j σ' H' hj ⟨c', v4, v5, v6, v7, rfl, S', hc', y'⟩
      have hrA := y'.at_ _ _ nrs hr9
      have rxA : RpL [st, cl] H' xs ds := rx9.ex y'
      have l2 := g.l2
      refine ⟨_, rfl, lstOfL hrA fun b HA hb eA => ?_⟩
      have xA : ExF [] H' HA := exn eA hb
      have nb : b ∉ [st, cl] := S'.trk.nin hb
      have nbr : r ≠ b := ne_of_none hrA hb
      have SA := S'.ex' (F := []) (by simp) (by simp) xA
      have hrB := xA.at_ _ _ (by simp) hrA
      have bA : HA b = some (.lst xs) := eqs eA
      refine ⟨_, rfl, tyL bA, _, rfl, _, rfl, lenL hrB (addI ?_)⟩
      refine ⟨st, cl, c', (xs.length : Int) + 1, rfl, SA, by omega, by omega, by omega, fun k HB b0 b1 SB xB => ?_⟩
      obtain ⟨n1, rfl⟩ : ∃ j : Nat, k = j := ⟨k.toNat, by omega⟩
      have bB := xB.at_ _ _ nb bA
      refine ⟨_, rfl, tyL bB, _, rfl, _, rfl, lenL (xB.at_ _ _ nrs hrB) ?_⟩
      refine ⟨st, cl, c' + 1, (xs.length : Int), rfl, SB, by omega, by omega, by omega, fun k2 HC b2 b3 SC xC => ?_⟩
      obtain ⟨n2, rfl⟩ : ∃ j : Nat, k2 = j := ⟨k2.toNat, by omega⟩
      have bC := xC.at_ _ _ nb bB
      have hn2 : n2 < xs.length := by omega
      refine popAt (k := n2) bC (by omega) (by omega) rfl (y := xs[n2]) (by simp [hn2]) fun HD eD => ?_
      have bD : HD b = some (.lst (xs.eraseIdx n2)) := eqs eD
      refine insL n1 rfl bD (by rw [List.length_eraseIdx]; split <;> omega) (by omega) fun HE eE => ?_
      have bE := eqs eE
      have xE : ExF [b, st, cl] H' HE := exm eE (.inr (by simp)) (exm eD (.inr (by simp)) (((xA.of : ExF [b, st, cl] H' HA).trans (xB.sub (by simp))).trans (xC.sub (by simp))))
      have xE' : ExF [st, cl] H' HE := xE.drop hb
      have ebs : b ≠ st := fun e => nb (by simp [e])
      have ebc : b ≠ cl := fun e => nb (by simp [e])
      have SE : Strm st cl HE (c' + 1 + 1) := SC.ex' (F := [b]) (by simp [ebs.symm]) (by simp [ebc.symm]) (exm eE (.inr (by simp)) (exm eD (.inr (by simp)) ExF.refl))
      have rxE : RpL [b, st, cl] HE xs ds := (rxA.add hb).ex xE
      have hd2 : ds[n2]? = some ds[n2] := by simp <;> omega
      have re1 : Rp [b, st, cl] HE xs[n2] ds[n2] := rxE.2 n2 _ _ (by simp [hn2]) hd2
      have rb0 := rxE.eraseIdx n2
      have rb : RpL [b, st, cl] HE ((xs.eraseIdx n2).take n1 ++ [xs[n2]] ++ (xs.eraseIdx n2).drop n1) ((ds.eraseIdx n2).take n1 ++ [ds[n2]] ++ (ds.eraseIdx n2).drop n1) := ((rb0.take n1).append (.one re1)).append (rb0.dropN n1)
      have hbent : Bent ((ds.eraseIdx n2).take n1 ++ [ds[n2]] ++ (ds.eraseIdx n2).drop n1) := by
        have h1 := List.length_eraseIdx_le ds n2
        exact (((g.bent.erase n2).take n1).app (Bent.one (g.bent.all _ (List.mem_of_getElem? hd2))) (by rw [List.length_take]; simp; omega)).app ((g.bent.erase n2).drop n1) (by rw [List.length_append, List.length_take, List.length_drop]; simp; omega)
      have hbl : ((ds.eraseIdx n2).take n1 ++ [ds[n2]] ++ (ds.eraseIdx n2).drop n1).length ≤ 45 := by
        have h1 := List.length_eraseIdx_le ds n2
        rw [List.length_append, List.length_append, List.length_take, List.length_drop]; simp; omega
      generalize (xs.eraseIdx n2).take n1 ++ [xs[n2]] ++ (xs.eraseIdx n2).drop n1 = bs at rb bE
      generalize (ds.eraseIdx n2).take n1 ++ [ds[n2]] ++ (ds.eraseIdx n2).drop n1 = be at rb hbent hbl
      have rb' : RpL [] HE bs be := rb.sub (by simp)
      have lb := rb.1
      have two : (List.replicate 2 be).flatten = be ++ be := by simp [List.replicate]
      have twoV : (List.replicate 2 bs).flatten = bs ++ bs := by simp [List.replicate]
      have bent2 : Bent (be ++ be) := hbent.app hbent (by omega)
      -- met(bent), met(bent * 2)
      refine ⟨_, rfl, ?_⟩
      refine metB (F := []) (.list (by simp) bE rb') (.inl rfl) hbent fun r1 HF xF rf => ?_
      refine ⟨_, rfl, ?_⟩
      refine repL 2 (xF.at_ _ _ (by simp) bE) (by omega) (by decide) fun p1 HG hp1 eG => ?_
      rw [twoV] at eG
      have xG : ExF [] HF HG := exn eG hp1
      have rG : RpL [] HG (bs ++ bs) (be ++ be) := ((rb'.append rb').ex xF).ex xG
      refine metB (F := []) (.list (by simp) (eqs eG) rG) (.inl rfl) bent2 fun r2 HH xH rh => ⟨by show 2 ≤ sizeLine; decide, fun p2 HI hp2 eI => ?_⟩
      have xI : ExF [] HH HI := exn eI hp2
      have xEI : ExF [] HE HI := ((xF.trans xG).trans xH).trans xI
      -- fault(bent), fault(bent * 2)
      refine ⟨_, rfl, ?_⟩
      refine faultB (.inl (xEI.at_ _ _ (by simp) bE)) (rb'.ex xEI) hbent fun r3 HJ xJ rj => ?_
      refine ⟨_, rfl, ?_⟩
      refine repL 2 ((xEI.trans xJ).at_ _ _ (by simp) bE) (by omega) (by decide) fun p3 HL hp3 eL => ?_
      rw [twoV] at eL
      have xL : ExF [] HJ HL := exn eL hp3
      have rL : RpL [] HL (bs ++ bs) (be ++ be) := ((rb'.append rb').ex (xEI.trans xJ)).ex xL
      refine faultB (.inl (eqs eL)) rL bent2 fun r4 HM xM rm => ⟨by show 2 ≤ sizeLine; decide, fun p4 HN hp4 eN => ?_⟩
      have xN : ExF [] HM HN := exn eN hp4
      have xIN : ExF [] HI HN := ((xJ.trans xL).trans xM).trans xN
      refine ⟨[], [], .ref p2, .ref p4, .list [optD (faultL [] [] 0 be), optD (faultL [] [] 0 (be ++ be))], 3, rfl,
        .list (by simp) (xIN.at_ _ _ (by simp) (eqs eI)) (.cons (rf.ex (((xG.trans xH).trans xI).trans xIN)) (.one (rh.ex (xI.trans xIN)))),
        .list (by simp) (eqs eN) (.cons (rj.ex ((xL.trans xM).trans xN)) (.one (rm.ex xN))), by rw [ok_list, oks_cons, oks_cons]; exact ⟨⟨optD_ok _, optD_ok _, by rw [oks]⟩, by simp⟩, by decide, by decide, fun HO xO => ⟨_, rfl, iteF ?_⟩⟩
      refine ⟨_, _, _, _, _, rfl, SE.ex' (F := []) (by simp) (by simp) ((xEI.trans xIN).trans xO), by omega, ?_⟩
      exact (y'.trans xE').trans ((xEI.trans xIN).trans xO).of
    · rintro σ' H' ⟨c', v4, v5, v6, v7, rfl, S', hc', y'⟩
      rw [hD']
      exact ⟨c', _, _, _, _, _, _, _, rfl, S', by omega⟩
end
end Tw
end

section
set_option Elab.async false
set_option linter.all false
set_option maxRecDepth 100000
set_option maxHeartbeats 4000000
namespace Tw
open PySem L2 PyProof.Rows
def iAtT (K : PySem.W.Frag) (a : Addr) : TI := fun _ H R => R (Itt K a) H
theorem iter_atT {K : PySem.W.Frag} {M : List Addr} {σ : L2.St} {H : Hp} {a : Addr} {xs : List V} (ha : H a = some (.tup xs)) (hM : a ∉ M) : IterS M (iAtT K a) σ H xs := fun R h => h _ a _ H wkT ha hM ExF.refl
theorem lcAtT {K : PySem.W.Frag} {a D : Addr} {g : TG} {tt : TT} {te : TE} {vs : List Nat} {σ : L2.St} {H : Hp} {Qd : Hp → Prop} (hD : H D = none) (h : tLcU (iAtT K a) g tt te vs σ H fun v H' => v = .ref D → Qd H') :
    ∃ W : Nat → Nat → Hp → Prop, (∃ m, W 0 m (upd H D (.lst []))) ∧ ∀ i m H, W i m H →
      ((Itt K a).stop i H ∧ Qd H) ∨ ((Itt K a).go i H ∧ ∃ Nx : Hp → Prop, (∀ H', Nx H' → ∃ m', m' < m ∧ W (i + 1) m' H') ∧ ∀ x H', (Itt K a).yld i H x H' → g x (wipe σ vs) H' fun σ2 H2 => wipe σ2 vs = wipe σ vs ∧ tt σ2 H2 fun b H3 =>
        if b = true then te σ2 H3 fun y H4 => ∃ acc, H4 D = some (.lst acc) ∧ acc.length < sizeLine ∧ Nx (upd H4 D (.lst (acc ++ [y]))) else Nx H3) := by
  unfold tLcU tLc iAtT at h
  obtain ⟨W, h0, hs⟩ := h D hD
  exact ⟨W, h0, fun i m H w => (hs i m H w).imp (fun ⟨a, b⟩ => ⟨a, b rfl⟩) id⟩
theorem rd_law {K : PySem.W.Frag} {D : Ad2} {vs : List V} {H : Hp} {Q : VK} {E : XK} (h : spLaw K vs H Q E) :
    t_law K D { nx := fun _ H' => Q .non H', rt := Q } (start ["_law_script", "_law_stream", "_law_turn", "_law_lines", "_law_odd", "_law_at", "_law_bent", "_law_k", "_law_some"] vs) H := by
  obtain ⟨a, ns, rfl, hs, hl, q⟩ := h
  refine ⟨_, rfl, a, ns, rfl, hs, hl, fun st cl H1 S1 n1 n2 x1 => ?_⟩
  refine forI ⟨(5 : Int), rfl, by decide, by decide, ?_⟩
  refine forRg (n := 5) (Turn a st cl) ⟨0, _, _, _, _, _, _, _, rfl, S1, by omega⟩ (fun i σ' H' hi p => rd_turn _ rfl hi p) ?_
  rintro σ2 H2 ⟨c, u2, u3, u4, u5, u6, u7, u8, rfl, S2, hc⟩
  -- a new source of no lines
  have src : ∀ {Q' : VK} {H3 : Hp} {p : Addr} {d : PyData}, Rp [] H3 (.ref p) d → (d = .list [] ∨ d = .tuple []) → (∀ x dx a H', ExF [] H3 H' → H' x = some (.ins D.cSrc dx [("own_lines", .ref a)]) → H' a = some (.tup []) → Q' (.ref x) H') → MkR D (.ref p) H3 Q' := fun {Q' H3 p d} rd hd k => by
    have hi : items d = some [] := by rcases hd with e | e <;> subst e <;> rfl
    have ho : okx 1 d = true := by rcases hd with e | e <;> subst e <;> decide
    have hz : size d ≤ 1000000 := by rcases hd with e | e <;> subst e <;> decide
    have hm : metD d = none := by unfold metD; rw [hi]; rfl
    refine mkS (G := []) rd ho (by decide) hz hi (by decide) hm Trk.nil fun x dx a ys H' y _ _ _ h2 h3 ry => ?_
    have ry : RpL [] H' ys [] := ry
    rw [ry.nil_inv] at h3
    exact k x dx a H' y h2 h3
  refine lcI (.inr (.inl ?_))
  unfold iTup tTupU
  refine fun p1 hp1 => ?_
  generalize eA : upd H2 p1 (.dK []) = HA at *
  have eA := eA.symm
  refine ⟨by decide, fun p2 HB hp2 eB => ⟨_, rfl, ?_⟩⟩
  refine src (.list (by simp) (eqs eB) .nil) (.inl rfl) fun x dx a' HC xC hx ha => ?_
  refine litT (fun _ => .none) [] [] rfl (by simp) Trk.nil fun p3 ys HD hp3 hD rD xD => ⟨by show 7 ≤ sizeLine; decide, fun p HE hp eE => ⟨p, rfl, ⟨_, .inl (.inl (eqs eE))⟩, fun D0 hD0 => lcAtT hD0 ?_⟩⟩
  have xE : ExF [] HD HE := exn eE hp
  have xAE : ExF [] HA HE := ((exn eB hp2).trans xC).trans (xD.trans xE)
  have rD : RpL [p3] HD ys ((["read", "a"] : List Str).map PyData.str) := rD
  have tu : Rp [] HE (.ref p3) (.tuple [.str "read", .str "a"]) := .tuple (by simp) (xE.at_ _ _ (by simp) hD) ((rD.ex xE.of).sub (by simp))
  have di : Rp [] HE (.ref p1) (.dict []) := .dct (by simp) (xAE.at_ _ _ (by simp) (eqs eA))
  have hx' := (xD.trans xE).at_ _ _ (by simp) hx
  have all : ∀ (i : Nat) (v : V), ([.non, .int 5, .str "ab", .ref p1, .bl true, .ref x, .ref p3] : List V)[i]? = some v → i < 7 ∧ ∃ d, AnyV [] D.cSrc HE v d ∧ okx 2 d = true ∧ metD d = some 0 ∧ size d ≤ 10 ∧ ∀ ds, items d = some ds → ds.length ≤ 10 := by
    intro i v hv
    match i, hv with
    | 0, hv => cases hv; exact ⟨by decide, .none, .inl .non, by decide, rfl, by decide, fun ds h => nomatch h⟩
    | 1, hv => cases hv; exact ⟨by decide, .int 5, .inl (.int _), by decide, rfl, by decide, fun ds h => nomatch h⟩
    | 2, hv => cases hv; exact ⟨by decide, .str "ab", .inl (.str _), by decide +kernel, rfl, by decide, fun ds h => nomatch h⟩
    | 3, hv => cases hv; exact ⟨by decide, .dict [], .inl di, by decide, rfl, by decide, fun ds h => nomatch h⟩
    | 4, hv => cases hv; exact ⟨by decide, .bool true, .inl (.bl _), by decide, rfl, by decide, fun ds h => nomatch h⟩
    | 5, hv => cases hv; exact ⟨by decide, .none, .inr ⟨rfl, x, dx, _, rfl, hx', by simp⟩, by decide, rfl, by decide, fun ds h => nomatch h⟩
    | 6, hv => cases hv; exact ⟨by decide, .tuple [.str "read", .str "a"], .inl tu, by decide +kernel, rfl, by decide, fun ds h => by cases h; decide⟩
    | n + 7, hv => simp at hv
  refine lcMap (F := []) (xs := [.non, .int 5, .str "ab", .ref p1, .bl true, .ref x, .ref p3]) (vs := [4]) (k := 4) (iter_atT (eqs eE) (by simp)) (List.replicate 7 (.int 0)) (by simp) (by rw [sizeLine_eq]; show 7 < 16777216; decide) (fun _ => rfl) ?_ ?_
  · intro D' i v e H' hv he x9 hD1 hD2 Qc k
    obtain ⟨hi, d, av, ho, hm, hz, hln⟩ := all i v hv
    have e0 : e = .int 0 := by
      rw [List.getElem?_replicate, if_pos hi] at he
      cases he; rfl
    subst e0
    refine ⟨_, rfl, v, [], d, 2, rfl, av.ex x9.of, ho, by decide, by omega, fun ds h => Nat.le_trans (hln ds h) (by decide), fun r H'' x10 rr => ?_⟩
    rw [hm] at rr
    cases rr
    exact k _ H'' x10 (.int _)
  · intro r ys' HF hr hF rF xF eD
    cases eD
    -- same(some, [0] * 7)
    refine ⟨_, rfl, ?_⟩
    refine litL (fun _ => .none) [] [] rfl (by simp) Trk.nil fun p4 zs HG hp4 hG rG xG => ?_
    have rG : RpL [p4] HG zs (([0] : List Int).map PyData.int) := rG
    have rG := rG.all_int
    subst rG
    refine repL 7 hG (by rw [sizeLine_eq]; decide) (by decide) fun p5 HI hp5 eI => ?_
    have xI : ExF [] HG HI := exn eI hp5
    have ef : (List.replicate 7 (([0] : List Int).map V.int)).flatten = (List.replicate 7 (0 : Int)).map V.int := rfl
    rw [ef] at eI
    have ed : (List.replicate 7 (PyData.int 0)) = (List.replicate 7 (0 : Int)).map PyData.int := rfl
    refine ⟨[], [], .ref D0, .ref p5, .list (List.replicate 7 (.int 0)), 2, rfl, .list (by simp) ((xG.trans xI).at_ _ _ (by simp) hF) (rF.ex (xG.trans xI)), .list (by simp) (eqs eI) (by rw [ed]; exact RpL.ints _), by decide, by decide, by decide, fun HJ xJ => ⟨_, rfl, iteT ?_⟩⟩
    have lk : ∀ (m : Str) (v : V), m ≠ "own_lines" → List.lookup m [(("own_lines" : Str), v)] = none := fun m v hm => by
      have e : (m == ("own_lines" : Str)) = false := by simpa using hm
      simp [List.lookup, e]
    -- same([Source([]).lines(), Source(()).tells()], [[], []])
    refine ⟨by decide, fun q1 HL hq1 eL => ⟨_, rfl, ?_⟩⟩
    refine src (.list (by simp) (eqs eL) .nil) (.inl rfl) fun y1 dy1 b1 HM xM hy1 hb1 => ⟨y1, dy1, _, rfl, hy1, lk _ _ (by decide), y1, [], rfl, ⟨dy1, b1, hy1, hb1⟩, fun r1 HN nr1 hr1 xN => ?_⟩
    refine ⟨by decide, fun q2 HO hq2 eO => ⟨_, rfl, ?_⟩⟩
    have xO : ExF [] HN HO := exn eO hq2
    refine src (.tuple (by simp) (eqs eO) .nil) (.inr rfl) fun y2 dy2 b2 HP xP hy2 hb2 => ⟨y2, dy2, _, rfl, hy2, lk _ _ (by decide), y2, [], [], [], rfl, ⟨dy2, b2, hy2, hb2⟩, .nil, by simp, by decide, fun r2 HQ nr2 hr2 xQ => ⟨by show 2 ≤ sizeLine; decide, fun p6 HR hp6 eR => ?_⟩⟩
    have xR : ExF [] HQ HR := exn eR hp6
    refine ⟨by decide, fun q3 HS hq3 eS => ⟨by decide, fun q4 HT hq4 eT => ⟨by show 2 ≤ sizeLine; decide, fun p7 HU hp7 eU => ?_⟩⟩⟩
    have xRU : ExF [] HR HU := ((exn eS hq3).trans (exn eT hq4)).trans (exn eU hp7)
    have xNQ : ExF [] HN HQ := (xO.trans xP).trans xQ
    refine ⟨[], [], .ref p6, .ref p7, .list [.list [], .list []], 3, rfl,
      .list (by simp) (xRU.at_ _ _ (by simp) (eqs eR)) (.cons (.list (by simp) ((xNQ.trans (xR.trans xRU)).at_ _ _ (by simp) hr1) .nil) (.one (.list (by simp) ((xR.trans xRU).at_ _ _ (by simp) hr2) .nil))),
      .list (by simp) (eqs eU) (.cons (.list (by simp) (eqf eU hp7 (eqf eT hq4 (eqs eS))) .nil) (.one (.list (by simp) (eqf eU hp7 (eqs eT)) .nil))), by decide, by decide, by decide, fun HV xV => q HV⟩
end Tw
end

section
set_option Elab.async false
set_option linter.all false
set_option maxRecDepth 100000
set_option maxHeartbeats 4000000
namespace Tw
open PySem PySem.Spec L2 PyProof.Rows
/-- the law's call, its def told by FnG: the caller has no repr under way -/
theorem lawG {P : Program} {w : World} {K : PySem.W.Frag} {mg mb : Str → Option Value} {k : Nat} {fa a : Addr} {ps : List Str} {sp : Sp} {s₁ : Shared} {vs : List Value} {ns : List Int}
    (KX : K.In s₁.heap) (hns : s₁.heap.Ns mainGlobals mg) (hb : s₁.heap.Ns builtinsNs mb) (hbb : ∀ x : Str, x ≠ "__name__" → mb x = bootBuiltins x) (hlim : s₁.heap.NoLimit) (hg : s₁.gens = #[])
    (ha : s₁.heap.get? a = some { cls := .type "list", data := .seq vs.toArray }) (hi : IntsAre vs ns) (hl : ns.length ≤ sizeLine) (hr : Room k callerA)
    (Fd : ∀ base : Heap, K.In base → base.Ns mainGlobals mg → FnG P w K mg base k fa ps sp)
    (hsp : ∀ H : Hp, Only H → SqL K H a (ns.map V.int) → sp [.ref a] H (fun v _ => v = .bl true) fun _ _ _ => False) :
    codeAny (model P w) callerA (.call (.ref fa) ⟨[.ref a], []⟩) (fun r s' => r = .ok (.ret (.bool true)) ∧ OldK s₁.heap s'.heap ∧ s'.os = s₁.os ∧ AllBare s'.gens) s₁ := by
  have rv := vals_ints hi
  have core : ∀ H : Hp, Only H → SqL K H a (ns.map V.int) → HOk P w H s₁.heap → (∀ b, H b ≠ none → b = a) → (H a ≠ none → K.lookup a = none) →
      codeAny (model P w) callerA (.call (.ref fa) ⟨[.ref a], []⟩) (fun r s' => r = .ok (.ret (.bool true)) ∧ OldK s₁.heap s'.heap ∧ s'.os = s₁.os ∧ AllBare s'.gens) s₁ := by
    intro H hO hS hok hA hK
    have isA : ∀ {b : Addr} {u : HO}, H b = some u → b = a := fun {b u} q => hA b (by rw [q]; exact fun z => nomatch z)
    have keepB : ∀ {b : Addr} {o : Obj}, s₁.heap.get? b = some o → H b = none → (hidT s₁.heap H).get? b = some o := fun e n => hidT_get e n
    have dictFree : ∀ {b : Addr} {o : Obj} {es : Array DictEntry} {ep : Nat}, s₁.heap.get? b = some o → o.data = .dict es ep → H b = none := fun {b o es ep} e d => by
      cases q : H b with
      | none => rfl
      | some u =>
        have := isA q
        subst this
        rw [ha] at e
        cases e
        exact nomatch (show Data.seq vs.toArray _ = Data.dict es ep from d)
    have nsB : ∀ {b : Addr} {m : Str → Option Value}, s₁.heap.Ns b m → (hidT s₁.heap H).Ns b m := fun {b m} ⟨o, es, ep, e, d, r⟩ => ⟨o, es, ep, keepB e (dictFree e d), d, r⟩
    have inB : K.In (hidT s₁.heap H) := fun b o e => keepB (KX b o e) (by
      cases q : H b with
      | none => rfl
      | some u =>
        have := isA q
        subst this
        rw [hK (by rw [q]; exact fun z => nomatch z)] at e
        cases e)
    have md : Mod K mg (hidT s₁.heap H) := ⟨inB, nsB hns, ⟨mb, nsB hb, hbb⟩, let ⟨mc, h1, h2⟩ := hlim; ⟨mc, nsB h1, h2⟩⟩
    have e0 : Env0 P w K mg (hidT s₁.heap H) callerA [] s₁ H := ⟨rfl, md, fun b o e => of_hidT e, Nat.le_of_eq (hidT_size _ _), trivial, fun b hb => absurd (show b ∈ ([] : List Addr) from hb) (by simp), hok, .of_eq hg⟩
    refine codeAny_mono ((Fd _ inB (nsB hns)).run callerA [] s₁ H [.ref a] [.ref a] _ _ rfl hr e0 (.cons rfl .nil) (hsp H hO hS)) fun r s' h => ?_
    cases r with
    | error e => exact False.elim h
    | ok fl =>
      cases fl with
      | next => exact False.elim h
      | brk => exact False.elim h
      | cont => exact False.elim h
      | ret u =>
        obtain ⟨v, H', os, bare, un, hok', rv', q⟩ := h
        have q : v = .bl true := q
        subst q
        obtain rfl : u = Value.bool true := rv'
        refine ⟨rfl, OldK.of_keep fun b o e => ?_, os, bare⟩
        cases q : H b with
        | none => exact un.keep b o e q (by intro z; exact absurd (show b ∈ ([] : List Addr) from z) (by simp)) (by simp)
        | some u =>
          rcases hO b with z | ⟨ob, ys, z⟩
          · rw [q] at z; cases z
          · obtain ⟨f1, _⟩ := hok b _ z
            obtain ⟨f2, _⟩ := hok' b _ (un.frzs b ob _ z)
            rw [e] at f1; cases f1
            exact f2
  cases hk : K.lookup a with
  | some o =>
    have e := KX a o hk
    rw [ha] at e
    cases e
    refine core (fun _ => none) (fun _ => .inl rfl) (.inr ⟨_, vs.toArray, _, hk, rfl, rfl, rfl, by rw [List.size_toArray, hi.length]; exact hl, by simpa using rv⟩) (fun b u z => nomatch (show (none : Option HO) = some u from z)) (fun b z => absurd rfl z) fun z => absurd rfl z
  | none =>
    have at_ : ∀ {b : Addr} {u : HO}, (if b = a then some (HO.frz { cls := .type "list", data := .seq vs.toArray } (.lst (ns.map V.int))) else none) = some u → b = a ∧ u = .frz { cls := .type "list", data := .seq vs.toArray } (.lst (ns.map V.int)) := fun {b u} z => by
      by_cases hb : b = a
      · rw [if_pos hb] at z
        exact ⟨hb, (Option.some.inj z).symm⟩
      · rw [if_neg hb] at z
        cases z
    refine core (fun b => if b = a then some (.frz { cls := .type "list", data := .seq vs.toArray } (.lst (ns.map V.int))) else none) (fun b => ?_) (.inl (.inr ⟨_, if_pos rfl⟩)) (fun b u z => ?_) (fun b z => ?_) fun _ => hk
    · by_cases hb : b = a
      · exact .inr ⟨_, _, if_pos hb⟩
      · exact .inl (if_neg hb)
    · obtain ⟨e1, e2⟩ := at_ z
      subst e1 e2
      exact ⟨ha, by rw [List.length_map]; exact hl, vs, _, rv, ha⟩
    · cases q : (if b = a then some (HO.frz { cls := .type "list", data := .seq vs.toArray } (.lst (ns.map V.int))) else none) with
      | none => exact absurd q z
      | some u => exact (at_ q).1
theorem walkG {l : PySem.W.OpenLaw} {n k : Nat} {q : Program} {loose : List Str} {XP : (Str → Option Value) → Heap → Prop} {YP : World → Heap → Prop} {d : DefRec} {K : Params → PySem.W.Frag} {sp : World → Sp}
    (hn : l.most = some n) (hn2 : n ≤ sizeLine) (hdf : d.params.defaults = []) (hr : Room k callerA) (hY : ∀ (w : World) (h : Heap), YP w h → (K w.params).In h)
    (Fd : ∀ (w : World) (mg : Str → Option Value) (fa : Addr) (h : Heap), (K w.params).In h → h.Ns mainGlobals mg → mg d.name = some (.ref fa) →
      ∃ ps : List Str, ∀ base : Heap, (K w.params).In base → base.Ns mainGlobals mg → FnG l.prog w (K w.params) mg base k fa ps (sp w))
    (hsp : ∀ (w : World) (H : Hp) (a : Addr) (ns : List Int), ns.length ≤ n → Only H → SqL (K w.params) H a (ns.map V.int) → sp w [.ref a] H (fun v _ => v = .bl true) fun _ _ _ => False) :
    PySem.W.WalkO q loose XP YP l.row.toRowW d [] (fun f vs => PySem.call f vs) := by
  refine Att.attach_call hn hdf fun w s₀ s₁ mg mb fa o pm cd doc a vs ns G Y ho hd hcd hmg hobj hints hlen hg => ?_
  have KX := hY w _ Y
  obtain ⟨ps, hF⟩ := Fd w mg fa _ KX G.T.g hmg
  exact lawG KX G.T.g G.T.b G.T.builtins G.T.nolimit hg hobj hints (Nat.le_trans hlen hn2) hr hF fun H hO hS => hsp w H a ns hlen hO hS
end Tw
end

section
set_option Elab.async false
set_option linter.all false
set_option maxRecDepth 100000
set_option maxHeartbeats 4000000
namespace Tw
open PySem PySem.Spec L2 PyProof.Rows
/-! ### several clauses, each with the same name -/
def wManyAs (K : PySem.W.Frag) (Wout : WX) (i : Nat) (D : Ends) : List (Value × (Addr → Value → Option Addr → TS)) → WX
  | [] => Wout
  | (c, ts) :: r => wAs K c i ts (wManyAs K Wout i D r) D
inductive HdsAs (X : Cx) (n : Str) : List ExceptHandler → List (Value × (Addr → Value → Option Addr → TS)) → Prop
  | nil : HdsAs X n [] []
  | cons {x : Str} {c : Value} {ts : Addr → Value → Option Addr → TS} {b₀ : Stmt} {suite : List Stmt} {np q : Pos} {hds : List ExceptHandler} {l : List (Value × (Addr → Value → Option Addr → TS))} (hc : Names X x c)
      (hsu : ∀ (a : Addr) (oe : Obj) (cls : Value) (d : Option Addr) (pn : List (Addr × Obj)), Zc cls d oe → (∃ vs, oe.data = .fields vs) → PSs (X.suite a ((a, oe) :: pn)) (b₀ :: suite) (ts a cls d)) (r : HdsAs X n hds l) :
      HdsAs X n (.ExceptHandler (some (.Name x np)) (some n) (b₀ :: suite) q :: hds) ((c, ts) :: l)
section
variable {X : Cx} {n : Str} {i : Nat} {body : List Stmt} {h₀ : ExceptHandler} {hds : List ExceptHandler} {l : List (Value × (Addr → Value → Option Addr → TS))} {pos : Pos} {tb : WX → TS} {Wout : WX}
theorem ps_tryManyAs (hs : X.stack = X.env :: X.outer) (hf : X.env.frame = some X.env.locals) (hN : X.N.Nodup) (hi : X.N[i]? = some n) (hln : X.env.kindOf n = some .local) (tk : Takes X Wout)
    (hb : ∀ (W : WX) (pn : List (Addr × Obj)) (xe : Value → Shared → Prop), Takes (X.tr pn xe) W → PassesOwn (model X.prog X.w) X.A X.env xe → PSs (X.tr pn xe) body (tb W)) (hh : HdsAs X n (h₀ :: hds) l) :
    PS X (.Try body (h₀ :: hds) [] [] pos) (fun D σ H => tb (wManyAs X.K Wout i D l) D σ H) := by
  refine ⟨fun pins s σ H D I h => ?_⟩
  have ok := I.ok
  have hloc : Loc X.env.scope n := .inl hln
  have hfr : X.A.frames = some (X.env :: X.outer) := by rw [ok.frames, hs]
  refine wpAny_Try_except ?_
  refine wpAny_mono ((hb (wManyAs X.K Wout i D l) (X.pn ++ pins) (fun e s₁ => wpAny (model X.prog X.w) X.A (noteFrame e X.env) (fun _ s₂ => wpAny (model X.prog X.w) X.A (setFlight e none) (fun _ s₃ =>
    wpAny (model X.prog X.w) X.A (handleBy e X.env (h₀ :: hds)) (SP X pins D) X.xe s₃) X.xe s₂) X.xe s₁) (fun u s' xx => ?_) PassesOwn.looking).run [] s σ H D (I.toTry _) h) (fun f s1 z => ?_) (fun e s1 z => z)
  · obtain ⟨a, B, sI, pins', σ', H', cls, d, rfl, J', nb, up, sky, na, os, ag, w⟩ := xx
    have J : Inv X pins σ' H' sI := J'.ofTry ok
    have sky1 : Sky B (X.env :: X.outer) a (Zc cls d) X.env.locals s'.heap := by rw [← hs]; exact sky
    show wpAny (model X.prog X.w) X.A (noteFrame (.ref a) X.env) _ _ _
    refine Sky.land Zc.steady hfr hf sky1 fun g3 fl3 up3 => ?_
    have J3 : Inv X pins σ' H' { s' with heap := g3 } := J.landed nb fl3.1 (up.trans up3) os ag
    obtain ⟨oe3, vs3, he3, hz3, hd3⟩ := fl3.there
    have nfr : a ∉ frs (X.env :: X.outer) := fun hm => by
      obtain ⟨_, o', e', hnf⟩ := fl3.2.2.1.mem hm
      rw [he3] at e'; cases e'
      exact hnf _ hd3
    have nL : a ≠ X.env.locals := fun z => nfr (List.mem_filterMap.mpr ⟨X.env, List.mem_cons_self, by rw [hf, z]⟩)
    have nF : a ∉ X.fs := fun hm => by
      obtain ⟨e, he, q⟩ := List.mem_filterMap.mp hm
      exact nfr (List.mem_filterMap.mpr ⟨e, List.mem_cons_of_mem _ he, q⟩)
    have S3 := J3.suite he3 hd3 na nL nF
    have all : ∀ {hds' : List ExceptHandler} {l' : List (Value × (Addr → Value → Option Addr → TS))}, HdsAs X n hds' l' → wManyAs X.K Wout i D l' cls d σ' H' → wpAny (model X.prog X.w) X.A (handleBy (.ref a) X.env hds') (SP X pins D) X.xe { s' with heap := g3 } := by
      intro hds' l' hk
      induction hk with
      | nil =>
        intro w
        refine wpAny_handleBy_nil ?_
        obtain ⟨k1, k2, k3, oe, vs, T, oT, ts', he, hz, hd, h1, hr⟩ := id fl3
        unfold PySem.passOn
        refine wpAny_bind (wpAny_field he hd h1 ?_)
        rw [if_neg (show ¬ ((Value.ref T == Value.none) = true) from by simp)]
        have out : wpAny (model X.prog X.w) X.A (setFlight (.ref a) X.env.frame) (fun _ s4 => wpAny (model X.prog X.w) X.A (throw (.ref a) : Sem Flow) (SP X pins D) X.xe s4) X.xe { s' with heap := g3 } := by
          rw [hf]
          refine HandSPX.setFlight_upZ fl3 fun h4 hh4 up4 => wpAny_throw (tk _ _ ?_)
          exact ⟨a, B, sI, pins, σ', H', cls, d, rfl, J, nb, (up.trans up3).trans up4, .inr (.inr (by rw [hs]; exact hh4)), na, os, ag, w⟩
        first
          | exact wpAny_bind (wpAny_pure (wpAny_bind out))
          | exact wpAny_bind out
      | @cons x c ts b₀ suite np pq hds2 l2 hc hsu r ih =>
        intro w
        obtain ⟨b, hb1, hyes, hno⟩ := w
        refine wpAny_handleBy_cons (codeAny_handlers_test ?_) (by intro q; cases q)
        have LT : PySem.W.Looks (model X.prog X.w) g3 (typeOf (.ref a)) cls := fun A Q E s k q => wpAny_typeOf_ref (k _ _ he3) (by rw [hz3.1]; exact q)
        have LM := PySem.W.exm_one (M := model X.prog X.w) (J3.kIn) LT hb1
        have look : ∀ {Q : Value → Shared → Prop} {E : Value → Shared → Prop}, Q c { s' with heap := g3 } → wpAny (model X.prog X.w) (X.A.mark (some (.ref a))) (eval (.Name x np) X.env) Q E { s' with heap := g3 } := fun {Q E} q => by
          obtain ⟨hg, hdbg, hm | ⟨hm, hv, hnn⟩⟩ := hc
          · exact ld_glob (X := X.suite a ((a, oe3) :: (X.pn ++ pins))) S3 hg hm q hdbg
          · exact ld_blt (X := X.suite a ((a, oe3) :: (X.pn ++ pins))) S3 hg hm hv q hnn hdbg
        refine look (LM.here ?_)
        cases b with
        | true =>
          refine codeAny_handlers_suite_as ?_
          refine HandSPX.lands_againZ fl3 fun g4 fl4 up4 => ?_
          have J4 : Inv X pins σ' H' { s' with heap := g4 } := J.landed nb fl4.1 ((up.trans up3).trans up4) os ag
          obtain ⟨oe4, vs4, he4, hz4, hd4⟩ := fl4.there
          have S4 := J4.suite he4 hd4 na nL nF
          refine store_ok (X := X.suite a ((a, oe4) :: (X.pn ++ pins))) (v := .ref a) S4 hN hi hloc rfl (fun s5 S5 => ?_) (.inr hln)
          refine wpAny_mono ((hsu a oe4 cls d (X.pn ++ pins) hz4 ⟨_, hd4⟩).run [] s5 _ H' _ S5 (hyes rfl a na)) (fun f s6 z => ?_) (fun _ _ z => False.elim z)
          have end_ : ∀ {σ6 : L2.St} {H6 : Hp} {Q : Shared → Prop}, Inv (X.suite a ((a, oe4) :: (X.pn ++ pins))) [] σ6 H6 s6 → (∀ s7, Inv X pins (σ6.set i none) H6 s7 → Q s7) →
              wpAny (model X.prog X.w) X.A (do bindName X.env n .none; unbindBehindTheSuite X.env n pq) (fun _ s7 => Q s7) X.xe s6 := fun {σ6 H6 Q} S6 hq => gone_ok (S6.unsuite ok) hN hi hln hq
          cases f with
          | ret u =>
            obtain ⟨v6, σ6, H6, S6, r6, q6⟩ := z
            exact end_ S6 fun s7 J7 => ⟨_, _, _, J7, r6, q6⟩
          | next =>
            obtain ⟨σ6, H6, S6, q6⟩ := z
            exact end_ S6 fun s7 J7 => ⟨_, _, J7, q6⟩
          | brk =>
            obtain ⟨σ6, H6, S6, q6⟩ := z
            exact end_ S6 fun s7 J7 => ⟨_, _, J7, q6⟩
          | cont =>
            obtain ⟨σ6, H6, S6, q6⟩ := z
            exact end_ S6 fun s7 J7 => ⟨_, _, J7, q6⟩
        | false =>
          show wpAny _ X.A (handleBy (.ref a) X.env hds2) _ _ _
          exact ih (hno rfl)
    exact all hh w
  · cases f with
    | ret u =>
      obtain ⟨v, σ', H', J', r, q⟩ := z
      exact ⟨v, σ', H', J'.ofTry ok, r, q⟩
    | next =>
      obtain ⟨σ', H', J', q⟩ := z
      exact wpAny_execs_nil ⟨σ', H', J'.ofTry ok, q⟩
    | brk =>
      obtain ⟨σ', H', J', q⟩ := z
      exact ⟨σ', H', J'.ofTry ok, q⟩
    | cont =>
      obtain ⟨σ', H', J', q⟩ := z
      exact ⟨σ', H', J'.ofTry ok, q⟩
end
/-! ### o.f as a target among others -/
def gFld (K : PySem.W.Frag) (to : TE) (f : Str) : TG := fun v σ H Q => to σ H fun x H1 => ∃ a C dx fs, x = .ref a ∧ H1 a = some (.ins C dx fs) ∧ Cls K C ∧ NoAttr K C f ∧ fs.length < 1000 ∧ Q σ (upd H1 a (.ins C dx (putF f v fs)))
theorem pg_fld {X : Cx} {o : Expr} {to : TE} {f : Str} {pos : Pos} (ho : PE X o to) : PG X (.Attribute o f pos) (gFld X.K to f) := by
  refine ⟨fun pins s σ H v u Q I r h => ?_⟩
  show wpAny _ _ (do
    let ov ← holding [u] (eval o X.env)
    standAt pos.atName
    holding [u, ov] (setAttr ov f u)
    release [u, ov] []) _ _ _
  refine wpAny_bind (wpAny_holding (thn (ho.run pins s σ H _ I h) fun ov s1 ⟨x, H1, I1, r1, a, C, dx, fs, ex, ea, c, n, l, q⟩ => ?_))
  subst ex
  obtain rfl : ov = Value.ref a := r1
  refine wpAny_bind (wpAny_standAt (wpAny_bind (wpAny_holding (setattr_ok I1 ea c n l r fun s3 I3 => ?_))))
  exact wpAny_release ⟨σ, _, I3, q⟩
/-! ### d.update(another dict) -/
def rUpd : V → List V → Hp → VK → Prop := fun x vs H Q => ∃ (a b : Addr) (kvs more : List (Key × V)), x = .ref a ∧ vs = [.ref b] ∧ a ≠ b ∧ H a = some (.dK kvs) ∧ H b = some (.dK more) ∧ kvs.length + more.length ≤ sizeLine ∧ Q .non (upd H a (.dK (mergeK kvs more)))
theorem mtd_update {X : Cx} : MtR X "dict.update" rUpd := by
  intro pins s σ H x vs v us Q I rx rv h
  obtain ⟨a, b, kvs, more, ex, ev, ne, ea, eb, hz, q⟩ := h
  subst ex
  subst ev
  obtain rfl : v = Value.ref a := rx
  obtain ⟨u, rfl, ru⟩ := rv.one
  obtain rfl : u = Value.ref b := ru
  obtain ⟨z, hd, ws, rel, dd⟩ := dk_of I.hok ea
  obtain ⟨z2, hd2, ws2, rel2, dd2⟩ := dk_of I.hok eb
  refine call_meetsIn PySem.F.slot_dict_update dd.typeIs PySem.F.entry_dict_update (PySem.F.args_dict_update_2 _ _) (meets_dict_update (mixKind X.prog X.w) a b ne hd2) ⟨ws, ws2, dd, dd2, by rw [← rel.length, ← rel2.length]; exact hz, fun h' d1 d2 sb => ?_⟩
  have he : ∃ q, h'.get? a = some q := let ⟨q, _, _, hq, _⟩ := d1; ⟨q, hq⟩
  have hl : (mergeK kvs more).length ≤ sizeLine := Nat.le_trans (length_mergeK more kvs) hz
  exact ⟨.non, _, d_write (t' := s.toks) I (by rw [ea]; exact True.intro) sb he (dk_new hl hd (KV.merge rel2 rel) d1), rfl, q⟩
end Tw
end

section
set_option Elab.async false
set_option linter.all false
set_option maxRecDepth 100000
set_option maxHeartbeats 4000000
namespace Tw
open PySem L2 PyProof.Rows
/-! ### a program -/
structure Ad5 where
  cPrg : Addr
  cR : Addr
  cH : Addr
  cT : Addr
def pFields (a b c : Addr) : List (Str × V) := [("own_reads", .ref a), ("own_hours", .ref b), ("own_tells", .ref c)]
/-- an instance at x, made of these rows -/
def PrgAt (C : Addr) (H : Hp) (x : Addr) (rs hs ts : List V) : Prop := ∃ dx a b c, H x = some (.ins C dx (pFields a b c)) ∧ H a = some (.tup rs) ∧ H b = some (.tup hs) ∧ H c = some (.tup ts)
theorem PrgAt.ex {C : Addr} {H H' : Hp} {x : Addr} {rs hs ts : List V} (h : PrgAt C H x rs hs ts) (y : ExF [] H H') : PrgAt C H' x rs hs ts := by
  obtain ⟨dx, a, b, c, h1, h2, h3, h4⟩ := h
  exact ⟨dx, a, b, c, y.at_ _ _ (by simp) h1, y.at_ _ _ (by simp) h2, y.at_ _ _ (by simp) h3, y.at_ _ _ (by simp) h4⟩
structure PrgC (K : PySem.W.Frag) (C : Addr) : Prop where
  cl : Cls K C
  ha : PySem.W.findIn K (.ref C) "__class__" = some (some (.builtin "object.__class__"))
  hn : PySem.W.specialIn K (.builtin "object.__class__") "__get__" = some (some (.builtin "getset_descriptor.__get__"))
  htk : PySem.W.takesIn K (.builtin "object.__class__") = some true
  hm : PySem.W.mroIn K C (.type "object") = some true
  noR : NoAttr K C "own_reads"
  noH : NoAttr K C "own_hours"
  noT : NoAttr K C "own_tells"
  subL : PySem.W.kitOne K (.type "list") (.ref C) = some false
  subT : PySem.W.kitOne K (.type "tuple") (.ref C) = some false
theorem PrgC.ty {K : PySem.W.Frag} {C a dx : Addr} {H : Hp} {fs : List (Str × V)} (T : PrgC K C) (h : H a = some (.ins C dx fs)) : TyX K H (.ref a) (.ref C) := .base (.ins h T.cl T.ha T.hn T.htk T.hm)
/-- an int-keyed dict's keys -/
def KeysI (H : Hp) (a : Addr) (cs : List Int) : Prop := ∃ kvs : List (Key × V), H a = some (.dK kvs) ∧ kvs.length ≤ cs.length ∧ ∀ i : Int, (valV kvs (.inl i)).isSome = decide (i ∈ cs)
theorem keysInI {K : PySem.W.Frag} {H : Hp} {a : Addr} {cs : List Int} {i : Int} {Q : VK} (h : KeysI H a cs) (q : Q (.bl (decide (i ∈ cs))) H) : ∃ b o, V.ref a = .ref b ∧ DGet H b (.int i) o ∧ Q (.bl o.isSome) H := by
  obtain ⟨kvs, h1, _, h2⟩ := h
  exact ⟨a, _, rfl, .k (k := .inl i) h1, by rw [h2 i]; exact q⟩
theorem keysGetI {H : Hp} {a : Addr} {cs : List Int} (h : KeysI H a cs) (i : Int) : ∃ o, DGet H a (.int i) o ∧ o.isSome = decide (i ∈ cs) := by
  obtain ⟨kvs, h1, _, h2⟩ := h
  exact ⟨_, .k (k := .inl i) h1, h2 i⟩
theorem KeysI.ex {H H' : Hp} {a : Addr} {cs : List Int} {F : List Addr} (h : KeysI H a cs) (x : ExF F H H') (n : a ∉ F) : KeysI H' a cs := by
  obtain ⟨kvs, h1, h2⟩ := h
  exact ⟨kvs, x.at_ _ _ n h1, h2⟩
theorem KeysI.eqf {H H' : Hp} {a p : Addr} {cs : List Int} {o : HO} (h : KeysI H a cs) (e : H' = upd H p o) (n : a ≠ p) : KeysI H' a cs := by
  obtain ⟨kvs, h1, h2⟩ := h
  exact ⟨kvs, eqn e n h1, h2⟩
theorem KeysI.put {H H' : Hp} {a : Addr} {cs : List Int} {i : Int} {v : V} {kvs : List (Key × V)} (h : KeysI H a cs) (hk : H a = some (.dK kvs)) (e : H' = upd H a (.dK (putK kvs (.inl i) v))) : KeysI H' a (cs ++ [i]) := by
  obtain ⟨kvs', h1, h2, h3⟩ := h
  rw [hk] at h1
  cases h1
  refine ⟨_, eqs e, ?_, fun t => ?_⟩
  · have := length_putK kvs (.inl i) v
    rw [List.length_append]
    simp
    omega
  · rw [valV_put]
    by_cases ht : t = i
    · subst ht
      rw [if_pos rfl]
      simp
    · have ht' : (Sum.inl t : Key) ≠ .inl i := fun z => ht (by cases z; rfl)
      rw [if_neg ht', h3 t]
      simp [ht]
theorem setDI {l : Addr} {H : Hp} {v : V} {k : Int} {kvs : List (Key × V)} {R : Hp → Prop} (h : H l = some (.dK kvs)) (hz : kvs.length < sizeLine) (q : ∀ H', H' = upd H l (.dK (putK kvs (.inl k) v)) → R H') : rSetU (.ref l) (.int k) v H R := .inr ⟨l, _, rfl, .k (k := .inl k) h hz, q _ rfl⟩
/-! ### what is fine holds no dict -/
theorem nmInt_ok {n : Nat} {a : PyData} (h : okx n a = true) (k : nameD a = true ∨ cellD a = true) : ok n a = true := by
  rcases k with k | k
  · obtain ⟨s, rfl, _⟩ := nameD_str k
    rw [okx_str] at h
    rw [ok_str]
    exact h
  · cases a <;> simp [cellD] at k
    rw [ok_int]
theorem seq_ok {n : Nat} {d : PyData} {ds : List PyData} (h : okx n d = true) (hi : items d = some ds) (k : ∀ m e, e ∈ ds → okx m e = true → ok m e = true) : ok n d = true := by
  rcases (items_some hi).2 with e | e <;> subst e
  · cases n with
    | zero => simp [okx] at h
    | succ n =>
      rw [okx_list] at h
      rw [ok_list]
      exact ⟨oks_iff.mpr fun e he => k n e he (okxs_iff.mp h.1 e he), h.2⟩
  · cases n with
    | zero => simp [okx] at h
    | succ n =>
      rw [okx_tuple] at h
      rw [ok_tuple]
      exact ⟨oks_iff.mpr fun e he => k n e he (okxs_iff.mp h.1 e he), h.2⟩
theorem pairD_ok {n : Nat} {d : PyData} (h : okx n d = true) (k : pairD d = true) : ok n d = true := by
  obtain ⟨s, i, hi, h1, h2, _⟩ := pairD_parts k
  refine seq_ok h hi fun m e he ho => nmInt_ok ho ?_
  rcases List.mem_cons.mp he with e | he
  · rw [e]; exact .inl h1
  · rw [List.mem_singleton.mp he]; exact .inr h2
theorem cellsD_ok {n : Nat} {d : PyData} (h : okx n d = true) (k : cellsD d = true) : ok n d = true := by
  unfold cellsD at k
  cases hi : items d with
  | none => rw [hi] at k; cases k
  | some ds =>
    rw [hi] at k
    exact seq_ok h hi fun m e he ho => nmInt_ok ho (.inr (List.all_eq_true.mp k e he))
theorem rowD_ok {n : Nat} {d : PyData} (h : okx n d = true) (k : rowD d = true) : ok n d = true := by
  unfold rowD at k
  cases hi : items d with
  | none => rw [hi] at k; cases k
  | some ds =>
    rw [hi] at k
    match ds, hi, k with
    | [c, f, p], hi, k =>
      simp only [rowL, Bool.and_eq_true] at k
      refine seq_ok h hi fun m e he ho => ?_
      simp only [List.mem_cons, List.not_mem_nil, or_false] at he
      rcases he with e | e | e <;> subst e
      · exact nmInt_ok ho (.inr k.1.1)
      · exact nmInt_ok ho (.inl k.1.2)
      · exact cellsD_ok ho k.2
    | [], _, k => cases k
    | [_], _, k => cases k
    | [_, _], _, k => cases k
    | _ :: _ :: _ :: _ :: _, _, k => cases k
theorem hourD_ok {n : Nat} {d : PyData} (h : okx n d = true) (k : hourD d = true) : ok n d = true := by
  unfold hourD at k
  cases hi : items d with
  | none => rw [hi] at k; cases k
  | some ds =>
    rw [hi] at k
    have k := (Bool.and_eq_true_iff.mp k).2
    exact seq_ok h hi fun m e he ho => rowD_ok ho (List.all_eq_true.mp k e he)
theorem pairsF_each {rd : Bool} : ∀ {ds : List PyData} {ns : List Str} {cs : List Int} {i : Nat}, pairsF rd ns cs i ds = none → ∀ d ∈ ds, pairD d = true
  | e :: ds, ns, cs, i, h, d, hd => by
    rw [pairsF] at h
    split at h
    · rename_i hc
      rcases List.mem_cons.mp hd with z | z
      · rw [z]
        simp only [Bool.and_eq_true] at hc
        exact hc.1.1
      · exact pairsF_each h d z
    · cases h
theorem hoursF_each : ∀ {ds : List PyData} {i : Nat}, hoursF i ds = none → ∀ d ∈ ds, hourD d = true
  | e :: ds, i, h, d, hd => by
    rw [hoursF] at h
    split at h
    · rename_i hc
      rcases List.mem_cons.mp hd with z | z
      · rw [z]; exact hc
      · exact hoursF_each h d z
    · cases h
theorem pairsM_ok {rd : Bool} {n : Nat} {d : PyData} (h : okx n d = true) (k : pairsM rd d = none) : ok n d = true := by
  unfold pairsM at k
  cases hi : items d with
  | none => rw [hi] at k; cases k
  | some ds =>
    rw [hi] at k
    exact seq_ok h hi fun m e he ho => pairD_ok ho (pairsF_each k e he)
theorem hoursM_ok {n : Nat} {d : PyData} (h : okx n d = true) (k : hoursM d = none) : ok n d = true := by
  unfold hoursM at k
  cases hi : items d with
  | none => rw [hi] at k; cases k
  | some ds =>
    rw [hi] at k
    exact seq_ok h hi fun m e he ho => hourD_ok ho (hoursF_each k e he)
/-! ### promises -/
def errC (D : Ad5) (w : Str) : Addr := if w = "reads" then D.cR else if w = "hours" then D.cH else D.cT
def spPReads (C : Addr) : Sp := fun vs H Q _ => ∃ (x : Addr) (rs hs ts : List V), vs = [.ref x] ∧ PrgAt C H x rs hs ts ∧ ∀ r H', H r = none → H' r = some (.lst rs) → ExF [] H H' → Q (.ref r) H'
def spPTells (C : Addr) : Sp := fun vs H Q _ => ∃ (x : Addr) (rs hs ts : List V), vs = [.ref x] ∧ PrgAt C H x rs hs ts ∧ ∀ r H', H r = none → H' r = some (.lst ts) → ExF [] H H' → Q (.ref r) H'
/-- the rows of hours, each a new list -/
def NewRows (H H' : Hp) (ys : List V) : Prop := ∀ (i : Nat) v, ys[i]? = some v → ∃ p zs, v = .ref p ∧ H p = none ∧ H' p = some (.lst zs)
def spPHours (C : Addr) : Sp := fun vs H Q _ => ∃ (x : Addr) (F : List Addr) (rs hs ts : List V) (es : List (List PyData)), vs = [.ref x] ∧ PrgAt C H x rs hs ts ∧ RpL F H hs (es.map PyData.tuple) ∧ es.length ≤ 1000 ∧ Trk F H ∧
  ∀ r ys H', H r = none → H' r = some (.lst ys) → RpL F H' ys (es.map PyData.list) → NewRows H H' ys → ExF [] H H' → Q (.ref r) H'
def prgEqv (r h t r' h' t' : List PyData) : Bool := PyData.eqv (.tuple [.tuple r, .tuple h]) (.tuple [.tuple r', .tuple h']) && PyData.eqv (.tuple t) (.tuple t')
/-- ==: with a program, by all three; with a list, a tuple: no -/
def spPEq (C : Addr) : Sp := fun vs H Q _ => ∃ (x : Addr) (rs hs ts : List V) (F : List Addr) (r h t : List PyData) (v : V), vs = [.ref x, v] ∧ PrgAt C H x rs hs ts ∧ RpL F H rs r ∧ RpL F H hs h ∧ RpL F H ts t ∧ ok 20 (.tuple r) = true ∧ ok 20 (.tuple h) = true ∧ ok 20 (.tuple t) = true ∧
  ((∃ (y : Addr) (rs' hs' ts' : List V) (G : List Addr) (r' h' t' : List PyData), v = .ref y ∧ PrgAt C H y rs' hs' ts' ∧ RpL G H rs' r' ∧ RpL G H hs' h' ∧ RpL G H ts' t' ∧ ok 20 (.tuple r') = true ∧ ok 20 (.tuple h') = true ∧ ok 20 (.tuple t') = true ∧ ∀ H', ExF [] H H' → Q (.bl (prgEqv r h t r' h' t')) H') ∨
   ∃ (G : List Addr) (d : PyData), Rp G H v d ∧ isSeq d = true ∧ ∀ H', ExF [] H H' → Q (.bl false) H')
/-- Program(..): its rows, or the error of the first thing that is wrong -/
def spPInit (D : Ad5) : Sp := fun vs H Q E => ∃ (x dx : Addr) (v1 v2 v3 : V) (F G : List Addr) (r h t : PyData) (n : Nat), vs = [.ref x, v1, v2, v3] ∧ x ∈ F ∧ H x = some (.ins D.cPrg dx []) ∧ Rp F H v1 r ∧ Rp F H v2 h ∧ Rp F H v3 t ∧ okx n r = true ∧ okx n h = true ∧ okx n t = true ∧ n ≤ 29 ∧
  (∀ ds, items r = some ds → ds.length ≤ 1000) ∧ (∀ ds, items h = some ds → ds.length ≤ 1000) ∧ (∀ ds, items t = some ds → ds.length ≤ 1000) ∧ Trk G H ∧
  (∀ rd hd td a b c xs ys zs H', items r = some rd → items h = some hd → items t = some td → progF r h t = none → ExF [x] H H' → a ∉ G → b ∉ G → c ∉ G → H' x = some (.ins D.cPrg dx (pFields a b c)) → H' a = some (.tup xs) → H' b = some (.tup ys) → H' c = some (.tup zs) →
    RpL G H' xs (tups rd) → RpL G H' ys (tups hd) → RpL G H' zs (tups td) → Q .non H') ∧
  (∀ w i dd H', progF r h t = some (w, i) → ExF [x] H H' → H dd = none → H' dd = some (.xd [("index", .int (i : Nat))]) → E (.ref (errC D w)) (some dd) H')
def spPMet : Sp := fun vs H Q _ => ∃ (v1 v2 v3 : V) (F : List Addr) (r h t : PyData) (n : Nat), vs = [v1, v2, v3] ∧ Rp F H v1 r ∧ Rp F H v2 h ∧ Rp F H v3 t ∧ okx n r = true ∧ okx n h = true ∧ okx n t = true ∧ n ≤ 29 ∧
  (∀ ds, items r = some ds → ds.length ≤ 1000) ∧ (∀ ds, items h = some ds → ds.length ≤ 1000) ∧ (∀ ds, items t = some ds → ds.length ≤ 1000) ∧
  ∀ v H', ExF [] H H' → Rp [] H' v (whyD (progF r h t)) → Q v H'
end Tw
end

section
set_option Elab.async false
set_option linter.all false
set_option maxRecDepth 100000
set_option maxHeartbeats 4000000
namespace Tw
open PySem L2 PyProof.Rows
def metS (D : Ad5) (w : Str) (C : Addr) : Addr → Value → Option Addr → TS := fun a cls d => tRet (tTupU (tCons (tC (.str w)) (tCons (tXf a cls d C "index" (tVar 3)) tNil)))
def metL (D : Ad5) : List (Value × (Addr → Value → Option Addr → TS)) := [(.ref D.cR, metS D "reads" D.cR), (.ref D.cH, metS D "hours" D.cH), (.ref D.cT, metS D "tells" D.cT)]
def t_met_try5 (K : PySem.W.Frag) (D : Ad5) : TS := fun X σ H =>
  tSeq (tDrop (tMakeS D.cPrg (spPInit D) (WE (wManyAs K (fun _ _ _ _ => False) 3 X (metL D))) (tCons (tVar 0) (tCons (tVar 1) (tCons (tVar 2) tNil))))) (tRet (tC .non)) X σ H
noncomputable def t_p_BadReads_init (K : PySem.W.Frag) (D : Ad5) : TS := tOst K "index" (tVar 0) (tVar 1)
noncomputable def t_p_BadHours_init (K : PySem.W.Frag) (D : Ad5) : TS := tOst K "index" (tVar 0) (tVar 1)
noncomputable def t_p_BadTells_init (K : PySem.W.Frag) (D : Ad5) : TS := tOst K "index" (tVar 0) (tVar 1)
noncomputable def t_p_Program_init_b2 (K : PySem.W.Frag) (D : Ad5) (E : XK) : TS := tSeq (tIfS (tOr (tNot (tB (tCall (spBoolOf pairD) [] E0 (tCons (tVar 8) (tNil))))) (tOr (tB (tInU K (tOp (rIxU K) (tVar 8) (tC (.int 0))) (tVar 4))) (tB (tInU K (tOp (rIxU K) (tVar 8) (tC (.int 1))) (tVar 5))))) (tRaise E (tMkO D.cR (spOneF "index" D.cR) [] (tCons (tVar 7) (tNil)))) (tNext))
      (tAsg (tTupU (tCons (tC (.bl true)) (tCons (tC (.bl true)) (tNil)))) (gTup K 2 (gCons (gSub (tVar 4) (tOp (rIxU K) (tVar 8) (tC (.int 0))) rSetU) (gCons (gSub (tVar 5) (tOp (rIxU K) (tVar 8) (tC (.int 1))) rSetU) (gNil)))))
noncomputable def t_p_Program_init_b4 (K : PySem.W.Frag) (D : Ad5) (E : XK) : TS := tIfS (tNot (tB (tCall (spBoolOf hourD) [] E0 (tCons (tVar 8) (tNil))))) (tRaise E (tMkO D.cH (spOneF "index" D.cH) [] (tCons (tVar 7) (tNil)))) (tNext)
noncomputable def t_p_Program_init_b6 (K : PySem.W.Frag) (D : Ad5) (E : XK) : TS := tSeq (tIfS (tOr (tNot (tB (tCall (spBoolOf pairD) [] E0 (tCons (tVar 8) (tNil))))) (tB (tInU K (tOp (rIxU K) (tVar 8) (tC (.int 0))) (tVar 6)))) (tRaise E (tMkO D.cT (spOneF "index" D.cT) [] (tCons (tVar 7) (tNil)))) (tNext))
      (tAsg (tC (.bl true)) (gSub (tVar 6) (tOp (rIxU K) (tVar 8) (tC (.int 0))) rSetU))
noncomputable def t_p_Program_init_t7 (K : PySem.W.Frag) (D : Ad5) (E : XK) : TS := tAsg (tTupU (tCons (tCall (spAsTuples 30) [] E0 (tCons (tVar 1) (tNil))) (tCons (tCall (spAsTuples 30) [] E0 (tCons (tVar 2) (tNil))) (tCons (tCall (spAsTuples 30) [] E0 (tCons (tVar 3) (tNil))) (tNil))))) (gTup K 3 (gCons (gFld K (tVar 0) "own_reads") (gCons (gFld K (tVar 0) "own_hours") (gCons (gFld K (tVar 0) "own_tells") (gNil)))))
noncomputable def t_p_Program_init_t6 (K : PySem.W.Frag) (D : Ad5) (E : XK) : TS := tSeq (tForU (iEnumU K (tCons (tVar 3) (tNil))) (gTup K 2 (gCons (gName 7) (gCons (gName 8) (gNil)))) (t_p_Program_init_b6 K D E)) (t_p_Program_init_t7 K D E)
noncomputable def t_p_Program_init_t5 (K : PySem.W.Frag) (D : Ad5) (E : XK) : TS := tSeq (tIfS (tNot (tB (tCall (spIsList K) [] E0 (tCons (tVar 3) (tNil))))) (tRaise E (tMkO D.cT (spOneF "index" D.cT) [] (tCons (tC (.int 0)) (tNil)))) (tNext)) (t_p_Program_init_t6 K D E)
noncomputable def t_p_Program_init_t4 (K : PySem.W.Frag) (D : Ad5) (E : XK) : TS := tSeq (tForU (iEnumU K (tCons (tVar 2) (tNil))) (gTup K 2 (gCons (gName 7) (gCons (gName 8) (gNil)))) (t_p_Program_init_b4 K D E)) (t_p_Program_init_t5 K D E)
noncomputable def t_p_Program_init_t3 (K : PySem.W.Frag) (D : Ad5) (E : XK) : TS := tSeq (tIfS (tNot (tB (tCall (spIsList K) [] E0 (tCons (tVar 2) (tNil))))) (tRaise E (tMkO D.cH (spOneF "index" D.cH) [] (tCons (tC (.int 0)) (tNil)))) (tNext)) (t_p_Program_init_t4 K D E)
noncomputable def t_p_Program_init_t2 (K : PySem.W.Frag) (D : Ad5) (E : XK) : TS := tSeq (tForU (iEnumU K (tCons (tVar 1) (tNil))) (gTup K 2 (gCons (gName 7) (gCons (gName 8) (gNil)))) (t_p_Program_init_b2 K D E)) (t_p_Program_init_t3 K D E)
noncomputable def t_p_Program_init_t1 (K : PySem.W.Frag) (D : Ad5) (E : XK) : TS := tSeq (tIfS (tNot (tB (tCall (spIsList K) [] E0 (tCons (tVar 1) (tNil))))) (tRaise E (tMkO D.cR (spOneF "index" D.cR) [] (tCons (tC (.int 0)) (tNil)))) (tNext)) (t_p_Program_init_t2 K D E)
noncomputable def t_p_Program_init (K : PySem.W.Frag) (D : Ad5) (E : XK) : TS := tSeq (tPar3 4 5 6 (tCons (tDNewK) (tCons (tDNewK) (tCons (tDNewK) (tNil))))) (t_p_Program_init_t1 K D E)
noncomputable def t_p_Program_reads (K : PySem.W.Frag) (D : Ad5) : TS := tRet (tCB (rLstOf K) (tCons (tFld K (tVar 0) "own_reads") (tNil)))
noncomputable def t_p_Program_hours (K : PySem.W.Frag) (D : Ad5) : TS := tRet (tLcU (iSeqU K (tFld K (tVar 0) "own_hours")) (gName 1) (tYes) (tCB (rLstOf K) (tCons (tVar 1) (tNil))) [1])
noncomputable def t_p_Program_tells (K : PySem.W.Frag) (D : Ad5) : TS := tRet (tCB (rLstOf K) (tCons (tFld K (tVar 0) "own_tells") (tNil)))
noncomputable def t_p_Program_eq_t2 (K : PySem.W.Frag) (D : Ad5) : TS := tRet (tAndV (tOp (rEqU K) (tVar 2) (tVar 3)) (tOp (rEqU K) (tFld K (tVar 0) "own_tells") (tFld K (tVar 1) "own_tells")))
noncomputable def t_p_Program_eq_t1 (K : PySem.W.Frag) (D : Ad5) : TS := tSeq (tPar 2 3 (tCons (tTupU (tCons (tFld K (tVar 0) "own_reads") (tCons (tFld K (tVar 0) "own_hours") (tNil)))) (tCons (tTupU (tCons (tFld K (tVar 1) "own_reads") (tCons (tFld K (tVar 1) "own_hours") (tNil)))) (tNil)))) (t_p_Program_eq_t2 K D)
noncomputable def t_p_Program_eq (K : PySem.W.Frag) (D : Ad5) : TS := tSeq (tIfS (tNot (tB (tCB (rIsiU K) (tCons (tVar 1) (tCons (tC (.ref D.cPrg)) (tNil)))))) (tRet (tC (.bl false))) (tNext)) (t_p_Program_eq_t1 K D)
noncomputable def t_l_met5 (K : PySem.W.Frag) (D : Ad5) : TS := t_met_try5 K D

section
variable {K : PySem.W.Frag} {D : Ad5} {vs : List V} {H : Hp} {Q : VK} {E : XK}
theorem rd_bad_init {C : Addr} (hO : OexC K C) (hno : PySem.W.findIn K (.ref C) "index" = some none) (h : spOneF "index" C vs H Q E) :
    tOst K "index" (tVar 0) (tVar 1) { nx := fun _ H' => Q .non H', rt := Q } (start ["self", "index"] vs) H := by
  obtain ⟨a, v, rfl, ha, q⟩ := h
  exact ⟨_, rfl, _, rfl, a, C, rfl, hO, hno, .inl ⟨ha, q⟩⟩
theorem lk_R {a b c : Addr} : List.lookup ("own_reads" : Str) (pFields a b c) = some (.ref a) := by simp [List.lookup, pFields]
theorem lk_H {a b c : Addr} : List.lookup ("own_hours" : Str) (pFields a b c) = some (.ref b) := by
  have e : (("own_hours" : Str) == ("own_reads" : Str)) = false := by decide
  simp [List.lookup, pFields, e]
theorem lk_T {a b c : Addr} : List.lookup ("own_tells" : Str) (pFields a b c) = some (.ref c) := by
  have e : (("own_tells" : Str) == ("own_reads" : Str)) = false := by decide
  have e2 : (("own_tells" : Str) == ("own_hours" : Str)) = false := by decide
  simp [List.lookup, pFields, e, e2]
theorem rd_p_Program_reads (T : PrgC K D.cPrg) (h : spPReads D.cPrg vs H Q E) : t_p_Program_reads K D { nx := fun _ H' => Q .non H', rt := Q } (start ["self"] vs) H := by
  obtain ⟨x, rs, hs, ts, rfl, ⟨dx, a, b, c, h1, h2, h3, h4⟩, q⟩ := h
  exact ⟨_, rfl, x, D.cPrg, dx, _, _, rfl, h1, T.cl, T.noR, lk_R, lstOfT h2 fun p H' hp e => q p H' hp (eqs e) (exn e hp)⟩
theorem rd_p_Program_tells (T : PrgC K D.cPrg) (h : spPTells D.cPrg vs H Q E) : t_p_Program_tells K D { nx := fun _ H' => Q .non H', rt := Q } (start ["self"] vs) H := by
  obtain ⟨x, rs, hs, ts, rfl, ⟨dx, a, b, c, h1, h2, h3, h4⟩, q⟩ := h
  exact ⟨_, rfl, x, D.cPrg, dx, _, _, rfl, h1, T.cl, T.noT, lk_T, lstOfT h4 fun p H' hp e => q p H' hp (eqs e) (exn e hp)⟩
theorem rd_p_Program_hours (T : PrgC K D.cPrg) (h : spPHours D.cPrg vs H Q E) : t_p_Program_hours K D { nx := fun _ H' => Q .non H', rt := Q } (start ["self", "hour"] vs) H := by
  obtain ⟨x, F, rs, hs, ts, es, rfl, ⟨dx, a, b, c, h1, h2, h3, h4⟩, rh, hl, tF, q⟩ := h
  have sz : sizeLine = 16777216 := sizeLine_eq
  have hlh : hs.length = es.length := by have := rh.1; rw [List.length_map] at this; exact this
  refine lcS (M := []) (xs := hs) (iter_T fun Qc k => ⟨_, rfl, x, D.cPrg, dx, _, _, rfl, h1, T.cl, T.noH, lk_H, k b H h3 (by simp) ExF.refl⟩)
    (fun H1 D i H' => ∃ acc : List V, acc.length = i ∧ H' D = some (.lst acc) ∧ RpL (D :: F) H' acc ((es.take i).map PyData.list) ∧ (∀ (j : Nat) v, acc[j]? = some v → ∃ p zs, v = .ref p ∧ p ≠ D ∧ H1 p = none ∧ H' p = some (.lst zs)) ∧ ExF [D] H1 H')
    (fun H1 D H2 x1 hD e => ⟨[], rfl, eqs e, by simpa using RpL.nil, by simp, exn e hD⟩) (fun H1 D i H' hD ⟨_, _, _, _, _, x⟩ => x) ?_ ?_
  · rintro H1 D i y H' x1 hD hy ⟨acc, ha, hH, r, nw, x2⟩
    obtain ⟨d, hd, rd⟩ := (rh.add (x1.free hD)).get' hy
    rw [List.getElem?_map] at hd
    cases he : es[i]? with
    | none => rw [he] at hd; cases hd
    | some e =>
      rw [he] at hd
      cases hd
      have x3 : ExF [] H H' := x1.trans (x2.drop hD)
      obtain ⟨p0, zs, rfl, np0, hp0, rz⟩ := (rd.ex x3.of).tuple_inv
      refine ⟨rfl, ?_⟩
      unfold tYes
      dsimp only
      rw [if_pos rfl]
      refine ⟨_, rfl, lstOfT hp0 fun p H4 hp e4 => ?_⟩
      have npD : p ≠ D := (ne_of_none hH hp).symm
      have tF' : Trk F H' := (tF.ex x3)
      have npF : p ∉ D :: F := fun z => by
        rcases List.mem_cons.mp z with z | z
        · exact npD z
        · exact tF' p z hp
      have hH4 := eqf e4 hp hH
      have hi : i < es.length := (List.getElem?_eq_some_iff.mp he).1
      refine ⟨acc, hH4, by omega, acc ++ [.ref p], by simp [ha], upd_same, ?_, ?_, ?_⟩
      · have rp : Rp (D :: F) H4 (.ref p) (.list e) := .list npF (eqs e4) (rz.ex (exn e4 hp))
        have q := (r.ex (exn e4 hp)).snoc rp
        have et : (es.take (i + 1)).map PyData.list = (es.take i).map PyData.list ++ [PyData.list e] := by rw [List.take_succ, he, List.map_append]; rfl
        rw [et]
        exact ⟨q.1, fun j v d h1 h2 => (q.2 j v d h1 h2).ex ((ExF.refl.mut (.inr (by simp)) : ExF [D] H4 _).sub fun a z => by rw [List.mem_singleton.mp z]; exact List.mem_cons_self)⟩
      · intro j v hj
        rw [List.getElem?_append] at hj
        split at hj
        · obtain ⟨p', zs', e1, e2, e3, e5⟩ := nw j v hj
          exact ⟨p', zs', e1, e2, e3, by rw [upd_ne e2]; exact eqf e4 hp e5⟩
        · rw [List.getElem?_singleton] at hj
          split at hj
          · cases hj
            exact ⟨p, zs, rfl, npD, x2.free hp, by rw [upd_ne npD]; exact eqs e4⟩
          · cases hj
      · exact exm rfl (.inr (by simp)) (x2.trans (exn e4 hp))
  · rintro H1 D H' x1 hD ⟨acc, ha, hH, r, nw, x2⟩
    rw [hlh, List.take_length] at r
    refine q D acc H' (x1.free hD) hH r.drop (fun j v hj => ?_) (x1.trans (x2.drop hD))
    obtain ⟨p, zs, e1, e2, e3, e5⟩ := nw j v hj
    exact ⟨p, zs, e1, x1.free e3, e5⟩
theorem rd_p_Program_eq (T : PrgC K D.cPrg) (h : spPEq D.cPrg vs H Q E) : t_p_Program_eq K D { nx := fun _ H' => Q .non H', rt := Q } (start ["self", "other", "mine", "theirs"] vs) H := by
  obtain ⟨x, rs, hs, ts, F, r, h, t, v, rfl, ⟨dx, a, b, c, h1, h2, h3, h4⟩, rr, rh, rt, kr, kh, kt, hv⟩ := h
  rcases hv with ⟨y, rs', hs', ts', G, r', h', t', rfl, ⟨dy, a', b', c', g1, g2, g3, g4⟩, rr', rh', rt', kr', kh', kt', q⟩ | ⟨G, d, rv, hs, q⟩
  · refine ⟨_, rfl, ?_⟩
    unfold rIsiU
    refine .inl ⟨.ref y, .ref D.cPrg, .ref D.cPrg, .ref D.cPrg, true, rfl, .own _, T.ty g1, if_pos (beq_self_eq_true _), ⟨_, rfl, iteF ?_⟩⟩
    refine ⟨_, rfl, x, D.cPrg, dx, _, _, rfl, h1, T.cl, T.noR, lk_R, _, rfl, x, D.cPrg, dx, _, _, rfl, h1, T.cl, T.noH, lk_H, by show 2 ≤ sizeLine; decide, fun p1 H1 hp1 e1 => ?_⟩
    have x1 : ExF [] H H1 := exn e1 hp1
    refine ⟨_, rfl, y, D.cPrg, dy, _, _, rfl, x1.at_ _ _ (by simp) g1, T.cl, T.noR, lk_R, _, rfl, y, D.cPrg, dy, _, _, rfl, x1.at_ _ _ (by simp) g1, T.cl, T.noH, lk_H, by show 2 ≤ sizeLine; decide, fun p2 H2 hp2 e2 => ?_⟩
    have x2 : ExF [] H H2 := x1.trans (exn e2 hp2)
    refine ⟨_, _, rfl, ?_⟩
    have R1 : Rp [] H2 (.ref p1) (.tuple [.tuple r, .tuple h]) := .tuple (by simp) (eqf e2 hp2 (eqs e1)) (.cons (.tuple (by simp) (x2.at_ _ _ (by simp) h2) ((rr.sub (by simp)).ex x2)) (.cons (.tuple (by simp) (x2.at_ _ _ (by simp) h3) ((rh.sub (by simp)).ex x2)) .nil))
    have R2 : Rp [] H2 (.ref p2) (.tuple [.tuple r', .tuple h']) := .tuple (by simp) (eqs e2) (.cons (.tuple (by simp) (x2.at_ _ _ (by simp) g2) ((rr'.sub (by simp)).ex x2)) (.cons (.tuple (by simp) (x2.at_ _ _ (by simp) g3) ((rh'.sub (by simp)).ex x2)) .nil))
    have O2 : ∀ {u v : List PyData}, ok 20 (.tuple u) = true → ok 20 (.tuple v) = true → ok 21 (.tuple [.tuple u, .tuple v]) = true := fun hu hv => by
      rw [ok_tuple, oks_cons, oks_cons]
      exact ⟨⟨hu, hv, by rw [oks]⟩, by simp⟩
    refine ⟨_, rfl, _, rfl, ?_⟩
    refine eqO (n := 21) (m := 21) R1 R2 (O2 kr kh) (O2 kr' kh') ⟨_, rfl, ?_⟩
    have q' := q H2 x2
    unfold prgEqv at q'
    cases hb : PyData.eqv (.tuple [.tuple r, .tuple h]) (.tuple [.tuple r', .tuple h']) with
    | false =>
      rw [hb, Bool.false_and] at q'
      exact iteF q'
    | true =>
      rw [hb, Bool.true_and] at q'
      refine iteT ?_
      refine ⟨_, rfl, x, D.cPrg, dx, _, _, rfl, x2.at_ _ _ (by simp) h1, T.cl, T.noT, lk_T, _, rfl, y, D.cPrg, dy, _, _, rfl, x2.at_ _ _ (by simp) g1, T.cl, T.noT, lk_T, ?_⟩
      exact eqO (F := []) (G := []) (n := 20) (m := 20) (.tuple (by simp) (x2.at_ _ _ (by simp) h4) ((rt.sub (by simp)).ex x2)) (.tuple (by simp) (x2.at_ _ _ (by simp) g4) ((rt'.sub (by simp)).ex x2)) kt kt' q'
  · refine ⟨_, rfl, ?_⟩
    unfold rIsiU
    have hk : PySem.W.kitOne K (.type (tyName d)) (.ref D.cPrg) = some false := by
      cases d with
      | list _ => exact T.subL
      | tuple _ => exact T.subT
      | _ => cases hs
    exact .inl ⟨v, .ref D.cPrg, .type (tyName d), .ref D.cPrg, false, rfl, .own _, rv.ty, hk, ⟨_, rfl, iteT (q H ExF.refl)⟩⟩
theorem putF3 {a b c : Addr} : putF "own_tells" (.ref c) (putF "own_hours" (.ref b) (putF "own_reads" (.ref a) [])) = pFields a b c := by
  unfold pFields
  have e1 : ¬ (("own_reads" : Str) = "own_hours") := by decide
  have e2 : ¬ (("own_reads" : Str) = "own_tells") := by decide
  have e3 : ¬ (("own_hours" : Str) = "own_tells") := by decide
  simp [putF, e1, e2, e3]
theorem rd_p_Program_init (T : PrgC K D.cPrg) (h : spPInit D vs H Q E) :
    t_p_Program_init K D E { nx := fun _ H' => Q .non H', rt := Q } (start ["self", "reads", "hours", "tells", "names", "cells", "told", "index", "thing"] vs) H := by
  obtain ⟨x, dx, v1, v2, v3, F, G, r, h, t, n, rfl, hxF, hx, r1, r2, r3, k1, k2, k3, hn, l1, l2, l3, tG, qN, qE⟩ := h
  have sz : sizeLine = 16777216 := sizeLine_eq
  intro nd hnd cd hcd td htd
  generalize e1 : upd H nd (.dK []) = H1 at *
  have e1 := e1.symm
  generalize e2 : upd H1 cd (.dK []) = H2 at *
  have e2 := e2.symm
  generalize e3 : upd H2 td (.dK []) = H3 at *
  have e3 := e3.symm
  refine ⟨_, _, _, rfl, ?_⟩
  have x01 : ExF [] H H1 := exn e1 hnd
  have x02 : ExF [] H H2 := x01.trans (exn e2 hcd)
  have x03 : ExF [] H H3 := x02.trans (exn e3 htd)
  have q1 : H1 nd = some (.dK []) := eqs e1
  have q2 : H2 nd = some (.dK []) := eqf e2 hcd q1
  have q2c : H2 cd = some (.dK []) := eqs e2
  have nnc : nd ≠ cd := ne_of_none q1 hcd
  have nnt : nd ≠ td := ne_of_none q2 htd
  have nct : cd ≠ td := ne_of_none q2c htd
  have K3 : Keys H3 nd [] := ⟨[], eqf e3 htd q2, by simp, fun s => by simp [valV]⟩
  have C3 : KeysI H3 cd [] := ⟨[], eqf e3 htd q2c, by simp, fun s => by simp [valV]⟩
  have T3 : Keys H3 td [] := ⟨[], eqs e3, by simp, fun s => by simp [valV]⟩
  have dr : ∀ {A : Hp}, ExF [nd, cd, td] H3 A → ExF [] H A := fun {A} z => ((x03.of.trans z).drop hnd |>.drop (x01.free hcd)).drop (x02.free htd)
  have er : ∀ (w : Str) (i : Nat) (c : Addr), errC D w = c → progF r h t = some (w, i) → ∀ (A : Hp), ExF [] H A → ∀ dd H', A dd = none → H' dd = some (.xd [("index", .int (i : Int))]) → ExF [] A H' → E (.ref c) (some dd) H' :=
    fun w i c hc hp A xA dd H' z1 z2 z3 => hc ▸ qE w i dd H' hp (xA.trans z3).of (xA.free z1) z2
  have erR : errC D "reads" = D.cR := if_pos rfl
  have erH : errC D "hours" = D.cH := by
    have e : ¬ (("hours" : Str) = "reads") := by decide
    unfold errC
    rw [if_neg e, if_pos rfl]
  have erT : errC D "tells" = D.cT := by
    have e : ¬ (("tells" : Str) = "reads") := by decide
    have e2 : ¬ (("tells" : Str) = "hours") := by decide
    unfold errC
    rw [if_neg e, if_neg e2]
  -- reads
  refine ⟨_, rfl, .inl ⟨F, v1, r, rfl, r1.ex x03.of, fun H4 x34 => ⟨_, rfl, ?_⟩⟩⟩
  have x04 := x03.trans x34
  cases hi1 : items r with
  | none =>
    rw [items_none hi1]
    refine iteT ?_
    exact mkOne ⟨_, rfl, fun dd H' n1 n2 x4 => er "reads" 0 _ erR (by unfold progF pairsM; rw [hi1]) H4 x04 dd H' n1 n2 x4⟩ fun k h => k _ _ h
  | some rd =>
    rw [(items_some hi1).1]
    refine iteF ?_
    obtain ⟨a, xs, rfl, na, ha, rx⟩ := r1.items hi1
    have hok1 := (okx_items k1 hi1).1
    have hl1 := l1 rd hi1
    have hP1 : pairsM true r = pairsF true [] [] 0 rd := by unfold pairsM; rw [hi1]
    have ha4 := ha.ex x04 (by simp)
    have nan : a ≠ nd := fun e => by
      have := ha.ne
      rw [e] at this
      exact this hnd
    have nac : a ≠ cd := fun e => by
      have := (ha.ex x01 (by simp)).ne
      rw [e] at this
      exact this hcd
    refine forE (i := 1) (a := a) (xs := xs) (M := [nd, cd]) rfl ha4 (by simp [nan, nac])
      (fun i σ H' => ∃ (ns : List Str) (cs : List Int) (u w : Option V), σ = [some (.ref x), some (.ref a), some v2, some v3, some (.ref nd), some (.ref cd), some (.ref td), u, w] ∧ Keys H' nd ns ∧ KeysI H' cd cs ∧ ns.length ≤ i ∧ cs.length ≤ i ∧
        pairsF true [] [] 0 rd = pairsF true ns cs i (rd.drop i) ∧ ExF [nd, cd] H4 H')
      ⟨[], [], none, none, rfl, K3.ex x34 (by simp), C3.ex x34 (by simp), Nat.le_refl _, Nat.le_refl _, rfl, ExF.refl⟩ (fun i σ' H' ⟨_, _, _, _, _, _, _, _, _, _, x⟩ => x) ?_ ?_
    · rintro i y σ' H5 H6 hy ⟨ns, cs, u, w, rfl, hk, hc, lk, lc, hf, x5⟩ x6
      obtain ⟨d, hd, rd'⟩ := rx.get' hy
      have hi' : i < rd.length := (List.getElem?_eq_some_iff.mp hd).1
      rw [drop_cons hd, pairsF] at hf
      have dd4 : ∀ {A : Hp}, ExF [nd, cd] H4 A → ExF [] H A := fun {A} z => dr (x34.of.trans (z.sub (by simp)))
      have x46 : ExF [nd, cd] H4 H6 := x5.trans x6.of
      have x06 := dd4 x46
      have K6 := hk.ex x6 (by simp)
      have C6 := hc.ex x6 (by simp)
      refine ⟨_, rfl, F, y, d, n, rfl, rd'.ex x06.of, okx_le (okxs_iff.mp hok1 d (List.mem_of_getElem? hd)) (by omega), fun H7 x7 => ⟨_, rfl, ?_⟩⟩
      have x07 := x06.trans x7
      have x47 : ExF [nd, cd] H4 H7 := x46.trans x7.of
      have K7 := K6.ex x7 (by simp)
      have C7 := C6.ex x7 (by simp)
      have out : pairsF true [] [] 0 rd = some i → ∀ A, ExF [] H A → ∀ dd H', A dd = none → H' dd = some (.xd [("index", .int (i : Int))]) → ExF [] A H' → E (.ref D.cR) (some dd) H' := fun e A xA => er "reads" i _ erR (by unfold progF; rw [hP1, e]) A xA
      cases hP : pairD d with
      | false =>
        rw [hP, if_neg (by simp)] at hf
        refine iteT (iteT ?_)
        exact mkOne ⟨_, rfl, _, rfl, fun dd H' n1 n2 x8 => out hf H7 x07 dd H' n1 n2 x8⟩ fun k ⟨v, e, h⟩ => ⟨v, e, k _ _ h⟩
      | true =>
        refine iteF ?_
        obtain ⟨s, j, hit, hs, hcj, hnm, hce⟩ := pairD_parts hP
        rw [hP, hnm, hce] at hf
        obtain ⟨b, zs, rfl, nb, hb, rz⟩ := rd'.items hit
        obtain ⟨y0, zs1, rfl, ry0, rz1⟩ := rz.cons_inv
        obtain ⟨y1, zs2, rfl, ry1, rz2⟩ := rz1.cons_inv
        cases ry0.str_inv
        cases ry1.int_inv
        cases rz2.nil_inv
        have hb7 := hb.ex x07 (by simp)
        obtain ⟨o1, g1, h1⟩ := keysGet K7 s
        obtain ⟨o2, g2, h2⟩ := keysGetI C7 j
        refine .inr ⟨_, rfl, ixSq hb7 (atN (v := .str s) (by decide) rfl) ⟨_, rfl, nd, o1, rfl, g1, ?_⟩⟩
        rw [h1]
        refine ⟨_, rfl, ?_⟩
        refine ite2 (fun hm => ?_) (fun hm => ?_)
        · rw [hm, if_neg (by simp)] at hf
          refine iteT ?_
          exact mkOne ⟨_, rfl, _, rfl, fun dd H' n1 n2 x8 => out hf H7 x07 dd H' n1 n2 x8⟩ fun k ⟨v, e, h⟩ => ⟨v, e, k _ _ h⟩
        · rw [Bool.not_eq_true] at hm
          refine .inr ⟨_, rfl, ixSq hb7 (atN (v := .int j) (by decide) rfl) ⟨_, rfl, cd, o2, rfl, g2, ?_⟩⟩
          rw [h2]
          refine ⟨_, rfl, ?_⟩
          refine ite2 (fun hm2 => ?_) (fun hm2 => ?_)
          · rw [hm, hm2, if_neg (by simp)] at hf
            exact mkOne ⟨_, rfl, _, rfl, fun dd H' n1 n2 x8 => out hf H7 x07 dd H' n1 n2 x8⟩ fun k ⟨v, e, h⟩ => ⟨v, e, k _ _ h⟩
          · rw [Bool.not_eq_true] at hm2
            rw [hm, hm2, if_pos (by simp)] at hf
            obtain ⟨kvs, hkv, lkv, _⟩ := id K7
            obtain ⟨lvs, hlv, llv, _⟩ := id C7
            refine ⟨by show 2 ≤ sizeLine; decide, fun p H8 hp e8 => ⟨p, _, rfl, .inl (.inl (eqs e8)), rfl, _, _, rfl, ?_⟩⟩
            have hb8 := hb7.ex (exn (F := []) e8 hp) (by simp)
            have K8 := K7.ex (exn (F := []) e8 hp) (by simp)
            have C8 := C7.ex (exn (F := []) e8 hp) (by simp)
            refine ⟨_, rfl, _, rfl, ixSq hb8 (atN (v := .str s) (by decide) rfl) ?_⟩
            refine setD (eqf e8 hp hkv) (by omega) fun H9 e9 => ?_
            have bn : b ≠ nd := fun e => by
              have := hb.ne
              rw [e] at this
              exact this hnd
            have hb9 : Sq H9 b [.str s, .int j] := hb8.elim (fun h => .inl (eqn e9 bn h)) fun h => .inr (eqn e9 bn h)
            refine ⟨_, _, rfl, _, rfl, _, rfl, ixSq hb9 (atN (v := .int j) (by decide) rfl) ?_⟩
            refine setDI (eqn e9 nnc.symm (eqf e8 hp hlv)) (by omega) fun H10 e10 => ⟨rfl, ?_⟩
            refine ⟨ns ++ [s], cs ++ [j], _, _, rfl, (K8.put (eqf e8 hp hkv) e9).eqf e10 nnc, (C8.eqf e9 nnc.symm).put (eqn e9 nnc.symm (eqf e8 hp hlv)) e10, by simp; omega, by simp; omega, hf, ?_⟩
            exact exm e10 (.inr (by simp)) (exm e9 (.inr (by simp)) (x47.trans (exn e8 hp)))
    · rintro σ' H5 ⟨ns, cs, u, w, rfl, hk, hc, lk, lc, hf, x5⟩
      rw [rx.1, List.drop_length, pairsF] at hf
      have x35 : ExF [nd, cd, td] H3 H5 := x34.of.trans (x5.sub (by simp))
      have x05 := dr x35
      have T5 : Keys H5 td [] := (T3.ex x34 (by simp)).ex x5 (by simp [nnt.symm, nct.symm])
      have hM1 : pairsM true r = none := by rw [hP1]; exact hf
      -- hours
      refine ⟨_, rfl, .inl ⟨F, v2, h, rfl, r2.ex x05.of, fun H6 x56 => ⟨_, rfl, ?_⟩⟩⟩
      have x06 := x05.trans x56
      have T6 := T5.ex x56 (by simp)
      cases hi2 : items h with
      | none =>
        rw [items_none hi2]
        refine iteT ?_
        exact mkOne ⟨_, rfl, fun dd H' n1 n2 x4 => er "hours" 0 _ erH (by unfold progF hoursM; rw [hM1, hi2]) H6 x06 dd H' n1 n2 x4⟩ fun k h => k _ _ h
      | some hds =>
        rw [(items_some hi2).1]
        refine iteF ?_
        obtain ⟨b, ys, rfl, nb, hb, ry⟩ := r2.items hi2
        have hok2 := (okx_items k2 hi2).1
        have hP2 : hoursM h = hoursF 0 hds := by unfold hoursM; rw [hi2]
        refine forE (i := 2) (a := b) (xs := ys) (M := []) rfl (hb.ex x06 (by simp)) (by simp)
          (fun i σ H' => ∃ (u w : Option V), σ = [some (.ref x), some (.ref a), some (.ref b), some v3, some (.ref nd), some (.ref cd), some (.ref td), u, w] ∧ hoursF 0 hds = hoursF i (hds.drop i) ∧ ExF [] H6 H')
          ⟨_, _, rfl, rfl, ExF.refl⟩ (fun i σ' H' ⟨_, _, _, _, x⟩ => x) ?_ ?_
        · rintro i y σ' H7 H8 hy ⟨u, w, rfl, hf2, x7⟩ x8
          obtain ⟨d, hd, rd'⟩ := ry.get' hy
          rw [drop_cons hd, hoursF] at hf2
          have x68 := x7.trans x8
          have x08 := x06.trans x68
          refine ⟨_, rfl, F, y, d, n, rfl, rd'.ex x08.of, okx_le (okxs_iff.mp hok2 d (List.mem_of_getElem? hd)) (by omega), fun H9 x9 => ⟨_, rfl, ?_⟩⟩
          cases hP : hourD d with
          | false =>
            rw [hP, if_neg Bool.false_ne_true] at hf2
            refine iteT ?_
            exact mkOne ⟨_, rfl, _, rfl, fun dd H' n1 n2 x10 => er "hours" i _ erH (by unfold progF; rw [hM1, hP2, hf2]) H9 (x08.trans x9) dd H' n1 n2 x10⟩ fun k ⟨v, e, h⟩ => ⟨v, e, k _ _ h⟩
          | true =>
            rw [hP, if_pos rfl] at hf2
            exact iteF ⟨_, _, rfl, hf2, x68.trans x9⟩
        · rintro σ' H7 ⟨u, w, rfl, hf2, x7⟩
          rw [ry.1, List.drop_length, hoursF] at hf2
          have x07 := x06.trans x7
          have T7 := T6.ex x7 (by simp)
          have hM2 : hoursM h = none := by rw [hP2]; exact hf2
          have pT : progF r h t = (pairsM false t).map fun i => (("tells" : Str), i) := by unfold progF; rw [hM1, hM2]
          -- tells
          refine ⟨_, rfl, .inl ⟨F, v3, t, rfl, r3.ex x07.of, fun H8 x78 => ⟨_, rfl, ?_⟩⟩⟩
          have x08 := x07.trans x78
          have T8 := T7.ex x78 (by simp)
          cases hi3 : items t with
          | none =>
            rw [items_none hi3]
            refine iteT ?_
            exact mkOne ⟨_, rfl, fun dd H' n1 n2 x4 => er "tells" 0 _ erT (by rw [pT]; unfold pairsM; rw [hi3]; rfl) H8 x08 dd H' n1 n2 x4⟩ fun k h => k _ _ h
          | some tds =>
            rw [(items_some hi3).1]
            refine iteF ?_
            obtain ⟨c, zs, rfl, nc, hc, rz⟩ := r3.items hi3
            have hok3 := (okx_items k3 hi3).1
            have hl3 := l3 tds hi3
            have hP3 : pairsM false t = pairsF false [] [] 0 tds := by unfold pairsM; rw [hi3]
            have nctd : c ≠ td := fun e => by
              have := (hc.ex x02 (by simp)).ne
              rw [e] at this
              exact this htd
            refine forE (i := 3) (a := c) (xs := zs) (M := [td]) rfl (hc.ex x08 (by simp)) (by simp [nctd])
              (fun i σ H' => ∃ (ns : List Str) (cs : List Int) (u w : Option V), σ = [some (.ref x), some (.ref a), some (.ref b), some (.ref c), some (.ref nd), some (.ref cd), some (.ref td), u, w] ∧ Keys H' td ns ∧ ns.length ≤ i ∧
                pairsF false [] [] 0 tds = pairsF false ns cs i (tds.drop i) ∧ ExF [td] H8 H')
              ⟨[], [], _, _, rfl, T8, Nat.le_refl _, rfl, ExF.refl⟩ (fun i σ' H' ⟨_, _, _, _, _, _, _, _, x⟩ => x) ?_ ?_
            · rintro i y σ' H9 H10 hy ⟨ns, cs, u, w, rfl, hk, lk, hf3, x9⟩ x10
              obtain ⟨d, hd, rd'⟩ := rz.get' hy
              have hi' : i < tds.length := (List.getElem?_eq_some_iff.mp hd).1
              rw [drop_cons hd, pairsF] at hf3
              have dd8 : ∀ {A : Hp}, ExF [td] H8 A → ExF [] H A := fun {A} z => (x08.of.trans z).drop (x02.free htd)
              have x810 : ExF [td] H8 H10 := x9.trans x10.of
              have x010 := dd8 x810
              have K10 := hk.ex x10 (by simp)
              refine ⟨_, rfl, F, y, d, n, rfl, rd'.ex x010.of, okx_le (okxs_iff.mp hok3 d (List.mem_of_getElem? hd)) (by omega), fun H11 x11 => ⟨_, rfl, ?_⟩⟩
              have x011 := x010.trans x11
              have K11 := K10.ex x11 (by simp)
              have out : pairsF false [] [] 0 tds = some i → ∀ A, ExF [] H A → ∀ dd H', A dd = none → H' dd = some (.xd [("index", .int (i : Int))]) → ExF [] A H' → E (.ref D.cT) (some dd) H' := fun e A xA => er "tells" i _ erT (by rw [pT, hP3, e]; rfl) A xA
              cases hP : pairD d with
              | false =>
                rw [hP, if_neg (by simp)] at hf3
                refine iteT (iteT ?_)
                exact mkOne ⟨_, rfl, _, rfl, fun dd H' n1 n2 x8 => out hf3 H11 x011 dd H' n1 n2 x8⟩ fun k ⟨v, e, h⟩ => ⟨v, e, k _ _ h⟩
              | true =>
                refine iteF ?_
                obtain ⟨s, j, hit, hs, hcj, hnm, hce⟩ := pairD_parts hP
                rw [hP, hnm] at hf3
                obtain ⟨p0, ws, rfl, np0, hp0, rw0⟩ := rd'.items hit
                obtain ⟨y0, ws1, rfl, ry0, rw1⟩ := rw0.cons_inv
                cases ry0.str_inv
                have hp11 := hp0.ex x011 (by simp)
                obtain ⟨o1, g1, h1⟩ := keysGet K11 s
                refine .inr ⟨_, rfl, ixSq hp11 (atN (v := .str s) (by decide) rfl) ⟨_, rfl, td, o1, rfl, g1, ?_⟩⟩
                rw [h1]
                refine ⟨_, rfl, ?_⟩
                refine ite2 (fun hm => ?_) (fun hm => ?_)
                · rw [hm, if_neg (by simp)] at hf3
                  exact mkOne ⟨_, rfl, _, rfl, fun dd H' n1 n2 x8 => out hf3 H11 x011 dd H' n1 n2 x8⟩ fun k ⟨v, e, h⟩ => ⟨v, e, k _ _ h⟩
                · rw [Bool.not_eq_true] at hm
                  rw [hm, if_pos (by simp)] at hf3
                  obtain ⟨kvs, hkv, lkv, _⟩ := id K11
                  refine ⟨_, rfl, _, rfl, ixSq hp11 (atN (v := .str s) (by decide) rfl) ?_⟩
                  refine setD hkv (by omega) fun H12 e12 => ?_
                  exact ⟨ns ++ [s], _, _, _, rfl, K11.put hkv e12, by simp; omega, hf3, exm e12 (.inr (by simp)) (x810.trans x11.of)⟩
            · rintro σ' H9 ⟨ns, cs, u, w, rfl, hk, lk, hf3, x9⟩
              rw [rz.1, List.drop_length, pairsF] at hf3
              have x09 : ExF [] H H9 := (x08.of.trans x9).drop (x02.free htd)
              have hM3 : pairsM false t = none := by rw [hP3]; exact hf3
              have pN : progF r h t = none := by rw [pT, hM3]; rfl
              have o1 : ok 29 r = true := ok_le (pairsM_ok k1 hM1) hn
              have o2 : ok 29 h = true := ok_le (hoursM_ok k2 hM2) hn
              have o3 : ok 29 t = true := ok_le (pairsM_ok k3 hM3) hn
              have hx9 := x09.at_ _ _ (by simp) hx
              have tX : Trk (x :: G) H9 := (tG.ex x09).cons hx9
              refine ⟨_, rfl, F, x :: G, .ref a, r, rfl, r1.ex x09.of, ⟨by decide, o1⟩, tX, fun w1 A1 y1 s1 => ?_⟩
              refine ⟨_, rfl, F, x :: G, .ref b, h, rfl, r2.ex (x09.trans y1).of, ⟨by decide, o2⟩, tX.ex y1, fun w2 A2 y2 s2 => ?_⟩
              have y02 := y1.trans y2
              refine ⟨_, rfl, F, x :: G, .ref c, t, rfl, r3.ex (x09.trans y02).of, ⟨by decide, o3⟩, tX.ex y02, fun w3 A3 y3 s3 => ?_⟩
              have y03 := y02.trans y3
              refine ⟨by show 3 ≤ sizeLine; decide, fun p A4 hp e4 => ⟨p, _, rfl, .inl (.inl (eqs e4)), rfl, _, _, rfl, ?_⟩⟩
              have y34 : ExF [] A3 A4 := exn e4 hp
              have y04 := y03.trans y34
              have hx4 := y04.at_ _ _ (by simp) hx9
              have tt : ∀ {d : PyData} {ds : List PyData}, items d = some ds → tupD d = .tuple (tups ds) := fun hi => by
                rcases (items_some hi).2 with e | e <;> subst e <;> rw [tupD]
              rw [tt hi1] at s1
              rw [tt hi2] at s2
              rw [tt hi3] at s3
              obtain ⟨a', xs', rfl, na', ha', rx'⟩ := (s1.ex ((y2.trans y3).trans y34).of).tuple_inv
              obtain ⟨b', ys', rfl, nb', hb', ry'⟩ := (s2.ex (y3.trans y34).of).tuple_inv
              obtain ⟨c', zs', rfl, nc', hc', rz'⟩ := (s3.ex y34.of).tuple_inv
              refine ⟨_, rfl, x, D.cPrg, dx, [], rfl, hx4, T.cl, T.noR, by decide, ?_⟩
              refine ⟨_, _, rfl, _, rfl, x, D.cPrg, dx, _, rfl, upd_same, T.cl, T.noH, (by show 1 < 1000; decide), ?_⟩
              refine ⟨_, _, rfl, _, rfl, x, D.cPrg, dx, _, rfl, upd_same, T.cl, T.noT, Nat.lt_of_le_of_lt (length_putF _ _ _) (by show 1 + 1 < 1000; decide), rfl, ?_⟩
              have z1 : ExF (x :: G) A4 (upd (upd (upd A4 x (.ins D.cPrg dx (putF "own_reads" (.ref a') []))) x (.ins D.cPrg dx (putF "own_hours" (.ref b') (putF "own_reads" (.ref a') [])))) x (.ins D.cPrg dx (putF "own_tells" (.ref c') (putF "own_hours" (.ref b') (putF "own_reads" (.ref a') []))))) :=
                ((ExF.refl.mut (.inr (by simp))).mut (.inr (by simp))).mut (.inr (by simp))
              have nx : ∀ {q : Addr}, q ∉ x :: G → q ≠ x := fun hq e => hq (by simp [e])
              have nG : ∀ {q : Addr}, q ∉ x :: G → q ∉ G := fun hq e => hq (by simp [e])
              have sG : ∀ q ∈ G, q ∈ x :: G := fun q z => List.mem_cons_of_mem _ z
              refine qN rd hds tds a' b' c' xs' ys' zs' _ hi1 hi2 hi3 pN ?_ (nG na') (nG nb') (nG nc') ?_ ?_ ?_ ?_ ((rx'.ex z1).sub sG) ((ry'.ex z1).sub sG) ((rz'.ex z1).sub sG)
              · exact (x09.trans y04).of.trans (((ExF.refl.mut (.inr (by simp))).mut (.inr (by simp))).mut (.inr (by simp)))
              · rw [upd_same, putF3]
              · rw [upd_ne (nx na'), upd_ne (nx na'), upd_ne (nx na')]; exact ha'
              · rw [upd_ne (nx nb'), upd_ne (nx nb'), upd_ne (nx nb')]; exact hb'
              · rw [upd_ne (nx nc'), upd_ne (nx nc'), upd_ne (nx nc')]; exact hc'
end
theorem rd_l_met5 {K : PySem.W.Frag} {D : Ad5} {vs : List V} {H : Hp} {Q : VK} {E : XK} (tR : PySem.W.exmOne K (.ref D.cR) (.ref D.cR) = some true) (tHR : PySem.W.exmOne K (.ref D.cH) (.ref D.cR) = some false) (tH : PySem.W.exmOne K (.ref D.cH) (.ref D.cH) = some true)
    (tTR : PySem.W.exmOne K (.ref D.cT) (.ref D.cR) = some false) (tTH : PySem.W.exmOne K (.ref D.cT) (.ref D.cH) = some false) (tT : PySem.W.exmOne K (.ref D.cT) (.ref D.cT) = some true) (h : spPMet vs H Q E) :
    t_l_met5 K D { nx := fun _ H' => Q .non H', rt := Q } (start ["_law_reads", "_law_hours", "_law_tells", "e"] vs) H := by
  obtain ⟨v1, v2, v3, F, r, h, t, n, rfl, r1, r2, r3, k1, k2, k3, hn, l1, l2, l3, q⟩ := h
  refine ⟨_, rfl, _, rfl, _, rfl, fun x dx hx hdx ne => ?_⟩
  have x1 := made_ex (C := D.cPrg) hx hdx
  refine ⟨x, dx, v1, v2, v3, x :: F, [], r, h, t, n, rfl, by simp, upd_same, (r1.add hx).ex x1.of, (r2.add hx).ex x1.of, (r3.add hx).ex x1.of, k1, k2, k3, hn, l1, l2, l3, Trk.nil, ?_, ?_⟩
  · intro rd hd td a b c xs ys zs H' _ _ _ hm x2 _ _ _ _ _ _ _ _ _ _
    refine ⟨rfl, ?_⟩
    refine q .non H' ((x1.of.trans x2).drop hx) ?_
    rw [hm]
    exact .non
  · intro w i dd H' hm x2 hdd hH
    have xx : ExF [] H H' := (x1.of.trans x2).drop hx
    have fin : ∀ {C : Addr} {D' : Ends} {σ : L2.St} (a : Addr), D'.rt = Q → σ[3]? = some (some (.ref a)) → metS D w C a (.ref C) (some dd) D' σ H' := fun {C D' σ} a hD hσ => by
      refine ⟨_, hσ, rfl, rfl, dd, [(("index" : Str), V.int (i : Nat))], .int (i : Nat), rfl, hH, ?_, by show 2 ≤ sizeLine; decide, fun p H2 hp e2 => ?_⟩
      · show List.lookup ("index" : Str) [(("index" : Str), V.int (i : Nat))] = some (V.int (i : Nat))
        simp [List.lookup]
      · rw [hD]
        refine q _ H2 (xx.trans (exn e2 hp)) ?_
        rw [hm]
        exact .tuple (by simp) (eqs e2) (.cons (.str _) (.cons (.int _) .nil))
    have hw : w = "reads" ∨ w = "hours" ∨ w = "tells" := by
      unfold progF at hm
      split at hm
      · cases hm; exact .inl rfl
      · split at hm
        · cases hm; exact .inr (.inl rfl)
        · cases e : pairsM false t with
          | none => rw [e] at hm; cases hm
          | some j => rw [e] at hm; cases hm; exact .inr (.inr rfl)
    rcases hw with rfl | rfl | rfl
    · have e : errC D "reads" = D.cR := if_pos rfl
      rw [e]
      exact ⟨true, tR, fun _ a ha => fin a rfl rfl, fun z => Bool.noConfusion z⟩
    · have e : errC D "hours" = D.cH := by
        have e : ¬ (("hours" : Str) = "reads") := by decide
        unfold errC
        rw [if_neg e, if_pos rfl]
      rw [e]
      exact ⟨false, tHR, fun z => Bool.noConfusion z, fun _ => ⟨true, tH, fun _ a ha => fin a rfl rfl, fun z => Bool.noConfusion z⟩⟩
    · have e : errC D "tells" = D.cT := by
        have e : ¬ (("tells" : Str) = "reads") := by decide
        have e2 : ¬ (("tells" : Str) = "hours") := by decide
        unfold errC
        rw [if_neg e, if_neg e2]
      rw [e]
      exact ⟨false, tTR, fun z => Bool.noConfusion z, fun _ => ⟨false, tTH, fun z => Bool.noConfusion z, fun _ => ⟨true, tT, fun _ a ha => fin a rfl rfl, fun z => Bool.noConfusion z⟩⟩⟩

end Tw
end

section
set_option Elab.async false
set_option linter.all false
set_option maxRecDepth 100000
set_option maxHeartbeats 4000000
namespace Tw
open PySem L2 PyProof.Rows
/-! ### rows of terms -/
inductive TRow | rd (s : Str) | op (f : Str) (ps : List Nat)
def TRow.d : TRow → PyData
  | .rd s => .tuple [.str "read", .str s]
  | .op f ps => .tuple [.str f, .list (ps.map fun n => PyData.int (n : Nat))]
structure RowsOK (R : List TRow) : Prop where
  op : ∀ (i : Nat) (f : Str) (ps : List Nat), R[i]? = some (TRow.op f ps) → nmOk f = true ∧ ps.length ≤ 1000 ∧ ∀ p ∈ ps, p < i
  rd : ∀ (i : Nat) (s : Str), R[i]? = some (TRow.rd s) → nmOk s = true
  inj : ∀ (i j : Nat) (s : Str), R[i]? = some (TRow.rd s) → R[j]? = some (TRow.rd s) → i = j
theorem get_snoc {α : Type} {R : List α} {x y : α} {i : Nat} (h : (R ++ [x])[i]? = some y) : R[i]? = some y ∨ (i = R.length ∧ y = x) := by
  rw [List.getElem?_append] at h
  split at h
  · exact .inl h
  · rename_i hi
    rw [List.getElem?_singleton] at h
    split at h
    · rename_i h0
      cases h
      exact .inr ⟨by omega, rfl⟩
    · cases h
theorem get_lt {α : Type} {R : List α} {y : α} {i : Nat} (h : R[i]? = some y) : i < R.length := (List.getElem?_eq_some_iff.mp h).1
section
variable {R : List TRow} {f s : Str} {ps : List Nat}
theorem RowsOK.nil : RowsOK [] := ⟨by simp, by simp, by simp⟩
theorem RowsOK.snocOp (h : RowsOK R) (hf : nmOk f = true) (hl : ps.length ≤ 1000) (hp : ∀ p ∈ ps, p < R.length) : RowsOK (R ++ [.op f ps]) := by
  refine ⟨fun i g qs e => ?_, fun i s e => ?_, fun i j s e1 e2 => ?_⟩
  · rcases get_snoc e with e2 | ⟨e1, e2⟩
    · exact h.op i g qs e2
    · cases e2
      rw [e1]
      exact ⟨hf, hl, hp⟩
  · rcases get_snoc e with e | ⟨_, e⟩
    · exact h.rd i s e
    · cases e
  · rcases get_snoc e1 with e1 | ⟨_, e1⟩
    · rcases get_snoc e2 with e2 | ⟨_, e2⟩
      · exact h.inj i j s e1 e2
      · cases e2
    · cases e1
theorem RowsOK.snocRd (h : RowsOK R) (hs : nmOk s = true) (hn : ∀ i : Nat, R[i]? ≠ some (TRow.rd s)) : RowsOK (R ++ [.rd s]) := by
  refine ⟨fun i g qs e => ?_, fun i z e => ?_, fun i j z e1 e2 => ?_⟩
  · rcases get_snoc e with e | ⟨_, e⟩
    · exact h.op i g qs e
    · cases e
  · rcases get_snoc e with e | ⟨_, e⟩
    · exact h.rd i z e
    · cases e
      exact hs
  · rcases get_snoc e1 with e1 | ⟨i1, e1⟩
    · rcases get_snoc e2 with e2 | ⟨_, e2⟩
      · exact h.inj i j z e1 e2
      · cases e2
        exact absurd e1 (hn i)
    · cases e1
      rcases get_snoc e2 with e2 | ⟨i2, _⟩
      · exact absurd e2 (hn j)
      · omega
theorem TRow.ok_d {r : TRow} (h : match r with | .rd s => nmOk s = true | .op f ps => nmOk f = true ∧ ps.length ≤ 1000) : ok 4 r.d = true := by
  cases r with
  | rd s => exact ok_le (n := 1) (by rw [TRow.d, ok_tuple, oks_cons, oks_cons, ok_str, ok_str]; exact ⟨⟨by decide +kernel, (nmOk_iff.mp h).2, by rw [oks]⟩, by simp⟩) (by decide)
  | op f ps =>
    refine ok_le (n := 2) ?_ (by decide)
    rw [TRow.d, ok_tuple, oks_cons, oks_cons, ok_str, ok_list]
    refine ⟨⟨(nmOk_iff.mp h.1).2, ⟨oks_iff.mpr fun d hd => ?_, by rw [List.length_map]; have := h.2; omega⟩, by rw [oks]⟩, by simp⟩
    obtain ⟨n, _, rfl⟩ := List.mem_map.mp hd
    rw [ok_int]
theorem RowsOK.oks (h : RowsOK R) : Tw.oks 4 (R.map TRow.d) = true := oks_iff.mpr fun d hd => by
  obtain ⟨r, hr, rfl⟩ := List.mem_map.mp hd
  obtain ⟨i, hi⟩ := List.mem_iff_getElem?.mp hr
  refine TRow.ok_d ?_
  cases r with
  | rd s => exact h.rd i s hi
  | op f ps => exact ⟨(h.op i f ps hi).1, (h.op i f ps hi).2.1⟩
theorem RowsOK.okl (h : RowsOK R) (hl : R.length ≤ 100000) : ok 5 (.list (R.map TRow.d)) = true := by
  rw [ok_list]
  exact ⟨h.oks, by rw [List.length_map]; exact hl⟩
end
theorem first_eqv {ds : List PyData} {d : PyData} (h : (ds.any fun z => PyData.eqv z d) = true) : ∃ (j : Nat) (z : PyData), ds[j]? = some z ∧ PyData.eqv z d = true ∧ ∀ (m : Nat) (z' : PyData), m < j → ds[m]? = some z' → PyData.eqv z' d = false := by
  induction ds with
  | nil => cases h
  | cons e ds ih =>
    cases he : PyData.eqv e d with
    | true => exact ⟨0, e, rfl, he, fun m _ hm => absurd hm (Nat.not_lt_zero _)⟩
    | false =>
      rw [List.any_cons, he, Bool.false_or] at h
      obtain ⟨j, z, h1, h2, h3⟩ := ih h
      refine ⟨j + 1, z, by simpa using h1, h2, fun m z' hm hz => ?_⟩
      cases m with
      | zero =>
        cases hz
        exact he
      | succ m => exact h3 m z' (by omega) (by simpa using hz)
mutual
theorem eqv_refl : ∀ (d : PyData), plain d = true → PyData.eqv d d = true
  | .none, _ => by simp [PyData.eqv]
  | .bool _, _ => by simp [PyData.eqv]
  | .int _, _ => by simp [PyData.eqv]
  | .str _, _ => by simp [PyData.eqv]
  | .list ds, h => by rw [plain] at h; rw [PyData.eqv]; exact eqvAll_refl ds h
  | .tuple ds, h => by rw [plain] at h; rw [PyData.eqv]; exact eqvAll_refl ds h
  | .dict _, h => by simp [plain] at h
theorem eqvAll_refl : ∀ (ds : List PyData), plains ds = true → PyData.eqvAll ds ds = true
  | [], _ => by simp [PyData.eqvAll]
  | d :: ds, h => by
    rw [plains, Bool.and_eq_true] at h
    rw [PyData.eqvAll, eqv_refl d h.1, eqvAll_refl ds h.2]
    rfl
end
/-- names known, by their terms' numbers -/
def Means (H : Hp) (a : Addr) (known : List Str) (b : Nat) : Prop := ∃ kvs : List (Key × V), H a = some (.dK kvs) ∧ ∀ s ∈ known, ∃ n : Nat, valV kvs (.inr s) = some (.int (n : Nat)) ∧ n < b
theorem Means.ex {H H' : Hp} {a : Addr} {known : List Str} {b : Nat} {F : List Addr} (h : Means H a known b) (x : ExF F H H') (n : a ∉ F) : Means H' a known b := by
  obtain ⟨kvs, h1, h2⟩ := h
  exact ⟨kvs, x.at_ _ _ n h1, h2⟩
theorem Means.le {H : Hp} {a : Addr} {known : List Str} {b c : Nat} (h : Means H a known b) (k : b ≤ c) : Means H a known c := by
  obtain ⟨kvs, h1, h2⟩ := h
  refine ⟨kvs, h1, fun s hs => ?_⟩
  obtain ⟨n, e, l⟩ := h2 s hs
  exact ⟨n, e, by omega⟩
theorem line_cases {known told : List Str} {d : PyData} (h : lineD known told d = true) (ht : tupD d = d) :
    (∃ s, d = readD s ∧ nameS s = true ∧ s ∉ known) ∨ (∃ s, d = tellD s ∧ nameS s = true ∧ s ∈ known ∧ s ∉ told) ∨ ∃ s e, d = giveD s e ∧ nameS s = true ∧ exprD known e = true := by
  obtain ⟨w, s, r, hi⟩ := lineD_word h
  have hd : d = .tuple (.str w :: .str s :: r) := by
    rcases (items_some hi).2 with e | e
    · rw [e, tupD] at ht
      cases ht
    · exact e
  subst hd
  have h : lineL known told (.str w :: .str s :: r) = true := h
  match r, h with
  | [], h =>
    simp only [lineL, nameD, isS, nmIn, Bool.and_eq_true, Bool.or_eq_true, Bool.not_eq_true', decide_eq_true_eq, decide_eq_false_iff_not] at h
    obtain ⟨hn, ⟨rfl, h5⟩ | ⟨⟨rfl, h1⟩, h2⟩⟩ := h
    · exact .inl ⟨s, rfl, hn, h5⟩
    · exact .inr (.inl ⟨s, rfl, hn, h1, h2⟩)
  | [e], h =>
    simp only [lineL, nameD, isS, Bool.and_eq_true, decide_eq_true_eq] at h
    obtain ⟨⟨hn, rfl⟩, he⟩ := h
    exact .inr (.inr ⟨s, e, rfl, hn, he⟩)
  | _ :: _ :: _, h => cases h
def TD (p : Str × Nat) : PyData := .tuple [.str p.1, .int (p.2 : Nat)]
structure Need (R : List TRow) (told : List (Str × Nat)) (ns : List Nat) : Prop where
  asc : ns.Pairwise (· < ·)
  op : ∀ n ∈ ns, ∃ f ps, R[n]? = some (TRow.op f ps) ∧ ∀ p ∈ ps, (∃ s, R[p]? = some (TRow.rd s)) ∨ p ∈ ns
  told : ∀ x ∈ told, (∃ s, R[x.2]? = some (TRow.rd s)) ∨ x.2 ∈ ns
/-! ### promises -/
def spATerm (m : Nat) : Sp := fun vs H Q _ => ∃ (F G : List Addr) (l md : Addr) (xs : List V) (R : List TRow) (known : List Str) (v : V) (d : PyData) (n b : Nat), vs = [.ref l, .ref md, v] ∧ n < m ∧ H l = some (.lst xs) ∧ RpL G H xs (R.map TRow.d) ∧ l ∈ G ∧ l ∈ F ∧ Means H md known b ∧ b ≤ R.length ∧
  Rp F H v d ∧ exprD known d = true ∧ tupD d = d ∧ ok n d = true ∧ n ≤ 20 ∧ R.length + size d ≤ 50000 ∧ size d ≤ 1000 ∧ RowsOK R ∧ Trk G H ∧
  ∀ (k : Nat) S xs' H', RowsOK (R ++ S) → (∀ r ∈ S, ∃ f ps, r = TRow.op f ps) → S.length ≤ size d → k < (R ++ S).length → H' l = some (.lst xs') → RpL G H' xs' ((R ++ S).map TRow.d) → ExF [l] H H' → Q (.int (k : Nat)) H'
def spATerms : Sp := fun vs H Q _ => ∃ (F G : List Addr) (l : Addr) (xs : List V) (ds : List PyData), vs = [.ref l] ∧ H l = some (.lst xs) ∧ RpL F H xs ds ∧ GoodL ds ∧ Trk G H ∧
  ∀ (p rl tl : Addr) (ys ts : List V) (R : List TRow) (told : List (Str × Nat)) (H' : Hp), H' p = some (.tup [.ref rl, .ref tl]) → H' rl = some (.lst ys) → RpL G H' ys (R.map TRow.d) → H' tl = some (.lst ts) → RpL G H' ts (told.map TD) → rl ∉ G → tl ∉ G → RowsOK R → R.length ≤ sizes ds → (told.map (·.1)).Nodup → (∀ x ∈ told, nmOk x.1 = true ∧ x.2 < R.length) → told.length ≤ 20 → ExF [] H H' → Q (.ref p) H'
def spNeeded : Sp := fun vs H Q _ => ∃ (F : List Addr) (rl tl : Addr) (ys ts : List V) (R : List TRow) (told : List (Str × Nat)), vs = [.ref rl, .ref tl] ∧ H rl = some (.lst ys) ∧ RpL F H ys (R.map TRow.d) ∧ H tl = some (.lst ts) ∧ RpL F H ts (told.map TD) ∧ RowsOK R ∧ R.length ≤ 5000 ∧ told.length ≤ 20 ∧ (∀ x ∈ told, x.2 < R.length) ∧
  ∀ r (ns : List Nat) H', H r = none → H' r = some (.lst (ns.map fun n => V.int (n : Nat))) → Need R told ns → ExF [] H H' → Q (.ref r) H'
/-! ### programs -/
structure PD where
  reads : List (Str × Int)
  hours : List (List (Int × Str × List Int))
  tells : List (Str × Int)
def prD (p : Str × Int) : PyData := .tuple [.str p.1, .int p.2]
def roD (p : Int × Str × List Int) : PyData := .tuple [.int p.1, .str p.2.1, .tuple (p.2.2.map PyData.int)]
def PD.r (P : PD) : List PyData := P.reads.map prD
def PD.h (P : PD) : List PyData := P.hours.map fun z => .list (z.map roD)
def PD.t (P : PD) : List PyData := P.tells.map prD
structure GoodP (P : PD) : Prop where
  rn : (P.reads.map (·.1)).Nodup
  rc : (P.reads.map (·.2)).Nodup
  rk : ∀ x ∈ P.reads, nmOk x.1 = true ∧ cellI x.2 = true
  hk : ∀ z ∈ P.hours, z.length ≤ 2 ∧ ∀ x ∈ z, cellI x.1 = true ∧ nmOk x.2.1 = true ∧ (∀ c ∈ x.2.2, cellI c = true) ∧ x.2.2.length ≤ 1000
  tn : (P.tells.map (·.1)).Nodup
  tk : ∀ x ∈ P.tells, nmOk x.1 = true ∧ cellI x.2 = true
  lr : P.reads.length ≤ 750
  lh : P.hours.length ≤ 800
  lt : P.tells.length ≤ 20
def spAProg : Sp := fun vs H Q _ => ∃ (st cl : Addr) (c : Nat) (F G : List Addr) (l : Addr) (xs : List V) (ds : List PyData), vs = [.ref st, .ref l] ∧ Strm st cl H c ∧ c + 1000000 < 2 ^ 48 ∧ H l = some (.lst xs) ∧ RpL F H xs ds ∧ GoodL ds ∧ sizes ds ≤ 740 ∧ Trk G H ∧
  ∀ (p a b e : Addr) (xs ys zs : List V) (P : PD) (c' : Nat) (H' : Hp), c ≤ c' → c' ≤ c + 1000000 → Strm st cl H' c' → H' p = some (.tup [.ref a, .ref b, .ref e]) → H' a = some (.lst xs) → H' b = some (.lst ys) → H' e = some (.lst zs) → a ∉ G → b ∉ G → e ∉ G → RpL G H' xs P.r → RpL G H' ys P.h → RpL G H' zs P.t → GoodP P → P.hours.length ≤ 790 → ExF [st, cl] H H' → Q (.ref p) H'
/-! ### dict(pairs) -/
@[irreducible] def rDictP (K : PySem.W.Frag) : List V → Hp → VK → Prop := fun xs H Q => ∃ (a : Addr) (ps : List Addr) (kvs : List (Key × V)), xs = [.ref a] ∧ SqL K H a (ps.map V.ref) ∧ Paired (fun p kv => SqT K H p [kV kv.1, kv.2]) ps kvs ∧ ∀ p, H p = none → Q (.ref p) (upd H p (.dK (mergeK [] kvs)))
theorem call_dictPP {X : Cx} (hc : X.calm = true) : CallR X (.type "dict") (rDictP X.K) := by
  unfold rDictP
  exact call_dictP hc
end Tw
end

section
set_option Elab.async false
set_option linter.all false
set_option maxRecDepth 100000
set_option maxHeartbeats 4000000
namespace Tw
open PySem L2 PyProof.Rows
noncomputable def t_l_a_term_t3 (K : PySem.W.Frag) (m : Nat) : TS := tRet (tBM K "list" (rIndexD K) (tVar 0) (tCons (tVar 3) (tNil)))
noncomputable def t_l_a_term_t2 (K : PySem.W.Frag) (m : Nat) : TS := tSeq (tIfS (tB (tNotInU K (tVar 3) (tVar 0))) (tDrop (tBM K "list" (rAppendU) (tVar 0) (tCons (tVar 3) (tNil)))) (tNext)) (t_l_a_term_t3 K m)
noncomputable def t_l_a_term_t1 (K : PySem.W.Frag) (m : Nat) : TS := tSeq (tAsg (tTupU (tCons (tOp (rIxU K) (tVar 2) (tC (.int 0))) (tCons (tLcU (iSeqU K (tSl (rSlU K) (tVar 2) (tPart (tC (.int 1))) (tNoPart))) (gName 4) (tYes) (tCall (spATerm m) [] E0 (tCons (tVar 0) (tCons (tVar 1) (tCons (tVar 4) (tNil))))) [4]) (tNil)))) (gName 3)) (t_l_a_term_t2 K m)
noncomputable def t_l_a_term (K : PySem.W.Frag) (m : Nat) : TS := tSeq (tIfS (tB (tCB (rIsiU K) (tCons (tVar 2) (tCons (tC (.ty "str")) (tNil))))) (tRet (tDGet (tVar 1) (tVar 2))) (tNext)) (t_l_a_term_t1 K m)
noncomputable def t_l_a_terms_b1 (K : PySem.W.Frag) : TS := tIfS (tTest (tOp (rEqU K) (tOp (rIxU K) (tVar 4) (tC (.int 0))) (tC (.str "read")))) (tSeq (tDrop (tBM K "list" (rAppendU) (tVar 1) (tCons (tTupU (tCons (tC (.str "read")) (tCons (tOp (rIxU K) (tVar 4) (tC (.int 1))) (tNil)))) (tNil))))
      (tAsg (tOp (rI0 fun i j => .int (i - j)) (tCB (rLenU K) (tCons (tVar 1) (tNil))) (tC (.int 1))) (gSub (tVar 2) (tOp (rIxU K) (tVar 4) (tC (.int 1))) rSetU))) (tIfS (tTest (tOp (rEqU K) (tOp (rIxU K) (tVar 4) (tC (.int 0))) (tC (.str "give")))) (tAsg (tCall (spATerm 9) [] E0 (tCons (tVar 1) (tCons (tVar 2) (tCons (tOp (rIxU K) (tVar 4) (tC (.int 2))) (tNil))))) (gSub (tVar 2) (tOp (rIxU K) (tVar 4) (tC (.int 1))) rSetU)) (tDrop (tBM K "list" (rAppendU) (tVar 3) (tCons (tTupU (tCons (tOp (rIxU K) (tVar 4) (tC (.int 1))) (tCons (tDGet (tVar 2) (tOp (rIxU K) (tVar 4) (tC (.int 1)))) (tNil)))) (tNil)))))
noncomputable def t_l_a_terms_t2 (K : PySem.W.Frag) : TS := tRet (tTupU (tCons (tVar 1) (tCons (tVar 3) (tNil))))
noncomputable def t_l_a_terms_t1 (K : PySem.W.Frag) : TS := tSeq (tForU (iSeqU K (tVar 0)) (gName 4) (t_l_a_terms_b1 K)) (t_l_a_terms_t2 K)
noncomputable def t_l_a_terms (K : PySem.W.Frag) : TS := tSeq (tPar3 1 2 3 (tCons (tLstU (tNil)) (tCons (tDNewK) (tCons (tLstU (tNil)) (tNil))))) (t_l_a_terms_t1 K)
noncomputable def t_l_a_needed_b1 (K : PySem.W.Frag) : TS := tDrop (tBM K "list" (rExtU K) (tVar 2) (tCons (tIf (tAnd (tB (tInU K (tVar 3) (tVar 2))) (tTest (tOp (rNeU K) (tOp (rIxU K) (tOp (rIxU K) (tVar 0) (tVar 3)) (tC (.int 0))) (tC (.str "read"))))) (tOp (rIxU K) (tOp (rIxU K) (tVar 0) (tVar 3)) (tC (.int 1))) (tLstU (tNil))) (tNil)))
noncomputable def t_l_a_needed_t2 (K : PySem.W.Frag) : TS := tRet (tLcU (iRng1 (tCons (tCB (rLenU K) (tCons (tVar 0) (tNil))) (tNil))) (gName 3) (tAnd (tB (tInU K (tVar 3) (tVar 2))) (tTest (tOp (rNeU K) (tOp (rIxU K) (tOp (rIxU K) (tVar 0) (tVar 3)) (tC (.int 0))) (tC (.str "read"))))) (tVar 3) [3])
noncomputable def t_l_a_needed_t1 (K : PySem.W.Frag) : TS := tSeq (tForU (iRng3 (tCons (tOp (rI0 fun i j => .int (i - j)) (tCB (rLenU K) (tCons (tVar 0) (tNil))) (tC (.int 1))) (tCons (tUn (rU fun i => .int (-i)) (tC (.int 1))) (tCons (tUn (rU fun i => .int (-i)) (tC (.int 1))) (tNil))))) (gName 3) (t_l_a_needed_b1 K)) (t_l_a_needed_t2 K)
noncomputable def t_l_a_needed (K : PySem.W.Frag) : TS := tSeq (tAsg (tLcU (iSeqU K (tVar 1)) (gTup K 2 (gCons (gName 4) (gCons (gName 3) (gNil)))) (tYes) (tVar 3) [4, 3]) (gName 2)) (t_l_a_needed_t1 K)
noncomputable def t_l_a_program_b6_s4 (K : PySem.W.Frag) : TS := tAsg (tLcU (iSeqU K (tVar 9)) (gName 14) (tB (tNotInU K (tVar 14) (tVar 11))) (tVar 14) [14]) (gName 9)
noncomputable def t_l_a_program_b6_s3 (K : PySem.W.Frag) : TS := tSeq (tDrop (tBM K "dict" rUpd (tVar 6) (tCons (tCB (rDictP K) (tCons (tLcU (iSeqU K (tVar 11)) (gName 14) (tYes) (tTupU (tCons (tVar 14) (tCons (tOp (rIxU K) (tVar 5) (tVar 14)) (tNil)))) [14]) (tNil))) (tNil)))) (t_l_a_program_b6_s4 K)
noncomputable def t_l_a_program_b6_s2 (K : PySem.W.Frag) : TS := tSeq (tDrop (tBM K "list" (rAppendU) (tVar 8) (tCons (tLcU (iSeqU K (tVar 11)) (gName 14) (tYes) (tTupU (tCons (tOp (rIxU K) (tVar 5) (tVar 14)) (tCons (tOp (rIxU K) (tOp (rIxU K) (tVar 2) (tVar 14)) (tC (.int 0))) (tCons (tCB (rTupOf K) (tCons (tLcU (iSeqU K (tOp (rIxU K) (tOp (rIxU K) (tVar 2) (tVar 14)) (tC (.int 1)))) (gName 15) (tYes) (tDGet (tVar 6) (tVar 15)) [15]) (tNil))) (tNil))))) [14]) (tNil)))) (t_l_a_program_b6_s3 K)
noncomputable def t_l_a_program_b6_s1 (K : PySem.W.Frag) : TS := tSeq (tAsg (tSl (rSlU K) (tVar 10) (tNoPart) (tPart (tIf (tTest (tOp (rI0 fun i j => .bl (decide (j < i))) (tCB (rLenU K) (tCons (tVar 8) (tNil))) (tC (.int 8)))) (tC (.int 2)) (tCall spPick [] E0 (tCons (tVar 0) (tCons (tLstU (tCons (tC (.int 0)) (tCons (tC (.int 1)) (tCons (tC (.int 2)) (tCons (tC (.int 2)) (tCons (tC (.int 2)) (tNil))))))) (tNil))))))) (gName 11)) (t_l_a_program_b6_s2 K)
noncomputable def t_l_a_program_b6 (K : PySem.W.Frag) : TS := tSeq (tAsg (tCall spMixed [] E0 (tCons (tVar 0) (tCons (tLcU (iSeqU K (tVar 9)) (gName 14) (tB (tCB (rAllU K) (tCons (tLcU (iSeqU K (tOp (rIxU K) (tOp (rIxU K) (tVar 2) (tVar 14)) (tC (.int 1)))) (gName 15) (tYes) (tInU K (tVar 15) (tVar 6)) [15]) (tNil)))) (tVar 14) [14]) (tNil)))) (gName 10)) (t_l_a_program_b6_s1 K)
noncomputable def t_l_a_program_t7 (K : PySem.W.Frag) : TS := tRet (tTupU (tCons (tVar 7) (tCons (tVar 8) (tCons (tLcU (iSeqU K (tVar 3)) (gTup K 2 (gCons (gName 16) (gCons (gName 12) (gNil)))) (tYes) (tTupU (tCons (tVar 16) (tCons (tDGet (tVar 6) (tVar 12)) (tNil)))) [16, 12]) (tNil)))))
noncomputable def t_l_a_program_t6 (K : PySem.W.Frag) : TS := tSeq (tWhile (tTest (tOp (rNeU K) (tVar 9) (tLstU (tNil)))) (t_l_a_program_b6 K)) (t_l_a_program_t7 K)
noncomputable def t_l_a_program_t5 (K : PySem.W.Frag) : TS := tSeq (tPar 8 9 (tCons (tLstU (tNil)) (tCons (tCB (rLstOf K) (tCons (tVar 4) (tNil))) (tNil)))) (t_l_a_program_t6 K)
noncomputable def t_l_a_program_t4 (K : PySem.W.Frag) : TS := tSeq (tAsg (tLcU (iSeqU K (tCall spMixed [] E0 (tCons (tVar 0) (tCons (tCB rListD (tCons (tVar 6) (tNil))) (tNil))))) (gName 12) (tYes) (tTupU (tCons (tOp (rIxU K) (tOp (rIxU K) (tVar 2) (tVar 12)) (tC (.int 1))) (tCons (tDGet (tVar 6) (tVar 12)) (tNil)))) [12]) (gName 7)) (t_l_a_program_t5 K)
noncomputable def t_l_a_program_t3 (K : PySem.W.Frag) : TS := tSeq (tAsg (tCB (rDictP K) (tCons (tLcU (iEnumU K (tCons (tVar 2) (tNil))) (gTup K 2 (gCons (gName 12) (gCons (gName 13) (gNil)))) (tTest (tOp (rEqU K) (tOp (rIxU K) (tVar 13) (tC (.int 0))) (tC (.str "read")))) (tTupU (tCons (tVar 12) (tCons (tOp (rIxU K) (tVar 5) (tVar 12)) (tNil)))) [12, 13]) (tNil))) (gName 6)) (t_l_a_program_t4 K)
noncomputable def t_l_a_program_t2 (K : PySem.W.Frag) : TS := tSeq (tAsg (tOp (rAddU K) (tVar 5) (tLstRg (tRg2 (tC (.int 200)) (tC (.int 900))))) (gName 5)) (t_l_a_program_t3 K)
noncomputable def t_l_a_program_t1 (K : PySem.W.Frag) : TS := tSeq (tAsg (tTupU (tCons (tCall spNeeded [] E0 (tCons (tVar 2) (tCons (tVar 3) (tNil)))) (tCons (tCall spMixed [] E0 (tCons (tVar 0) (tCons (tOp (rAddU K) (tLstRg (tRg2 (tC (.int 1)) (tC (.int 60)))) (tLstU (tCons (tC (.int 999)) (tCons (tC (.int 100)) (tNil))))) (tNil)))) (tNil)))) (gTup K 2 (gCons (gName 4) (gCons (gName 5) (gNil))))) (t_l_a_program_t2 K)
noncomputable def t_l_a_program (K : PySem.W.Frag) : TS := tSeq (tAsg (tCall spATerms [] E0 (tCons (tVar 1) (tNil))) (gTup K 2 (gCons (gName 2) (gCons (gName 3) (gNil))))) (t_l_a_program_t1 K)

theorem zero_spATerm {vs : List V} {H : Hp} {Q : VK} {E : XK} (h : spATerm 0 vs H Q E) : False := by
  obtain ⟨_, _, _, _, _, _, _, _, _, n, _, _, h, _⟩ := h
  exact absurd h (Nat.not_lt_zero _)
theorem nameD_nmOk {n : Nat} {s : Str} (h : nameS s = true) (k : ok n (.str s) = true) : nmOk s = true := nmOk_iff.mpr ⟨h, by rw [ok_str] at k; exact k⟩
theorem rd_l_a_term (K : PySem.W.Frag) (m : Nat) {vs : List V} {H : Hp} {Q : VK} {E : XK} (h : spATerm (m + 1) vs H Q E) :
    t_l_a_term K m { nx := fun _ H' => Q .non H', rt := Q } (start ["_law_rows", "_law_means", "_law_expr", "_law_row", "_law_part"] vs) H := by
  obtain ⟨F, G, l, md, xs, R, known, v, d, n, b, rfl, hnm, hl, rx, lG, lF, hM, hbR, rv, hex, htu, hok, hn20, hsz, hs1, hR, tG, q⟩ := h
  have sz : sizeLine = 16777216 := sizeLine_eq
  refine ⟨_, rfl, isi_str rv ⟨_, rfl, ?_⟩⟩
  cases d with
  | str s =>
    cases rv.str_inv
    refine iteT ?_
    have hs : s ∈ known := by rw [exprD] at hex; exact of_decide_eq_true hex
    obtain ⟨kvs, hk, hv⟩ := hM
    obtain ⟨k, hk1, hk2⟩ := hv s hs
    refine ⟨_, rfl, _, rfl, md, _, rfl, (by have := DGet.k (k := .inr s) hk; rw [hk1] at this; exact this), ?_⟩
    exact q k [] xs H (by simpa using hR) (by simp) (Nat.zero_le _) (by simp; omega) hl (by simpa using rx) ExF.refl
  | list ds => rw [tupD] at htu; cases htu
  | none => simp [exprD] at hex
  | bool _ => simp [exprD] at hex
  | int _ => simp [exprD] at hex
  | dict _ => simp [exprD] at hex
  | tuple ds =>
    refine iteF ?_
    rw [exprD] at hex
    match ds, hex, htu, hok, hsz, hs1, rv with
    | [], hex, _, _, _, _, _ => simp [exprL] at hex
    | d0 :: es, hex, htu, hok, hsz, hs1, rv =>
      rw [exprL, Bool.and_eq_true] at hex
      obtain ⟨f, rfl, hf⟩ := nameD_str hex.1
      obtain ⟨a, ws, rfl, na, ha, rw0⟩ := rv.tuple_inv
      obtain ⟨w0, ws1, rfl, rw1, rws⟩ := rw0.cons_inv
      cases rw1.str_inv
      cases n with
      | zero => simp [ok] at hok
      | succ n =>
        rw [ok_tuple, oks_cons] at hok
        have hfo := nameD_nmOk hf hok.1.1
        have hse : size (.tuple (PyData.str f :: es)) = sizes es + 2 := by rw [size, sizes, size]; omega
        rw [hse] at hsz hs1
        have les : es.length ≤ sizes es := sizes_len es
        have htes : ∀ e ∈ es, tupD e = e := by
          rw [tupD, tups] at htu
          injection htu with htu
          injection htu with _ htu
          rw [tups_map] at htu
          intro e he
          obtain ⟨i, hi⟩ := List.mem_iff_getElem?.mp he
          have h1 : (es.map tupD)[i]? = some (tupD e) := by rw [List.getElem?_map, hi]; rfl
          rw [htu, hi] at h1
          exact (Option.some.inj h1).symm
        have hxe : ∀ e ∈ es, exprD known e = true := fun e he => by
          have := hex.2
          rw [exprs_all, List.all_eq_true] at this
          exact this e he
        have lws : ws1.length = es.length := rws.1
        -- the numbers of the parts
        refine ⟨_, rfl, ixT ha (atN (v := V.str f) (by decide) rfl) ?_⟩
        refine lcS (M := [l]) (xs := ws1) (iter_sl1 (a := a) (i := 2) rfl (.inr ha) (by simp) (fun p hp => by rw [List.mem_singleton.mp hp, hl]; exact fun z => nomatch z))
          (fun H1 D i H' => ∃ (S : List TRow) (xs' : List V) (ns : List Nat), ns.length = i ∧ H' D = some (.lst (ns.map fun n => V.int (n : Nat))) ∧ RowsOK (R ++ S) ∧ (∀ r ∈ S, ∃ f ps, r = TRow.op f ps) ∧ S.length ≤ sizes (es.take i) ∧ (∀ k ∈ ns, k < (R ++ S).length) ∧
            H' l = some (.lst xs') ∧ RpL (D :: G) H' xs' ((R ++ S).map TRow.d) ∧ ExF [D, l] H1 H')
          (fun H1 D H2 x1 hD e => ⟨[], xs, [], rfl, eqs e, by simpa using hR, by simp, by simp, by simp, eqf e hD (x1.at_ _ _ (by simp) hl), by simpa using (((rx.ex x1.of).add hD).ex (exn e hD)), exn e hD⟩)
          (fun H1 D i H' hD ⟨_, _, _, _, _, _, _, _, _, _, _, x⟩ => x) ?_ ?_
        · rintro H1 D i y H' x1 hD hy ⟨S, xs', ns, hns, hH, hRS, hS, lS, hk, hl', rx', x2⟩
          have hi : i < ws1.length := get_lt hy
          obtain ⟨e, he, re⟩ := rws.get' hy
          have hme : e ∈ es := List.mem_of_getElem? he
          refine ⟨rfl, ?_⟩
          unfold tYes
          dsimp only
          rw [if_pos rfl]
          have tD : Trk (D :: G) H' := fun p hp => by
            rcases List.mem_cons.mp hp with z | z
            · rw [z, hH]; exact fun z => nomatch z
            · exact (tG.ex (x1.of.trans x2)) p z
          have subD : ∀ p ∈ [D, l], p ∈ D :: F := fun p hp => by
            simp only [List.mem_cons, List.not_mem_nil, or_false] at hp
            rcases hp with z | z <;> rw [z]
            · simp
            · exact List.mem_cons_of_mem _ lF
          have x2F : ExF (D :: F) H1 H' := x2.sub subD
          have mdn : md ≠ D := by
            obtain ⟨kvs, hkv, _⟩ := hM
            exact ne_of_none (x1.at_ _ _ (by simp) hkv) hD
          have mdl : md ≠ l := by
            obtain ⟨kvs, hkv, _⟩ := hM
            intro z
            rw [z, hl] at hkv
            cases hkv
          have hM' : Means H' md known b := (hM.ex x1 (by simp)).ex x2 (by simp [mdn, mdl])
          have lt1 : sizes (es.take i) + size e ≤ sizes es := by
            have h1 : es.take (i + 1) = es.take i ++ [e] := by rw [List.take_succ, he]; rfl
            have h2 : sizes (es.take (i + 1)) = sizes (es.take i) + size e := by rw [h1, sizes_append]; simp [sizes]
            have h3 : sizes es = sizes (es.take (i + 1)) + sizes (es.drop (i + 1)) := by rw [← sizes_append, List.take_append_drop]
            omega
          refine ⟨_, rfl, _, rfl, _, rfl, D :: F, D :: G, l, md, xs', R ++ S, known, y, e, n, b, rfl, by omega, hl', rx', List.mem_cons_of_mem _ lG, List.mem_cons_of_mem _ lF, hM', by rw [List.length_append]; omega, (((re.ex x1.of).add hD).ex x2F), hxe e hme, htes e hme, oks_iff.mp hok.1.2 e hme, by omega, by rw [List.length_append]; omega, by omega, hRS, tD, ?_⟩
          intro k S2 xs2 H4 hRS2 hS2 lS2 hk2 hl4 rx4 x4
          have nlD : D ≠ l := fun z => by
            rw [z, x1.at_ _ _ (by simp) hl] at hD
            cases hD
          have hH4 : H4 D = some (.lst (ns.map fun n => V.int (n : Nat))) := x4.at_ _ _ (by simp [nlD]) hH
          rw [List.append_assoc] at hRS2 rx4 hk2
          refine ⟨_, hH4, by rw [List.length_map, sz]; omega, S ++ S2, xs2, ns ++ [k], by simp [hns], by rw [upd_same, List.map_append]; rfl, hRS2, ?_, ?_, ?_, by rw [upd_ne nlD.symm]; exact hl4, ?_, ?_⟩
          · intro r hr
            rcases List.mem_append.mp hr with z | z
            · exact hS r z
            · exact hS2 r z
          · have h1 : es.take (i + 1) = es.take i ++ [e] := by rw [List.take_succ, he]; rfl
            rw [h1, sizes_append, List.length_append]
            simp only [sizes]
            omega
          · intro k' hk'
            rcases List.mem_append.mp hk' with z | z
            · have := hk k' z
              simp only [List.length_append] at this ⊢
              omega
            · rw [List.mem_singleton.mp z]; exact hk2
          · exact rx4.ex ((ExF.refl.mut (.inr (by simp)) : ExF [D] H4 _).sub fun a z => by rw [List.mem_singleton.mp z]; exact List.mem_cons_self)
          · exact exm rfl (.inr (by simp)) (x2.trans (x4.sub (by simp)))
        · rintro H1 D H' x1 hD ⟨S, xs', ns, hns, hH, hRS, hS, lS, hk, hl', rx', x2⟩
          rw [lws, List.take_length] at lS
          have lns : ns.length ≤ 1000 := by omega
          have tD : Trk (D :: G) H' := fun p hp => by
            rcases List.mem_cons.mp hp with z | z
            · rw [z, hH]; exact fun z => nomatch z
            · exact (tG.ex (x1.of.trans x2)) p z
          have dG : D ∉ G := fun z => (tG.ex x1) D z hD
          refine ⟨by show 2 ≤ sizeLine; decide, fun p5 H5 hp5 e5 => ?_⟩
          have x5 : ExF [] H' H5 := exn e5 hp5
          have np5 : p5 ∉ D :: G := tD.nin hp5
          have hl5 := x5.at_ _ _ (by simp) hl'
          have rx5 : RpL G H5 xs' ((R ++ S).map TRow.d) := rx'.drop.ex x5.of
          have hD5 := x5.at_ _ _ (by simp) hH
          have rp5 : Rp G H5 (.ref p5) (TRow.d (.op f ns)) := .tuple (fun z => np5 (List.mem_cons_of_mem _ z)) (eqs e5) (.cons (.str _) (.cons (.list dG hD5 (by have := RpL.ints (F := G) (H := H5) (ns.map fun n => ((n : Nat) : Int)); simpa [List.map_map, Function.comp_def] using this)) .nil))
          have xl : ExF [l] H H5 := by
            have : ExF [D, l] H H5 := x1.of.trans (x2.trans x5.of)
            exact this.drop (x1.free hD)
          have okop : ok 4 (TRow.d (.op f ns)) = true := TRow.ok_d ⟨hfo, lns⟩
          have lRS : (R ++ S).length ≤ 50000 := by rw [List.length_append]; omega
          have okl : ok 5 (.list ((R ++ S).map TRow.d)) = true := hRS.okl (by omega)
          refine .inl ⟨_, rfl, _, rfl, notInO (n := 4) (m := 5) (F := []) (G := []) (rp5.sub (by simp)) (.list (by simp) hl5 (rx5.sub (by simp))) okop okl ⟨_, rfl, ?_⟩⟩
          have last : ∀ (S' : List TRow) (xs'' : List V) (H6 : Hp) (u : Option V), RowsOK (R ++ S') → (∀ r ∈ S', ∃ f ps, r = TRow.op f ps) → S'.length ≤ sizes es + 1 → H6 l = some (.lst xs'') → RpL G H6 xs'' ((R ++ S').map TRow.d) → ExF [l] H H6 → Rp G H6 (.ref p5) (TRow.d (.op f ns)) →
              (((R ++ S').map TRow.d).any fun z => PyData.eqv z (TRow.d (.op f ns))) = true → t_l_a_term_t3 K m { nx := fun _ H' => Q .non H', rt := Q } [some (.ref l), some (.ref md), some (.ref a), some (.ref p5), u] H6 := by
            intro S' xs'' H6 u hRS' hS' lS' hl6 rx6 x6 rp6 hany
            obtain ⟨j, z, h1, h2, h3⟩ := first_eqv hany
            have okl6 : ok 5 (.list ((R ++ S').map TRow.d)) = true := hRS'.okl (by rw [List.length_append]; omega)
            refine ⟨_, rfl, tyL hl6, _, rfl, l, .ref p5, _, _, j, z, rfl, rfl, Rp.dp (F := []) (ok_plain okl6) (.list (by simp) hl6 (rx6.sub (by simp))), Rp.dp (ok_plain okop) rp6, ok_shaped okl6, ok_shaped okop, h1, h2, h3, ?_⟩
            have hj : j < (R ++ S').length := by have := get_lt h1; rw [List.length_map] at this; exact this
            exact q j S' xs'' H6 hRS' hS' (by rw [hse]; omega) hj hl6 rx6 x6
          cases hany : ((R ++ S).map TRow.d).any fun z => PyData.eqv z (TRow.d (.op f ns)) with
          | true =>
            refine iteF ?_
            exact last S xs' H5 _ hRS hS (by omega) hl5 rx5 xl rp5 hany
          | false =>
            refine iteT ?_
            refine ⟨_, rfl, tyL hl5, _, rfl, app hl5 (by have := rx5.1; rw [List.length_map] at this; rw [sz]; omega) fun H6 e6 => ?_⟩
            have p5l : p5 ≠ l := fun z => np5 (by rw [z]; exact List.mem_cons_of_mem _ lG)
            have x56 : ExF G H5 H6 := exm e6 (.inr lG) ExF.refl
            have rp6 := rp5.ex x56
            refine last (S ++ [.op f ns]) (xs' ++ [.ref p5]) H6 _ ?_ ?_ (by rw [List.length_append]; simp; omega) (eqs e6) ?_ (exm e6 (.inr (by simp)) xl) rp6 ?_
            · rw [← List.append_assoc]
              exact hRS.snocOp hfo lns hk
            · intro r hr
              rcases List.mem_append.mp hr with z | z
              · exact hS r z
              · exact ⟨f, ns, List.mem_singleton.mp z⟩
            · rw [← List.append_assoc, List.map_append]
              exact (rx5.ex x56).snoc rp6
            · rw [← List.append_assoc, List.map_append, List.any_append]
              have : PyData.eqv (TRow.d (.op f ns)) (TRow.d (.op f ns)) = true := eqv_refl _ (ok_plain okop)
              simp [this]
theorem TD_ok {x : Str × Nat} (h : nmOk x.1 = true) : ok 2 (TD x) = true := by
  refine ok_le (n := 1) ?_ (by decide)
  rw [TD, ok_tuple, oks_cons, oks_cons, ok_str, ok_int]
  exact ⟨⟨(nmOk_iff.mp h).2, rfl, by rw [oks]⟩, by simp⟩
theorem szTake {es : List PyData} {i : Nat} {e : PyData} (he : es[i]? = some e) : sizes (es.take (i + 1)) = sizes (es.take i) + size e := by
  have h1 : es.take (i + 1) = es.take i ++ [e] := by rw [List.take_succ, he]; rfl
  rw [h1, sizes_append]
  simp [sizes]
theorem szTake_le (es : List PyData) (i : Nat) : sizes (es.take i) ≤ sizes es := by
  have h3 : sizes es = sizes (es.take i) + sizes (es.drop i) := by rw [← sizes_append, List.take_append_drop]
  omega
theorem Means.put {H H' : Hp} {a : Addr} {known : List Str} {b : Nat} {s : Str} {n : Nat} {kvs : List (Key × V)} (h : Means H a known b) (hk : H a = some (.dK kvs)) (hn : n < b) (e : H' = upd H a (.dK (putK kvs (.inr s) (.int (n : Nat))))) : Means H' a (known ++ [s]) b := by
  obtain ⟨kvs', h1, h2⟩ := h
  rw [hk] at h1
  cases h1
  refine ⟨_, eqs e, fun t ht => ?_⟩
  rw [valV_put]
  by_cases z : t = s
  · subst z
    rw [if_pos rfl]
    exact ⟨n, rfl, hn⟩
  · have z' : (Sum.inr t : Key) ≠ .inr s := fun q => z (by cases q; rfl)
    rw [if_neg z']
    rcases List.mem_append.mp ht with m | m
    · exact h2 t m
    · exact absurd (List.mem_singleton.mp m) z
/-- the state of the walk over the lines -/
structure TS5 (l rl md tl : Addr) (G : List Addr) (ds : List PyData) (H1 : Hp) (i : Nat) (H' : Hp) (R : List TRow) (known : List Str) (told : List (Str × Nat)) (ys ts : List V) (kvs : List (Key × V)) : Prop where
  hr : H' rl = some (.lst ys)
  rr : RpL (rl :: md :: tl :: G) H' ys (R.map TRow.d)
  ht : H' tl = some (.lst ts)
  rt : RpL (rl :: md :: tl :: G) H' ts (told.map TD)
  ok : RowsOK R
  lR : R.length ≤ sizes (ds.take i)
  hk : H' md = some (.dK kvs)
  lk : kvs.length ≤ i
  hM : Means H' md known R.length
  ft : faultL known (told.map (·.1)) i (ds.drop i) = none
  rdk : ∀ (j : Nat) (s : Str), R[j]? = some (TRow.rd s) → s ∈ known
  nd : (told.map (·.1)).Nodup
  tk : ∀ x ∈ told, nmOk x.1 = true ∧ x.2 < R.length
  lt : told.length ≤ i
  ex : ExF [rl, md, tl] H1 H'
theorem rd_l_a_terms (K : PySem.W.Frag) {vs : List V} {H : Hp} {Q : VK} {E : XK} (h : spATerms vs H Q E) :
    t_l_a_terms K { nx := fun _ H' => Q .non H', rt := Q } (start ["_law_lines", "_law_rows", "_law_means", "_law_told", "_law_line"] vs) H := by
  obtain ⟨F, G, l, xs, ds, rfl, hl, rx, gd, tG, q⟩ := h
  have sz : sizeLine = 16777216 := sizeLine_eq
  have gsz := gd.size
  have l20 := gd.l20
  refine ⟨by decide, fun rl H1 hrl e1 => ?_⟩
  intro md hmd
  generalize e2 : upd H1 md (.dK []) = H2 at *
  have e2 := e2.symm
  refine ⟨by decide, fun tl H3 htl e3 => ?_⟩
  refine ⟨_, _, _, rfl, ?_⟩
  have x01 : ExF [] H H1 := exn e1 hrl
  have x02 : ExF [] H H2 := x01.trans (exn e2 hmd)
  have x03 : ExF [] H H3 := x02.trans (exn e3 htl)
  have nlr : l ≠ rl := ne_of_none hl hrl
  have nlm : l ≠ md := ne_of_none (x01.at_ _ _ (by simp) hl) hmd
  have nlt : l ≠ tl := ne_of_none (x02.at_ _ _ (by simp) hl) htl
  have nrm : rl ≠ md := ne_of_none (eqs e1) hmd
  have nrt : rl ≠ tl := ne_of_none (eqf e2 hmd (eqs e1)) htl
  have nmt : md ≠ tl := ne_of_none (eqs e2) htl
  have hr3 : H3 rl = some (.lst []) := eqf e3 htl (eqf e2 hmd (eqs e1))
  have hm3 : H3 md = some (.dK []) := eqf e3 htl (eqs e2)
  have tG3 : Trk (rl :: md :: tl :: G) H3 := (((tG.ex x03).cons (eqs e3)).cons hm3).cons hr3
  have rx3 : RpL (rl :: md :: tl :: F) H3 xs ds := by
    have h1 := (((((rx.ex x01.of).add hmd).ex (exn e2 hmd)).add htl).ex (exn e3 htl))
    have h0 := ((((((rx.add hrl).ex (exn e1 hrl)).add hmd).ex (exn e2 hmd)).add htl).ex (exn e3 htl))
    exact h0.sub (by intro a z; simp only [List.mem_cons] at z ⊢; rcases z with z | z | z | z <;> simp [z])
  have dr : ∀ {A : Hp}, ExF [rl, md, tl] H3 A → ExF [] H A := fun {A} z => ((x03.of.trans z).drop hrl |>.drop (x01.free hmd)).drop (x02.free htl)
  refine forS (xs := xs) (M := [rl, md, tl]) (iter_var (a := l) rfl (.inl (x03.at_ _ _ (by simp) hl)) (by simp [nlr, nlm, nlt]))
    (fun H4 i σ H' => ∃ (R : List TRow) (known : List Str) (told : List (Str × Nat)) (ys ts : List V) (kvs : List (Key × V)) (u : Option V), σ = [some (.ref l), some (.ref rl), some (.ref md), some (.ref tl), u] ∧ TS5 l rl md tl G ds H4 i H' R known told ys ts kvs) ?_
    (fun H4 i σ' H' ⟨_, _, _, _, _, _, _, _, t⟩ => t.ex) ?_ ?_
  · intro H4 x4
    refine ⟨[], [], [], [], [], [], none, rfl, ⟨x4.at_ _ _ (by simp) hr3, RpL.nil, x4.at_ _ _ (by simp) (eqs e3), RpL.nil, RowsOK.nil, Nat.zero_le _, x4.at_ _ _ (by simp) hm3, Nat.le_refl _, ⟨[], x4.at_ _ _ (by simp) hm3, by simp⟩, gd.f, by simp, by simp, by simp, Nat.le_refl _, ExF.refl⟩⟩
  · rintro H4 i x σ' H' x4 hx ⟨R, known, told, ys, ts, kvs, u, rfl, t⟩
    obtain ⟨d, hd, rd⟩ := rx3.get' hx
    have hi : i < ds.length := get_lt hd
    have hmem := List.mem_of_getElem? hd
    obtain ⟨gok, gtu, gtx, gs⟩ := gd.good d hmem
    have x3' : ExF [rl, md, tl] H3 H' := x4.of.trans t.ex
    have rd' : Rp (rl :: md :: tl :: F) H' x d := rd.ex (x3'.sub (by intro a z; simp only [List.mem_cons, List.not_mem_nil, or_false] at z ⊢; rcases z with z | z | z <;> simp [z]))
    have ft := t.ft
    rw [drop_cons hd, faultL] at ft
    have hL : lineD known (told.map (·.1)) d = true := by
      cases e : lineD known (told.map (·.1)) d with
      | true => rfl
      | false => rw [e, if_neg Bool.false_ne_true] at ft; cases ft
    rw [hL, if_pos rfl] at ft
    have tk' : Trk (rl :: md :: tl :: G) H' := tG3.ex x3'
    have sg := szTake hd
    have lst' : ∀ j, sizes (ds.take j) ≤ 4000 := fun j => Nat.le_trans (szTake_le ds j) gsz
    have lRi := lst' i
    have lR := t.lR
    have lRv := t.rr.1
    rw [List.length_map] at lRv
    have lTv := t.rt.1
    rw [List.length_map] at lTv
    have lT := t.lt
    have lkk := t.lk
    rcases line_cases hL gtu with ⟨s, rfl, hs, hn⟩ | ⟨s, rfl, hs, hin, hnt⟩ | ⟨s, e, rfl, hs, hex⟩
    · -- read
      obtain ⟨a, ws, rfl, na, ha, rw0⟩ := rd'.tuple_inv
      obtain ⟨w0, ws1, rfl, rw1, rws⟩ := rw0.cons_inv
      obtain ⟨w1, ws2, rfl, rw2, rws2⟩ := rws.cons_inv
      cases rw1.str_inv
      cases rw2.str_inv
      cases rws2.nil_inv
      have hso : nmOk s = true := by
        rw [readD, ok_tuple, oks_cons, oks_cons] at gok
        exact nameD_nmOk hs gok.1.2.1
      refine ⟨_, rfl, ixT ha (atN (v := V.str "read") (by decide) rfl) (eqS ⟨_, rfl, ?_⟩)⟩
      rw [decide_eq_true rfl]
      refine iteT ?_
      refine ⟨_, rfl, tyL t.hr, _, rfl, ixT ha (atN (v := V.str s) (by decide) rfl) ?_⟩
      refine ⟨by show 2 ≤ sizeLine; decide, fun p H5 hp e5 => ?_⟩
      have np : p ∉ rl :: md :: tl :: G := tk'.nin hp
      have x5 : ExF [] H' H5 := exn e5 hp
      have hr5 := x5.at_ _ _ (by simp) t.hr
      refine app hr5 (by rw [sz]; omega) fun H6 e6 => ?_
      have x56 : ExF (rl :: md :: tl :: G) H5 H6 := exm e6 (.inr (by simp)) ExF.refl
      have ha5 := x5.at_ _ _ (by simp) ha
      have nar : a ≠ rl := fun z => na (by simp [z])
      have nam : a ≠ md := fun z => na (by simp [z])
      have ha6 := eqn e6 nar ha5
      refine ⟨_, rfl, lenL (eqs e6) ⟨_, _, rfl, rfl, ?_⟩⟩
      refine ⟨_, rfl, _, rfl, ixT ha6 (atN (v := V.str s) (by decide) rfl) ?_⟩
      have hk6 : H6 md = some (.dK kvs) := eqn e6 nrm.symm (x5.at_ _ _ (by simp) t.hk)
      have elen : (((ys ++ [V.ref p]).length : Int) - 1) = ((R.length : Nat) : Int) := by rw [List.length_append, lRv]; simp
      dsimp only
      rw [elen]
      refine setD hk6 (by rw [sz]; omega) fun H7 e7 => ?_
      have hM6 : Means H6 md known (R.length + 1) := ((t.hM.ex x5 (by simp)).ex (exm e6 (.inr (by simp)) ExF.refl : ExF [rl] H5 H6) (by simpa using nrm.symm)).le (Nat.le_succ _)
      have x67 : ExF (rl :: md :: tl :: G) H6 H7 := exm e7 (.inr (by simp)) ExF.refl
      have rp : Rp (rl :: md :: tl :: G) H5 (.ref p) (TRow.d (.rd s)) := .tuple np (eqs e5) (.cons (.str _) (.cons (.str _) .nil))
      have lp := length_putK kvs (.inr s) (V.int ((R.length : Nat) : Int))
      have hnr : ∀ j : Nat, R[j]? ≠ some (TRow.rd s) := fun j z => hn (t.rdk j s z)
      refine ⟨R ++ [.rd s], known ++ [s], told, ys ++ [.ref p], ts, _, _, rfl, ⟨eqn e7 nrm (eqs e6), ?_, eqn e7 nmt.symm (eqn e6 nrt.symm (x5.at_ _ _ (by simp) t.ht)), t.rt.ex (x5.of.trans (x56.trans x67)), t.ok.snocRd hso hnr, ?_, eqs e7, by omega, ?_, ?_, ?_, t.nd, ?_, by omega, ?_⟩⟩
      · rw [List.map_append]
        exact ((t.rr.ex x5.of).snoc rp).ex (x56.trans x67)
      · rw [sg, List.length_append]
        have : size (readD s) = 3 := by simp [readD, size, sizes]
        simp
        omega
      · have := hM6.put hk6 (Nat.lt_succ_self _) e7
        rw [List.length_append]
        exact this
      · have e1 : lineN (readD s) = s := by simp [lineN, readD, items]
        have e2 : lineT (readD s) = false := by simp [lineT, readD, items, isS]; decide
        rw [e1, e2] at ft
        simpa using ft
      · intro j z hj
        rcases get_snoc hj with hj | ⟨_, hj⟩
        · exact List.mem_append_left _ (t.rdk j z hj)
        · cases hj
          simp
      · intro y hy
        have := t.tk y hy
        rw [List.length_append]
        exact ⟨this.1, by omega⟩
      · exact exm e7 (.inr (by simp)) (exm e6 (.inr (by simp)) (t.ex.trans x5.of))
    · -- tell
      obtain ⟨a, ws, rfl, na, ha, rw0⟩ := rd'.tuple_inv
      obtain ⟨w0, ws1, rfl, rw1, rws⟩ := rw0.cons_inv
      obtain ⟨w1, ws2, rfl, rw2, rws2⟩ := rws.cons_inv
      cases rw1.str_inv
      cases rw2.str_inv
      cases rws2.nil_inv
      have hso : nmOk s = true := by
        rw [tellD, ok_tuple, oks_cons, oks_cons] at gok
        exact nameD_nmOk hs gok.1.2.1
      have n1 : ¬ (("tell" : Str) = "read") := by decide
      have n2 : ¬ (("tell" : Str) = "give") := by decide
      refine ⟨_, rfl, ixT ha (atN (v := V.str "tell") (by decide) rfl) (eqS ⟨_, rfl, ?_⟩)⟩
      rw [decide_eq_false n1]
      refine iteF ?_
      refine ⟨_, rfl, ixT ha (atN (v := V.str "tell") (by decide) rfl) (eqS ⟨_, rfl, ?_⟩)⟩
      rw [decide_eq_false n2]
      refine iteF ?_
      obtain ⟨kvs', hk', hv⟩ := t.hM
      obtain ⟨n, hn1, hn2⟩ := hv s hin
      refine ⟨_, rfl, tyL t.ht, _, rfl, ixT ha (atN (v := V.str s) (by decide) rfl) ?_⟩
      refine ⟨_, rfl, _, rfl, ixT ha (atN (v := V.str s) (by decide) rfl) ⟨md, _, rfl, (by have := DGet.k (k := .inr s) hk'; rw [hn1] at this; exact this), ?_⟩⟩
      refine ⟨by show 2 ≤ sizeLine; decide, fun p H5 hp e5 => ?_⟩
      have np : p ∉ rl :: md :: tl :: G := tk'.nin hp
      have x5 : ExF [] H' H5 := exn e5 hp
      refine app (x5.at_ _ _ (by simp) t.ht) (by rw [sz]; omega) fun H6 e6 => ?_
      have x56 : ExF (rl :: md :: tl :: G) H5 H6 := exm e6 (.inr (by simp)) ExF.refl
      have rp : Rp (rl :: md :: tl :: G) H5 (.ref p) (TD (s, n)) := .tuple np (eqs e5) (.cons (.str _) (.cons (.int _) .nil))
      refine ⟨R, known ++ [s], told ++ [(s, n)], ys, ts ++ [.ref p], kvs, _, rfl, ⟨eqn e6 nrt (x5.at_ _ _ (by simp) t.hr), t.rr.ex (x5.of.trans x56), eqs e6, ?_, t.ok, ?_, eqn e6 nmt (x5.at_ _ _ (by simp) t.hk), by omega, ?_, ?_, fun j z hj => List.mem_append_left _ (t.rdk j z hj), ?_, ?_, by rw [List.length_append]; simp; omega, ?_⟩⟩
      · rw [List.map_append]
        exact ((t.rt.ex x5.of).snoc rp).ex x56
      · rw [sg]; omega
      · obtain ⟨kv2, hk2, hv2⟩ := (t.hM.ex x5 (by simp)).ex (exm e6 (.inr (by simp)) ExF.refl : ExF [tl] H5 H6) (by simpa using nmt)
        refine ⟨kv2, hk2, fun z hz => hv2 z ?_⟩
        rcases List.mem_append.mp hz with m | m
        · exact m
        · rw [List.mem_singleton.mp m]; exact hin
      · have e1 : lineN (tellD s) = s := by simp [lineN, tellD, items]
        have e2 : lineT (tellD s) = true := by simp [lineT, tellD, items, isS]
        rw [e1, e2, if_pos rfl] at ft
        rw [List.map_append]
        exact ft
      · rw [List.map_append, List.nodup_append]
        refine ⟨t.nd, by simp, fun a ha b hb e => hnt ?_⟩
        have hb' : b = s := by simpa using hb
        rw [← hb', ← e]
        exact ha
      · intro y hy
        rcases List.mem_append.mp hy with z | z
        · exact t.tk y z
        · rw [List.mem_singleton.mp z]
          exact ⟨hso, hn2⟩
      · exact exm e6 (.inr (by simp)) (t.ex.trans x5.of)
    · -- give
      obtain ⟨a, ws, rfl, na, ha, rw0⟩ := rd'.tuple_inv
      obtain ⟨w0, ws1, rfl, rw1, rws⟩ := rw0.cons_inv
      obtain ⟨w1, ws2, rfl, rw2, rws2⟩ := rws.cons_inv
      obtain ⟨w2, ws3, rfl, rw3, rws3⟩ := rws2.cons_inv
      cases rw1.str_inv
      cases rw2.str_inv
      cases rws3.nil_inv
      have n1 : ¬ (("give" : Str) = "read") := by decide
      refine ⟨_, rfl, ixT ha (atN (v := V.str "give") (by decide) rfl) (eqS ⟨_, rfl, ?_⟩)⟩
      rw [decide_eq_false n1]
      refine iteF ?_
      refine ⟨_, rfl, ixT ha (atN (v := V.str "give") (by decide) rfl) (eqS ⟨_, rfl, ?_⟩)⟩
      rw [decide_eq_true rfl]
      refine iteT ?_
      have hse : size (giveD s e) = size e + 3 := by simp [giveD, size, sizes]; omega
      have hok5 : ok 5 e = true := by
        rw [giveD, ok_tuple, oks_cons, oks_cons, oks_cons] at gok
        exact gok.1.2.2.1
      have hte : tupD e = e := by
        rw [giveD, tupD, tups, tups, tups] at gtu
        injection gtu with gtu
        injection gtu with _ gtu
        injection gtu with _ gtu
        injection gtu with gtu _
      refine ⟨_, rfl, _, rfl, _, rfl, ixT ha (atN (v := w2) (by decide) rfl) ?_⟩
      refine ⟨rl :: md :: tl :: F, rl :: md :: tl :: G, rl, md, ys, R, known, w2, e, 5, R.length, rfl, by decide, t.hr, t.rr, by simp, by simp, t.hM, Nat.le_refl _, rw3, hex, hte, hok5, by decide, by omega, by omega, t.ok, tk', ?_⟩
      intro k S ys' H5 hRS hS lS hk hr5 rr5 x5
      have x5G : ExF (rl :: md :: tl :: G) H' H5 := x5.sub (by simp)
      have nar : a ≠ rl := fun z => na (by simp [z])
      have ha5 := x5.at_ _ _ (by simpa using nar) ha
      have hk5 := x5.at_ _ _ (by simpa using nrm.symm) t.hk
      refine ⟨_, rfl, _, rfl, ixT ha5 (atN (v := V.str s) (by decide) rfl) ?_⟩
      refine setD hk5 (by rw [sz]; omega) fun H6 e6 => ?_
      have lp := length_putK kvs (.inr s) (V.int ((k : Nat) : Int))
      have x56 : ExF (rl :: md :: tl :: G) H5 H6 := exm e6 (.inr (by simp)) ExF.refl
      refine ⟨R ++ S, known ++ [s], told, ys', ts, _, _, rfl, ⟨eqn e6 nrm hr5, rr5.ex x56, eqn e6 nmt.symm (x5.at_ _ _ (by simpa using nrt.symm) t.ht), t.rt.ex (x5G.trans x56), hRS, ?_, eqs e6, by omega, ?_, ?_, ?_, t.nd, ?_, by omega, ?_⟩⟩
      · rw [sg, List.length_append]; omega
      · exact Means.put ((t.hM.ex x5 (by simpa using nrm.symm)).le (by rw [List.length_append]; omega)) hk5 hk e6
      · have e1 : lineN (giveD s e) = s := by simp [lineN, giveD, items]
        have e2 : lineT (giveD s e) = false := by simp [lineT, giveD, items, isS]; decide
        rw [e1, e2] at ft
        simpa using ft
      · intro j z hj
        rw [List.getElem?_append] at hj
        split at hj
        · exact List.mem_append_left _ (t.rdk j z hj)
        · obtain ⟨f, ps, e0⟩ := hS _ (List.mem_of_getElem? hj)
          cases e0
      · intro y hy
        have := t.tk y hy
        rw [List.length_append]
        exact ⟨this.1, by omega⟩
      · exact exm e6 (.inr (by simp)) (t.ex.trans (x5.sub (by simp)))
  · rintro H4 σ' H' x4 ⟨R, known, told, ys, ts, kvs, u, rfl, t⟩
    have x3' : ExF [rl, md, tl] H3 H' := x4.of.trans t.ex
    have tk' : Trk (rl :: md :: tl :: G) H' := tG3.ex x3'
    have lT := t.lt
    have lx := rx.1
    refine ⟨_, rfl, _, rfl, by show 2 ≤ sizeLine; decide, fun p H5 hp e5 => ?_⟩
    have x5 : ExF [] H' H5 := exn e5 hp
    have lRs := t.lR
    rw [lx, List.take_length] at lRs
    have sG : ∀ a ∈ G, a ∈ rl :: md :: tl :: G := fun a z => by simp [z]
    refine q p rl tl ys ts R told H5 (eqs e5) (x5.at_ _ _ (by simp) t.hr) ((t.rr.sub sG).ex x5.of) (x5.at_ _ _ (by simp) t.ht) ((t.rt.sub sG).ex x5.of) (tG.nin hrl) ((tG.ex x02).nin htl) t.ok lRs t.nd t.tk (by omega) ((dr x3').trans x5)
theorem mapNat (ns : List Nat) : (ns.map fun n => V.int (n : Nat)) = (ns.map fun n => ((n : Nat) : Int)).map V.int := by rw [List.map_map]; rfl
/-- a number in a list of numbers -/
theorem inNats {K : PySem.W.Frag} {H : Hp} {Q : VK} {a : Addr} {k : Nat} {ns : List Nat} (ha : H a = some (.lst (ns.map fun n => V.int (n : Nat)))) (q : Q (.bl (decide (k ∈ ns))) H) : rInU K (.int (k : Nat)) (.ref a) H Q := by
  rw [mapNat] at ha
  refine inInts ha ?_
  have e : decide (((k : Nat) : Int) ∈ ns.map fun n => ((n : Nat) : Int)) = decide (k ∈ ns) := by
    rw [Bool.eq_iff_iff]
    simp only [decide_eq_true_eq, List.mem_map]
    constructor
    · rintro ⟨n, hn, e⟩
      have : n = k := by omega
      rw [← this]; exact hn
    · exact fun h => ⟨k, h, rfl⟩
  rw [e]
  exact q
theorem notInNats {K : PySem.W.Frag} {H : Hp} {Q : VK} {a : Addr} {k : Nat} {ns : List Nat} (ha : H a = some (.lst (ns.map fun n => V.int (n : Nat)))) (q : Q (.bl (!decide (k ∈ ns))) H) : rNotInU K (.int (k : Nat)) (.ref a) H Q := by
  rw [mapNat] at ha
  have e : decide (((k : Nat) : Int) ∈ ns.map fun n => ((n : Nat) : Int)) = decide (k ∈ ns) := by
    rw [Bool.eq_iff_iff]
    simp only [decide_eq_true_eq, List.mem_map]
    constructor
    · rintro ⟨n, hn, e⟩
      have : n = k := by omega
      rw [← this]; exact hn
    · exact fun h => ⟨k, h, rfl⟩
  unfold rNotInU
  exact .inr (.inr (.inr ⟨a, _, rfl, .inl (.inl (.inl ha)), rfl, flat_int _, by rw [inV_int, e]; exact q⟩))
def isOp (R : List TRow) (k : Nat) : Bool := match R[k]? with
  | some (.op _ _) => true
  | _ => false
theorem isOp_iff {R : List TRow} {k : Nat} : isOp R k = true ↔ ∃ f ps, R[k]? = some (TRow.op f ps) := by
  unfold isOp
  constructor
  · intro h
    split at h
    · rename_i f ps e
      exact ⟨f, ps, e⟩
    · cases h
  · rintro ⟨f, ps, e⟩
    rw [e]
theorem row_cases {R : List TRow} {k : Nat} (h : k < R.length) : (∃ s, R[k]? = some (TRow.rd s)) ∨ ∃ f ps, R[k]? = some (TRow.op f ps) := by
  have e : R[k]? = some R[k] := by simp [h]
  cases hr : R[k] with
  | rd s => exact .inl ⟨s, by rw [e, hr]⟩
  | op f ps => exact .inr ⟨f, ps, by rw [e, hr]⟩
/-- rows[k][0] != "read" -/
theorem rowNe {K : PySem.W.Frag} {F : List Addr} {rl : Addr} {ys : List V} {R : List TRow} {k i j : Nat} {σ : L2.St} {H : Hp} {Q : Bool → Hp → Prop} (h0 : σ[i]? = some (some (.ref rl))) (h3 : σ[j]? = some (some (.int (k : Nat)))) (hr : H rl = some (.lst ys)) (rr : RpL F H ys (R.map TRow.d)) (hR : RowsOK R) (hk : k < R.length) (q : Q (isOp R k) H) :
    tTest (tOp (rNeU K) (tOp (rIxU K) (tOp (rIxU K) (tVar i) (tVar j)) (tC (.int 0))) (tC (.str "read"))) σ H Q := by
  have lr := rr.1
  rw [List.length_map] at lr
  have hR' : (R.map TRow.d)[k]? = some (TRow.d R[k]) := by rw [List.getElem?_map]; simp [hk]
  obtain ⟨y, hy, ry⟩ := rr.get hR'
  refine ⟨_, h0, _, h3, ixL hr (atN (v := y) (by omega) (by simpa using hy)) ?_⟩
  have fin : ∀ {w : Str} {a : Addr} {ws : List V}, y = .ref a → H a = some (.tup (.str w :: ws)) → (!decide (w = "read")) = isOp R k → rIxU K y (.int 0) H fun x H1 => rNeU K x (.str "read") H1 fun x H' => ∃ k, x = .bl k ∧ Q k H' := fun {w a ws} e ha hb => by
    subst e
    refine ixT ha (atN (v := V.str w) (by decide) rfl) (neS ⟨_, rfl, ?_⟩)
    rw [hb]
    exact q
  rcases row_cases hk with ⟨s, e⟩ | ⟨f, ps, e⟩
  · have e' : R[k] = .rd s := by have := e; simp [hk] at this; exact this
    rw [e'] at ry
    obtain ⟨a, ws, rfl, na, ha, rw0⟩ := ry.tuple_inv
    obtain ⟨w0, ws1, rfl, rw1, rws⟩ := rw0.cons_inv
    cases rw1.str_inv
    refine fin rfl ha ?_
    unfold isOp
    rw [e, decide_eq_true rfl]
    rfl
  · have e' : R[k] = .op f ps := by have := e; simp [hk] at this; exact this
    rw [e'] at ry
    obtain ⟨a, ws, rfl, na, ha, rw0⟩ := ry.tuple_inv
    obtain ⟨w0, ws1, rfl, rw1, rws⟩ := rw0.cons_inv
    cases rw1.str_inv
    refine fin rfl ha ?_
    have hf := (nmOk_iff.mp (hR.op k f ps e).1).1
    have hne : ¬ f = "read" := fun z => by
      subst z
      revert hf
      decide +kernel
    unfold isOp
    rw [e, decide_eq_false hne]
    rfl
/-- rows[k][1] of an operation: its parts, a list -/
theorem rowPs {F : List Addr} {ys : List V} {R : List TRow} {k : Nat} {f : Str} {ps : List Nat} {H : Hp} (rr : RpL F H ys (R.map TRow.d)) (e : R[k]? = some (TRow.op f ps)) :
    ∃ (a b : Addr), ys[k]? = some (.ref a) ∧ H a = some (.tup [.str f, .ref b]) ∧ H b = some (.lst (ps.map fun n => V.int (n : Nat))) ∧ a ∉ F ∧ b ∉ F := by
  have hR' : (R.map TRow.d)[k]? = some (TRow.d (.op f ps)) := by rw [List.getElem?_map, e]; rfl
  obtain ⟨y, hy, ry⟩ := rr.get hR'
  obtain ⟨a, ws, rfl, na, ha, rw0⟩ := ry.tuple_inv
  obtain ⟨w0, ws1, rfl, rw1, rws⟩ := rw0.cons_inv
  obtain ⟨w1, ws2, rfl, rw2, rws2⟩ := rws.cons_inv
  cases rw1.str_inv
  cases rws2.nil_inv
  obtain ⟨b, zs, rfl, nb, hb, rz⟩ := rw2.list_inv
  refine ⟨a, b, hy, ha, ?_, na, nb⟩
  have : RpL F H zs ((ps.map fun n => ((n : Nat) : Int)).map PyData.int) := by rw [List.map_map]; exact rz
  rw [hb, this.all_int, mapNat]
theorem lcRL {K : PySem.W.Frag} {i : Nat} {a : Addr} {ys : List V} {g : TG} {tt : TT} {te : TE} {vs : List Nat} {σ : L2.St} {H : Hp} {Q : VK} (hv : σ[i]? = some (some (.ref a))) (ha : H a = some (.lst ys)) (hn : ys.length ≤ 16777216) (Pv : Addr → Nat → Hp → Prop)
    (h0 : ∀ D H', H D = none → H' = upd H D (.lst []) → Pv D 0 H')
    (hs : ∀ D i H', H D = none → i < ys.length → Pv D i H' → g (.int (0 + (i : Nat))) (wipe σ vs) H' fun σ2 H2 => wipe σ2 vs = wipe σ vs ∧ tt σ2 H2 fun b H3 =>
      if b = true then te σ2 H3 fun y H4 => ∃ acc, H4 D = some (.lst acc) ∧ acc.length < sizeLine ∧ Pv D (i + 1) (upd H4 D (.lst (acc ++ [y]))) else Pv D (i + 1) H3)
    (hd : ∀ D H', H D = none → Pv D ys.length H' → Q (.ref D) H') : tLcU (iRng1 (tCons (tCB (rLenU K) (tCons (tVar i) (tNil))) tNil)) g tt te vs σ H Q := by
  unfold tLcU
  refine ⟨_, hv, lenL ha ⟨_, rfl, by omega, by omega, ?_⟩⟩
  have en : ((ys.length : Int)).toNat = ys.length := by omega
  rw [en]
  exact lcR Pv h0 hs hd
/-- the state of the walk down the rows -/
def NInv (rl tl fl : Addr) (R : List TRow) (told : List (Str × Nat)) (H2 : Hp) (i : Nat) (σ : L2.St) (H' : Hp) : Prop :=
  ∃ (fd : List Nat) (u v : Option V), σ = [some (.ref rl), some (.ref tl), some (.ref fl), u, v] ∧ H' fl = some (.lst (fd.map fun n => V.int (n : Nat))) ∧ (∀ k ∈ fd, k < R.length) ∧ (∀ x ∈ told, x.2 ∈ fd) ∧
    (∀ k : Nat, R.length ≤ k + i → k ∈ fd → ∀ f ps, R[k]? = some (TRow.op f ps) → ∀ p ∈ ps, p ∈ fd) ∧ fd.length ≤ 20 + 1000 * i ∧ ExF [fl] H2 H'
theorem needed_step {K : PySem.W.Frag} {D : Ends} {F : List Addr} {rl tl fl : Addr} {R : List TRow} {told : List (Str × Nat)} {H2 H' : Hp} {i k : Nat} {v : Option V} {ys : List V} {fd : List Nat} (hk : k < R.length) (hki : k + i + 1 = R.length) (lR : R.length ≤ 5000) (hR : RowsOK R)
    (hr3 : H' rl = some (.lst ys)) (rr3 : RpL F H' ys (R.map TRow.d)) (hf : H' fl = some (.lst (fd.map fun n => V.int (n : Nat)))) (hb : ∀ k ∈ fd, k < R.length) (hto : ∀ x ∈ told, x.2 ∈ fd)
    (hcl : ∀ k : Nat, R.length ≤ k + i → k ∈ fd → ∀ f ps, R[k]? = some (TRow.op f ps) → ∀ p ∈ ps, p ∈ fd) (lf : fd.length ≤ 20 + 1000 * i) (x3 : ExF [fl] H2 H')
    (hD : ∀ σ H5, NInv rl tl fl R told H2 (i + 1) σ H5 → D.nx σ H5) : t_l_a_needed_b1 K D [some (.ref rl), some (.ref tl), some (.ref fl), some (.int (k : Nat)), v] H' := by
  have sz : sizeLine = 16777216 := sizeLine_eq
  have fin : ∀ (ps : List Nat) (b : Addr) (H4 : Hp), ExF [] H' H4 → H4 b = some (.lst (ps.map fun n => V.int (n : Nat))) → (∀ p ∈ ps, p < k) → ps.length ≤ 1000 → (k ∈ fd → ∀ f qs, R[k]? = some (TRow.op f qs) → ps = qs) →
      rExtU K (.ref fl) [.ref b] H4 fun _ H5 => D.nx [some (.ref rl), some (.ref tl), some (.ref fl), some (.int (k : Nat)), v] H5 := by
    intro ps b H4 x4 hb4 hpk lps heq
    refine extL (x4.at_ _ _ (by simp) hf) hb4 (by rw [List.length_map, List.length_map, sz]; omega) fun H5 e5 => hD _ H5 ?_
    refine ⟨fd ++ ps, _, _, rfl, by rw [eqs e5, List.map_append], ?_, fun x hx => List.mem_append_left _ (hto x hx), ?_, by rw [List.length_append]; omega, exm e5 (.inr (by simp)) (x3.trans x4.of)⟩
    · intro j hj
      rcases List.mem_append.mp hj with z | z
      · exact hb j z
      · have := hpk j z; omega
    · intro j hj hm f qs e p hp
      have hjf : j ∈ fd := by
        rcases List.mem_append.mp hm with z | z
        · exact z
        · have := hpk j z; omega
      by_cases hjk : j = k
      · rw [hjk] at hjf e
        rw [heq hjf f qs e]
        exact List.mem_append_right _ hp
      · exact List.mem_append_left _ (hcl j (by omega) hjf f qs e p hp)
  have none_ : (k ∈ fd → ∀ f qs, R[k]? = some (TRow.op f qs) → ([] : List Nat) = qs) → tLstU tNil [some (.ref rl), some (.ref tl), some (.ref fl), some (.int (k : Nat)), v] H' fun y H1 => rExtU K (.ref fl) [y] H1 fun _ H5 => D.nx [some (.ref rl), some (.ref tl), some (.ref fl), some (.int (k : Nat)), v] H5 := fun h1 =>
    ⟨by decide, fun p H4 hp e4 => fin [] p H4 (exn e4 hp) (eqs e4) (by simp) (by simp) h1⟩
  refine ⟨_, rfl, tyL hf, ?_⟩
  refine .inl ⟨_, rfl, _, rfl, inNats hf ⟨_, rfl, ?_⟩⟩
  by_cases hm : k ∈ fd
  · rw [decide_eq_true hm]
    refine iteT ?_
    refine rowNe (i := 0) (j := 3) rfl rfl hr3 rr3 hR hk ?_
    refine ite2 (fun ho => ?_) (fun ho => ?_)
    · obtain ⟨f, ps, e⟩ := isOp_iff.mp ho
      obtain ⟨a, b, h1, h2, h3, h4, h5⟩ := rowPs rr3 e
      have hop := hR.op k f ps e
      refine ⟨_, rfl, _, rfl, ixL hr3 (atN (v := V.ref a) (by omega) (by simpa using h1)) (ixT h2 (atN (v := V.ref b) (by decide) rfl) ?_)⟩
      exact fin ps b H' ExF.refl h3 hop.2.2 hop.2.1 (fun _ g qs e2 => by rw [e] at e2; cases e2; rfl)
    · exact none_ (fun _ g qs e2 => absurd (isOp_iff.mpr ⟨g, qs, e2⟩) ho)
  · rw [decide_eq_false hm]
    exact iteF (iteF (none_ (fun h => absurd h hm)))
theorem rd_l_a_needed (K : PySem.W.Frag) {vs : List V} {H : Hp} {Q : VK} {E : XK} (h : spNeeded vs H Q E) :
    t_l_a_needed K { nx := fun _ H' => Q .non H', rt := Q } (start ["_law_rows", "_law_told", "_law_found", "_law_number", "_law_name"] vs) H := by
  obtain ⟨F, rl, tl, ys, ts, R, told, rfl, hr, rr, ht, rt, hR, lR, lT, hT, q⟩ := h
  have sz : sizeLine = 16777216 := sizeLine_eq
  have lys := rr.1
  rw [List.length_map] at lys
  have lts := rt.1
  rw [List.length_map] at lts
  refine lcS (M := []) (xs := ts) (iter_var (a := tl) rfl (.inl ht) (by simp))
    (fun H1 D i H' => H' D = some (.lst ((told.take i).map fun x => V.int (x.2 : Nat))) ∧ ExF [D] H1 H') (fun H1 D H2 x1 hD e => ⟨eqs e, exn e hD⟩) (fun H1 D i H' hD ⟨_, x⟩ => x) ?_ ?_
  · rintro H1 D i y H' x1 hD hy ⟨hH, x2⟩
    obtain ⟨d, hd, rd⟩ := rt.get' hy
    rw [List.getElem?_map] at hd
    cases he : told[i]? with
    | none => rw [he] at hd; cases hd
    | some x =>
      rw [he] at hd
      cases hd
      obtain ⟨p, ws, rfl, np, hp, rw0⟩ := (rd.ex (x1.trans (x2.drop hD)).of).tuple_inv
      obtain ⟨w0, ws1, rfl, rw1, rws⟩ := rw0.cons_inv
      obtain ⟨w1, ws2, rfl, rw2, rws2⟩ := rws.cons_inv
      cases rw1.str_inv
      cases rw2.int_inv
      cases rws2.nil_inv
      have hi := get_lt he
      refine ⟨p, _, rfl, .inl (.inl hp), rfl, _, _, rfl, _, _, rfl, rfl, rfl, ?_⟩
      unfold tYes
      dsimp only
      rw [if_pos rfl]
      refine ⟨_, rfl, _, hH, by rw [List.length_map, List.length_take, sz]; omega, ?_, exm rfl (.inr (by simp)) x2⟩
      have et : told.take (i + 1) = told.take i ++ [x] := by rw [List.take_succ, he]; rfl
      rw [upd_same, et, List.map_append]
      rfl
  · rintro H1 fl H2 x1 hD ⟨hfl, x2⟩
    rw [lts, List.take_length] at hfl
    have x02 : ExF [] H H2 := x1.trans (x2.drop hD)
    have nfl : H fl = none := x1.free hD
    have hr2 := x02.at_ _ _ (by simp) hr
    have rr2 : RpL (fl :: F) H2 ys (R.map TRow.d) := ((rr.add nfl).ex x02.of)
    have nrf : rl ≠ fl := ne_of_none hr nfl
    have hg : RgC (((ys.length : Nat) : Int) - 1) (-1) (-1) ys.length := by
      have := RgC.neg (i := ((ys.length : Nat) : Int) - 1) (j := -1) (by omega) (by omega) (by decide) (by decide)
      rwa [show (((ys.length : Nat) : Int) - 1 - -1).toNat = ys.length by omega] at this
    refine forI ⟨_, rfl, lenL hr2 ⟨_, _, rfl, rfl, _, rfl, _, rfl, _, _, _, _, rfl, hg, ?_⟩⟩
    refine for_rangeC (lo := ((ys.length : Nat) : Int) - 1) (c := -1) (n := ys.length)
      (NInv rl tl fl R told H2)
      ⟨told.map (·.2), none, none, rfl, by rw [List.map_map]; exact hfl, ?_, ?_, ?_, by rw [List.length_map]; omega, ExF.refl⟩ ?_ ?_
    · intro k hk
      obtain ⟨x, hx, rfl⟩ := List.mem_map.mp hk
      exact hT x hx
    · exact fun x hx => List.mem_map.mpr ⟨x, hx, rfl⟩
    · intro k hk hm f ps e
      have := get_lt e
      omega
    · rintro i σ H' hi ⟨fd, u, v, rfl, hf, hb, hto, hcl, lf, x3⟩
      obtain ⟨k, hkk⟩ : ∃ k : Nat, k = ys.length - 1 - i := ⟨_, rfl⟩
      have ek : ((ys.length : Nat) : Int) - 1 + ((i : Nat) : Int) * -1 = ((k : Nat) : Int) := by omega
      rw [ek]
      have hk : k < R.length := by omega
      have hr3 := x3.at_ _ _ (by simpa using nrf) hr2
      have rr3 : RpL (fl :: F) H' ys (R.map TRow.d) := rr2.ex (x3.sub (by simp))
      exact needed_step hk (by omega) lR hR hr3 rr3 hf hb hto hcl lf x3 fun _ _ h => h
    · rintro σ' H3 ⟨fd, u, v, rfl, hf, hb, hto, hcl, lf, x3⟩
      have hr3 := x3.at_ _ _ (by simpa using nrf) hr2
      have rr3 : RpL (fl :: F) H3 ys (R.map TRow.d) := rr2.ex (x3.sub (by simp))
      have x03 : ExF [] H H3 := (x02.of.trans x3).drop nfl
      refine lcRL (i := 0) (a := rl) rfl hr3 (by omega)
        (fun D i H' => H' D = some (.lst (((List.range i).filter fun k => decide (k ∈ fd) && isOp R k).map fun n => V.int (n : Nat))) ∧ ExF [D] H3 H')
        (fun D H' hD e => ⟨eqs e, exn e hD⟩) ?_ ?_
      · rintro D i H' hD hi ⟨hH, x4⟩
        have x4' := x4.drop hD
        have hr4 := x4'.at_ _ _ (by simp) hr3
        have rr4 := rr3.ex x4'.of
        have hf4 := x4'.at_ _ _ (by simp) hf
        have e0 : (0 : Int) + ((i : Nat) : Int) = ((i : Nat) : Int) := by omega
        rw [e0]
        have hk : i < R.length := by omega
        have lfl : ((List.range i).filter fun k => decide (k ∈ fd) && isOp R k).length ≤ i := Nat.le_trans (List.length_filter_le _ _) (Nat.le_of_eq List.length_range)
        have no : (decide (i ∈ fd) && isOp R i) = false → H' D = some (.lst (((List.range (i + 1)).filter fun k => decide (k ∈ fd) && isOp R k).map fun n => V.int (n : Nat))) ∧ ExF [D] H3 H' := fun e => by
          rw [List.range_succ, List.filter_append]
          simp only [List.filter_cons, e, List.filter_nil]
          simp only [Bool.false_eq_true, if_false, List.append_nil]
          exact ⟨hH, x4⟩
        refine ⟨rfl, ?_⟩
        refine .inl ⟨_, rfl, _, rfl, inNats hf4 ⟨_, rfl, ?_⟩⟩
        refine ite2 (fun hm => ?_) (fun hm => ?_)
        · refine rowNe (i := 0) (j := 3) rfl rfl hr4 rr4 hR hk ?_
          refine ite2 (fun ho => ?_) (fun ho => no (by rw [Bool.not_eq_true] at ho; rw [ho, Bool.and_false]))
          refine ⟨_, rfl, _, hH, by rw [List.length_map, sz]; omega, ?_, exm rfl (.inr (by simp)) x4⟩
          have e : (decide (i ∈ fd) && isOp R i) = true := by rw [hm, ho]; rfl
          rw [upd_same, List.range_succ, List.filter_append]
          simp only [List.filter_cons, e, List.filter_nil]
          simp only [if_true, List.map_append]
          rfl
        · exact iteF (no (by rw [Bool.not_eq_true] at hm; rw [hm, Bool.false_and]))
      · rintro D H' hD ⟨hH, x4⟩
        have hmem : ∀ n, n ∈ ((List.range ys.length).filter fun k => decide (k ∈ fd) && isOp R k) ↔ n < R.length ∧ n ∈ fd ∧ isOp R n = true := by
          intro n
          constructor
          · intro h
            obtain ⟨h1, h2⟩ := List.mem_filter.mp h
            have h1 := List.mem_range.mp h1
            have h2 := Bool.and_eq_true_iff.mp h2
            exact ⟨by omega, of_decide_eq_true h2.1, h2.2⟩
          · rintro ⟨h1, h2, h3⟩
            exact List.mem_filter.mpr ⟨List.mem_range.mpr (by omega), Bool.and_eq_true_iff.mpr ⟨decide_eq_true h2, h3⟩⟩
        have part : ∀ p, p < R.length → p ∈ fd → (∃ s, R[p]? = some (TRow.rd s)) ∨ p ∈ ((List.range ys.length).filter fun k => decide (k ∈ fd) && isOp R k) := fun p h1 h2 => by
          rcases row_cases h1 with h | h
          · exact .inl h
          · exact .inr ((hmem p).mpr ⟨h1, h2, isOp_iff.mpr h⟩)
        refine q D _ H' (x03.free hD) hH ⟨List.Pairwise.filter _ List.pairwise_lt_range, fun n hn => ?_, fun x hx => part _ (hT x hx) (hto x hx)⟩ (x03.trans (x4.drop hD))
        obtain ⟨h1, h2, h3⟩ := (hmem n).mp hn
        obtain ⟨f, ps, e⟩ := isOp_iff.mp h3
        refine ⟨f, ps, e, fun p hp => part p ?_ (hcl n (by omega) h2 f ps e p hp)⟩
        have := (hR.op n f ps e).2.2 p hp
        omega

end Tw
end

section
set_option Elab.async false
set_option linter.all false
set_option maxRecDepth 100000
set_option maxHeartbeats 4000000
namespace Tw
open PySem L2 PyProof.Rows
abbrev nums (ns : List Nat) : List V := ns.map fun n => V.int (n : Nat)
/-! ### the cells -/
def rgI (a b : Int) : List Int := (List.range (b - a).toNat).map fun i => a + ((i : Nat) : Int)
theorem rgV_eq (a b : Int) : rgV a b = (rgI a b).map V.int := by unfold rgV rgI; rw [List.map_map]; rfl
theorem mem_rgI {a b c : Int} : c ∈ rgI a b ↔ a ≤ c ∧ c < b := by
  unfold rgI
  rw [List.mem_map]
  constructor
  · rintro ⟨i, hi, rfl⟩
    have := List.mem_range.mp hi
    omega
  · rintro ⟨h1, h2⟩
    exact ⟨(c - a).toNat, List.mem_range.mpr (by omega), by omega⟩
theorem nodup_rgI (a b : Int) : (rgI a b).Nodup := by
  unfold rgI
  exact List.pairwise_map.mpr (List.nodup_range.imp fun h e => h (by omega))
def unI : V → Int | .int i => i | _ => 0
theorem perm_ints {ys : List V} {zs : List Int} (p : ys.Perm (zs.map V.int)) : ∃ ws : List Int, ws.Perm zs ∧ ys = ws.map V.int := by
  refine ⟨ys.map unI, ?_, ?_⟩
  · have := p.map unI
    rw [List.map_map] at this
    have e : (unI ∘ V.int) = id := rfl
    rw [e, List.map_id] at this
    exact this
  · rw [List.map_map]
    have : ∀ y ∈ ys, (V.int ∘ unI) y = y := fun y hy => by
      obtain ⟨z, _, rfl⟩ := List.mem_map.mp (p.mem_iff.mp hy)
      rfl
    exact (List.map_congr_left this).trans (List.map_id _) |>.symm
def unN : V → Nat | .int i => i.toNat | _ => 0
theorem perm_nums {ys : List V} {zs : List Nat} (p : ys.Perm (nums zs)) : ∃ ws : List Nat, ws.Perm zs ∧ ys = nums ws := by
  refine ⟨ys.map unN, ?_, ?_⟩
  · have := p.map unN
    rw [List.map_map] at this
    have e : (unN ∘ fun n : Nat => V.int (n : Nat)) = id := by
      funext n
      show ((n : Int)).toNat = n
      omega
    rw [e, List.map_id] at this
    exact this
  · unfold nums
    rw [List.map_map]
    have : ∀ y ∈ ys, ((fun n : Nat => V.int (n : Nat)) ∘ unN) y = y := fun y hy => by
      obtain ⟨z, _, rfl⟩ := List.mem_map.mp (p.mem_iff.mp hy)
      show V.int (((z : Int)).toNat : Nat) = V.int (z : Nat)
      congr 1
    exact (List.map_congr_left this).trans (List.map_id _) |>.symm
abbrev C0 : List Int := rgI 1 60 ++ [999, 100]
structure CellsOK (C : List Int) : Prop where
  len : C.length = 761
  nd : C.Nodup
  ce : ∀ c ∈ C, cellI c = true
theorem cells_ok {C1 : List Int} (p : C1.Perm C0) : CellsOK (C1 ++ rgI 200 900) := by
  have m0 : ∀ c, c ∈ C1 ↔ (1 ≤ c ∧ c < 60) ∨ c = 999 ∨ c = 100 := fun c => by
    rw [p.mem_iff, List.mem_append, mem_rgI]
    simp
  refine ⟨?_, ?_, ?_⟩
  · rw [List.length_append, p.length_eq]
    decide +kernel
  · rw [List.nodup_append]
    refine ⟨p.nodup_iff.mpr ?_, nodup_rgI _ _, fun a ha b hb e => ?_⟩
    · rw [List.nodup_append]
      refine ⟨nodup_rgI _ _, by decide, fun a ha b hb e => ?_⟩
      have := mem_rgI.mp ha
      simp at hb
      omega
    · have h1 := (m0 a).mp ha
      have h2 := mem_rgI.mp hb
      omega
  · intro c hc
    unfold cellI
    rw [Bool.and_eq_true, decide_eq_true_eq, decide_eq_true_eq]
    rcases List.mem_append.mp hc with h | h
    · have := (m0 c).mp h; omega
    · have := mem_rgI.mp h; omega
def cell (C : List Int) (n : Nat) : Int := C.getD n 0
theorem CellsOK.get {C : List Int} (h : CellsOK C) {n : Nat} (hn : n < 761) : C[n]? = some (cell C n) := by
  have : n < C.length := by rw [h.len]; exact hn
  unfold cell
  simp [List.getD, this]
theorem CellsOK.ok {C : List Int} (h : CellsOK C) {n : Nat} (hn : n < 761) : cellI (cell C n) = true := h.ce _ (List.mem_of_getElem? (h.get hn))
theorem CellsOK.inj {C : List Int} (h : CellsOK C) {n m : Nat} (hn : n < 761) (hm : m < 761) (e : cell C n = cell C m) : n = m := by
  have h1 := h.get hn
  have h2 := h.get hm
  rw [e] at h1
  exact (List.getElem?_inj (by rw [h.len]; exact hn) h.nd).mp (h1.trans h2.symm)
/-! ### what lies where -/
def plc (C : List Int) (P : List Nat) : List (Key × V) := P.map fun n : Nat => ((Sum.inl (n : Int) : Key), V.int (cell C n))
theorem valV_plc {C : List Int} {n : Nat} : ∀ {P : List Nat}, n ∈ P → valV (plc C P) (.inl (n : Int)) = some (.int (cell C n))
  | m :: P, h => by
    show valV ((.inl (m : Int), .int (cell C m)) :: plc C P) (.inl (n : Int)) = _
    by_cases e : m = n
    · rw [valV_pos (by rw [e]), e]
    · rw [valV_neg (by
        intro z
        have z' : (m : Int) = n := by injection z
        exact e (by omega))]
      exact valV_plc ((List.mem_cons.mp h).resolve_left fun z => e z.symm)
theorem valV_plc_none {C : List Int} {n : Nat} : ∀ {P : List Nat}, n ∉ P → valV (plc C P) (.inl (n : Int)) = none
  | [], _ => rfl
  | m :: P, h => by
    show valV ((.inl (m : Int), .int (cell C m)) :: plc C P) (.inl (n : Int)) = _
    have e : m ≠ n := fun e => h (by simp [e])
    rw [valV_neg (by
      intro z
      have z' : (m : Int) = n := by injection z
      exact e (by omega))]
    exact valV_plc_none fun z => h (List.mem_cons_of_mem _ z)
theorem putK_new {C : List Int} {P : List Nat} {n : Nat} (h : n ∉ P) {v : V} : putK (plc C P) (.inl (n : Int)) v = plc C P ++ [(.inl (n : Int), v)] := by
  unfold putK
  rw [if_neg]
  intro z
  rw [List.any_eq_true] at z
  obtain ⟨kv, hk, e⟩ := z
  obtain ⟨m, hm, rfl⟩ := List.mem_map.mp hk
  have e := of_decide_eq_true e
  have z' : (m : Int) = n := by injection e
  exact h (by have : m = n := by omega
              rw [← this]; exact hm)
theorem merge_plc {C : List Int} : ∀ {S P : List Nat}, (P ++ S).Nodup → mergeK (plc C P) (plc C S) = plc C (P ++ S)
  | [], P, _ => by rw [List.append_nil]; rfl
  | n :: S, P, h => by
    have hn : n ∉ P := fun z => (List.nodup_append.mp h).2.2 n z n (by simp) rfl
    have h' : ((P ++ [n]) ++ S).Nodup := by rw [List.append_assoc]; exact h
    have e : putK (plc C P) (.inl (n : Int)) (.int (cell C n)) = plc C (P ++ [n]) := by
      rw [putK_new hn]
      unfold plc
      rw [List.map_append]
      rfl
    have h2 := merge_plc (C := C) h'
    have ee : (P ++ [n]) ++ S = P ++ n :: S := by simp
    rw [ee] at h2
    show mergeK (putK (plc C P) (.inl (n : Int)) (.int (cell C n))) (plc C S) = _
    rw [e]
    exact h2
theorem plc_keys (C : List Int) (P : List Nat) : ((plc C P).map fun kv => kV kv.1) = nums P := by
  unfold plc
  rw [List.map_map]
  rfl
theorem plc_len (C : List Int) (P : List Nat) : (plc C P).length = P.length := by unfold plc; rw [List.length_map]
def plD (C : List Int) (n : Nat) : PyData := .tuple [.int (n : Nat), .int (cell C n)]
theorem paired_plc {K : PySem.W.Frag} {C : List Int} {F : List Addr} {H : Hp} : ∀ {P : List Nat} {ys : List V}, RpL F H ys (P.map (plD C)) → ∃ ps : List Addr, ys = ps.map V.ref ∧ Paired (fun p kv => SqT K H p [kV kv.1, kv.2]) ps (plc C P)
  | [], ys, r => ⟨[], r.nil_inv, .nil⟩
  | n :: P, ys, r => by
    obtain ⟨y, ys', rfl, ry, r'⟩ := r.cons_inv
    obtain ⟨ps, rfl, hp⟩ := paired_plc (K := K) r'
    obtain ⟨a, ws, rfl, na, ha, rw0⟩ := ry.tuple_inv
    obtain ⟨w0, ws1, rfl, rw1, rws⟩ := rw0.cons_inv
    obtain ⟨w1, ws2, rfl, rw2, rws2⟩ := rws.cons_inv
    cases rw1.int_inv
    cases rw2.int_inv
    cases rws2.nil_inv
    exact ⟨a :: ps, rfl, .cons (.inl (.inl ha)) hp⟩
/-! ### comprehensions over numbers -/
section
variable {K : PySem.W.Frag} {wi : TI} {tt : TT} {te : TE} {σ : L2.St} {H : Hp} {Q : VK} {k : Nat} {ns : List Nat}
theorem lcFilN {vs : List Nat} (f : Nat → Bool) (hi : IterS [] wi σ H (nums ns)) (hz : ns.length ≤ 100000) (hw : ∀ x, wipe ((wipe σ vs).set k (some x)) vs = wipe σ vs) (hg : ∀ x, ((wipe σ vs).set k (some x))[k]? = some (some x))
    (ht : ∀ (n : Nat) (H' : Hp), n ∈ ns → ExF [] H H' → ∀ Qc : Bool → Hp → Prop, (∀ H4, ExF [] H' H4 → Qc (f n) H4) → tt ((wipe σ vs).set k (some (.int (n : Nat)))) H' Qc)
    (hd : ∀ r H', H r = none → H' r = some (.lst (nums (ns.filter f))) → ExF [] H H' → Q (.ref r) H') : tLcU wi (gName k) tt (tVar k) vs σ H Q := by
  refine lcS hi (fun H1 D i H' => H' D = some (.lst (nums ((ns.take i).filter f))) ∧ ExF [D] H1 H') (fun H1 D H2 x hD e => ⟨eqs e, exn e hD⟩) (fun H1 D i H' hD ⟨_, x⟩ => x) ?_ ?_
  · rintro H1 D i x H' x1 hD hx ⟨hH, x2⟩
    rw [List.getElem?_map] at hx
    cases hn : ns[i]? with
    | none => rw [hn] at hx; cases hx
    | some n =>
      rw [hn] at hx
      cases hx
      have hi := get_lt hn
      have x3 : ExF [] H H' := x1.trans (x2.drop hD)
      have et : ns.take (i + 1) = ns.take i ++ [n] := by rw [List.take_succ, hn]; rfl
      refine ⟨hw _, ht n H' (List.mem_of_getElem? hn) x3 _ fun H4 x4 => ?_⟩
      have hH4 := x4.at_ _ _ (by simp) hH
      cases hf : f n with
      | false =>
        refine iteF ⟨?_, x2.trans x4.of⟩
        rw [et, List.filter_append]
        simp only [List.filter_cons, hf, List.filter_nil]
        simpa using hH4
      | true =>
        refine iteT ⟨_, hg _, _, hH4, ?_, ?_, exm rfl (.inr (by simp)) (x2.trans x4.of)⟩
        · have := List.length_filter_le f (ns.take i)
          rw [List.length_take] at this
          rw [List.length_map, sizeLine_eq]
          omega
        · rw [upd_same, et, List.filter_append]
          simp only [List.filter_cons, hf, List.filter_nil]
          simp [nums]
  · rintro H1 D H' x1 hD ⟨hH, x2⟩
    have e : (nums ns).length = ns.length := by simp
    rw [e, List.take_length] at hH
    exact hd D H' (x1.free hD) hH (x1.trans (x2.drop hD))
end
/-! ### what stands while a program is drawn -/
structure PS5 (st cl rl tl nd ca : Addr) (X : List Addr) (R : List TRow) (told : List (Str × Nat)) (ns : List Nat) (C : List Int) (ys ts : List V) (c : Nat) (H : Hp) : Prop where
  S : Strm st cl H c
  hr : H rl = some (.lst ys)
  rr : RpL X H ys (R.map TRow.d)
  ht : H tl = some (.lst ts)
  rt : RpL X H ts (told.map TD)
  hn : H nd = some (.lst (nums ns))
  hc : H ca = some (.lst (C.map V.int))
  tX : Trk X H
  sX : st ∈ X
  cX : cl ∈ X
  ne : rl ∉ X ∧ tl ∉ X ∧ nd ∉ X ∧ ca ∉ X
section
variable {st cl rl tl nd ca p : Addr} {X Y : List Addr} {R : List TRow} {told : List (Str × Nat)} {ns : List Nat} {C : List Int} {ys ts : List V} {c c' : Nat} {H H' : Hp} {o : HO}
theorem PS5.mut (t : PS5 st cl rl tl nd ca X R told ns C ys ts c H) (x : ExF Y H H') (hY : ∀ a ∈ Y, a ∈ X) (S : Strm st cl H' c') : PS5 st cl rl tl nd ca X R told ns C ys ts c' H' :=
  ⟨S, x.at_ _ _ (fun z => t.ne.1 (hY _ z)) t.hr, t.rr.ex (x.sub hY), x.at_ _ _ (fun z => t.ne.2.1 (hY _ z)) t.ht, t.rt.ex (x.sub hY), x.at_ _ _ (fun z => t.ne.2.2.1 (hY _ z)) t.hn, x.at_ _ _ (fun z => t.ne.2.2.2 (hY _ z)) t.hc, t.tX.ex x, t.sX, t.cX, t.ne⟩
theorem PS5.ex (t : PS5 st cl rl tl nd ca X R told ns C ys ts c H) (x : ExF [] H H') : PS5 st cl rl tl nd ca X R told ns C ys ts c H' := t.mut x (by simp) (t.S.ex' (by simp) (by simp) x)
theorem PS5.call (t : PS5 st cl rl tl nd ca X R told ns C ys ts c H) (x : ExF [st, cl] H H') (S : Strm st cl H' c') : PS5 st cl rl tl nd ca X R told ns C ys ts c' H' :=
  t.mut x (by intro a z; simp only [List.mem_cons, List.not_mem_nil, or_false] at z; rcases z with z | z <;> rw [z]; exact t.sX; exact t.cX) S
theorem PS5.add (t : PS5 st cl rl tl nd ca X R told ns C ys ts c H) (hp : H p = none) (x : ExF [] H H') (h' : H' p ≠ none) : PS5 st cl rl tl nd ca (p :: X) R told ns C ys ts c H' := by
  have u := t.ex x
  have n : ∀ {a : Addr} {v : HO}, H a = some v → a ∉ X → a ∉ p :: X := fun h k z => by
    rcases List.mem_cons.mp z with z | z
    · rw [z, hp] at h; cases h
    · exact k z
  exact ⟨u.S, u.hr, (t.rr.add hp).ex x.of, u.ht, (t.rt.add hp).ex x.of, u.hn, u.hc, fun a z => by
    rcases List.mem_cons.mp z with z | z
    · rw [z]; exact h'
    · exact u.tX a z, List.mem_cons_of_mem _ t.sX, List.mem_cons_of_mem _ t.cX, n t.hr t.ne.1, n t.ht t.ne.2.1, n t.hn t.ne.2.2.1, n t.hc t.ne.2.2.2⟩
end
def hrow (C : List Int) (R : List TRow) (n : Nat) : Int × Str × List Int := match R[n]? with
  | some (.op f ps) => (cell C n, f, ps.map (cell C))
  | _ => (0, "", [])
def nmOf (R : List TRow) (n : Nat) : Str := match R[n]? with
  | some (.rd s) => s
  | _ => ""
def isRd (R : List TRow) (n : Nat) : Bool := match R[n]? with
  | some (.rd _) => true
  | _ => false
theorem isRd_iff {R : List TRow} {k : Nat} : isRd R k = true ↔ ∃ s, R[k]? = some (TRow.rd s) := by
  unfold isRd
  constructor
  · intro h
    split at h
    · rename_i s e
      exact ⟨s, e⟩
    · cases h
  · rintro ⟨s, e⟩
    rw [e]
theorem rowRd {F : List Addr} {ys : List V} {R : List TRow} {k : Nat} {s : Str} {H : Hp} (rr : RpL F H ys (R.map TRow.d)) (e : R[k]? = some (TRow.rd s)) :
    ∃ a : Addr, ys[k]? = some (.ref a) ∧ H a = some (.tup [.str "read", .str s]) := by
  have hR' : (R.map TRow.d)[k]? = some (TRow.d (.rd s)) := by rw [List.getElem?_map, e]; rfl
  obtain ⟨y, hy, ry⟩ := rr.get hR'
  obtain ⟨a, ws, rfl, na, ha, rw0⟩ := ry.tuple_inv
  obtain ⟨w0, ws1, rfl, rw1, rws⟩ := rw0.cons_inv
  obtain ⟨w1, ws2, rfl, rw2, rws2⟩ := rws.cons_inv
  cases rw1.str_inv
  cases rw2.str_inv
  cases rws2.nil_inv
  exact ⟨a, hy, ha⟩
end Tw
end

section
set_option Elab.async false
set_option linter.all false
set_option maxRecDepth 100000
set_option maxHeartbeats 4000000
namespace Tw
open PySem L2 PyProof.Rows
section
variable {K : PySem.W.Frag} {st cl rl tl nd ca : Addr} {X : List Addr} {R : List TRow} {told : List (Str × Nat)} {ns : List Nat} {C : List Int} {ys ts : List V} {c : Nat} {H : Hp} {Q : VK} {σ : L2.St}
/-- cells[n] -/
theorem cellAt (t : PS5 st cl rl tl nd ca X R told ns C ys ts c H) (hC : CellsOK C) {n : Nat} (hn : n < 761) (q : Q (.int (cell C n)) H) : rIxU K (.ref ca) (.int (n : Nat)) H Q :=
  ixL t.hc (atN (v := V.int (cell C n)) (by omega) (by
    have := hC.get hn
    simp [List.getElem?_map, this])) q
/-- dict([(n, cells[n]) for n in ..]), the pairs made -/
theorem dictOf {P : List Nat} {a : Addr} {zs : List V} {F : List Addr} (ha : H a = some (.lst zs)) (r : RpL F H zs (P.map (plD C))) (nd' : P.Nodup) (q : ∀ p H', H p = none → H' = upd H p (.dK (plc C P)) → Q (.ref p) H') : rDictP K [.ref a] H Q := by
  unfold rDictP
  obtain ⟨ps, rfl, hp⟩ := paired_plc (K := K) r
  refine ⟨a, ps, plc C P, rfl, .inl (.inl ha), hp, fun p hp2 => q p _ hp2 ?_⟩
  have := merge_plc (C := C) (P := []) (S := P) (by simpa using nd')
  rw [List.nil_append] at this
  have e : plc C [] = [] := rfl
  rw [e] at this
  rw [this]
/-- place[n] -/
theorem placeAt {P : List Nat} {pd : Addr} {n : Nat} (hp : H pd = some (.dK (plc C P))) (hn : n ∈ P) (q : Q (.int (cell C n)) H) : ∃ (a : Addr) (v : V), V.ref pd = .ref a ∧ DGet H a (.int (n : Nat)) (some v) ∧ Q v H :=
  ⟨pd, _, rfl, (by have := DGet.k (k := .inl (n : Int)) hp; rw [valV_plc hn] at this; exact this), q⟩
/-- the reads of a program that is drawn: their places -/
theorem place_lc (t : PS5 st cl rl tl nd ca X R told ns C ys ts c H) (hR : RowsOK R) (hC : CellsOK C) (lR : R.length ≤ 750) {a0 a1 a3 a4 : Option V}
    (q : ∀ r zs H', H r = none → H' r = some (.lst zs) → RpL X H' zs (((List.range R.length).filter (isRd R)).map (plD C)) → ExF [] H H' → Q (.ref r) H') :
    tLcU (iEnumU K (tCons (tVar 2) (tNil))) (gTup K 2 (gCons (gName 12) (gCons (gName 13) (gNil)))) (tTest (tOp (rEqU K) (tOp (rIxU K) (tVar 13) (tC (.int 0))) (tC (.str "read")))) (tTupU (tCons (tVar 12) (tCons (tOp (rIxU K) (tVar 5) (tVar 12)) (tNil)))) [12, 13] [a0, a1, some (.ref rl), a3, a4, some (.ref ca), none, none, none, none, none, none, none, none, none, none, none] H Q := by
  have sz : sizeLine = 16777216 := sizeLine_eq
  have lys := t.rr.1
  rw [List.length_map] at lys
  unfold tLcU
  refine .inl ⟨_, rfl, rl, ys, rfl, .inl (.inl t.hr), fun D hD => ?_⟩
  refine lc_it wkE (fun i H' => ∃ acc : List V, acc.length ≤ i ∧ H' D = some (.lst acc) ∧ RpL (D :: X) H' acc (((List.range i).filter (isRd R)).map (plD C)) ∧ ExF [D] H H') ⟨[], Nat.le_refl _, upd_same, RpL.nil, exn rfl hD⟩
    (fun i H' _ ⟨acc, _, _, _, x⟩ => x.at_ _ _ (by simpa using ne_of_none t.hr hD) t.hr) ?_ ?_
  · rintro i x H' H'' hi ⟨acc, la, hH, r, x2⟩ ⟨T, x', y, rfl, hT, rfl, ex, hy⟩
    cases ex
    have hy : ys[i]? = some y := hy
    have hk : i < R.length := by have := get_lt hy; omega
    have t' := (t.add hD (ExF.new (o := .lst []) hD) (by rw [upd_same]; exact fun z => nomatch z)).mut (H' := H') (Y := [D]) (c' := c) (by
      refine ⟨fun b o nb hb => x2.at_ b o nb ?_, fun b hb => ?_⟩
      · have nbD : b ≠ D := by simpa using nb
        rw [upd_ne nbD] at hb
        exact hb
      · by_cases z : b = D
        · rw [z, hH]; exact fun z => nomatch z
        · rw [upd_ne z] at hb
          exact x2.kept b hb) (by simp) (t.S.ex' (by simp) (by simp) (x2.drop hD))
    have tT := t'.ex (exn (o := .tup [V.int (i : Nat), y]) rfl hT)
    generalize eT : upd H' T (.tup [V.int (i : Nat), y]) = H2 at *
    have eT := eT.symm
    have x23 : ExF [D] H H2 := x2.trans (exn eT hT)
    have rT := r.ex (exn (F := D :: X) eT hT)
    have hHT := eqf eT hT hH
    refine ⟨T, _, rfl, .inl (.inl (eqs eT)), rfl, _, _, rfl, _, _, rfl, rfl, rfl, ?_⟩
    have fil : ((List.range (i + 1)).filter (isRd R)).map (plD C) = ((List.range i).filter (isRd R)).map (plD C) ++ if isRd R i = true then [plD C i] else [] := by
      rw [List.range_succ, List.filter_append, List.map_append]
      cases h : isRd R i <;> simp [h]
    rcases row_cases hk with ⟨s, e⟩ | ⟨f, ps, e⟩
    · obtain ⟨a, hy', ha⟩ := rowRd tT.rr e
      rw [hy] at hy'
      cases hy'
      refine ⟨_, rfl, ixT ha (atN (v := V.str "read") (by decide) rfl) (eqS ⟨_, rfl, ?_⟩)⟩
      rw [decide_eq_true rfl]
      refine iteT ?_
      refine ⟨_, rfl, _, rfl, _, rfl, cellAt tT hC (by omega) ?_⟩
      refine ⟨by show 2 ≤ sizeLine; decide, fun p H3 hp e3 => ?_⟩
      have npX : p ∉ D :: X := tT.tX.nin hp
      have rp : Rp (D :: X) H3 (.ref p) (plD C i) := .tuple npX (eqs e3) (.cons (.int _) (.cons (.int _) .nil))
      refine ⟨_, eqf e3 hp hHT, by rw [sz]; omega, acc ++ [.ref p], by rw [List.length_append]; simp; omega, upd_same, ?_, exm rfl (.inr (by simp)) (x23.trans (exn e3 hp))⟩
      rw [fil, if_pos (isRd_iff.mpr ⟨s, e⟩)]
      have q := (rT.ex (exn e3 hp)).snoc rp
      exact q.ex ((ExF.refl.mut (.inr (by simp)) : ExF [D] H3 _).sub fun a z => by rw [List.mem_singleton.mp z]; exact List.mem_cons_self)
    · obtain ⟨a, b, hy', ha, _, _, _⟩ := rowPs tT.rr e
      rw [hy] at hy'
      cases hy'
      have hne : ¬ f = "read" := fun z => by
        have hf := (nmOk_iff.mp (hR.op i f ps e).1).1
        subst z
        revert hf
        decide +kernel
      refine ⟨_, rfl, ixT ha (atN (v := V.str f) (by decide) rfl) (eqS ⟨_, rfl, ?_⟩)⟩
      rw [decide_eq_false hne]
      refine iteF ⟨acc, by omega, hHT, ?_, x23⟩
      have hnr : isRd R i = false := by unfold isRd; rw [e]
      rw [fil, hnr]
      simpa using rT
  · rintro H' ⟨acc, la, hH, r, x2⟩
    rw [lys] at r
    exact q D acc H' hD hH r.drop (x2.drop hD)
def parts (R : List TRow) (n : Nat) : List Nat := match R[n]? with
  | some (.op _ ps) => ps
  | _ => []
/-- rows[one][1] walked -/
theorem iter_parts {M : List Addr} {i j n : Nat} {f : Str} {ps : List Nat} (t : PS5 st cl rl tl nd ca X R told ns C ys ts c H) (hi : σ[i]? = some (some (.ref rl))) (hj : σ[j]? = some (some (.int (n : Nat)))) (e : R[n]? = some (TRow.op f ps)) (hM : ∀ b : Addr, H b = some (.lst (nums ps)) → b ∉ M) :
    IterS M (iSeqU K (tOp (rIxU K) (tOp (rIxU K) (tVar i) (tVar j)) (tC (.int 1)))) σ H (nums ps) := by
  obtain ⟨a, b, h1, h2, h3, _, _⟩ := rowPs t.rr e
  exact iter_L fun Qc k => ⟨_, hi, _, hj, ixL t.hr (atN (v := V.ref a) (by omega) (by simpa using h1)) (ixT h2 (atN (v := V.ref b) (by decide) rfl) (k b H h3 (hM b h3) ExF.refl))⟩
/-- all([part in place for part in rows[one][1]]) -/
theorem allPlaced {P : List Nat} {pd : Addr} {n : Nat} {f : Str} {ps : List Nat} {Qc : Bool → Hp → Prop} (t : PS5 st cl rl tl nd ca X R told ns C ys ts c H) (hp : H pd = some (.dK (plc C P))) (h2 : σ[2]? = some (some (.ref rl))) (h14 : σ[14]? = some (some (.int (n : Nat)))) (e : R[n]? = some (TRow.op f ps)) (lp : ps.length ≤ 1000)
    (hw : ∀ x, wipe ((wipe σ [15]).set 15 (some x)) [15] = wipe σ [15]) (h15 : ∀ x, ((wipe σ [15]).set 15 (some x))[15]? = some (some x)) (h6 : ∀ x, ((wipe σ [15]).set 15 (some x))[6]? = some (some (.ref pd)))
    (q : ∀ H', ExF [] H H' → Qc (decide (∀ p ∈ ps, p ∈ P)) H') :
    tB (tCB (rAllU K) (tCons (tLcU (iSeqU K (tOp (rIxU K) (tOp (rIxU K) (tVar 2) (tVar 14)) (tC (.int 1)))) (gName 15) (tYes) (tInU K (tVar 15) (tVar 6)) [15]) (tNil))) σ H Qc := by
  refine lcMapB (k := 15) (xs := nums ps) (iter_parts t h2 h14 e (fun _ _ => by simp)) (ps.map fun p => decide (p ∈ P)) (by simp) (by rw [List.length_map, sizeLine_eq]; omega) hw ?_ ?_
  · intro i x b H3 hx hb x3 Qc' kk
    rw [List.getElem?_map] at hx hb
    cases hpi : ps[i]? with
    | none => rw [hpi] at hx; cases hx
    | some p =>
      rw [hpi] at hx hb
      cases hx
      cases hb
      refine .inr ⟨_, h15 _, _, h6 _, pd, _, rfl, .k (k := .inl (p : Int)) (x3.at_ _ _ (by simp) hp), ?_⟩
      have : (valV (plc C P) (.inl (p : Int))).isSome = decide (p ∈ P) := by
        by_cases z : p ∈ P
        · rw [valV_plc z, decide_eq_true z]; rfl
        · rw [valV_plc_none z, decide_eq_false z]; rfl
      rw [this]
      exact kk H3 ExF.refl
  · intro p H3 hp' hP x3
    refine allB hP ⟨_, rfl, ?_⟩
    have e2 : ((ps.map fun p => decide (p ∈ P)).all id) = decide (∀ p ∈ ps, p ∈ P) := by
      rw [List.all_map, Bool.eq_iff_iff, List.all_eq_true, decide_eq_true_eq]
      exact ⟨fun h p hp => of_decide_eq_true (h p hp), fun h p hp => decide_eq_true (h p hp)⟩
    rw [e2]
    exact q H3 x3
/-- while the hours are drawn -/
structure WS5 (st cl rl tl nd ca pd ra hl lf : Addr) (X : List Addr) (R : List TRow) (told : List (Str × Nat)) (ns : List Nat) (C : List Int) (rs : List PyData) (ys ts rv hv : List V) (P left : List Nat) (hrs : List (List Nat)) (c0 c : Nat) (H : Hp) : Prop where
  t : PS5 st cl rl tl nd ca X R told ns C ys ts c H
  pX : pd ∈ X
  np : pd ∉ [st, cl]
  nh : hl ∉ [st, cl]
  hX : hl ∈ X
  hp : H pd = some (.dK (plc C P))
  hh : H hl = some (.lst hv)
  rh : RpL X H hv (hrs.map fun z => PyData.list (z.map fun n => roD (hrow C R n)))
  hra : H ra = some (.lst rv)
  rra : RpL X H rv rs
  na : ra ∉ X
  hlf : H lf = some (.lst (nums left))
  nlf : lf ∉ X
  Pn : P.Nodup
  Pm : ∀ n, n ∈ P ↔ isRd R n = true ∨ (n ∈ ns ∧ n ∉ left)
  lm : ∀ n ∈ left, n ∈ ns
  ln : left.Pairwise (· < ·)
  hm : ∀ z ∈ hrs, z.length ≤ 2 ∧ ∀ n ∈ z, n ∈ ns
  lh : hrs.length ≤ 9 + (ns.length - left.length)
  ll : left.length ≤ ns.length
  lc : c ≤ c0 + (ns.length + 1) * hrs.length
  lc0 : c0 ≤ c
theorem len_subN : ∀ {xs ys : List Nat}, xs.Nodup → (∀ x ∈ xs, x ∈ ys) → xs.length ≤ ys.length
  | [], ys, _, _ => Nat.zero_le _
  | x :: xs, ys, h, k => by
    have hx : x ∈ ys := k x (by simp)
    have h' := List.nodup_cons.mp h
    have ih := len_subN (xs := xs) (ys := ys.erase x) h'.2 fun z hz => (List.mem_erase_of_ne (fun e : z = x => h'.1 (by rw [← e]; exact hz))).mpr (k z (by simp [hz]))
    rw [List.length_erase_of_mem hx] at ih
    have : 0 < ys.length := List.length_pos_of_mem hx
    rw [List.length_cons]
    omega
theorem nums_take (ns : List Nat) (b : Nat) : (nums ns).take b = nums (ns.take b) := (List.map_take).symm
theorem while_step {D : Ends} {pd ra hl lf : Addr} {rs : List PyData} {rv hv : List V} {P left : List Nat} {hrs : List (List Nat)} {c0 : Nat} {a1 a3 a4 a7 u10 u11 : Option V} (w : WS5 st cl rl tl nd ca pd ra hl lf X R told ns C rs ys ts rv hv P left hrs c0 c H) (hne : left ≠ [])
    (hR : RowsOK R) (hC : CellsOK C) (lR : R.length ≤ 750) (lns : ns.length ≤ 750) (lns2 : ∀ n ∈ ns, n < R.length) (need : Need R told ns) (hcb : c + 10000 < 2 ^ 48) (lhr : hrs.length ≤ 900)
    (hD : ∀ (hv' : List V) (P' left' : List Nat) (hrs' : List (List Nat)) (lf' : Addr) (c' : Nat) (v10 v11 : Option V) (H' : Hp), WS5 st cl rl tl nd ca pd ra hl lf' X R told ns C rs ys ts rv hv' P' left' hrs' c0 c' H' → left'.length + (9 - hrs'.length) < left.length + (9 - hrs.length) → ExF [hl, pd, st, cl] H H' →
      D.nx [some (.ref st), a1, some (.ref rl), a3, a4, some (.ref ca), some (.ref pd), a7, some (.ref hl), some (.ref lf'), v10, v11, none, none, none, none, none] H') :
    t_l_a_program_b6 K D [some (.ref st), a1, some (.ref rl), a3, a4, some (.ref ca), some (.ref pd), a7, some (.ref hl), some (.ref lf), u10, u11, none, none, none, none, none] H := by
  have sz : sizeLine = 16777216 := sizeLine_eq
  have hll := w.ll
  refine ⟨_, rfl, ?_⟩
  refine lcFilN (k := 14) (vs := [14]) (fun n => decide (∀ p ∈ parts R n, p ∈ P)) (iter_var (i := 9) (a := lf) rfl (.inl w.hlf) (by simp)) (by omega) (fun _ => rfl) (fun _ => rfl) ?_ ?_
  · intro n H1 hn x1 Qc kq
    obtain ⟨f, ps, e, hp⟩ := need.op n (w.lm n hn)
    have ep : parts R n = ps := by unfold parts; rw [e]
    rw [ep] at kq
    exact allPlaced (w.t.ex x1) (x1.at_ _ _ (by simp) w.hp) rfl rfl e (hR.op n f ps e).2.1 (fun _ => rfl) (fun _ => rfl) (fun _ => rfl) kq
  intro r H1 hr hH1 x1
  have t1 := w.t.ex x1
  have lfil := List.length_filter_le (fun n => decide (∀ p ∈ parts R n, p ∈ P)) left
  refine ⟨st, cl, c, r, _, rfl, t1.S, by rw [List.length_map]; omega, .inl hH1, by rw [List.length_map]; omega, fun fr ys2 H2 hp2 hfr hy S2 x2 => ?_⟩
  obtain ⟨fs, hfs, rfl⟩ := perm_nums hp2
  rw [List.length_map] at S2
  have t2 := t1.call x2 S2
  have nsc : ∀ {q : Addr}, q ∉ X → q ∉ [st, cl] := fun hq z => by
    simp only [List.mem_cons, List.not_mem_nil, or_false] at z
    rcases z with z | z
    · exact hq (z ▸ w.t.sX)
    · exact hq (z ▸ w.t.cX)
  have stX : ∀ a ∈ [st, cl], a ∈ X := fun a z => by
    simp only [List.mem_cons, List.not_mem_nil, or_false] at z
    rcases z with z | z <;> rw [z]
    · exact w.t.sX
    · exact w.t.cX
  have x02 : ExF [st, cl] H H2 := x1.of.trans x2
  have nph : pd ≠ hl := fun z => by
    have := w.hp
    rw [z, w.hh] at this
    cases this
  have nfX : fr ∉ X := t1.tX.nin hfr
  have go : ∀ (b c' : Nat) (H3 : Hp), b ≤ 2 → (8 < hrs.length → b = 2) → c ≤ c' → c' ≤ c + ns.length + 1 → Strm st cl H3 c' → ExF [st, cl] H2 H3 → ∀ v10 : Option V, rSlU K (.ref fr) none (some ((b : Nat) : Int)) H3 fun v H4 => t_l_a_program_b6_s2 K D [some (.ref st), a1, some (.ref rl), a3, a4, some (.ref ca), some (.ref pd), a7, some (.ref hl), some (.ref lf), v10, some v, none, none, none, none, none] H4 := by
    intro b c' H3 hb2 hb8 lc1 lc2 S3 x3 v10
    have x03 : ExF [st, cl] H H3 := x02.trans x3
    have t3 := t2.call x3 S3
    refine slToL b rfl (x3.at_ _ _ (nsc nfX) hy) fun nw H4 hnw e4 => ?_
    rw [nums_take] at e4
    have memL : ∀ n ∈ fs.take b, n ∈ left ∧ ∀ p ∈ parts R n, p ∈ P := fun n hn => by
      have := (List.mem_filter.mp (hfs.mem_iff.mp (List.mem_of_mem_take hn)))
      exact ⟨this.1, of_decide_eq_true this.2⟩
    have ndN : (fs.take b).Nodup := by
      have h1 : left.Nodup := w.ln.imp fun h e => by omega
      exact List.Nodup.sublist (List.take_sublist _ _) (hfs.nodup_iff.mpr (List.Nodup.sublist List.filter_sublist h1))
    have lN : (fs.take b).length ≤ 2 := by rw [List.length_take]; omega
    generalize hnow : fs.take b = now at *
    have t4 := t3.ex (exn e4 hnw)
    have x04 : ExF [st, cl] H H4 := x03.trans (exn e4 hnw)
    have x04X : ExF X H H4 := x04.sub stX
    have hh4 := x04.at_ _ _ w.nh w.hh
    have hp4 := x04.at_ _ _ w.np w.hp
    have nnX : nw ∉ X := t3.tX.nin hnw
    -- the hour
    refine ⟨_, rfl, tyL hh4, ?_⟩
    refine lcMap (F := X) (xs := nums now) (vs := [14]) (k := 14) (iter_var (i := 11) (a := nw) rfl (.inl (eqs e4)) (by simp)) (now.map fun n => roD (hrow C R n)) (by simp) (by rw [List.length_map, sz]; omega) (fun _ => rfl) ?_ ?_
    · intro D' i x e H5 hx he x5 hD1 hD2 Qc kq
      rw [List.getElem?_map] at hx he
      cases hn : now[i]? with
      | none => rw [hn] at hx; cases hx
      | some n =>
        rw [hn] at hx he
        cases hx
        cases he
        have hnm := memL n (List.mem_of_getElem? hn)
        obtain ⟨f, ps, eo, _⟩ := need.op n (w.lm n hnm.1)
        have ep : parts R n = ps := by unfold parts; rw [eo]
        have hop := hR.op n f ps eo
        have er : hrow C R n = (cell C n, f, ps.map (cell C)) := by unfold hrow; rw [eo]
        have hnR := get_lt eo
        have t5 := t4.ex x5
        have hp5 := x5.at_ _ _ (by simp) hp4
        refine ⟨_, rfl, _, rfl, cellAt t5 hC (by omega) ?_⟩
        obtain ⟨a, b', h1, h2, h3, _, _⟩ := rowPs t5.rr eo
        refine ⟨_, rfl, _, rfl, ixL t5.hr (atN (v := V.ref a) (by omega) (by simpa using h1)) (ixT h2 (atN (v := V.str f) (by decide) rfl) ?_)⟩
        refine lcMap (F := D' :: X) (xs := nums ps) (vs := [15]) (k := 15) (iter_parts t5 rfl rfl eo (fun _ _ => by simp)) (ps.map fun p => .int (cell C p)) (by simp) (by rw [List.length_map, sz]; omega) (fun _ => rfl) ?_ ?_
        · intro D2 j y e2 H6 hy2 he2 x6 _ _ Qc2 kq2
          rw [List.getElem?_map] at hy2 he2
          cases hpj : ps[j]? with
          | none => rw [hpj] at hy2; cases hy2
          | some p =>
            rw [hpj] at hy2 he2
            cases hy2
            cases he2
            have hpP : p ∈ P := hnm.2 p (by rw [ep]; exact List.mem_of_getElem? hpj)
            exact ⟨_, rfl, _, rfl, placeAt (x6.at_ _ _ (by simp) hp5) hpP (kq2 _ H6 ExF.refl (.int _))⟩
        · intro r6 ws H6 hr6 hH6 rw6 x6
          have ew : ws = (ps.map (cell C)).map V.int := by
            have : RpL (D' :: X) H6 ws ((ps.map (cell C)).map PyData.int) := by rw [List.map_map]; exact rw6
            exact this.all_int
          subst ew
          refine tupOfL hH6 fun p7 H7 hp7 e7 => ?_
          refine ⟨by show 3 ≤ sizeLine; decide, fun p8 H8 hp8 e8 => ?_⟩
          have x68 : ExF [] H5 H8 := (x6.trans (exn e7 hp7)).trans (exn e8 hp8)
          have t6 := t5.ex x6
          have tD : ∀ {A : Hp}, ExF [] H5 A → Trk (D' :: X) A := fun {A} xx b hb => by
            rcases List.mem_cons.mp hb with z | z
            · rw [z]; exact xx.kept _ hD2
            · exact (t5.ex xx).tX b z
          have n7 : p7 ∉ D' :: X := (tD x6).nin hp7
          have n8 : p8 ∉ D' :: X := (tD (x6.trans (exn e7 hp7))).nin hp8
          refine kq (.ref p8) H8 x68 ?_
          show Rp (D' :: X) H8 (.ref p8) (roD (hrow C R n))
          rw [er]
          exact .tuple n8 (eqs e8) (.cons (.int _) (.cons (.str _) (.cons (.tuple n7 (eqf e8 hp8 (eqs e7)) (RpL.ints _)) .nil)))
    intro rh' ws H5 hr5 hH5 rw5 x5
    have t5 := t4.ex x5
    have nrX : rh' ∉ X := t4.tX.nin hr5
    have hh5 := x5.at_ _ _ (by simp) hh4
    have hp5 := x5.at_ _ _ (by simp) hp4
    have lhv := w.rh.1
    rw [List.length_map] at lhv
    refine app hh5 (by rw [sz]; omega) fun H6 e6 => ?_
    have x56 : ExF [hl] H5 H6 := exm e6 (.inr (by simp)) ExF.refl
    have hX1 : ∀ a ∈ [hl], a ∈ X := fun a z => by rw [List.mem_singleton.mp z]; exact w.hX
    have nlst : st ∉ [hl] ∧ cl ∉ [hl] := by
      have := w.nh
      simp only [List.mem_cons, List.not_mem_nil, or_false, not_or] at this ⊢
      exact ⟨fun z => this.1 z.symm, fun z => this.2 z.symm⟩
    have t6 := t5.mut x56 hX1 (t5.S.ex' nlst.1 nlst.2 x56)
    have hp6 : H6 pd = some (.dK (plc C P)) := eqn e6 nph hp5
    have nwl : nw ≠ hl := fun z => nnX (z ▸ w.hX)
    have hnw6 : H6 nw = some (.lst (nums now)) := eqn e6 nwl (x5.at_ _ _ (by simp) (eqs e4))
    have rh6 : RpL X H6 (hv ++ [.ref rh']) ((hrs ++ [now]).map fun z => PyData.list (z.map fun n => roD (hrow C R n))) := by
      rw [List.map_append]
      have r5 : RpL X H5 hv (hrs.map fun z => PyData.list (z.map fun n => roD (hrow C R n))) := (w.rh.ex x04X).ex x5.of
      exact (r5.snoc (.list nrX hH5 rw5)).ex (x56.sub hX1)
    -- what lies where
    refine ⟨_, rfl, .inr (.inr (.inl ⟨rfl, .inl ⟨_, hp6⟩⟩)), ?_⟩
    refine lcMap (F := X) (xs := nums now) (vs := [14]) (k := 14) (iter_var (i := 11) (a := nw) rfl (.inl hnw6) (by simp)) (now.map (plD C)) (by simp) (by rw [List.length_map, sz]; omega) (fun _ => rfl) ?_ ?_
    · intro D' i x e H7 hx he x7 hD1 hD2 Qc kq
      rw [List.getElem?_map] at hx he
      cases hn : now[i]? with
      | none => rw [hn] at hx; cases hx
      | some n =>
        rw [hn] at hx he
        cases hx
        cases he
        have hnm := memL n (List.mem_of_getElem? hn)
        obtain ⟨f, ps, eo, _⟩ := need.op n (w.lm n hnm.1)
        have hnR := get_lt eo
        have t7 := t6.ex x7
        refine ⟨_, rfl, _, rfl, _, rfl, cellAt t7 hC (by omega) ?_⟩
        refine ⟨by show 2 ≤ sizeLine; decide, fun p8 H8 hp8 e8 => ?_⟩
        have n8 : p8 ∉ D' :: X := fun z => by
          rcases List.mem_cons.mp z with z | z
          · rw [z] at hp8; exact hD2 hp8
          · exact t7.tX p8 z hp8
        exact kq (.ref p8) H8 (exn e8 hp8) (.tuple n8 (eqs e8) (.cons (.int _) (.cons (.int _) .nil)))
    intro r7 zs H7 hr7 hH7 rz7 x7
    refine dictOf hH7 rz7 ndN fun d8 H8 hd8 e8 => ?_
    have x68 : ExF [] H6 H8 := x7.trans (exn e8 hd8)
    have hp8 := x68.at_ _ _ (by simp) hp6
    have npd : pd ≠ d8 := ne_of_none (x7.at_ _ _ (by simp) hp6) hd8
    have dis : (P ++ now).Nodup := by
      rw [List.nodup_append]
      refine ⟨w.Pn, ndN, fun a ha b' hb' e => ?_⟩
      subst e
      have hl' := (memL a hb').1
      rcases (w.Pm a).mp ha with h | h
      · obtain ⟨s, e1⟩ := isRd_iff.mp h
        obtain ⟨f, ps, e2, _⟩ := need.op a (w.lm a hl')
        rw [e1] at e2
        cases e2
      · exact h.2 hl'
    have lP : P.length ≤ 750 := by
      have h1 : ∀ n ∈ P, n < R.length := fun n hn => by
        rcases (w.Pm n).mp hn with h | h
        · obtain ⟨s, e⟩ := isRd_iff.mp h
          exact get_lt e
        · exact lns2 n h.1
      have h2 := len_subN w.Pn (ys := List.range R.length) fun x hx => List.mem_range.mpr (h1 x hx)
      rw [List.length_range] at h2
      omega
    refine ⟨pd, d8, _, _, rfl, rfl, npd, hp8, eqs e8, by rw [plc_len, plc_len, sz]; omega, ?_⟩
    rw [merge_plc dis]
    generalize e9 : upd H8 pd (.dK (plc C (P ++ now))) = H9
    have e9 := e9.symm
    have x89 : ExF [pd] H8 H9 := exm e9 (.inr (by simp)) ExF.refl
    have hX2 : ∀ a ∈ [pd], a ∈ X := fun a z => by rw [List.mem_singleton.mp z]; exact w.pX
    have t8 := t6.ex x68
    have npst : st ∉ [pd] ∧ cl ∉ [pd] := by
      have := w.np
      simp only [List.mem_cons, List.not_mem_nil, or_false, not_or] at this ⊢
      exact ⟨fun z => this.1 z.symm, fun z => this.2 z.symm⟩
    have t9 := t8.mut x89 hX2 (t8.S.ex' npst.1 npst.2 x89)
    have x09 : ExF [hl, pd, st, cl] H H9 := by
      have h1 : ExF [hl, pd, st, cl] H H4 := x04.sub (by simp)
      have h2 : ExF [hl, pd, st, cl] H4 H6 := x5.of.trans (x56.sub (by simp))
      have h3 : ExF [hl, pd, st, cl] H6 H9 := x68.of.trans (x89.sub (by simp))
      exact (h1.trans h2).trans h3
    have hX9 : ∀ a ∈ [hl, pd, st, cl], a ∈ X := fun a z => by
      simp only [List.mem_cons, List.not_mem_nil, or_false] at z
      rcases z with z | z | z | z <;> rw [z]
      · exact w.hX
      · exact w.pX
      · exact w.t.sX
      · exact w.t.cX
    have hlf9 : H9 lf = some (.lst (nums left)) := x09.at_ _ _ (fun z => w.nlf (hX9 _ z)) w.hlf
    have nwp : nw ≠ pd := fun z => nnX (z ▸ w.pX)
    have hnw9 : H9 nw = some (.lst (nums now)) := eqn e9 nwp (x68.at_ _ _ (by simp) hnw6)
    -- what is left
    refine lcFilN (k := 14) (vs := [14]) (fun n => !decide (n ∈ now)) (iter_var (i := 9) (a := lf) rfl (.inl hlf9) (by simp)) (by omega) (fun _ => rfl) (fun _ => rfl) ?_ ?_
    · intro n H10 hn x10 Qc kq
      exact .inl ⟨_, rfl, _, rfl, notInNats (x10.at_ _ _ (by simp) hnw9) ⟨_, rfl, kq H10 ExF.refl⟩⟩
    intro lf' H10 hlf' hl10 x10
    have t10 := t9.ex x10
    have memL' : ∀ n, n ∈ (left.filter fun n => !decide (n ∈ now)) ↔ n ∈ left ∧ n ∉ now := fun n => by
      rw [List.mem_filter]
      simp
    have ll' := List.length_filter_le (fun n => !decide (n ∈ now)) left
    have shrink : now ≠ [] → (left.filter fun n => !decide (n ∈ now)).length < left.length := fun h => by
      cases hn : now with
      | nil => exact absurd hn h
      | cons a r =>
        have ha := memL a (by rw [hn]; simp)
        have hs : (left.filter fun n => !decide (n ∈ now)) ≠ left := fun z => by
          have := (memL' a).mp (by rw [z]; exact ha.1)
          exact this.2 (by rw [hn]; simp)
        have := List.length_filter_le (fun n => !decide (n ∈ now)) left
        rw [hn] at hs this
        have h3 := List.filter_sublist (p := fun n => !decide (n ∈ a :: r)) (l := left)
        by_cases hl : (left.filter fun n => !decide (n ∈ a :: r)).length = left.length
        · exact absurd (h3.eq_of_length hl) hs
        · omega
    have big : 8 < hrs.length → now ≠ [] := fun h8 hn => by
      have hb := hb8 h8
      cases hleft : left with
      | nil => exact hne hleft
      | cons n0 lr =>
        have hn0 : n0 ∈ left := by rw [hleft]; simp
        obtain ⟨f, ps, eo, hps⟩ := need.op n0 (w.lm n0 hn0)
        have ep : parts R n0 = ps := by unfold parts; rw [eo]
        have hall : ∀ p ∈ parts R n0, p ∈ P := fun p hp => by
          rw [ep] at hp
          refine (w.Pm p).mpr ?_
          rcases hps p hp with ⟨s, e1⟩ | h
          · exact .inl (isRd_iff.mpr ⟨s, e1⟩)
          · refine .inr ⟨h, fun hpl => ?_⟩
            have hlt := (hR.op n0 f ps eo).2.2 p hp
            rw [hleft] at hpl
            have hpw := w.ln
            rw [hleft, List.pairwise_cons] at hpw
            rcases List.mem_cons.mp hpl with z | z
            · omega
            · have := hpw.1 p z; omega
        have hmf : n0 ∈ fs := hfs.mem_iff.mpr (List.mem_filter.mpr ⟨hn0, decide_eq_true hall⟩)
        rw [← hnow, hb] at hn
        cases fs with
        | nil => cases hmf
        | cons a r => cases hn
    refine hD (hv ++ [.ref rh']) (P ++ now) _ (hrs ++ [now]) lf' c' _ _ H10 ⟨t10, w.pX, w.np, w.nh, w.hX, ?_, ?_, ?_, ?_, ?_, w.na, hl10, t9.tX.nin hlf', dis, ?_, ?_, ?_, ?_, ?_, ?_, ?_, ?_⟩ ?_ (x09.trans x10.of)
    · exact x10.at_ _ _ (by simp) (eqs e9)
    · exact x10.at_ _ _ (by simp) (eqn e9 nph.symm (x68.at_ _ _ (by simp) (eqs e6)))
    · exact ((rh6.ex x68.of).ex (x89.sub hX2)).ex x10.of
    · exact x10.at_ _ _ (by simp) (x09.at_ _ _ (fun z => w.na (hX9 _ z)) w.hra)
    · exact (w.rra.ex (x09.sub hX9)).ex x10.of
    · intro n
      rw [List.mem_append, w.Pm, memL']
      constructor
      · rintro ((h | h) | h)
        · exact .inl h
        · exact .inr ⟨h.1, fun z => h.2 z.1⟩
        · exact .inr ⟨w.lm n (memL n h).1, fun z => z.2 h⟩
      · rintro (h | ⟨h1, h2⟩)
        · exact .inl (.inl h)
        · by_cases hl : n ∈ left
          · by_cases hn : n ∈ now
            · exact .inr hn
            · exact absurd ⟨hl, hn⟩ h2
          · exact .inl (.inr ⟨h1, hl⟩)
    · exact fun n hn => w.lm n ((memL' n).mp hn).1
    · exact List.Pairwise.filter _ w.ln
    · intro z hz
      rcases List.mem_append.mp hz with h | h
      · exact w.hm z h
      · rw [List.mem_singleton.mp h]
        exact ⟨lN, fun n hn => w.lm n (memL n hn).1⟩
    · have hlh := w.lh
      rw [List.length_append]
      by_cases h8 : 8 < hrs.length
      · have := shrink (big h8)
        simp
        omega
      · simp
        omega
    · omega
    · have h1 := w.lc
      rw [List.length_append, Nat.mul_add]
      simp
      omega
    · have := w.lc0; omega
    · rw [List.length_append]
      by_cases h8 : 8 < hrs.length
      · have := shrink (big h8)
        simp
        omega
      · simp
        omega
  have hh2 := x02.at_ _ _ w.nh w.hh
  have lhv := w.rh.1
  rw [List.length_map] at lhv
  refine ⟨_, rfl, ?_⟩
  refine ⟨_, rfl, lenL hh2 ⟨_, _, rfl, rfl, _, rfl, ?_⟩⟩
  refine ite2 (fun h => ?_) (fun h => ?_)
  · exact ⟨_, rfl, go 2 _ H2 (by omega) (fun _ => rfl) (by omega) (by omega) S2 ExF.refl _⟩
  · have h8 : ¬ 8 < hrs.length := fun z => h (decide_eq_true (by omega))
    refine ⟨_, rfl, by show 5 ≤ sizeLine; decide, fun p5 H3 hp5 e5 => ?_⟩
    have x3 : ExF [] H2 H3 := exn e5 hp5
    have t3 := t2.ex x3
    have n5 : p5 ∉ X := t2.tX.nin hp5
    refine ⟨st, cl, _, p5, _, rfl, t3.S, by omega, .inl (eqs e5), fun z => n5 (z ▸ w.t.sX), fun z => n5 (z ▸ w.t.cX), by decide, by decide, fun j v H4 hv S4 y4 => ?_⟩
    have hb : ∃ b : Nat, v = .int (b : Nat) ∧ b ≤ 2 := by
      have := List.mem_of_getElem? hv
      simp only [List.mem_cons, List.not_mem_nil, or_false] at this
      rcases this with h | h | h | h | h <;> subst h
      · exact ⟨0, rfl, by decide⟩
      · exact ⟨1, rfl, by decide⟩
      · exact ⟨2, rfl, by decide⟩
      · exact ⟨2, rfl, by decide⟩
      · exact ⟨2, rfl, by decide⟩
    obtain ⟨b, rfl, hb2⟩ := hb
    exact ⟨_, rfl, go b _ H4 hb2 (fun z => absurd z h8) (by omega) (by omega) S4 (x3.of.trans y4) _⟩
end
end Tw
end

section
set_option Elab.async false
set_option linter.all false
set_option maxRecDepth 100000
set_option maxHeartbeats 4000000
namespace Tw
open PySem L2 PyProof.Rows
theorem nodup_perm_map {α β : Type} {f : α → β} {l : List α} (h : l.Nodup) (k : ∀ a ∈ l, ∀ b ∈ l, f a = f b → a = b) : (l.map f).Nodup := by
  induction l with
  | nil => simp
  | cons x l ih =>
    rw [List.map_cons, List.nodup_cons]
    have h' := List.nodup_cons.mp h
    refine ⟨fun z => ?_, ih h'.2 fun a ha b hb => k a (by simp [ha]) b (by simp [hb])⟩
    obtain ⟨y, hy, e⟩ := List.mem_map.mp z
    have := k y (by simp [hy]) x (by simp) e
    exact h'.1 (this ▸ hy)
theorem rgN (ns : List Int) (a b : Int) : (ns.map V.int) ++ rgV a b = (ns ++ rgI a b).map V.int := by rw [rgV_eq, List.map_append]
/-- the tells of a drawn program, and the program -/
def drawnP (C : List Int) (R : List TRow) (told : List (Str × Nat)) (rps : List Nat) (hrs : List (List Nat)) : PD :=
  ⟨rps.map fun n => (nmOf R n, cell C n), hrs.map fun z => z.map (hrow C R), told.map fun x => (x.1, cell C x.2)⟩
theorem drawn_good {C : List Int} {R : List TRow} {told : List (Str × Nat)} {ns rps : List Nat} {hrs : List (List Nat)} (hC : CellsOK C) (hR : RowsOK R) (lR : R.length ≤ 750) (hrp : rps.Perm ((List.range R.length).filter (isRd R)))
    (need : Need R told ns) (hm : ∀ z ∈ hrs, z.length ≤ 2 ∧ ∀ n ∈ z, n ∈ ns) (lh : hrs.length ≤ 800) (ndt : (told.map (·.1)).Nodup) (tk : ∀ x ∈ told, nmOk x.1 = true ∧ x.2 < R.length) (lT : told.length ≤ 20) : GoodP (drawnP C R told rps hrs) := by
  have mrp : ∀ n ∈ rps, n < R.length ∧ ∃ s, R[n]? = some (TRow.rd s) := fun n hn => by
    have := List.mem_filter.mp (hrp.mem_iff.mp hn)
    exact ⟨List.mem_range.mp this.1, isRd_iff.mp this.2⟩
  have ndr : rps.Nodup := hrp.nodup_iff.mpr (List.Nodup.sublist List.filter_sublist List.nodup_range)
  have nmE : ∀ {n s}, R[n]? = some (TRow.rd s) → nmOf R n = s := fun {n s} e => by unfold nmOf; rw [e]
  refine ⟨?_, ?_, ?_, ?_, ?_, ?_, ?_, ?_, ?_⟩
  · show ((rps.map fun n => (nmOf R n, cell C n)).map (·.1)).Nodup
    rw [List.map_map]
    refine nodup_perm_map ndr fun a ha b hb e => ?_
    obtain ⟨_, s1, e1⟩ := mrp a ha
    obtain ⟨_, s2, e2⟩ := mrp b hb
    have e' : nmOf R a = nmOf R b := e
    rw [nmE e1, nmE e2] at e'
    subst e'
    exact hR.inj a b s1 e1 e2
  · show ((rps.map fun n => (nmOf R n, cell C n)).map (·.2)).Nodup
    rw [List.map_map]
    refine nodup_perm_map ndr fun a ha b hb e => ?_
    have := (mrp a ha).1
    have := (mrp b hb).1
    exact hC.inj (by omega) (by omega) e
  · intro x hx
    obtain ⟨n, hn, rfl⟩ := List.mem_map.mp hx
    obtain ⟨h1, s, e⟩ := mrp n hn
    show nmOk (nmOf R n) = true ∧ cellI (cell C n) = true
    rw [nmE e]
    exact ⟨hR.rd n s e, hC.ok (by omega)⟩
  · intro z hz
    obtain ⟨y, hy, rfl⟩ := List.mem_map.mp hz
    obtain ⟨l2, hn⟩ := hm y hy
    refine ⟨by rw [List.length_map]; exact l2, fun x hx => ?_⟩
    obtain ⟨n, hnm, rfl⟩ := List.mem_map.mp hx
    obtain ⟨f, ps, e, _⟩ := need.op n (hn n hnm)
    have er : hrow C R n = (cell C n, f, ps.map (cell C)) := by unfold hrow; rw [e]
    have hop := hR.op n f ps e
    have hnl := get_lt e
    rw [er]
    refine ⟨hC.ok (by omega), hop.1, fun c hc => ?_, by rw [List.length_map]; exact hop.2.1⟩
    obtain ⟨p, hp, rfl⟩ := List.mem_map.mp hc
    have := hop.2.2 p hp
    exact hC.ok (by omega)
  · show ((told.map fun x => (x.1, cell C x.2)).map (·.1)).Nodup
    rw [List.map_map]
    exact ndt
  · intro x hx
    obtain ⟨y, hy, rfl⟩ := List.mem_map.mp hx
    have := tk y hy
    exact ⟨this.1, hC.ok (by omega)⟩
  · show (rps.map _).length ≤ 750
    rw [List.length_map, hrp.length_eq]
    have := List.length_filter_le (isRd R) (List.range R.length)
    rw [List.length_range] at this
    omega
  · show (hrs.map _).length ≤ 800
    rw [List.length_map]
    exact lh
  · show (told.map _).length ≤ 20
    rw [List.length_map]
    exact lT
theorem WS5.ex {st cl rl tl nd ca pd ra hl lf : Addr} {X : List Addr} {R : List TRow} {told : List (Str × Nat)} {ns : List Nat} {C : List Int} {rs : List PyData} {ys ts rv hv : List V} {P left : List Nat} {hrs : List (List Nat)} {c0 c : Nat} {H H' : Hp}
    (w : WS5 st cl rl tl nd ca pd ra hl lf X R told ns C rs ys ts rv hv P left hrs c0 c H) (x : ExF [] H H') : WS5 st cl rl tl nd ca pd ra hl lf X R told ns C rs ys ts rv hv P left hrs c0 c H' :=
  { w with t := w.t.ex x, hp := x.at_ _ _ (by simp) w.hp, hh := x.at_ _ _ (by simp) w.hh, rh := w.rh.ex x.of, hra := x.at_ _ _ (by simp) w.hra, rra := w.rra.ex x.of, hlf := x.at_ _ _ (by simp) w.hlf }
theorem rd_l_a_program (K : PySem.W.Frag) {vs : List V} {H : Hp} {Q : VK} {E : XK} (h : spAProg vs H Q E) :
    t_l_a_program K { nx := fun _ H' => Q .non H', rt := Q } (start ["_law_stream", "_law_lines", "_law_rows", "_law_told", "_law_needed", "_law_cells", "_law_place", "_law_reads", "_law_hours", "_law_left", "_law_free", "_law_now", "_law_number", "_law_row", "_law_one", "_law_part", "_law_name"] vs) H := by
  obtain ⟨st, cl, c, F, G, l, xs, ds, rfl, S, hc, hl, rx, gd, hsz, tG, q⟩ := h
  have sz : sizeLine = 16777216 := sizeLine_eq
  have tX0 : Trk (st :: cl :: G) H := fun a z => by
    rcases List.mem_cons.mp z with z | z
    · exact S.trk a (by simp [z])
    · rcases List.mem_cons.mp z with z | z
      · exact S.trk a (by simp [z])
      · exact tG a z
  refine ⟨_, rfl, F, st :: cl :: G, l, xs, ds, rfl, hl, rx, gd, tX0, fun p rl tl ys ts R told H1 hp hr rr ht rt nrl ntl hR lR ndt tk lT x1 => ?_⟩
  have lys := rr.1
  rw [List.length_map] at lys
  refine ⟨p, _, rfl, .inl (.inl hp), rfl, _, _, rfl, _, _, rfl, rfl, ?_⟩
  -- needed, cells
  refine ⟨_, rfl, _, rfl, st :: cl :: G, rl, tl, ys, ts, R, told, rfl, hr, rr, ht, rt, hR, by omega, lT, fun x hx => (tk x hx).2, fun nd ns H2 hnd hn need x2 => ?_⟩
  have x02 : ExF [] H H2 := x1.trans x2
  refine ⟨_, rfl, 1, 60, rfl, rfl, RgOk.of_le (by decide) (by decide) (by decide) (by decide), ?_⟩
  intro g1 hg1
  generalize e1 : upd H2 g1 (.lst (rgV 1 60)) = H3
  have e1 := e1.symm
  refine ⟨by show 2 ≤ sizeLine; decide, fun g2 H4 hg2 e2 => ?_⟩
  refine catL (eqf e2 hg2 (eqs e1)) (eqs e2) (by rw [rgV_length, sz]; simp) fun g3 H5 hg3 e3 => ?_
  have x25 : ExF [] H2 H5 := ((exn e1 hg1).trans (exn e2 hg2)).trans (exn e3 hg3)
  have x05 := x02.trans x25
  have S5 : Strm st cl H5 c := S.ex' (by simp) (by simp) x05
  have eC0 : rgV 1 60 ++ [V.int 999, V.int 100] = C0.map V.int := by rw [rgV_eq]; simp [C0]
  have hg3' : H5 g3 = some (.lst (C0.map V.int)) := by rw [← eC0]; exact eqs e3
  have lC0 : C0.length = 61 := by decide +kernel
  refine ⟨st, cl, c, g3, _, rfl, S5, by rw [List.length_map, lC0]; omega, .inl hg3', by rw [List.length_map, lC0]; decide, fun cl1 ws H6 hpm hcl1 hw S6 x6 => ?_⟩
  obtain ⟨C1, hC1, rfl⟩ := perm_ints hpm
  rw [List.length_map, lC0] at S6
  refine ⟨by show 2 ≤ sizeLine; decide, fun p2 H7 hp2 e7 => ⟨p2, _, rfl, .inl (.inl (eqs e7)), rfl, _, _, rfl, _, _, rfl, rfl, ?_⟩⟩
  have hw7 := eqf e7 hp2 hw
  -- cells + list(range(200, 900))
  refine ⟨_, rfl, 200, 900, rfl, rfl, RgOk.of_le (by decide) (by decide) (by decide) (by decide), ?_⟩
  intro g4 hg4
  generalize e8 : upd H7 g4 (.lst (rgV 200 900)) = H8
  have e8 := e8.symm
  refine catL (eqf e8 hg4 hw7) (eqs e8) (by rw [List.length_map, hC1.length_eq, lC0, rgV_length, sz]; simp) fun ca H9 hca e9 => ?_
  have hC := cells_ok hC1
  generalize hCe : C1 ++ rgI 200 900 = C at *
  have hca9 : H9 ca = some (.lst (C.map V.int)) := by rw [eqs e9, rgN, hCe]
  have x69 : ExF [] H6 H9 := ((exn e7 hp2).trans (exn e8 hg4)).trans (exn e9 hca)
  have S9 : Strm st cl H9 (c + 61) := S6.ex' (by simp) (by simp) x69
  have stG : ∀ a ∈ [st, cl], a ∈ st :: cl :: G := fun a z => by
    simp only [List.mem_cons, List.not_mem_nil, or_false] at z ⊢
    rcases z with z | z
    · exact .inl z
    · exact .inr (.inl z)
  have nsc : ∀ {q : Addr}, q ∉ st :: cl :: G → q ∉ [st, cl] := fun hq z => hq (stG _ z)
  have x29 : ExF [st, cl] H2 H9 := (x25.of.trans x6).trans x69.of
  have x09 : ExF [st, cl] H H9 := x02.of.trans x29
  have tX2 : Trk (st :: cl :: G) H2 := tX0.ex x02
  have nnd : nd ∉ st :: cl :: G := (tX0.ex x1).nin hnd
  have tX8 : Trk (st :: cl :: G) H8 := ((tX2.ex (x25.of.trans x6 : ExF [st, cl] H2 H6)).ex (exn (F := []) e7 hp2)).ex (exn (F := []) e8 hg4)
  have nca : ca ∉ st :: cl :: G := tX8.nin hca
  have t9 : PS5 st cl rl tl nd ca (st :: cl :: G) R told ns C ys ts (c + 61) H9 :=
    ⟨S9, (x29.at_ _ _ (nsc nrl) (x2.at_ _ _ (by simp) hr)), (rr.ex x2.of).ex (x29.sub stG), x29.at_ _ _ (nsc ntl) (x2.at_ _ _ (by simp) ht), (rt.ex x2.of).ex (x29.sub stG), x29.at_ _ _ (nsc nnd) hn, hca9, tX0.ex x09, by simp, by simp, nrl, ntl, nnd, nca⟩
  have lR' : R.length ≤ 750 := by omega
  -- place
  refine place_lc t9 hR hC lR' fun r10 zs H10 hr10 hz rz x10 => ?_
  have ndr : ((List.range R.length).filter (isRd R)).Nodup := List.Nodup.sublist List.filter_sublist List.nodup_range
  have lrf := List.length_filter_le (isRd R) (List.range R.length)
  rw [List.length_range] at lrf
  generalize hrpe : (List.range R.length).filter (isRd R) = rp at *
  refine dictOf hz rz ndr fun pd H11 hpd e11 => ?_
  have x911 : ExF [] H9 H11 := x10.trans (exn e11 hpd)
  have t11 : PS5 st cl rl tl nd ca (pd :: st :: cl :: G) R told ns C ys ts (c + 61) H11 := (t9.ex x10).add hpd (exn e11 hpd) (by rw [eqs e11]; exact fun z => nomatch z)
  have hp11 : H11 pd = some (.dK (plc C rp)) := eqs e11
  -- reads
  show tLcU (iSeqU K (tCall spMixed [] E0 (tCons (tVar 0) (tCons (tCB rListD (tCons (tVar 6) (tNil))) (tNil))))) (gName 12) (tYes) _ _ _ _ _
  unfold tLcU
  refine .inl ⟨_, rfl, _, rfl, pd, _, rfl, hp11, ?_⟩
  intro l12 hl12
  rw [plc_keys]
  generalize e12 : upd H11 l12 (.lst (nums rp)) = H12
  have e12 := e12.symm
  have t12 := t11.ex (exn e12 hl12)
  refine ⟨st, cl, c + 61, l12, _, rfl, t12.S, by rw [List.length_map]; omega, .inl (eqs e12), by rw [List.length_map]; omega, fun r13 ws H13 hpm2 hr13 hw13 S13 x13 => ⟨r13, rfl, ⟨_, .inl (.inl hw13)⟩, fun D hD => ?_⟩⟩
  refine lcAt hD ?_
  obtain ⟨rps, hrps, rfl⟩ := perm_nums hpm2
  rw [List.length_map] at S13
  have t13 := t12.call x13 S13
  have npd : pd ∉ [st, cl] := fun z => by
    have h1 := t11.S.trk pd z
    have h2 := (S9.ex' (by simp) (by simp) x10).trk pd z
    exact h2 hpd
  have hp13 : H13 pd = some (.dK (plc C rp)) := x13.at_ _ _ npd (eqf e12 hl12 hp11)
  have mrp : ∀ n ∈ rps, n < R.length ∧ n ∈ rp ∧ ∃ s, R[n]? = some (TRow.rd s) := fun n hn => by
    have h1 := hrps.mem_iff.mp hn
    have h2 : n ∈ (List.range R.length).filter (isRd R) := by rw [hrpe]; exact h1
    have := List.mem_filter.mp h2
    exact ⟨List.mem_range.mp this.1, h1, isRd_iff.mp this.2⟩
  have nmE : ∀ {n s}, R[n]? = some (TRow.rd s) → nmOf R n = s := fun {n s} e => by unfold nmOf; rw [e]
  refine lcMap (F := pd :: st :: cl :: G) (xs := nums rps) (vs := [12]) (k := 12) (iter_at hw13 (by simp)) (rps.map fun n => prD (nmOf R n, cell C n)) (by simp) (by rw [List.length_map, hrps.length_eq, sz]; omega) (fun _ => rfl) ?_ ?_
  · intro D' i x e H14 hx he x14 hD1 hD2 Qc kq
    rw [List.getElem?_map] at hx he
    cases hn : rps[i]? with
    | none => rw [hn] at hx; cases hx
    | some n =>
      rw [hn] at hx he
      cases hx
      cases he
      obtain ⟨h1, h2, s, es⟩ := mrp n (List.mem_of_getElem? hn)
      have t14 := t13.ex x14
      obtain ⟨a, hy, ha⟩ := rowRd t14.rr es
      refine ⟨_, rfl, _, rfl, ixL t14.hr (atN (v := V.ref a) (by omega) (by simpa using hy)) (ixT ha (atN (v := V.str s) (by decide) rfl) ?_)⟩
      refine ⟨_, rfl, _, rfl, ?_⟩
      refine placeAt (x14.at_ _ _ (by simp) hp13) h2 ?_
      refine ⟨by show 2 ≤ sizeLine; decide, fun p8 H8 hp8 e8 => ?_⟩
      have n8 : p8 ∉ D' :: pd :: st :: cl :: G := fun z => by
        rcases List.mem_cons.mp z with z | z
        · rw [z] at hp8; exact hD2 hp8
        · exact t14.tX p8 z hp8
      refine kq (.ref p8) H8 (exn e8 hp8) ?_
      show Rp _ H8 (.ref p8) (prD (nmOf R n, cell C n))
      rw [nmE es]
      exact .tuple n8 (eqs e8) (.cons (.str _) (.cons (.int _) .nil))
  intro ra rv H14 hra hrv rrv x14 hDe
  cases hDe
  have t14 := t13.ex x14
  have nra : D ∉ pd :: st :: cl :: G := t13.tX.nin hra
  -- hours, left
  refine ⟨by decide, fun hl' H15 hhl e15 => ?_⟩
  have t15 : PS5 st cl rl tl nd ca (hl' :: pd :: st :: cl :: G) R told ns C ys ts _ H15 := t14.add hhl (exn e15 hhl) (by rw [eqs e15]; exact fun z => nomatch z)
  refine ⟨_, rfl, lstOfL t15.hn fun lf H16 hlf e16 => ⟨_, _, rfl, ?_⟩⟩
  have t16 := t15.ex (exn e16 hlf)
  have nhl : hl' ∉ pd :: st :: cl :: G := t14.tX.nin hhl
  have nlf : lf ∉ hl' :: pd :: st :: cl :: G := t15.tX.nin hlf
  have hh16 : H16 hl' = some (.lst []) := eqf e16 hlf (eqs e15)
  have hp16 : H16 pd = some (.dK (plc C rp)) := eqf e16 hlf (eqf e15 hhl (x14.at_ _ _ (by simp) hp13))
  have lns : ns.length ≤ R.length := by
    have h1 : ns.Nodup := need.asc.imp fun h e => by omega
    have h2 := len_subN h1 (ys := List.range R.length) fun n hn => by
      obtain ⟨f, ps, e, _⟩ := need.op n hn
      exact List.mem_range.mpr (get_lt e)
    rwa [List.length_range] at h2
  have lns2 : ∀ n ∈ ns, n < R.length := fun n hn => by
    obtain ⟨f, ps, e, _⟩ := need.op n hn
    exact get_lt e
  have x916 : ExF [st, cl] H9 H16 := (x911.trans (exn e12 hl12)).of.trans (x13.trans ((x14.trans (exn e15 hhl)).trans (exn e16 hlf)).of)
  have x016 : ExF [st, cl] H H16 := x09.trans x916
  have Prd : ∀ n, n ∈ rp ↔ isRd R n = true := fun n => by
    rw [← hrpe, List.mem_filter, List.mem_range]
    exact ⟨fun h => h.2, fun h => ⟨by obtain ⟨s, e⟩ := isRd_iff.mp h; exact get_lt e, h⟩⟩
  have w0 : WS5 st cl rl tl nd ca pd D hl' lf (hl' :: pd :: st :: cl :: G) R told ns C (rps.map fun n => prD (nmOf R n, cell C n)) ys ts rv [] rp ns [] (c + 61 + rp.length) (c + 61 + rp.length) H16 :=
    { t := by simpa using t16, pX := by simp, np := npd, nh := fun z => nhl (by simp at z ⊢; rcases z with z | z <;> simp [z]), hX := by simp, hp := hp16, hh := hh16, rh := RpL.nil,
      hra := eqf e16 hlf (eqf e15 hhl hrv), rra := (((rrv.add hhl).ex (exn e15 hhl)).ex (exn e16 hlf)), na := fun z => by
        rcases List.mem_cons.mp z with z | z
        · rw [z] at hrv; rw [hrv] at hhl; cases hhl
        · exact nra z
      hlf := eqs e16, nlf := nlf, Pn := ndr, Pm := fun n => by rw [Prd]; exact ⟨.inl, fun h => h.elim id fun h => absurd h.1 h.2⟩, lm := fun n h => h, ln := need.asc, hm := by simp, lh := by simp, ll := Nat.le_refl _, lc := by simp, lc0 := Nat.le_refl _ }
  have lrp : rp.length ≤ R.length := lrf
  refine ⟨fun m σ H' => ∃ (hv : List V) (P left : List Nat) (hrs : List (List Nat)) (lf : Addr) (c' : Nat) (v10 v11 : Option V), σ = [some (.ref st), some (.ref l), some (.ref rl), some (.ref tl), some (.ref nd), some (.ref ca), some (.ref pd), some (.ref D), some (.ref hl'), some (.ref lf), v10, v11, none, none, none, none, none] ∧
      WS5 st cl rl tl nd ca pd D hl' lf (hl' :: pd :: st :: cl :: G) R told ns C (rps.map fun n => prD (nmOf R n, cell C n)) ys ts rv hv P left hrs (c + 61 + rp.length) c' H' ∧ m = left.length + (9 - hrs.length) ∧ ExF [hl', pd, st, cl] H16 H',
    ⟨_, [], rp, ns, [], lf, _, none, none, rfl, w0, rfl, ExF.refl⟩, ?_⟩
  rintro m σ' H17 ⟨hv, P, left, hrs, lf, c', v10, v11, rfl, w, rfl, x17⟩
  have hlh := w.lh
  have hlc := w.lc
  have hll := w.ll
  have hprod : (ns.length + 1) * hrs.length ≤ 751 * 760 := Nat.mul_le_mul (by omega) (by omega)
  refine ⟨_, rfl, by decide, fun p18 H18 hp18 e18 => ?_⟩
  have w18 := w.ex (exn e18 hp18)
  refine neE w18.hlf (eqs e18) ⟨_, rfl, ?_⟩
  have x18 : ExF [hl', pd, st, cl] H16 H18 := x17.trans (exn e18 hp18)
  by_cases hleft : left = []
  · subst hleft
    refine iteF ?_
    -- the program
    refine ⟨_, rfl, _, rfl, ?_⟩
    have lts := w18.t.rt.1
    rw [List.length_map] at lts
    have inP : ∀ x ∈ told, x.2 ∈ P := fun x hx => (w.Pm x.2).mpr (by
      rcases need.told x hx with ⟨s, e⟩ | h
      · exact .inl (isRd_iff.mpr ⟨s, e⟩)
      · exact .inr ⟨h, by simp⟩)
    refine lcS (M := []) (xs := ts) (iter_var (i := 3) (a := tl) rfl (.inl w18.t.ht) (by simp))
      (fun H1 D2 i H' => ∃ acc : List V, acc.length = i ∧ H' D2 = some (.lst acc) ∧ RpL (D2 :: G) H' acc ((told.take i).map fun x => prD (x.1, cell C x.2)) ∧ ExF [D2] H1 H')
      (fun H1 D2 H2 x hD e => ⟨[], rfl, eqs e, RpL.nil, exn e hD⟩) (fun H1 D2 i H' hD ⟨_, _, _, _, x⟩ => x) ?_ ?_
    · rintro H19 D2 i y H' x19 hD2 hy ⟨acc, la, hH, r, x20⟩
      obtain ⟨d, hd, rd⟩ := w18.t.rt.get' hy
      rw [List.getElem?_map] at hd
      cases he : told[i]? with
      | none => rw [he] at hd; cases hd
      | some x =>
        rw [he] at hd
        cases hd
        have xx : ExF [] H18 H' := x19.trans (x20.drop hD2)
        obtain ⟨p, ws, rfl, np, hp, rw0⟩ := (rd.ex xx.of).tuple_inv
        obtain ⟨w0', ws1, rfl, rw1, rws⟩ := rw0.cons_inv
        obtain ⟨w1', ws2, rfl, rw2, rws2⟩ := rws.cons_inv
        cases rw1.str_inv
        cases rw2.int_inv
        cases rws2.nil_inv
        have hi := get_lt he
        refine ⟨p, _, rfl, .inl (.inl hp), rfl, _, _, rfl, _, _, rfl, rfl, rfl, ?_⟩
        unfold tYes
        dsimp only
        rw [if_pos rfl]
        refine ⟨_, rfl, _, rfl, _, rfl, ?_⟩
        refine placeAt (xx.at_ _ _ (by simp) w18.hp) (inP x (List.mem_of_getElem? he)) ?_
        refine ⟨by show 2 ≤ sizeLine; decide, fun p8 H8 hp8 e8 => ?_⟩
        have n8 : p8 ∉ D2 :: G := fun z => by
          rcases List.mem_cons.mp z with z | z
          · rw [z, hH] at hp8; cases hp8
          · exact (w18.t.ex xx).tX p8 (by simp [z]) hp8
        have rp8 : Rp (D2 :: G) H8 (.ref p8) (prD (x.1, cell C x.2)) := .tuple n8 (eqs e8) (.cons (.str _) (.cons (.int _) .nil))
        have et : told.take (i + 1) = told.take i ++ [x] := by rw [List.take_succ, he]; rfl
        refine ⟨_, eqf e8 hp8 hH, by rw [sz]; omega, acc ++ [.ref p8], by simp [la], upd_same, ?_, exm rfl (.inr (by simp)) (x20.trans (exn e8 hp8))⟩
        rw [et, List.map_append]
        exact ((r.ex (exn e8 hp8)).snoc rp8).ex ((ExF.refl.mut (.inr (by simp)) : ExF [D2] H8 _).sub fun a z => by rw [List.mem_singleton.mp z]; exact List.mem_cons_self)
    · rintro H19 te H20 x19 hte ⟨acc, la, hH, r, x20⟩
      rw [lts, List.take_length] at r
      have x1820 : ExF [] H18 H20 := x19.trans (x20.drop hte)
      refine ⟨by show 3 ≤ sizeLine; decide, fun p21 H21 hp21 e21 => ?_⟩
      have x1821 : ExF [] H18 H21 := x1820.trans (exn e21 hp21)
      have w21 := w18.ex x1821
      have hgood := drawn_good (hrs := hrs) (rps := rps) hC hR lR' (by rw [hrpe]; exact hrps) need w.hm (by omega) ndt tk lT
      have sG : ∀ a ∈ G, a ∈ hl' :: pd :: st :: cl :: G := fun a z => by simp [z]
      have xfin : ExF [st, cl] H H21 := by
        have h1 : ExF [hl', pd, st, cl] H15 H21 := (exn e16 hlf : ExF [hl', pd, st, cl] H15 H16).trans (x18.trans x1821.of)
        have h2 : ExF [pd, st, cl] H14 H21 := ((exn e15 hhl : ExF [hl', pd, st, cl] H14 H15).trans h1).drop hhl
        have h3 : ExF [pd, st, cl] H10 H14 := ((exn e11 hpd : ExF [pd, st, cl] H10 H11).trans (exn e12 hl12)).trans ((x13.sub (by simp)).trans x14.of)
        have h4 : ExF [st, cl] H10 H21 := (h3.trans h2).drop hpd
        exact (x09.trans x10.of).trans h4
      refine q p21 D hl' te rv hv acc (drawnP C R told rps hrs) c' H21 (by have := w.lc0; omega) (by omega) w21.t.S (eqs e21) w21.hra w21.hh (eqf e21 hp21 hH) (fun z => w.na (sG _ z)) (fun z => nhl (by simp [z])) (fun z => (w18.t.ex x19).tX te (sG _ z) hte) ?_ ?_ ?_ hgood (by show (hrs.map _).length ≤ 790; rw [List.length_map]; omega) xfin
      · have := w21.rra.sub sG
        simpa [PD.r, drawnP, List.map_map, Function.comp_def] using this
      · have := w21.rh.sub sG
        simpa [PD.h, drawnP, List.map_map, Function.comp_def] using this
      · have := (r.drop).ex (exn (F := G) e21 hp21)
        simpa [PD.t, drawnP, List.map_map, Function.comp_def] using this
  · have hne : (!(nums left).isEmpty) = true := by
      cases left with
      | nil => exact absurd rfl hleft
      | cons a r => rfl
    rw [hne]
    refine iteT ⟨_, fun _ _ h => h, while_step w18 hleft hR hC lR' (by omega) lns2 need (by omega) (by omega) fun hv' P' left' hrs' lf' c2 u10 u11 H' w' hm' x' => ?_⟩
    exact ⟨_, hm', hv', P', left', hrs', lf', c2, u10, u11, rfl, w', rfl, x18.trans x'⟩
end Tw
end

section
set_option Elab.async false
set_option linter.all false
set_option maxRecDepth 100000
set_option maxHeartbeats 4000000
namespace Tw
open PySem L2 PyProof.Rows
/-! ### what gives data, whatever else is there -/
def DE (F : List Addr) (n : Nat) (te : TE) (σ : L2.St) (H0 : Hp) : Prop := ∀ H, ExF [] H0 H → ∀ Q : VK, (∀ v d H', ExF [] H H' → Rp F H' v d → okx n d = true → Q v H') → te σ H Q
def DA (F : List Addr) (n k : Nat) (ta : TA) (σ : L2.St) (H0 : Hp) : Prop := ∀ H, ExF [] H0 H → ∀ Q : List V → Hp → Prop, (∀ vs ds H', ExF [] H H' → RpL F H' vs ds → okxs n ds = true → ds.length = k → Q vs H') → ta σ H Q
section
variable {K : PySem.W.Frag} {F : List Addr} {n k : Nat} {te : TE} {ta : TA} {σ : L2.St} {H0 : Hp}
theorem DA.nil : DA F n 0 tNil σ H0 := fun H x Q q => q [] [] H ExF.refl .nil (by rw [okxs]) rfl
theorem DA.cons (h : DE F n te σ H0) (r : DA F n k ta σ H0) : DA F n (k + 1) (tCons te ta) σ H0 := fun H x Q q =>
  h H x _ fun v d H1 x1 rv ov => r H1 (x.trans x1) _ fun vs ds H2 x2 rr oo ll => q (v :: vs) (d :: ds) H2 (x1.trans x2) (.cons (rv.ex x2.of) rr) (okxs_cons.mpr ⟨ov, oo⟩) (by rw [List.length_cons, ll])
theorem DE.tup (t : Trk F H0) (h : DA F n k ta σ H0) (hk : k ≤ 1000) : DE F (n + 1) (tTupU ta) σ H0 := fun H x Q q =>
  h H x _ fun vs ds H1 x1 r oo ll => ⟨by have := r.1; rw [sizeLine_eq]; omega, fun p H2 hp e2 => q (.ref p) (.tuple ds) H2 (x1.trans (exn e2 hp)) (.tuple ((t.ex (x.trans x1)).nin hp) (eqs e2) (r.ex (exn e2 hp))) (okx_tuple.mpr ⟨oo, by omega⟩)⟩
theorem DE.lst (t : Trk F H0) (h : DA F n k ta σ H0) (hk : k ≤ 1000) : DE F (n + 1) (tLstU ta) σ H0 := fun H x Q q =>
  h H x _ fun vs ds H1 x1 r oo ll => ⟨by have := r.1; rw [sizeLine_eq]; omega, fun p H2 hp e2 => q (.ref p) (.list ds) H2 (x1.trans (exn e2 hp)) (.list ((t.ex (x.trans x1)).nin hp) (eqs e2) (r.ex (exn e2 hp))) (okx_list.mpr ⟨oo, by omega⟩)⟩
theorem DE.le {m : Nat} (h : DE F n te σ H0) (k : n ≤ m) : DE F m te σ H0 := fun H x Q q => h H x Q fun v d H' x' r o => q v d H' x' r (okx_le o k)
theorem DE.int (i : Int) : DE F n (tC (.int i)) σ H0 := fun H x Q q => q _ _ H ExF.refl (.int i) (by cases n <;> rw [okx])
theorem DE.non : DE F n (tC .non) σ H0 := fun H x Q q => q _ _ H ExF.refl .non (by cases n <;> rw [okx])
theorem DE.bl (b : Bool) : DE F n (tC (.bl b)) σ H0 := fun H x Q q => q _ _ H ExF.refl (.bl b) (by cases n <;> rw [okx])
theorem DE.str {s : Str} (h : okS s = true) : DE F n (tC (.str s)) σ H0 := fun H x Q q => q _ _ H ExF.refl (.str s) (by rw [okx_str]; exact h)
theorem DE.var {i : Nat} {v : V} {d : PyData} (hv : σ[i]? = some (some v)) (r : Rp F H0 v d) (h : okx n d = true) : DE F n (tVar i) σ H0 := fun H x Q q => ⟨v, hv, q v d H ExF.refl (r.ex x.of) h⟩
theorem DE.neg (i : Int) : DE F n (tUn (rU fun i => .int (-i)) (tC (.int i))) σ H0 := fun H x Q q => ⟨i, rfl, q _ _ H ExF.refl (.int _) (by cases n <;> rw [okx])⟩
theorem DE.lt {L : Lt} {vs : List Nat} (dv : Nat → PyData) (g : L.good vs = true) (hv : ∀ k, vs.contains k = true → ∃ v, σ[k]? = some (some v) ∧ Rp F H0 v (dv k)) (t : Trk F H0) (h : Lt.okxL n L = true) (hd : ∀ k, okx 6 (dv k) = true) : DE F n (tLt L) σ H0 := fun H x Q q =>
  lit dv F vs g (fun k hk => let ⟨v, e, r⟩ := hv k hk; ⟨v, e, r.ex x.of⟩) (t.ex x) fun v H' x' r => q v _ H' x' r (Lt.okx_d h hd)
theorem DE.lt0 {L : Lt} (g : L.good [] = true) (t : Trk F H0) (h : Lt.okxL n L = true) : DE F n (tLt L) σ H0 :=
  DE.lt (fun _ => .none) g (fun k hk => by simp at hk) t h (fun _ => by rw [okx])
theorem DE.dct (t : Trk F H0) : DE F n tDNewK σ H0 := fun H x Q q p hp => q (.ref p) (.dict []) _ (exn rfl hp) (.dct ((t.ex x).nin hp) upd_same) (by cases n <;> (rw [okx]; rfl))
theorem DE.disp (t : Trk F H0) (i j : Int) : DE F n (tDisp [(tC (.int i), tC (.int j))]) σ H0 := fun H x Q q p hp =>
  ⟨upd_same, [(.inl i, .int j)], rfl, (by show 1 ≤ 15; decide), q (.ref p) (.dict []) _ ((ExF.new hp).mut (.inl hp)) (.dct ((t.ex x).nin hp) upd_same) (by cases n <;> (rw [okx]; rfl))⟩
/-- found.append(..) -/
theorem appDE {D : Ends} {fl : Addr} {G : List Addr} {es : List PyData} {i : Nat} {H : Hp} (si : σ[i]? = some (some (.ref fl))) (h : DE (fl :: G) n te σ H) (F : FS fl G H es) (hz : es.length ≤ 1000)
    (q : ∀ d H', okx n d = true → ExF [fl] H H' → FS fl G H' (es ++ [d]) → D.nx σ H') : tDrop (tBM K "list" (rAppendU) (tVar i) (tCons te (tNil))) D σ H := by
  obtain ⟨xs, h1, r⟩ := F
  have sz : sizeLine = 16777216 := sizeLine_eq
  refine ⟨_, si, tyL h1, h H ExF.refl _ fun v d H1 x1 rv ov => ?_⟩
  have lx := r.1
  refine app (x1.at_ _ _ (by simp) h1) (by omega) fun H2 e2 => ?_
  have x2 : ExF (fl :: G) H1 H2 := exm e2 (.inr (by simp)) ExF.refl
  exact q d H2 ov (exm e2 (.inr (by simp)) x1.of) ⟨_, eqs e2, ((r.ex x1.of).snoc rv).ex x2⟩
/-- found.extend([..]) -/
theorem extDA {D : Ends} {fl : Addr} {G : List Addr} {es : List PyData} {i : Nat} {H : Hp} (si : σ[i]? = some (some (.ref fl))) (h : DA (fl :: G) n k ta σ H) (hk : k ≤ 1000) (F : FS fl G H es) (hz : es.length ≤ 1000)
    (q : ∀ ds H', okxs n ds = true → ds.length = k → ExF [fl] H H' → FS fl G H' (es ++ ds) → D.nx σ H') : tDrop (tBM K "list" (rExtU K) (tVar i) (tCons (tLstU ta) (tNil))) D σ H := by
  obtain ⟨xs, h1, r⟩ := F
  have sz : sizeLine = 16777216 := sizeLine_eq
  refine ⟨_, si, tyL h1, h H ExF.refl _ fun vs ds H1 x1 rv ov lv => ⟨by have := rv.1; omega, fun p H2 hp e2 => ?_⟩⟩
  have lx := r.1
  have lv' := rv.1
  have x12 : ExF [] H H2 := x1.trans (exn e2 hp)
  refine extL (x12.at_ _ _ (by simp) h1) (eqs e2) (by omega) fun H3 e3 => ?_
  have x3 : ExF (fl :: G) H2 H3 := exm e3 (.inr (by simp)) ExF.refl
  exact q ds H3 ov lv (exm e3 (.inr (by simp)) x12.of) ⟨_, eqs e3, ((r.ex x12.of).append (rv.ex (exn e2 hp))).ex x3⟩
/-- found.extend of a written list -/
theorem extLt {D : Ends} {fl : Addr} {G : List Addr} {es : List PyData} {i : Nat} {H : Hp} {ls : List Lt} {vs : List Nat} (dv : Nat → PyData) (si : σ[i]? = some (some (.ref fl))) (g : (Lt.lst ls).good vs = true) (hv : ∀ k, vs.contains k = true → ∃ v, σ[k]? = some (some v) ∧ Rp (fl :: G) H v (dv k)) (t : Trk G H)
    (ho : Lt.okxLs n ls = true) (hd : ∀ k, okx 6 (dv k) = true) (hl : ls.length ≤ 1000) (F : FS fl G H es) (hz : es.length ≤ 1000)
    (q : ∀ ds H', okxs n ds = true → ds.length = ls.length → ExF [fl] H H' → FS fl G H' (es ++ ds) → D.nx σ H') : tDrop (tBM K "list" (rExtU K) (tVar i) (tCons (tLt (.lst ls)) (tNil))) D σ H := by
  obtain ⟨xs, h1, r⟩ := F
  have sz : sizeLine = 16777216 := sizeLine_eq
  refine ⟨_, si, tyL h1, lit dv (fl :: G) vs g hv (t.cons h1) fun v H1 x1 rv => ?_⟩
  rw [Lt.d] at rv
  obtain ⟨b, ys, rfl, nb, hb, ry⟩ := rv.list_inv
  have h1' := x1.at_ _ _ (by simp) h1
  have ly := ry.1
  rw [Lt.ds_len] at ly
  have lx := r.1
  refine extL h1' hb (by omega) fun H2 e2 => ?_
  have x2 : ExF (fl :: G) H1 H2 := exm e2 (.inr (by simp)) ExF.refl
  exact q _ H2 (Lt.okx_ds ho hd) (by rw [Lt.ds_len]) (exm e2 (.inr (by simp)) x1.of) ⟨_, eqs e2, ((r.ex x1.of).append ry).ex x2⟩
end
/-! ### promises -/
def spOddP : Sp := fun vs H Q _ => ∃ (st cl : Addr) (c : Nat) (F G : List Addr) (l : Addr) (xs : List V) (rs : List (Str × Int)), vs = [.ref st, .ref l] ∧ Strm st cl H c ∧ c < 2 ^ 48 ∧ st ∈ F ∧ cl ∈ F ∧ H l = some (.lst xs) ∧ l ∉ [st, cl] ∧ RpL F H xs (rs.map prD) ∧ (∀ x ∈ rs, okS x.1 = true) ∧ rs.length ≤ 1000 ∧ Trk G H ∧
  ∀ (r : Addr) (ys : List V) (es : List PyData) (H' : Hp), Strm st cl H' (c + 1) → ExF [st, cl] H H' → H r = none → H' r = some (.lst ys) → RpL G H' ys es → (∀ d ∈ es, okx 12 d = true) → es.length ≤ 100 → Q (.ref r) H'
def spOddH : Sp := fun vs H Q _ => ∃ (G : List Addr) (v0 v1 : V), vs = [v0, v1] ∧ Trk G H ∧
  ∀ (r : Addr) (ys : List V) (es : List PyData) (H' : Hp), ExF [] H H' → H r = none → H' r = some (.lst ys) → RpL G H' ys es → (∀ d ∈ es, okx 12 d = true) → es.length ≤ 100 → Q (.ref r) H'
end Tw
end

section
set_option Elab.async false
set_option linter.all false
set_option maxRecDepth 100000
set_option maxHeartbeats 4000000
namespace Tw
open PySem L2 PyProof.Rows
noncomputable def t_l_odd_pairs_b2 (K : PySem.W.Frag) : TS := tDrop (tBM K "list" (rAppendU) (tVar 4) (tCons (tLt (.tup [.str "zz2", .var 5])) (tNil)))
noncomputable def t_l_odd_pairs_t3 (K : PySem.W.Frag) : TS := tRet (tOp (rAddU K) (tVar 4) (tLcU (iSeqU K (tLt (.tup [.str "A", .str "read", .str "tell", .str "ninesigns", .str "", .int 5, .non, .lst [.str "a"], .str "b\n"]))) (gName 5) (tYes) (tLt (.tup [.var 5, .int 77])) [5]))
noncomputable def t_l_odd_pairs_t2 (K : PySem.W.Frag) : TS := tSeq (tForU (iSeqU K (tTupU (tCons (tC (.int 0)) (tCons (tUn (rU fun i => .int (-i)) (tC (.int 1))) (tCons (tC (.int 1000)) (tCons (tC (.bl true)) (tCons (tC (.str "1")) (tCons (tC .non) (tCons (tLt (.lst [.int 1])) (tCons (tOp (rI CPow fun i j => .int (i ^ j.toNat)) (tC (.int 10)) (tC (.int 20))) (tNil))))))))))) (gName 5) (t_l_odd_pairs_b2 K)) (t_l_odd_pairs_t3 K)
noncomputable def t_l_odd_pairs_t1 (K : PySem.W.Frag) : TS := tSeq (tAsg (tLt (.lst [.non, .int 5, .str "ab", .dct, .tup [], .tup [.var 2], .tup [.var 2, .var 3, .int 1], .tup [.var 3, .var 2], .tup [.var 2, .int 8], .tup [.str "zz1", .var 3], .lst [.var 2, .var 3]])) (gName 4)) (t_l_odd_pairs_t2 K)
noncomputable def t_l_odd_pairs (K : PySem.W.Frag) : TS := tSeq (tAsg (tCall spPick [] E0 (tCons (tVar 0) (tCons (tOp (rAddU K) (tVar 1) (tLt (.lst [.tup [.str "zz", .int 7]]))) (tNil)))) (gTup K 2 (gCons (gName 2) (gCons (gName 3) (gNil))))) (t_l_odd_pairs_t1 K)
noncomputable def t_l_odd_hours_b3 (K : PySem.W.Frag) : TS := tDrop (tBM K "list" (rExtU K) (tVar 3) (tCons (tLt (.lst [.lst [.tup [.var 4, .str "f", .tup [.int 2]]], .lst [.tup [.int 1, .str "f", .tup [.int 2, .var 4]]]])) (tNil)))
noncomputable def t_l_odd_hours_t4 (K : PySem.W.Frag) : TS := tRet (tOp (rAddU K) (tVar 3) (tLcU (iSeqU K (tLt (.tup [.str "F", .str "read", .str "tell", .str "ninesigns", .str "", .int 5, .non, .lst [.str "f"]]))) (gName 4) (tYes) (tLt (.lst [.tup [.int 1, .var 4, .tup [.int 2]]])) [4]))
noncomputable def t_l_odd_hours_t3 (K : PySem.W.Frag) : TS := tSeq (tForU (iSeqU K (tLt (.tup [.int 0, .int 1000, .bl true, .non, .str "1", .lst [.int 2]]))) (gName 4) (t_l_odd_hours_b3 K)) (t_l_odd_hours_t4 K)
noncomputable def t_l_odd_hours_t2 (K : PySem.W.Frag) : TS := tSeq (tDrop (tBM K "list" (rExtU K) (tVar 3) (tCons (tLstU (tCons (tLt (.lst [.lst [.int 1, .str "f", .lst [.int 2]], .var 2])) (tCons (tLt (.lst [.tup [.int 1, .str "f", .int 2]])) (tCons (tLt (.lst [.tup [.int 1, .str "f", .str "2"]])) (tCons (tLstU (tCons (tTupU (tCons (tC (.int 1)) (tCons (tC (.str "f")) (tCons (tDisp [(tC (.int 2), tC (.int 3))]) (tNil))))) (tNil))) (tCons (tLt (.lst [.tup [.int 1, .str "f", .tup []]])) (tNil))))))) (tNil)))) (t_l_odd_hours_t3 K)
noncomputable def t_l_odd_hours_t1 (K : PySem.W.Frag) : TS := tSeq (tAsg (tLstU (tCons (tC .non) (tCons (tC (.int 5)) (tCons (tC (.str "ab")) (tCons (tDNewK) (tCons (tLt (.tup [])) (tCons (tOp rMulU (tLt (.lst [.var 2])) (tC (.int 2))) (tCons (tOp rMulU (tLt (.lst [.var 2])) (tC (.int 3))) (tCons (tVar 2) (tCons (tLt (.lst [.non])) (tCons (tLt (.lst [.var 2, .int 5])) (tCons (tLt (.lst [.tup [.int 1, .str "f"]])) (tCons (tLt (.lst [.tup [.int 1, .str "f", .tup [.int 2], .int 3]])) (tNil)))))))))))))) (gName 3)) (t_l_odd_hours_t2 K)
noncomputable def t_l_odd_hours (K : PySem.W.Frag) : TS := tSeq (tAsg (tLt (.tup [.int 1, .str "f", .tup [.int 2, .int 3]])) (gName 2)) (t_l_odd_hours_t1 K)

/-- [te for x in (..)] of a written tuple, te data -/
theorem lcLtT {K : PySem.W.Frag} {F : List Addr} {n m k : Nat} {ls : List Lt} {te : TE} {vs : List Nat} {σ : L2.St} {H : Hp} {Q : VK} (g : (Lt.tup ls).good [] = true) (ho : Lt.okxLs m ls = true) (hl : ls.length ≤ 1000) (t : Trk F H) (hw : ∀ x, wipe ((wipe σ vs).set k (some x)) vs = wipe σ vs)
    (hs : ∀ (x : V) (d : PyData) (D : Addr) (H' : Hp), ExF [] H H' → Rp (D :: F) H' x d → okx m d = true → Trk (D :: F) H' → DE (D :: F) n te ((wipe σ vs).set k (some x)) H')
    (hd : ∀ r ys es H', H r = none → H' r = some (.lst ys) → RpL F H' ys es → okxs n es = true → es.length = ls.length → ExF [] H H' → Q (.ref r) H') : tLcU (iSeqU K (tLt (.tup ls))) (gName k) tYes te vs σ H Q := by
  have sz : sizeLine = 16777216 := sizeLine_eq
  unfold tLcU
  refine .inr (.inl ?_)
  refine litT (fun _ => .none) F [] g (by simp) t fun p xs H1 hp h1 r1 x1 => ⟨p, rfl, ⟨xs, .inl (.inl h1)⟩, fun D hD => ?_⟩
  refine lcAtT hD ?_
  have l1 := r1.1
  rw [Lt.ds_len] at l1
  have okd : okxs m (Lt.ds (fun _ => PyData.none) ls) = true := Lt.okx_ds ho (fun _ => by rw [okx])
  refine lcS (M := []) (xs := xs) (iter_atT h1 (by simp))
    (fun H2 D2 i H' => ∃ (acc : List V) (es : List PyData), acc.length = i ∧ H' D2 = some (.lst acc) ∧ RpL (D2 :: F) H' acc es ∧ okxs n es = true ∧ es.length = i ∧ ExF [D2] H2 H')
    (fun H2 D2 H3 x hD e => ⟨[], [], rfl, eqs e, RpL.nil, by rw [okxs], rfl, exn e hD⟩) (fun H2 D2 i H' hD ⟨_, _, _, _, _, _, _, x⟩ => x) ?_ ?_
  · rintro H2 D2 i x H' x2 hD2 hx ⟨acc, es, la, hH, r, oo, le, x3⟩
    have hi := get_lt hx
    obtain ⟨d, hd', rd⟩ := ((r1.drop.ex x2.of).add hD2).get' hx
    refine ⟨hw x, ?_⟩
    unfold tYes
    dsimp only
    rw [if_pos rfl]
    have xx : ExF [] H H' := x1.trans (x2.trans (x3.drop hD2))
    have tD : Trk (D2 :: F) H' := fun a z => by
      rcases List.mem_cons.mp z with z | z
      · rw [z, hH]; exact fun z => nomatch z
      · exact (t.ex xx) a z
    refine hs x d D2 H' xx (rd.ex (x3.sub (by simp))) (okxs_iff.mp okd d (List.mem_of_getElem? hd')) tD H' ExF.refl _ fun v e H4 x4 rv ov => ?_
    refine ⟨acc, x4.at_ _ _ (by simp) hH, by omega, acc ++ [v], es ++ [e], by simp [la], upd_same, ?_, ?_, by simp [le], exm rfl (.inr (by simp)) (x3.trans x4.of)⟩
    · exact ((r.ex x4.of).snoc rv).ex ((ExF.refl.mut (.inr (by simp)) : ExF [D2] H4 _).sub fun a z => by rw [List.mem_singleton.mp z]; exact List.mem_cons_self)
    · exact okxs_append.mpr ⟨oo, okxs_cons.mpr ⟨ov, by rw [okxs]⟩⟩
  · rintro H2 D2 H' x2 hD2 ⟨acc, es, la, hH, r, oo, le, x3⟩ hDe
    cases hDe
    exact hd D acc es H' (x1.free (x2.free hD2)) hH r.drop oo (by omega) (x1.trans (x2.trans (x3.drop hD2)))
theorem forDA {K : PySem.W.Frag} {F : List Addr} {n k : Nat} {ta : TA} {σ : L2.St} {H : Hp} {R : It → Hp → Prop} (h : DA F n k ta σ H) (hk : k ≤ 1000) (q : ∀ p ws ds H1, H p = none → H1 p = some (.tup ws) → ExF [] H H1 → RpL F H1 ws ds → okxs n ds = true → ds.length = k → R (Itt K p) H1) : iTup K (tTupU ta) σ H R := by
  unfold iTup tTupU
  refine h H ExF.refl _ fun ws ds H1 x1 r oo ll => ⟨by have := r.1; rw [sizeLine_eq]; omega, fun p H2 hp e2 => ?_⟩
  exact ⟨p, rfl, ⟨ws, .inl (.inl (eqs e2))⟩, q p ws ds H2 (x1.free hp) (eqs e2) (x1.trans (exn e2 hp)) (r.ex (exn e2 hp)) oo ll⟩
theorem rd_l_odd_pairs (K : PySem.W.Frag) {vs : List V} {H : Hp} {Q : VK} {E : XK} (h : spOddP vs H Q E) :
    t_l_odd_pairs K { nx := fun _ H' => Q .non H', rt := Q } (start ["_law_stream", "_law_pairs", "_law_name", "_law_cell", "_law_found", "_law_odd"] vs) H := by
  obtain ⟨st, cl, c, F, G, l, xs, rs, rfl, S, hc, sF, cF, hl, nl, rx, hrs, lrs, tG, q⟩ := h
  have sz : sizeLine = 16777216 := sizeLine_eq
  refine ⟨_, rfl, _, rfl, ?_⟩
  have lx := rx.1
  rw [List.length_map] at lx
  refine litL (fun _ => .none) [st, cl] [] rfl (by simp) S.trk fun p xs1 H1 hp h1 r1 x1 => ?_
  have l1 := r1.1
  rw [Lt.ds_len] at l1
  have l1 : xs1.length = 1 := l1
  refine catL (x1.at_ _ _ (by simp) hl) h1 (by omega) fun p2 H2 hp2 e2 => ?_
  have x2 : ExF [] H H2 := x1.trans (exn e2 hp2)
  have S2 := S.ex' (by simp) (by simp) x2
  have np2 : p2 ∉ [st, cl] := ((S.ex' (by simp) (by simp) x1).trk).nin hp2
  refine ⟨st, cl, c, p2, _, rfl, S2, hc, .inl (eqs e2), fun z => np2 (by simp [z]), fun z => np2 (by simp [z]), by rw [List.length_append]; omega, by rw [List.length_append]; omega, fun j v H3 hv S3 y3 => ?_⟩
  -- the pair
  have hpair : ∃ (a : Addr) (s : Str) (i : Int), v = .ref a ∧ H3 a = some (.tup [.str s, .int i]) ∧ okS s = true := by
    have sub : ∀ a ∈ [st, cl], a ∈ F := fun a z => by
      simp only [List.mem_cons, List.not_mem_nil, or_false] at z
      rcases z with z | z <;> rw [z] <;> assumption
    have both : RpL [st, cl] H3 (xs ++ xs1) (rs.map prD ++ Lt.ds (fun _ => PyData.none) [.tup [.str "zz", .int 7]]) :=
      (((rx.sub sub).ex x1.of).append r1.drop).ex ((exn e2 hp2).trans y3)
    obtain ⟨d, hd, rd⟩ := both.get' hv
    have hd' : ∃ (s : Str) (i : Int), d = .tuple [.str s, .int i] ∧ okS s = true := by
      rcases List.mem_append.mp (List.mem_of_getElem? hd) with h | h
      · obtain ⟨x, hx, rfl⟩ := List.mem_map.mp h
        exact ⟨x.1, x.2, rfl, hrs x hx⟩
      · have h : d ∈ [PyData.tuple [.str "zz", .int 7]] := h
        rw [List.mem_singleton.mp h]
        exact ⟨"zz", 7, rfl, by decide +kernel⟩
    obtain ⟨s, i, rfl, hs⟩ := hd'
    obtain ⟨a, ws, rfl, na, ha, rw0⟩ := rd.tuple_inv
    obtain ⟨w0, ws1, rfl, rw1, rws⟩ := rw0.cons_inv
    obtain ⟨w1, ws2, rfl, rw2, rws2⟩ := rws.cons_inv
    cases rw1.str_inv
    cases rw2.int_inv
    cases rws2.nil_inv
    exact ⟨a, s, i, rfl, ha, hs⟩
  obtain ⟨a, s, i, rfl, ha, hs⟩ := hpair
  refine ⟨a, _, rfl, .inl (.inl ha), rfl, _, _, rfl, _, _, rfl, rfl, ?_⟩
  have x03 : ExF [st, cl] H H3 := x2.of.trans y3
  have tG3 : Trk G H3 := tG.ex x03
  -- the first things
  have hvv : ∀ {X : List Addr} {A : Hp} {u4 u5 : Option V} (k : Nat), ([2, 3] : List Nat).contains k = true → ∃ v, ([some (.ref st), some (.ref l), some (.str s), some (.int i), u4, u5] : L2.St)[k]? = some (some v) ∧ Rp X A v ((fun k : Nat => if k = 2 then PyData.str s else .int i) k) := by
    intro X A u4 u5 k hk
    have hk : k = 2 ∨ k = 3 := by simpa using hk
    rcases hk with rfl | rfl
    · exact ⟨_, rfl, .str s⟩
    · exact ⟨_, rfl, .int i⟩
  have hdv : ∀ k, okx 6 ((fun k : Nat => if k = 2 then PyData.str s else .int i) k) = true := fun k => by
    dsimp only
    split
    · rw [okx_str]; exact hs
    · rw [okx]
  refine litL (fun k => if k = 2 then PyData.str s else .int i) G [2, 3] rfl (hvv (u4 := none) (u5 := none)) tG3 fun fl xs4 H4 hfl h4 r4 x4 => ?_
  have F4 : FS fl G H4 (Lt.ds (fun k => if k = 2 then PyData.str s else .int i) [.non, .int 5, .str "ab", .dct, .tup [], .tup [.var 2], .tup [.var 2, .var 3, .int 1], .tup [.var 3, .var 2], .tup [.var 2, .int 8], .tup [.str "zz1", .var 3], .lst [.var 2, .var 3]]) := ⟨xs4, h4, r4⟩
  have O4 : okxs 9 (Lt.ds (fun k => if k = 2 then PyData.str s else .int i) [.non, .int 5, .str "ab", .dct, .tup [], .tup [.var 2], .tup [.var 2, .var 3, .int 1], .tup [.var 3, .var 2], .tup [.var 2, .int 8], .tup [.str "zz1", .var 3], .lst [.var 2, .var 3]]) = true := Lt.okx_ds (by decide +kernel) hdv
  generalize hes : Lt.ds (fun k => if k = 2 then PyData.str s else .int i) [.non, .int 5, .str "ab", .dct, .tup [], .tup [.var 2], .tup [.var 2, .var 3, .int 1], .tup [.var 3, .var 2], .tup [.var 2, .int 8], .tup [.str "zz1", .var 3], .lst [.var 2, .var 3]] = es4 at *
  have le4 : es4.length = 11 := by rw [← hes, Lt.ds_len]; rfl
  have tF4 : Trk (fl :: G) H4 := F4.trk (tG3.ex x4)
  have x34 : ExF [] H3 H4 := x4
  -- more
  have hA : DA (fl :: G) 6 8 (tCons (tC (.int 0)) (tCons (tUn (rU fun i => .int (-i)) (tC (.int 1))) (tCons (tC (.int 1000)) (tCons (tC (.bl true)) (tCons (tC (.str "1")) (tCons (tC .non) (tCons (tLt (.lst [.int 1])) (tCons (tOp (rI CPow fun i j => .int (i ^ j.toNat)) (tC (.int 10)) (tC (.int 20))) (tNil))))))))) [some (.ref st), some (.ref l), some (.str s), some (.int i), some (.ref fl), none] H4 :=
    .cons (.int _) (.cons (.neg _) (.cons (.int _) (.cons (.bl _) (.cons (.str (by decide +kernel)) (.cons .non (.cons (DE.lt0 rfl tF4 (by decide +kernel)) (.cons (fun A xA Qa qa => ⟨_, _, rfl, rfl, (by unfold CPow; decide), qa _ _ A ExF.refl (.int _) (by rw [okx])⟩) .nil)))))))
  refine forI (.inr (.inl ?_))
  refine forDA hA (by decide) fun p6 ws ds H6 hp6 h6 x46 rw5 ow5 lw5 => ?_
  have np6 : p6 ≠ fl := fun e => tF4 p6 (by simp [e]) hp6
  have lws := rw5.1
  refine for_it (wkT (xs := ws)) (fun j σ' H' => ∃ (es : List PyData) (u5 : Option V), σ' = [some (.ref st), some (.ref l), some (.str s), some (.int i), some (.ref fl), u5] ∧ FS fl G H' es ∧ es.length = 11 + j ∧ okxs 12 es = true ∧ ExF [fl] H6 H')
    ⟨es4, none, rfl, F4.ex x46, by omega, okxs_iff.mpr fun d hd => okx_le (okxs_iff.mp O4 d hd) (by decide), ExF.refl⟩ (fun j σ' H' _ ⟨_, _, _, _, _, _, x⟩ => x.at_ _ _ (by simpa using np6) h6) ?_ ?_
  · rintro j y σ' H' H'' _ ⟨es, u5, rfl, FS7, le7, oo7, x7⟩ ⟨e, hy⟩
    subst e
    obtain ⟨d, hd, rd⟩ := (rw5.ex (x7.sub (by simp) : ExF (fl :: G) H6 H'')).get' hy
    have hj := get_lt hy
    have t7 : Trk (fl :: G) H'' := FS7.trk ((tG3.ex x4).ex (x46.of.trans x7))
    refine appDE (n := 10) (i := 4) rfl (DE.lt (vs := [5]) (fun _ => d) rfl (fun k hk => ?_) t7 (by decide +kernel) (fun _ => okxs_iff.mp ow5 d (List.mem_of_getElem? hd))) FS7 (by omega) fun d' H8 od x8 F8 => ?_
    · have hk : k = 5 := by simpa using hk
      subst hk
      exact ⟨_, rfl, rd⟩
    · exact ⟨es ++ [d'], _, rfl, F8, by simp; omega, okxs_append.mpr ⟨oo7, okxs_cons.mpr ⟨okx_le od (by decide), by rw [okxs]⟩⟩, x7.trans x8⟩
  · rintro σ' H7 ⟨es, u5, rfl, FS7, le7, oo7, x7⟩
    have x47 : ExF [fl] H4 H7 := x46.of.trans x7
    have t7 : Trk (fl :: G) H7 := FS7.trk ((tG3.ex x4).ex x47)
    have x37 : ExF [] H3 H7 := (x4.of.trans x47).drop hfl
    have st37 : ExF [st, cl] H H7 := x03.trans x37.of
    refine ⟨_, rfl, ?_⟩
    refine lcLtT (F := fl :: G) (n := 10) (m := 6) (k := 5) rfl (by decide +kernel) (by decide) t7 (fun _ => rfl) (fun x d D H' xx rx ox tD => DE.lt (vs := [5]) (fun _ => d) rfl (fun k hk => ?_) tD (by decide +kernel) (fun _ => ox)) fun r ys es2 H8 hr8 hy8 ry8 oo8 le8 x8 => ?_
    · have hk : k = 5 := by simpa using hk
      subst hk
      exact ⟨_, rfl, rx⟩
    · obtain ⟨xs7, h7, r7⟩ := FS7
      have l7 := r7.1
      have l8 := ry8.1
      have le8 : es2.length = 9 := le8
      refine catL (x8.at_ _ _ (by simp) h7) hy8 (by rw [sz]; omega) fun p9 H9 hp9 e9 => ?_
      have x39 : ExF [] H3 H9 := x37.trans (x8.trans (exn e9 hp9))
      have nf : H p9 = none := by
        have h1 := (x37.trans x8).free hp9
        have h2 := y3.free h1
        exact x2.free h2
      have sG : ∀ a ∈ G, a ∈ fl :: G := fun a z => List.mem_cons_of_mem _ z
      have st39 : ExF [st, cl] H H9 := x03.trans x39.of
      refine q p9 _ (es ++ es2) H9 (S3.ex' (by simp) (by simp) x39) st39 nf (eqs e9) ((((r7.sub sG).ex x8.of).append (ry8.sub sG)).ex (exn e9 hp9)) (fun d hd => ?_) (by rw [List.length_append]; omega)
      rcases List.mem_append.mp hd with z | z
      · exact okxs_iff.mp oo7 d z
      · exact okx_le (okxs_iff.mp oo8 d z) (by decide)

theorem RpL.repl {F : List Addr} {H : Hp} {v : V} {d : PyData} (r : Rp F H v d) : ∀ k : Nat, RpL F H (List.replicate k v) (List.replicate k d)
  | 0 => .nil
  | k + 1 => by rw [List.replicate_succ, List.replicate_succ]; exact .cons r (RpL.repl r k)
theorem flat_rep (k : Nat) (w : V) : (List.replicate k [w]).flatten = List.replicate k w := by
  induction k with
  | zero => rfl
  | succ k ih => rw [List.replicate_succ, List.flatten_cons, ih]; rfl
theorem lstDA {F : List Addr} {n k : Nat} {ta : TA} {σ : L2.St} {H : Hp} {Q : VK} (h : DA F n k ta σ H) (hk : k ≤ 1000) (q : ∀ p ws ds H1, H p = none → H1 p = some (.lst ws) → ExF [] H H1 → RpL (p :: F) H1 ws ds → okxs n ds = true → ds.length = k → Q (.ref p) H1) : tLstU ta σ H Q := by
  unfold tLstU
  exact h H ExF.refl _ fun ws ds H1 x1 r oo ll => ⟨by have := r.1; rw [sizeLine_eq]; omega, fun p H2 hp e2 => q p ws ds H2 (x1.free hp) (eqs e2) (x1.trans (exn e2 hp)) ((r.add hp).ex (exn e2 hp)) oo ll⟩
section
variable {K : PySem.W.Frag} {v0 v1 v2 : V} {d2 : PyData} {G : List Addr} {H : Hp} {Q : VK} {fl : Addr}
set_option maxHeartbeats 400000
theorem odd_hours_4 {es : List PyData} {u4 : Option V} (FS7 : FS fl G H es) (tG : Trk G H) (le7 : es.length = 29) (oo7 : okxs 12 es = true)
    (q : ∀ (r : Addr) (ys : List V) (es : List PyData) (H' : Hp), ExF [] H H' → H r = none → H' r = some (.lst ys) → RpL G H' ys es → (∀ d ∈ es, okx 12 d = true) → es.length ≤ 100 → Q (.ref r) H') :
    t_l_odd_hours_t4 K { nx := fun _ H' => Q .non H', rt := Q } [some v0, some v1, some v2, some (.ref fl), u4] H := by
  have sz : sizeLine = 16777216 := sizeLine_eq
  have t7 : Trk (fl :: G) H := FS7.trk tG
  refine ⟨_, rfl, ?_⟩
  refine lcLtT (F := fl :: G) (n := 10) (m := 6) (k := 4) rfl (by decide +kernel) (by decide) t7 (fun _ => rfl) (fun x d D H' xx rx ox tD => DE.lt (vs := [4]) (fun _ => d) rfl (fun k hk => ?_) tD (by decide +kernel) (fun _ => ox)) fun r ys es2 H8 hr8 hy8 ry8 oo8 le8 x8 => ?_
  · have hk : k = 4 := by simpa using hk
    subst hk
    exact ⟨_, rfl, rx⟩
  · obtain ⟨xs7, h7, r7⟩ := FS7
    have l7 := r7.1
    have l8 := ry8.1
    have le8 : es2.length = 8 := le8
    refine catL (x8.at_ _ _ (by simp) h7) hy8 (by rw [sz]; omega) fun p9 H9 hp9 e9 => ?_
    have sG : ∀ a ∈ G, a ∈ fl :: G := fun a z => List.mem_cons_of_mem _ z
    refine q p9 _ (es ++ es2) H9 (x8.trans (exn e9 hp9)) (x8.free hp9) (eqs e9) ((((r7.sub sG).ex x8.of).append (ry8.sub sG)).ex (exn e9 hp9)) (fun d hd => ?_) (by rw [List.length_append]; omega)
    rcases List.mem_append.mp hd with z | z
    · exact okxs_iff.mp oo7 d z
    · exact okx_le (okxs_iff.mp oo8 d z) (by decide)
theorem odd_hours_3 {es : List PyData} (F3 : FS fl G H es) (tG3 : Trk G H) (le3 : es.length = 17) (oo3 : okxs 12 es = true)
    (q : ∀ (r : Addr) (ys : List V) (es : List PyData) (H' : Hp), ExF [fl] H H' → H r = none → H' r = some (.lst ys) → RpL G H' ys es → (∀ d ∈ es, okx 12 d = true) → es.length ≤ 100 → Q (.ref r) H') :
    t_l_odd_hours_t3 K { nx := fun _ H' => Q .non H', rt := Q } [some v0, some v1, some v2, some (.ref fl), none] H := by
  refine forI (.inr (.inl ?_))
  refine litT (fun _ => .none) (fl :: G) [] rfl (by simp) (F3.trk tG3) fun p4 xs4 H4 hp4 h4 r4 x4 => ⟨p4, rfl, ⟨xs4, .inl (.inl h4)⟩, ?_⟩
  have np4 : p4 ≠ fl := fun e => (F3.trk tG3) p4 (by simp [e]) hp4
  have l4 := r4.1
  rw [Lt.ds_len] at l4
  have l4 : xs4.length = 6 := l4
  have o4 : okxs 6 (Lt.ds (fun _ => PyData.none) [.int 0, .int 1000, .bl true, .non, .str "1", .lst [.int 2]]) = true := Lt.okx_ds (by decide +kernel) (fun _ => by rw [okx])
  refine for_it (wkT (xs := xs4)) (fun j σ' H' => ∃ (es : List PyData) (u4 : Option V), σ' = [some v0, some v1, some v2, some (.ref fl), u4] ∧ FS fl G H' es ∧ es.length = 17 + 2 * j ∧ okxs 12 es = true ∧ ExF [fl] H4 H')
    ⟨es, none, rfl, F3.ex x4, le3, oo3, ExF.refl⟩ (fun j σ' H' _ ⟨_, _, _, _, _, _, x⟩ => x.at_ _ _ (by simpa using np4) h4) ?_ ?_
  · rintro j y σ' H' H'' _ ⟨es, u4, rfl, FS7, le7, oo7, x7⟩ ⟨e, hy⟩
    subst e
    obtain ⟨d, hd, rd⟩ := (r4.drop.ex (x7.sub (by simp) : ExF (fl :: G) H4 H'')).get' hy
    have hj := get_lt hy
    have t7 : Trk G H'' := (tG3.ex x4).ex x7
    refine extLt (n := 10) (i := 3) (vs := [4]) (fun _ => d) rfl rfl (fun k hk => ?_) t7 (by decide +kernel) (fun _ => okxs_iff.mp o4 d (List.mem_of_getElem? hd)) (by decide) FS7 (by omega) fun d' H8 od ld x8 F8 => ?_
    · have hk : k = 4 := by simpa using hk
      subst hk
      exact ⟨_, rfl, rd⟩
    · have ld : d'.length = 2 := ld
      exact ⟨es ++ d', _, rfl, F8, by rw [List.length_append]; omega, okxs_append.mpr ⟨oo7, okxs_iff.mpr fun z hz => okx_le (okxs_iff.mp od z hz) (by decide)⟩, x7.trans x8⟩
  · rintro σ' H7 ⟨es, u4, rfl, FS7, le7, oo7, x7⟩
    have x47 : ExF [fl] H H7 := x4.of.trans x7
    exact odd_hours_4 FS7 (tG3.ex x47) (by omega) oo7 fun r ys es2 H8 x8 hr8 hy8 ry8 o8 l8 => q r ys es2 H8 (x47.trans x8.of) (by
      have h1 := hr8
      cases e : H r with
      | none => rfl
      | some o => exact absurd h1 (x47.kept r (by rw [e]; exact fun z => nomatch z))) hy8 ry8 o8 l8
theorem odd_hours_2 {es : List PyData} (F2 : FS fl G H es) (tG : Trk G H) (r22 : Rp (fl :: G) H v2 d2) (o2 : okx 6 d2 = true) (le : es.length = 12) (oo : okxs 8 es = true)
    (q : ∀ (r : Addr) (ys : List V) (es : List PyData) (H' : Hp), ExF [fl] H H' → H r = none → H' r = some (.lst ys) → RpL G H' ys es → (∀ d ∈ es, okx 12 d = true) → es.length ≤ 100 → Q (.ref r) H') :
    t_l_odd_hours_t2 K { nx := fun _ H' => Q .non H', rt := Q } [some v0, some v1, some v2, some (.ref fl), none] H := by
  have tF2 : Trk (fl :: G) H := F2.trk tG
  have hv3 : ∀ (k : Nat), ([2] : List Nat).contains k = true → ∃ v, ([some v0, some v1, some v2, some (.ref fl), none] : L2.St)[k]? = some (some v) ∧ Rp (fl :: G) H v ((fun _ => d2) k) := fun k hk => by
    have hk : k = 2 := by simpa using hk
    subst hk
    exact ⟨_, rfl, r22⟩
  have h1 : DE (fl :: G) 8 (tLt (.lst [.lst [.int 1, .str "f", .lst [.int 2]], .var 2])) [some v0, some v1, some v2, some (.ref fl), none] H := DE.lt (vs := [2]) (fun _ => d2) rfl hv3 tF2 (by decide +kernel) (fun _ => o2)
  have h2 : DE (fl :: G) 8 (tLt (.lst [.tup [.int 1, .str "f", .int 2]])) [some v0, some v1, some v2, some (.ref fl), none] H := DE.lt0 rfl tF2 (by decide +kernel)
  have h3 : DE (fl :: G) 8 (tLt (.lst [.tup [.int 1, .str "f", .str "2"]])) [some v0, some v1, some v2, some (.ref fl), none] H := DE.lt0 rfl tF2 (by decide +kernel)
  have h4 : DE (fl :: G) 8 (tLstU (tCons (tTupU (tCons (tC (.int 1)) (tCons (tC (.str "f")) (tCons (tDisp [(tC (.int 2), tC (.int 3))]) (tNil))))) (tNil))) [some v0, some v1, some v2, some (.ref fl), none] H :=
    DE.lst (n := 7) (k := 1) tF2 (DA.cons (DE.tup (n := 6) (k := 3) tF2 (DA.cons (DE.int _) (DA.cons (DE.str (by decide +kernel)) (DA.cons (DE.disp tF2 _ _) DA.nil))) (by decide)) DA.nil) (by decide)
  have h5 : DE (fl :: G) 8 (tLt (.lst [.tup [.int 1, .str "f", .tup []]])) [some v0, some v1, some v2, some (.ref fl), none] H := DE.lt0 rfl tF2 (by decide +kernel)
  have hB := DA.cons h1 (DA.cons h2 (DA.cons h3 (DA.cons h4 (DA.cons h5 DA.nil))))
  unfold t_l_odd_hours_t2
  refine extDA (i := 3) rfl hB (by decide) F2 (by omega) fun ds3 H3 o3 l3 x3 F3 => ?_
  exact odd_hours_3 F3 (tG.ex x3) (by rw [List.length_append]; omega) (okxs_append.mpr ⟨okxs_iff.mpr fun d hd => okx_le (okxs_iff.mp oo d hd) (by decide), okxs_iff.mpr fun d hd => okx_le (okxs_iff.mp o3 d hd) (by decide)⟩) fun r ys es2 H8 x8 hr8 hy8 ry8 o8 l8 => q r ys es2 H8 (x3.trans x8) (by
      cases e : H r with
      | none => rfl
      | some o => exact absurd hr8 (x3.kept r (by rw [e]; exact fun z => nomatch z))) hy8 ry8 o8 l8
end
section
variable {K : PySem.W.Frag} {v0 v1 v2 : V} {d2 : PyData} {G : List Addr} {H : Hp} {Q : VK}
set_option maxHeartbeats 400000
theorem DE.mul {σ : L2.St} (k : Nat) (i : Int) (hi : i = (k : Nat)) (hk : k ≤ 3) (hv : σ[2]? = some (some v2)) (t : Trk G H) (r2 : Rp G H v2 d2) (o2 : okx 6 d2 = true) : DE G 8 (tOp rMulU (tLt (.lst [.var 2])) (tC (.int i))) σ H := by
  subst hi
  intro A xA Qa qa
  refine litL (fun _ => d2) G [2] rfl (fun j hj => ?_) (t.ex xA) fun p xs H2 hp h2 rr x2 => ?_
  · have hj : j = 2 := by simpa using hj
    subst hj
    exact ⟨_, hv, r2.ex xA.of⟩
  have rr' := rr.drop
  obtain ⟨w, ws, rfl, rw1, rw2⟩ := rr'.cons_inv
  cases rw2.nil_inv
  refine repL k h2 (by rw [sizeLine_eq]; simp; omega) (by omega) fun p2 H3 hp2 e3 => ?_
  rw [flat_rep] at e3
  have nG : p2 ∉ G := ((t.ex xA).ex x2).nin hp2
  exact qa (.ref p2) (.list (List.replicate k d2)) H3 (x2.trans (exn e3 hp2)) (.list nG (eqs e3) ((RpL.repl rw1 k).ex (exn e3 hp2))) (okx_list.mpr ⟨okxs_iff.mpr fun d hd => by rw [List.eq_of_mem_replicate hd]; exact okx_le o2 (by decide), by rw [List.length_replicate]; omega⟩)
theorem asgDA {F : List Addr} {n k i : Nat} {ta : TA} {tb : TS} {D : Ends} {σ : L2.St} (h : DA F n k ta σ H) (hk : k ≤ 1000) (q : ∀ p ws ds H1, H p = none → H1 p = some (.lst ws) → ExF [] H H1 → RpL (p :: F) H1 ws ds → okxs n ds = true → ds.length = k → tb D (σ.set i (some (.ref p))) H1) : tSeq (tAsg (tLstU ta) (gName i)) tb D σ H := by
  unfold tSeq tAsg
  exact lstDA h hk fun p ws ds H1 h1 h2 h3 h4 h5 h6 => q p ws ds H1 h1 h2 h3 h4 h5 h6
theorem odd_hours_1 (t1 : Trk G H) (r2 : Rp G H v2 d2) (o2 : okx 6 d2 = true)
    (q : ∀ (r : Addr) (ys : List V) (es : List PyData) (H' : Hp), ExF [] H H' → H r = none → H' r = some (.lst ys) → RpL G H' ys es → (∀ d ∈ es, okx 12 d = true) → es.length ≤ 100 → Q (.ref r) H') :
    t_l_odd_hours_t1 K { nx := fun _ H' => Q .non H', rt := Q } [some v0, some v1, some v2, none, none] H := by
  have hvv : ∀ (k : Nat), ([2] : List Nat).contains k = true → ∃ v, ([some v0, some v1, some v2, none, none] : L2.St)[k]? = some (some v) ∧ Rp G H v ((fun _ => d2) k) := fun k hk => by
    have hk : k = 2 := by simpa using hk
    subst hk
    exact ⟨_, rfl, r2⟩
  have a1 : DA G 8 0 tNil [some v0, some v1, some v2, none, none] H := DA.nil
  have a2 := DA.cons (DE.lt0 (L := .lst [.tup [.int 1, .str "f", .tup [.int 2], .int 3]]) rfl t1 (by decide +kernel)) a1
  have a3 := DA.cons (DE.lt0 (L := .lst [.tup [.int 1, .str "f"]]) rfl t1 (by decide +kernel)) a2
  have a4 := DA.cons (DE.lt (L := .lst [.var 2, .int 5]) (vs := [2]) (fun _ => d2) rfl hvv t1 (by decide +kernel) (fun _ => o2)) a3
  have a5 := DA.cons (DE.lt0 (L := .lst [.non]) rfl t1 (by decide +kernel)) a4
  have a6 := DA.cons (DE.var (i := 2) rfl r2 (okx_le o2 (by decide))) a5
  have a7 := DA.cons (DE.mul 3 3 rfl (by decide) rfl t1 r2 o2) a6
  have a8 := DA.cons (DE.mul 2 2 rfl (by decide) rfl t1 r2 o2) a7
  have a9 := DA.cons (DE.lt0 (L := .tup []) rfl t1 (by decide +kernel)) a8
  have a10 := DA.cons (DE.dct t1) a9
  have a11 := DA.cons (DE.str (s := "ab") (by decide +kernel)) a10
  have a12 := DA.cons (DE.int 5) a11
  have a13 := DA.cons DE.non a12
  unfold t_l_odd_hours_t1
  refine asgDA a13 (by decide) fun fl xs ds H2 hfl hf2 x2 rf of lf => ?_
  have F2 : FS fl G H2 ds := ⟨xs, hf2, rf⟩
  exact odd_hours_2 F2 (t1.ex x2) ((r2.add hfl).ex x2.of) o2 lf of fun r ys es2 H8 x8 hr8 hy8 ry8 o8 l8 => q r ys es2 H8 ((x2.of.trans x8).drop hfl) (x2.free hr8) hy8 ry8 o8 l8
theorem rd_l_odd_hours (K : PySem.W.Frag) {vs : List V} {E : XK} (h : spOddH vs H Q E) :
    t_l_odd_hours K { nx := fun _ H' => Q .non H', rt := Q } (start ["_law_stream", "_law_hours", "_law_row", "_law_found", "_law_odd"] vs) H := by
  obtain ⟨G, v0, v1, rfl, tG, q⟩ := h
  unfold t_l_odd_hours
  refine DE.lt0 (F := G) (n := 6) rfl tG (by decide +kernel) H ExF.refl _ fun v2 d2 H1 x1 r2 o2 => ?_
  exact odd_hours_1 (tG.ex x1) r2 o2 fun r ys es2 H8 x8 hr8 hy8 ry8 o8 l8 => q r ys es2 H8 (x1.trans x8) (x1.free hr8) hy8 ry8 o8 l8
end

end Tw
end

section
set_option Elab.async false
set_option linter.all false
set_option maxRecDepth 100000
set_option maxHeartbeats 4000000
namespace Tw
open PySem L2 PyProof.Rows
/-! ### the same by other brackets -/
theorem cellD_tup : ∀ d : PyData, cellD (tupD d) = cellD d
  | .list ds => by rw [tupD]; rfl
  | .tuple ds => by rw [tupD]; rfl
  | .str s => by rw [tupD]
  | .none => by rw [tupD]
  | .bool _ => by rw [tupD]
  | .int _ => by rw [tupD]
  | .dict _ => by rw [tupD]
theorem pairD_tup (d : PyData) : pairD (tupD d) = pairD d := by
  unfold pairD
  rw [items_tup]
  cases items d with
  | none => rfl
  | some ds =>
    match ds with
    | [] => rw [Option.map_some, tups]
    | [a] => rw [Option.map_some, tups, tups]; rfl
    | [a, b] => rw [Option.map_some, tups, tups, tups]; simp only [pairL]; rw [nameD_tup, cellD_tup]
    | a :: b :: c :: r => rw [Option.map_some, tups, tups, tups]; rfl
theorem cellsD_tup (d : PyData) : cellsD (tupD d) = cellsD d := by
  unfold cellsD
  rw [items_tup]
  cases items d with
  | none => rfl
  | some ds =>
    show (tups ds).all cellD = ds.all cellD
    rw [tups_map, List.all_map]
    exact List.all_congr rfl fun d => cellD_tup d
theorem rowD_tup (d : PyData) : rowD (tupD d) = rowD d := by
  unfold rowD
  rw [items_tup]
  cases items d with
  | none => rfl
  | some ds =>
    match ds with
    | [] => rw [Option.map_some, tups]
    | [a] => rw [Option.map_some, tups, tups]; rfl
    | [a, b] => rw [Option.map_some, tups, tups, tups]; rfl
    | [a, b, c] => rw [Option.map_some, tups, tups, tups, tups]; simp only [rowL]; rw [nameD_tup, cellD_tup, cellsD_tup]
    | a :: b :: c :: d :: r => rw [Option.map_some, tups, tups, tups, tups]; rfl
theorem hourD_tup (d : PyData) : hourD (tupD d) = hourD d := by
  unfold hourD
  rw [items_tup]
  cases items d with
  | none => rfl
  | some ds =>
    show (decide ((tups ds).length ≤ 2) && (tups ds).all rowD) = (decide (ds.length ≤ 2) && ds.all rowD)
    rw [tups_map, List.length_map, List.all_map]
    congr 1
    exact List.all_congr rfl fun d => rowD_tup d
theorem pnm_tup (d : PyData) : pnm (tupD d) = pnm d := by
  unfold pnm
  rw [items_tup]
  cases items d with
  | none => rfl
  | some ds =>
    match ds with
    | [] => rw [Option.map_some, tups]
    | a :: r => rw [Option.map_some, tups]; cases a <;> rw [tupD]
theorem pce_tup (d : PyData) : pce (tupD d) = pce d := by
  unfold pce
  rw [items_tup]
  cases items d with
  | none => rfl
  | some ds =>
    match ds with
    | [] => rw [Option.map_some, tups]
    | [a] => rw [Option.map_some, tups, tups]
    | a :: b :: r => rw [Option.map_some, tups, tups]; cases b <;> rw [tupD]
theorem pairsF_tup {rd : Bool} : ∀ (ds : List PyData) (ns : List Str) (cs : List Int) (i : Nat), pairsF rd ns cs i (tups ds) = pairsF rd ns cs i ds
  | [], _, _, _ => by rw [tups]
  | d :: ds, ns, cs, i => by rw [tups, pairsF, pairsF, pairD_tup, pnm_tup, pce_tup, pairsF_tup ds]
theorem hoursF_tup : ∀ (ds : List PyData) (i : Nat), hoursF i (tups ds) = hoursF i ds
  | [], _ => by rw [tups]
  | d :: ds, i => by rw [tups, hoursF, hoursF, hourD_tup, hoursF_tup ds]
theorem pairsM_tup (rd : Bool) (d : PyData) : pairsM rd (tupD d) = pairsM rd d := by
  unfold pairsM
  rw [items_tup]
  cases items d with
  | none => rfl
  | some ds => exact pairsF_tup ds _ _ _
theorem hoursM_tup (d : PyData) : hoursM (tupD d) = hoursM d := by
  unfold hoursM
  rw [items_tup]
  cases items d with
  | none => rfl
  | some ds => exact hoursF_tup ds _
theorem progF_tup {r h t r' h' t' : PyData} (e1 : tupD r' = tupD r) (e2 : tupD h' = tupD h) (e3 : tupD t' = tupD t) : progF r' h' t' = progF r h t := by
  unfold progF
  rw [← pairsM_tup true r', e1, pairsM_tup, ← hoursM_tup h', e2, hoursM_tup, ← pairsM_tup false t', e3, pairsM_tup]
/-! ### a program's data -/
theorem prD_ok {x : Str × Int} (h : nmOk x.1 = true) : ok 1 (prD x) = true := by
  rw [prD, ok_tuple, oks_cons, oks_cons, ok_str, ok_int]
  exact ⟨⟨(nmOk_iff.mp h).2, rfl, by rw [oks]⟩, by simp⟩
theorem roD_ok {x : Int × Str × List Int} (h : nmOk x.2.1 = true) (hl : x.2.2.length ≤ 1000) : ok 2 (roD x) = true := by
  rw [roD, ok_tuple, oks_cons, oks_cons, oks_cons, ok_str, ok_int, ok_tuple]
  exact ⟨⟨rfl, (nmOk_iff.mp h).2, ⟨oks_ints _, by rw [List.length_map]; omega⟩, by rw [oks]⟩, by simp⟩
theorem prD_tup (x : Str × Int) : tupD (prD x) = prD x := by simp [prD, tupD, tups]
theorem ints_tup (cs : List Int) : tups (cs.map PyData.int) = cs.map PyData.int := by
  rw [tups_map, List.map_map]
  exact List.map_congr_left fun c _ => by simp [tupD]
theorem roD_tup (x : Int × Str × List Int) : tupD (roD x) = roD x := by
  simp only [roD, tupD, tups, ints_tup]
theorem map_prD_tup (rs : List (Str × Int)) : tups (rs.map prD) = rs.map prD := by
  rw [tups_map, List.map_map]
  exact List.map_congr_left fun c _ => prD_tup c
theorem map_roD_tup (rs : List (Int × Str × List Int)) : tups (rs.map roD) = rs.map roD := by
  rw [tups_map, List.map_map]
  exact List.map_congr_left fun c _ => roD_tup c
def hoT (hs : List (List (Int × Str × List Int))) : List PyData := hs.map fun z => .tuple (z.map roD)
def hoL (hs : List (List (Int × Str × List Int))) : List PyData := hs.map fun z => .list (z.map roD)
theorem hoL_tup (hs : List (List (Int × Str × List Int))) : tups (hoL hs) = hoT hs := by
  unfold hoL hoT
  rw [tups_map, List.map_map]
  exact List.map_congr_left fun z _ => by
    show tupD (.list (z.map roD)) = _
    rw [tupD, map_roD_tup]
theorem eqv_ho : ∀ (hs ks : List (List (Int × Str × List Int))), PyData.eqvAll (hoT hs) (hoT ks) = PyData.eqvAll (hoL hs) (hoL ks)
  | [], [] => rfl
  | [], k :: ks => by simp [hoT, hoL, PyData.eqvAll]
  | h :: hs, [] => by simp [hoT, hoL, PyData.eqvAll]
  | h :: hs, k :: ks => by
    have := eqv_ho hs ks
    show PyData.eqvAll (.tuple (h.map roD) :: hoT hs) (.tuple (k.map roD) :: hoT ks) = PyData.eqvAll (.list (h.map roD) :: hoL hs) (.list (k.map roD) :: hoL ks)
    rw [PyData.eqvAll, PyData.eqvAll, this, PyData.eqv, PyData.eqv]
section
variable {P : PD}
theorem GoodP.ho (g : GoodP P) : ∀ z ∈ P.hours, hourD (.list (z.map roD)) = true := fun z hz => by
  obtain ⟨l, h⟩ := g.hk z hz
  show (decide ((z.map roD).length ≤ 2) && (z.map roD).all rowD) = true
  rw [Bool.and_eq_true, decide_eq_true_eq, List.all_eq_true]
  refine ⟨by rw [List.length_map]; exact l, fun d hd => ?_⟩
  obtain ⟨x, hx, rfl⟩ := List.mem_map.mp hd
  obtain ⟨h1, h2, h3, _⟩ := h x hx
  show (cellD (.int x.1) && nameD (.str x.2.1) && cellsD (.tuple (x.2.2.map PyData.int))) = true
  rw [Bool.and_eq_true, Bool.and_eq_true]
  refine ⟨⟨h1, (nmOk_iff.mp h2).1⟩, ?_⟩
  show (x.2.2.map PyData.int).all cellD = true
  rw [List.all_map, List.all_eq_true]
  exact h3
theorem pairsF_good {rd : Bool} : ∀ (rs : List (Str × Int)) (ns : List Str) (cs : List Int) (i : Nat), (∀ x ∈ rs, nmOk x.1 = true ∧ cellI x.2 = true) → (ns ++ rs.map (·.1)).Nodup → (rd = true → (cs ++ rs.map (·.2)).Nodup) → pairsF rd ns cs i (rs.map prD) = none
  | [], _, _, _, _, _, _ => rfl
  | x :: rs, ns, cs, i, hk, hn, hc => by
    obtain ⟨h1, h2⟩ := hk x (by simp)
    have hp : pairD (prD x) = true := by
      show (nameD (.str x.1) && cellD (.int x.2)) = true
      rw [Bool.and_eq_true]
      exact ⟨(nmOk_iff.mp h1).1, h2⟩
    have e1 : pnm (prD x) = x.1 := rfl
    have e2 : pce (prD x) = x.2 := rfl
    have n1 : x.1 ∉ ns := fun z => (List.nodup_append.mp hn).2.2 x.1 z x.1 (by simp) rfl
    have n2 : (rd && decide (x.2 ∈ cs)) = false := by
      cases rd with
      | false => rfl
      | true =>
        have : x.2 ∉ cs := fun z => (List.nodup_append.mp (hc rfl)).2.2 x.2 z x.2 (by simp) rfl
        rw [decide_eq_false this]; rfl
    rw [List.map_cons, pairsF, hp, e1, e2, decide_eq_false n1, n2, if_pos (show (true && !false && !false) = true from rfl)]
    refine pairsF_good rs _ _ _ (fun y hy => hk y (by simp [hy])) (by rw [List.append_assoc]; exact hn) fun h => by rw [List.append_assoc]; exact hc h
theorem GoodP.f (g : GoodP P) : progF (.list P.r) (.list P.h) (.list P.t) = none := by
  have h1 : pairsM true (.list P.r) = none := pairsF_good P.reads [] [] 0 g.rk (by simpa using g.rn) (fun _ => by simpa using g.rc)
  have h2 : hoursM (.list P.h) = none := hoursF_all _ 0 fun d hd => by
    obtain ⟨z, hz, rfl⟩ := List.mem_map.mp hd
    exact g.ho z hz
  have h3 : pairsM false (.list P.t) = none := pairsF_good P.tells [] [] 0 g.tk (by simpa using g.tn) (fun h => by cases h)
  unfold progF
  rw [h1, h2, h3]
  rfl
theorem GoodP.or (g : GoodP P) : oks 4 P.r = true := oks_iff.mpr fun d hd => by
  obtain ⟨x, hx, rfl⟩ := List.mem_map.mp hd
  exact ok_le (prD_ok (g.rk x hx).1) (by decide)
theorem GoodP.ot (g : GoodP P) : oks 4 P.t = true := oks_iff.mpr fun d hd => by
  obtain ⟨x, hx, rfl⟩ := List.mem_map.mp hd
  exact ok_le (prD_ok (g.tk x hx).1) (by decide)
theorem GoodP.oh (g : GoodP P) : oks 4 P.h = true := oks_iff.mpr fun d hd => by
  obtain ⟨z, hz, rfl⟩ := List.mem_map.mp hd
  obtain ⟨l, h⟩ := g.hk z hz
  rw [ok_list]
  refine ⟨oks_iff.mpr fun e he => ?_, by rw [List.length_map]; omega⟩
  obtain ⟨x, hx, rfl⟩ := List.mem_map.mp he
  exact ok_le (roD_ok (h x hx).2.1 (h x hx).2.2.2) (by decide)
theorem GoodP.oT (g : GoodP P) : oks 4 (hoT P.hours) = true := oks_iff.mpr fun d hd => by
  obtain ⟨z, hz, rfl⟩ := List.mem_map.mp hd
  obtain ⟨l, h⟩ := g.hk z hz
  rw [ok_tuple]
  refine ⟨oks_iff.mpr fun e he => ?_, by rw [List.length_map]; omega⟩
  obtain ⟨x, hx, rfl⟩ := List.mem_map.mp he
  exact ok_le (roD_ok (h x hx).2.1 (h x hx).2.2.2) (by decide)
theorem GoodP.lR (g : GoodP P) : P.r.length ≤ 750 := by unfold PD.r; rw [List.length_map]; exact g.lr
theorem GoodP.lH (g : GoodP P) : P.h.length ≤ 800 := by unfold PD.h; rw [List.length_map]; exact g.lh
theorem GoodP.lT (g : GoodP P) : P.t.length ≤ 20 := by unfold PD.t; rw [List.length_map]; exact g.lt
theorem size_prs (rs : List (Str × Int)) : sizes (rs.map prD) = 3 * rs.length := by
  induction rs with
  | nil => rfl
  | cons x rs ih => rw [List.map_cons, sizes, ih]; simp [prD, size, sizes]; omega
theorem sizes_le5 {m : Nat} : ∀ {ds : List PyData}, (∀ d ∈ ds, size d ≤ m) → sizes ds ≤ ds.length * m := fun h => sizes_le h
theorem sizes_int (cs : List Int) : sizes (cs.map PyData.int) = cs.length := by
  induction cs with
  | nil => rfl
  | cons x rs ih => rw [List.map_cons, sizes, ih]; simp [size]; omega
theorem GoodP.sh (g : GoodP P) : sizes P.h ≤ 2000000 := by
  have : ∀ d ∈ P.h, size d ≤ 2100 := fun d hd => by
    obtain ⟨z, hz, rfl⟩ := List.mem_map.mp hd
    obtain ⟨l, h⟩ := g.hk z hz
    have : ∀ e ∈ z.map roD, size e ≤ 1004 := fun e he => by
      obtain ⟨x, hx, rfl⟩ := List.mem_map.mp he
      have := (h x hx).2.2.2
      simp only [roD, size, sizes, sizes_int]
      omega
    have h2 := sizes_le this
    rw [List.length_map] at h2
    rw [size]
    have : z.length * 1004 ≤ 2 * 1004 := Nat.mul_le_mul_right _ l
    omega
  have h2 := sizes_le this
  have := g.lH
  have : P.h.length * 2100 ≤ 800 * 2100 := Nat.mul_le_mul_right _ g.lH
  omega
end
end Tw
end

section
set_option Elab.async false
set_option linter.all false
set_option maxRecDepth 100000
set_option maxHeartbeats 4000000
namespace Tw
open PySem L2 PyProof.Rows
/-! ### what repr shows of it -/
mutual
def nc : PyData → Bool
  | .str s => nmOk s
  | .int i => cellI i
  | .list ds => ncs ds
  | .tuple ds => ncs ds
  | .none => false
  | .bool _ => false
  | .dict _ => false
def ncs : List PyData → Bool
  | [] => true
  | d :: ds => nc d && ncs ds
end
mutual
def wsz : PyData → Nat
  | .str _ => 90
  | .int _ => 5
  | .list ds => wszs ds + 6
  | .tuple ds => wszs ds + 6
  | .none => 0
  | .bool _ => 0
  | .dict _ => 0
def wszs : List PyData → Nat
  | [] => 0
  | d :: ds => wsz d + wszs ds
end
theorem shown_small : ∀ n : Nat, n < 1000 → (PyData.shown (.int (n : Int))).length ≤ 3 ∧ PyData.showable (.int (n : Int)) = true := by decide +kernel
theorem cell_small {i : Int} (h : cellI i = true) : (PyData.shown (.int i)).length ≤ 3 ∧ PyData.showable (.int i) = true := by
  unfold cellI at h
  rw [Bool.and_eq_true, decide_eq_true_eq, decide_eq_true_eq] at h
  have e : i = ((i.toNat : Nat) : Int) := by omega
  rw [e]
  exact shown_small _ (by omega)
theorem name_text {s : Str} (h : nmOk s = true) : (reprText s).length ≤ 82 := by
  have h2 := nmOk_iff.mp h
  have hl : s.length ≤ 8 := by
    have := h2.1
    unfold nameS at this
    simp only [Bool.and_eq_true, decide_eq_true_eq] at this
    exact this.1.1.1.2
  have h3 := h2.2
  unfold okS at h3
  rw [Bool.and_eq_true] at h3
  have h1 := StrLaws.reprText_len s fun c hc => by
    have h2 := h3.1
    unfold PyData.strOk at h2
    rw [← Array.all_toList, List.all_eq_true] at h2
    have := of_decide_eq_true (h2 c hc)
    exact Nat.lt_of_lt_of_le this (by decide)
  omega
mutual
theorem shownW : ∀ {d : PyData}, nc d = true → d.shown.length + 2 ≤ wsz d
  | .str s, h => by
    rw [nc] at h
    have := name_text h
    rw [PyData.shown, wsz]
    omega
  | .int i, h => by
    rw [nc] at h
    have := (cell_small h).1
    rw [wsz]
    omega
  | .list ds, h => by
    rw [nc] at h
    have h1 := shownWs h
    have h2 := listText_le (PyData.shownAll ds)
    rw [PyData.shown, wsz]
    omega
  | .tuple ds, h => by
    rw [nc] at h
    have h1 := shownWs h
    have h2 := tupleText_le (PyData.shownAll ds)
    rw [PyData.shown, wsz]
    omega
  | .none, h => by simp [nc] at h
  | .bool _, h => by simp [nc] at h
  | .dict _, h => by simp [nc] at h
theorem shownWs : ∀ {ds : List PyData}, ncs ds = true → piled (PyData.shownAll ds) ≤ wszs ds
  | [], _ => by rw [PyData.shownAll, wszs]; decide
  | d :: ds, h => by
    rw [ncs, Bool.and_eq_true] at h
    have h1 := shownW h.1
    have h2 := shownWs h.2
    rw [PyData.shownAll, piled_cons, wszs]
    omega
end
mutual
theorem nc_show : ∀ {d : PyData}, nc d = true → d.showable = true ∧ d.hasDict = false
  | .str s, _ => by simp [PyData.showable, PyData.hasDict]
  | .int i, h => by rw [nc] at h; exact ⟨(cell_small h).2, by simp [PyData.hasDict]⟩
  | .list ds, h => by rw [nc] at h; rw [PyData.showable, PyData.hasDict]; exact ncs_show h
  | .tuple ds, h => by rw [nc] at h; rw [PyData.showable, PyData.hasDict]; exact ncs_show h
  | .none, h => by simp [nc] at h
  | .bool _, h => by simp [nc] at h
  | .dict _, h => by simp [nc] at h
theorem ncs_show : ∀ {ds : List PyData}, ncs ds = true → PyData.showableAll ds = true ∧ PyData.hasDictAll ds = false
  | [], _ => by simp [PyData.showableAll, PyData.hasDictAll]
  | d :: ds, h => by
    rw [ncs, Bool.and_eq_true] at h
    rw [PyData.showableAll, PyData.hasDictAll, (nc_show h.1).1, (nc_show h.1).2, (ncs_show h.2).1, (ncs_show h.2).2]
    exact ⟨rfl, rfl⟩
end
mutual
theorem nc_tup : ∀ d : PyData, nc (tupD d) = nc d
  | .list ds => by rw [tupD, nc, nc, ncs_tup ds]
  | .tuple ds => by rw [tupD, nc, nc, ncs_tup ds]
  | .str s => by rw [tupD]
  | .none => by rw [tupD]
  | .bool _ => by rw [tupD]
  | .int _ => by rw [tupD]
  | .dict _ => by rw [tupD]
theorem ncs_tup : ∀ ds : List PyData, ncs (tups ds) = ncs ds
  | [] => by rw [tups]
  | d :: ds => by rw [tups, ncs, ncs, nc_tup d, ncs_tup ds]
end
mutual
theorem wsz_tup : ∀ d : PyData, wsz (tupD d) = wsz d
  | .list ds => by rw [tupD, wsz, wsz, wszs_tup ds]
  | .tuple ds => by rw [tupD, wsz, wsz, wszs_tup ds]
  | .str s => by rw [tupD]
  | .none => by rw [tupD]
  | .bool _ => by rw [tupD]
  | .int _ => by rw [tupD]
  | .dict _ => by rw [tupD]
theorem wszs_tup : ∀ ds : List PyData, wszs (tups ds) = wszs ds
  | [] => by rw [tups]
  | d :: ds => by rw [tups, wszs, wszs, wsz_tup d, wszs_tup ds]
end
theorem ncs_iff : ∀ {ds : List PyData}, ncs ds = true ↔ ∀ d ∈ ds, nc d = true
  | [] => by simp [ncs]
  | d :: ds => by rw [ncs, Bool.and_eq_true, ncs_iff (ds := ds)]; simp
theorem wszs_le {m : Nat} : ∀ {ds : List PyData}, (∀ d ∈ ds, wsz d ≤ m) → wszs ds ≤ ds.length * m
  | [], _ => by rw [wszs]; exact Nat.zero_le _
  | d :: ds, h => by
    have h1 := h d (by simp)
    have h2 := wszs_le (ds := ds) fun e he => h e (by simp [he])
    rw [wszs, List.length_cons, Nat.succ_mul]
    omega
theorem wszs_int (cs : List Int) : wszs (cs.map PyData.int) = 5 * cs.length := by
  induction cs with
  | nil => rfl
  | cons x rs ih => rw [List.map_cons, wszs, ih]; simp [wsz]; omega
theorem ncs_int {cs : List Int} (h : ∀ c ∈ cs, cellI c = true) : ncs (cs.map PyData.int) = true := ncs_iff.mpr fun d hd => by
  obtain ⟨c, hc, rfl⟩ := List.mem_map.mp hd
  rw [nc]; exact h c hc
theorem wszs_prs (rs : List (Str × Int)) : wszs (rs.map prD) = 101 * rs.length := by
  induction rs with
  | nil => rfl
  | cons x rs ih => rw [List.map_cons, wszs, ih]; simp [prD, wsz, wszs]; omega
section
variable {P : PD}
theorem GoodP.nr (g : GoodP P) : ncs P.r = true := ncs_iff.mpr fun d hd => by
  obtain ⟨x, hx, rfl⟩ := List.mem_map.mp hd
  have := g.rk x hx
  simp [prD, nc, ncs, this.1, this.2]
theorem GoodP.nt (g : GoodP P) : ncs P.t = true := ncs_iff.mpr fun d hd => by
  obtain ⟨x, hx, rfl⟩ := List.mem_map.mp hd
  have := g.tk x hx
  simp [prD, nc, ncs, this.1, this.2]
theorem GoodP.nh (g : GoodP P) : ncs P.h = true := ncs_iff.mpr fun d hd => by
  obtain ⟨z, hz, rfl⟩ := List.mem_map.mp hd
  obtain ⟨l, h⟩ := g.hk z hz
  rw [nc]
  refine ncs_iff.mpr fun e he => ?_
  obtain ⟨x, hx, rfl⟩ := List.mem_map.mp he
  obtain ⟨h1, h2, h3, _⟩ := h x hx
  simp [roD, nc, ncs, h1, h2, ncs_int h3]
theorem GoodP.wh (g : GoodP P) : wszs P.h ≤ 10000000 := by
  have : ∀ d ∈ P.h, wsz d ≤ 10300 := fun d hd => by
    obtain ⟨z, hz, rfl⟩ := List.mem_map.mp hd
    obtain ⟨l, h⟩ := g.hk z hz
    have : ∀ e ∈ z.map roD, wsz e ≤ 5120 := fun e he => by
      obtain ⟨x, hx, rfl⟩ := List.mem_map.mp he
      have := (h x hx).2.2.2
      simp only [roD, wsz, wszs, wszs_int]
      omega
    have h2 := wszs_le this
    rw [List.length_map] at h2
    rw [wsz]
    have : z.length * 5120 ≤ 2 * 5120 := Nat.mul_le_mul_right _ l
    omega
  have h2 := wszs_le this
  have : P.h.length * 10300 ≤ 800 * 10300 := Nat.mul_le_mul_right _ g.lH
  omega
end
theorem reprNC {K : PySem.W.Frag} {F : List Addr} {H : Hp} {a : Addr} {d : PyData} {n : Nat} {Q : VK} (r : Rp F H (.ref a) d) (h : ok n d = true) (hn : n ≤ 60) (ht : nc d = true) (hs : wsz d ≤ 16000000) (q : Q (.str d.shown) H) : rRepr K [.ref a] H Q := by
  have h1 := shownW ht
  have h2 := nc_show ht
  have h3 := ok_lay h
  unfold rRepr
  exact ⟨a, d, rfl, r.dp (ok_plain h), h2.1, h2.2, by omega, by rw [sizeLine_eq]; omega, q⟩
/-! ### Program(..) -/
@[irreducible] def MkP (D : Ad5) (v1 v2 v3 : V) (H : Hp) (Q : VK) : Prop := ∀ x dx, H x = none → H dx = none → dx ≠ x → spPInit D [.ref x, v1, v2, v3] (upd (upd H dx (.own x)) x (.ins D.cPrg dx [])) (fun v H2 => v = .non ∧ Q (.ref x) H2) E0
def tMkP (D : Ad5) (t : TA) : TE := fun σ H Q => t σ H fun zs H1 => ∃ v1 v2 v3, zs = [v1, v2, v3] ∧ MkP D v1 v2 v3 H1 Q
def tMkKP (D : Ad5) (t : TA) : TE := fun σ H Q => t σ H fun zs H1 => ∃ v3 v2 v1, zs = [v3, v2, v1] ∧ MkP D v1 v2 v3 H1 Q
theorem mkPrg {D : Ad5} {F1 F2 F3 G : List Addr} {H : Hp} {v1 v2 v3 : V} {r h t : PyData} {n : Nat} {rd hd td : List PyData} {Q : VK} (r1 : Rp F1 H v1 r) (r2 : Rp F2 H v2 h) (r3 : Rp F3 H v3 t) (k1 : okx n r = true) (k2 : okx n h = true) (k3 : okx n t = true) (hn : n ≤ 29)
    (i1 : items r = some rd) (i2 : items h = some hd) (i3 : items t = some td) (l1 : rd.length ≤ 1000) (l2 : hd.length ≤ 1000) (l3 : td.length ≤ 1000) (hp : progF r h t = none) (tG : Trk G H)
    (q : ∀ x dx a b c xs ys zs H', ExF [] H H' → H x = none → x ∉ G → a ∉ G → b ∉ G → c ∉ G → H' x = some (.ins D.cPrg dx (pFields a b c)) → H' a = some (.tup xs) → H' b = some (.tup ys) → H' c = some (.tup zs) → RpL G H' xs (tups rd) → RpL G H' ys (tups hd) → RpL G H' zs (tups td) → Q (.ref x) H') : MkP D v1 v2 v3 H Q := by
  unfold MkP
  intro x dx hx hdx ne
  have x1 := made_ex (C := D.cPrg) hx hdx
  refine ⟨x, dx, v1, v2, v3, [x], G, r, h, t, n, rfl, by simp, upd_same, ((r1.sub (by simp)).add hx).ex x1.of, ((r2.sub (by simp)).add hx).ex x1.of, ((r3.sub (by simp)).add hx).ex x1.of, k1, k2, k3, hn, fun ds e => ?_, fun ds e => ?_, fun ds e => ?_, tG.ex x1, ?_, fun w i dd H' hm => ?_⟩
  · rw [i1] at e; cases e; exact l1
  · rw [i2] at e; cases e; exact l2
  · rw [i3] at e; cases e; exact l3
  · intro rd' hd' td' a b c xs ys zs H' e1 e2 e3 hm x2 na nb nc' hx' ha hb hc rx ry rz
    rw [i1] at e1; cases e1
    rw [i2] at e2; cases e2
    rw [i3] at e3; cases e3
    exact ⟨rfl, q x dx a b c xs ys zs H' ((x1.of.trans x2).drop hx) hx (tG.nin hx) na nb nc' hx' ha hb hc rx ry rz⟩
  · rw [hp] at hm; cases hm
/-! ### promises -/
def spTold5 : Sp := fun vs H Q _ => ∃ (st cl : Addr) (c : Nat) (F : List Addr) (lr lh lt : Addr) (xs ys zs : List V) (P : PD), vs = [.ref st, .ref lr, .ref lh, .ref lt] ∧ Strm st cl H c ∧ st ∈ F ∧ cl ∈ F ∧ H lr = some (.lst xs) ∧ H lh = some (.lst ys) ∧ H lt = some (.lst zs) ∧ lr ∉ F ∧ lh ∉ F ∧ lt ∉ F ∧
  RpL F H xs P.r ∧ RpL F H ys P.h ∧ RpL F H zs P.t ∧ GoodP P ∧ P.hours.length ≤ 790 ∧ c + 5000000 < 2 ^ 48 ∧ ∀ c' H', c ≤ c' → c' ≤ c + 5000000 → Strm st cl H' c' → ExF [st, cl] H H' → Q (.bl true) H'
def spBent5 : Sp := spTold5
def spLaw5 (K : PySem.W.Frag) : Sp := spLaw K
end Tw
end

section
set_option Elab.async false
set_option linter.all false
set_option maxRecDepth 100000
set_option maxHeartbeats 1000000
namespace Tw
open PySem L2 PyProof.Rows
/-- what stands all through -/
structure TR5 (C st cl lr lh lt : Addr) (M : List Addr) (x dx a b e : Addr) (xs ys zs ka kb ke : List V) (P : PD) (c : Nat) (H : Hp) : Prop where
  S : Strm st cl H c
  hr : H lr = some (.lst xs)
  hh : H lh = some (.lst ys)
  ht : H lt = some (.lst zs)
  rr : RpL M H xs P.r
  rh : RpL M H ys P.h
  rt : RpL M H zs P.t
  hx : H x = some (.ins C dx (pFields a b e))
  ha : H a = some (.tup ka)
  hb : H b = some (.tup kb)
  he : H e = some (.tup ke)
  ra : RpL M H ka P.r
  rb : RpL M H kb (hoT P.hours)
  re : RpL M H ke P.t
  ne : ∀ q ∈ [st, cl, lr, lh, lt, x, a, b, e], q ∉ M
  tM : Trk M H
section
variable {K : PySem.W.Frag} {D : Ad5} {C st cl lr lh lt : Addr} {M : List Addr} {x dx a b e : Addr} {xs ys zs ka kb ke : List V} {P : PD} {c : Nat} {H H' : Hp} {σ : L2.St}
theorem TR5.ex (t : TR5 C st cl lr lh lt M x dx a b e xs ys zs ka kb ke P c H) (y : ExF M H H') : TR5 C st cl lr lh lt M x dx a b e xs ys zs ka kb ke P c H' :=
  ⟨t.S.ex' (t.ne _ (by simp)) (t.ne _ (by simp)) y, y.at_ _ _ (t.ne _ (by simp)) t.hr, y.at_ _ _ (t.ne _ (by simp)) t.hh, y.at_ _ _ (t.ne _ (by simp)) t.ht, t.rr.ex y, t.rh.ex y, t.rt.ex y, y.at_ _ _ (t.ne _ (by simp)) t.hx, y.at_ _ _ (t.ne _ (by simp)) t.ha, y.at_ _ _ (t.ne _ (by simp)) t.hb, y.at_ _ _ (t.ne _ (by simp)) t.he, t.ra.ex y, t.rb.ex y, t.re.ex y, t.ne, t.tM.ex y⟩
theorem TR5.prg (t : TR5 C st cl lr lh lt M x dx a b e xs ys zs ka kb ke P c H) : PrgAt C H x ka kb ke := ⟨dx, a, b, e, t.hx, t.ha, t.hb, t.he⟩
theorem lk_no {m : Str} (h : m ≠ "own_reads" ∧ m ≠ "own_hours" ∧ m ≠ "own_tells") : List.lookup m (pFields a b e) = none := by
  have e1 : (m == ("own_reads" : Str)) = false := by simpa using h.1
  have e2 : (m == ("own_hours" : Str)) = false := by simpa using h.2.1
  have e3 : (m == ("own_tells" : Str)) = false := by simpa using h.2.2
  simp [List.lookup, pFields, e1, e2, e3]
theorem hoT_es (P : PD) : hoT P.hours = (P.hours.map fun z => z.map roD).map PyData.tuple := by unfold hoT; rw [List.map_map]; rfl
theorem hoL_es (P : PD) : P.h = (P.hours.map fun z => z.map roD).map PyData.list := by unfold PD.h; rw [List.map_map]; rfl
def tRds (D : Ad5) : TE := tMeth D.cPrg "reads" (spPReads D.cPrg) [] E0 (tVar 6) tNil
def tHrs (D : Ad5) : TE := tMeth D.cPrg "hours" (spPHours D.cPrg) [] E0 (tVar 6) tNil
def tTls (D : Ad5) : TE := tMeth D.cPrg "tells" (spPTells D.cPrg) [] E0 (tVar 6) tNil
theorem reads5 {Q : VK} (t : TR5 D.cPrg st cl lr lh lt M x dx a b e xs ys zs ka kb ke P c H) (h6 : σ[6]? = some (some (.ref x))) (q : ∀ r H', H r = none → H' r = some (.lst ka) → ExF [] H H' → Q (.ref r) H') : tRds D σ H Q :=
  ⟨_, h6, x, dx, _, rfl, t.hx, lk_no (by decide), x, ka, kb, ke, rfl, t.prg, q⟩
theorem tells5 {Q : VK} (t : TR5 D.cPrg st cl lr lh lt M x dx a b e xs ys zs ka kb ke P c H) (h6 : σ[6]? = some (some (.ref x))) (q : ∀ r H', H r = none → H' r = some (.lst ke) → ExF [] H H' → Q (.ref r) H') : tTls D σ H Q :=
  ⟨_, h6, x, dx, _, rfl, t.hx, lk_no (by decide), x, ka, kb, ke, rfl, t.prg, q⟩
theorem hours5 {Q : VK} (t : TR5 D.cPrg st cl lr lh lt M x dx a b e xs ys zs ka kb ke P c H) (g : GoodP P) (h6 : σ[6]? = some (some (.ref x))) (q : ∀ r ws H', H r = none → H' r = some (.lst ws) → RpL M H' ws P.h → NewRows H H' ws → ExF [] H H' → Q (.ref r) H') : tHrs D σ H Q :=
  ⟨_, h6, x, dx, _, rfl, t.hx, lk_no (by decide), x, M, ka, kb, ke, P.hours.map fun z => z.map roD, rfl, t.prg, by rw [← hoT_es]; exact t.rb, by rw [List.length_map]; have := g.lh; omega, t.tM, fun r ws H' h1 h2 h3 h4 h5 => q r ws H' h1 h2 (by rw [hoL_es]; exact h3) h4 h5⟩
/-- what is due -/
def dueP (P : PD) : PyData := .list [.list P.r, .list P.h, .list P.t]
theorem dueP_ok (g : GoodP P) : ok 8 (dueP P) = true := by
  refine ok_le (n := 6) ?_ (by decide)
  unfold dueP
  have h1 := g.lR
  have h2 := g.lH
  have h3 := g.lT
  rw [ok_list, oks_cons, oks_cons, oks_cons, ok_list, ok_list, ok_list]
  exact ⟨⟨⟨g.or, by omega⟩, ⟨g.oh, by omega⟩, ⟨g.ot, by omega⟩, by rw [oks]⟩, by simp⟩
/-- same([made.reads(), made.hours(), made.tells()], due) -/
theorem same5 {Q : VK} {u : V} (t : TR5 D.cPrg st cl lr lh lt M x dx a b e xs ys zs ka kb ke P c H) (g : GoodP P) (h6 : σ[6]? = some (some (.ref x))) (h7 : σ[7]? = some (some u)) (ru : Rp M H u (dueP P)) (q : ∀ H', ExF [] H H' → Q (.bl true) H') :
    tCall (spSame 20) [] E0 (tCons (tLstU (tCons (tRds D) (tCons (tHrs D) (tCons (tTls D) (tNil))))) (tCons (tVar 7) (tNil))) σ H Q := by
  refine reads5 t h6 fun r1 H1 n1 h1 x1 => ?_
  have t1 := t.ex x1.of
  refine hours5 t1 g h6 fun r2 ws H2 n2 h2 rw2 _ x2 => ?_
  have t2 := t1.ex x2.of
  refine tells5 t2 h6 fun r3 H3 n3 h3 x3 => ?_
  have t3 := t2.ex x3.of
  refine ⟨by show 3 ≤ sizeLine; decide, fun p H4 hp e4 => ?_⟩
  have x4 : ExF [] H3 H4 := exn e4 hp
  have xx : ExF [] H H4 := ((x1.trans x2).trans x3).trans x4
  have m1 : r1 ∉ M := t.tM.nin n1
  have m2 : r2 ∉ M := t1.tM.nin n2
  have m3 : r3 ∉ M := t2.tM.nin n3
  have m4 : p ∉ M := t3.tM.nin hp
  have t4 := t3.ex x4.of
  have rp : Rp M H4 (.ref p) (dueP P) := .list m4 (eqs e4) (.cons (.list m1 (((x2.trans x3).trans x4).at_ _ _ (by simp) h1) t4.ra) (.cons (.list m2 ((x3.trans x4).at_ _ _ (by simp) h2) (rw2.ex (x3.trans x4).of)) (.cons (.list m3 (x4.at_ _ _ (by simp) h3) t4.re) .nil)))
  exact ⟨_, h7, M, M, .ref p, u, dueP P, 8, rfl, rp, ru.ex xx.of, dueP_ok g, by decide, by decide, fun H' x' => q H' (xx.trans x')⟩
theorem ok20 {ds : List PyData} (h : oks 4 ds = true) (hl : ds.length ≤ 100000) : ok 20 (.tuple ds) = true := ok_le (n := 5) (by rw [ok_tuple]; exact ⟨h, hl⟩) (by decide)
/-- made == another program -/
theorem eqP {Q : VK} {y : Addr} {ka' kb' ke' : List V} {G : List Addr} {P' : PD} (t : TR5 D.cPrg st cl lr lh lt M x dx a b e xs ys zs ka kb ke P c H) (g : GoodP P) (g' : GoodP P') (py : PrgAt D.cPrg H y ka' kb' ke') (r1 : RpL G H ka' P'.r) (r2 : RpL G H kb' (hoT P'.hours)) (r3 : RpL G H ke' P'.t)
    (q : ∀ H', ExF [] H H' → Q (.bl (prgEqv P.r (hoT P.hours) P.t P'.r (hoT P'.hours) P'.t)) H') : rEqOwn D.cPrg (spPEq D.cPrg) (.ref x) (.ref y) H Q := by
  obtain ⟨dy, a', b', e', hy, _⟩ := id py
  have lh : ∀ {P : PD}, GoodP P → (hoT P.hours).length ≤ 800 := fun g => by unfold hoT; rw [List.length_map]; exact g.lh
  have l1 := lh g
  have l2 := lh g'
  have l3 := g.lR
  have l4 := g.lT
  have l5 := g'.lR
  have l6 := g'.lT
  exact ⟨x, dx, _, rfl, t.hx, ⟨y, rfl, .inl ⟨_, _, hy⟩⟩, x, ka, kb, ke, M, P.r, hoT P.hours, P.t, .ref y, rfl, t.prg, t.ra, t.rb, t.re, ok20 g.or (by omega), ok20 g.oT (by omega), ok20 g.ot (by omega), .inl ⟨y, ka', kb', ke', G, P'.r, hoT P'.hours, P'.t, rfl, py, r1, r2, r3, ok20 g'.or (by omega), ok20 g'.oT (by omega), ok20 g'.ot (by omega), fun H' x' => ⟨_, rfl, q H' x'⟩⟩⟩
theorem neP {Q : VK} {y : Addr} {ka' kb' ke' : List V} {G : List Addr} {P' : PD} (t : TR5 D.cPrg st cl lr lh lt M x dx a b e xs ys zs ka kb ke P c H) (g : GoodP P) (g' : GoodP P') (py : PrgAt D.cPrg H y ka' kb' ke') (r1 : RpL G H ka' P'.r) (r2 : RpL G H kb' (hoT P'.hours)) (r3 : RpL G H ke' P'.t)
    (q : ∀ H', ExF [] H H' → Q (.bl (!prgEqv P.r (hoT P.hours) P.t P'.r (hoT P'.hours) P'.t)) H') : rNeOwn D.cPrg (spPEq D.cPrg) (.ref x) (.ref y) H Q := by
  obtain ⟨dy, a', b', e', hy, _⟩ := id py
  have lh : ∀ {P : PD}, GoodP P → (hoT P.hours).length ≤ 800 := fun g => by unfold hoT; rw [List.length_map]; exact g.lh
  have l1 := lh g
  have l2 := lh g'
  have l3 := g.lR
  have l4 := g.lT
  have l5 := g'.lR
  have l6 := g'.lT
  exact ⟨x, dx, _, rfl, t.hx, ⟨y, rfl, .inl ⟨_, _, hy⟩⟩, x, ka, kb, ke, M, P.r, hoT P.hours, P.t, .ref y, rfl, t.prg, t.ra, t.rb, t.re, ok20 g.or (by omega), ok20 g.oT (by omega), ok20 g.ot (by omega), .inl ⟨y, ka', kb', ke', G, P'.r, hoT P'.hours, P'.t, rfl, py, r1, r2, r3, ok20 g'.or (by omega), ok20 g'.oT (by omega), ok20 g'.ot (by omega), fun H' x' => ⟨_, rfl, q H' x'⟩⟩⟩
theorem eqTup {Q : VK} {p : Addr} {ws : List V} {ds : List PyData} (t : TR5 D.cPrg st cl lr lh lt M x dx a b e xs ys zs ka kb ke P c H) (g : GoodP P) (hp : H p = some (.tup ws)) (r : RpL M H ws ds) (q : ∀ H', ExF [] H H' → Q (.bl false) H') : rEqOwn D.cPrg (spPEq D.cPrg) (.ref x) (.ref p) H Q := by
  have l1 : (hoT P.hours).length ≤ 800 := by unfold hoT; rw [List.length_map]; exact g.lh
  have l3 := g.lR
  have l4 := g.lT
  exact ⟨x, dx, _, rfl, t.hx, ⟨p, rfl, .inr (.inr ⟨_, hp⟩)⟩, x, ka, kb, ke, M, P.r, hoT P.hours, P.t, .ref p, rfl, t.prg, t.ra, t.rb, t.re, ok20 g.or (by omega), ok20 g.oT (by omega), ok20 g.ot (by omega), .inr ⟨[], .tuple ds, .tuple (by simp) hp (r.sub (by simp)), rfl, fun H' x' => ⟨_, rfl, q H' x'⟩⟩⟩
/-- the two looks answer alike -/
theorem looks_alike (P P' : PD) : prgEqv P.r (hoT P.hours) P.t P'.r (hoT P'.hours) P'.t = PyData.eqv (.list [.list P'.r, .list P'.h, .list P'.t]) (dueP P) := by
  have e1 : PyData.eqvAll (hoT P.hours) (hoT P'.hours) = PyData.eqvAll P'.h P.h := by rw [eqv_ho, eqvAll_symm]; rfl
  unfold prgEqv dueP
  rw [PyData.eqv, PyData.eqvAll, PyData.eqvAll, PyData.eqvAll, PyData.eqv, PyData.eqv, PyData.eqv, PyData.eqv, PyData.eqvAll, PyData.eqvAll, PyData.eqvAll, PyData.eqvAll, PyData.eqv, PyData.eqv, PyData.eqv, e1, eqvAll_symm P.r, eqvAll_symm P.t]
  cases PyData.eqvAll P'.r P.r <;> cases PyData.eqvAll P'.h P.h <;> cases PyData.eqvAll P'.t P.t <;> rfl
/-- Program(..) of three lists -/
theorem mkOf {Q : VK} {l1 l2 l3 : Addr} {ws1 ws2 ws3 : List V} {F : List Addr} {P' : PD} (h1 : H l1 = some (.lst ws1)) (h2 : H l2 = some (.lst ws2)) (h3 : H l3 = some (.lst ws3)) (r1 : RpL F H ws1 P'.r) (r2 : RpL F H ws2 P'.h) (r3 : RpL F H ws3 P'.t) (g' : GoodP P')
    (q : ∀ y ka' kb' ke' H', ExF [] H H' → PrgAt D.cPrg H' y ka' kb' ke' → RpL [] H' ka' P'.r → RpL [] H' kb' (hoT P'.hours) → RpL [] H' ke' P'.t → Q (.ref y) H') : MkP D (.ref l1) (.ref l2) (.ref l3) H Q := by
  have m1 := g'.lR
  have m2 := g'.lH
  have m3 := g'.lT
  have o : ∀ {ds : List PyData}, oks 4 ds = true → ds.length ≤ 1000 → okx 5 (.list ds) = true := fun h l => okx_of (by rw [ok_list]; exact ⟨h, by omega⟩)
  refine mkPrg (n := 5) (F1 := []) (F2 := []) (F3 := []) (G := []) (r := .list P'.r) (h := .list P'.h) (t := .list P'.t) (.list (by simp) h1 (r1.sub (by simp))) (.list (by simp) h2 (r2.sub (by simp))) (.list (by simp) h3 (r3.sub (by simp))) (o g'.or (by omega)) (o g'.oh (by omega)) (o g'.ot (by omega)) (by decide) rfl rfl rfl (by omega) (by omega) (by omega) g'.f Trk.nil
    fun x2 dx2 a2 b2 c2 ws4 ws5 ws6 H' y _ _ _ _ _ k1 k2 k3 k4 k5 k6 k7 => q x2 ws4 ws5 ws6 H' y ⟨dx2, a2, b2, c2, k1, k2, k3, k4⟩ ?_ ?_ ?_
  · have e : tups P'.r = P'.r := map_prD_tup _
    rw [e] at k5; exact k5
  · have e : tups P'.h = hoT P'.hours := hoL_tup _
    rw [e] at k6; exact k6
  · have e : tups P'.t = P'.t := map_prD_tup _
    rw [e] at k7; exact k7
end
end Tw
end

section
set_option Elab.async false
set_option linter.all false
set_option maxRecDepth 100000
set_option maxHeartbeats 4000000
namespace Tw
open PySem L2 PyProof.Rows
noncomputable def t5_told_b4 (K : PySem.W.Frag) (D : Ad5) : TS := tIfS (tB (tCB (rIsiU K) (tCons (tVar 8) (tCons (tC (.ty "list")) (tNil))))) (tDrop (tBM K "list" (rAppendU) (tVar 8) (tCons (tC (.str "late")) (tNil)))) (tNext)
noncomputable def t5_told_b5 (K : PySem.W.Frag) (D : Ad5) : TS := tDrop (tBM K "list" (rAppendU) (tVar 9) (tCons (tC (.str "late")) (tNil)))
noncomputable def t5_told_b9 (K : PySem.W.Frag) (D : Ad5) : TS := tIfS (tTest (tOp (rNeU K) (tOp (rEqOwn D.cPrg (spPEq D.cPrg)) (tVar 6) (tMkP D (tCons (tOp (rIxU K) (tVar 11) (tC (.int 0))) (tCons (tOp (rIxU K) (tVar 11) (tC (.int 1))) (tCons (tOp (rIxU K) (tVar 11) (tC (.int 2))) (tNil)))))) (tOp (rEqU K) (tCB (rLstOf K) (tCons (tVar 11) (tNil))) (tVar 7)))) (tRet (tC (.bl false))) (tNext)
noncomputable def t5_told_t11 (K : PySem.W.Frag) (D : Ad5) : TS := tRet (tOp (rEqU K) (tOp (rEqOwn D.cPrg (spPEq D.cPrg)) (tVar 6) (tMkP D (tCons (tVar 1) (tCons (tVar 12) (tCons (tVar 3) (tNil)))))) (tOp (rEqU K) (tVar 12) (tVar 2)))
noncomputable def t5_told_t10 (K : PySem.W.Frag) (D : Ad5) : TS := tSeq (tAsg (tLcU (iSeqU K (tVar 2)) (gName 13) (tYes) (tRevL K (tVar 13)) [13]) (gName 12)) (t5_told_t11 K D)
noncomputable def t5_told_t9 (K : PySem.W.Frag) (D : Ad5) : TS := tSeq (tForU (iSeqU K (tTupU (tCons (tTupU (tCons (tRevL K (tVar 1)) (tCons (tVar 2) (tCons (tVar 3) (tNil))))) (tCons (tTupU (tCons (tVar 1) (tCons (tOp (rAddU K) (tVar 2) (tLstU (tCons (tLstU (tNil)) (tNil)))) (tCons (tVar 3) (tNil))))) (tCons (tTupU (tCons (tVar 1) (tCons (tVar 2) (tCons (tRevL K (tVar 3)) (tNil))))) (tNil)))))) (gName 11) (t5_told_b9 K D)) (t5_told_t10 K D)
noncomputable def t5_told_t8 (K : PySem.W.Frag) (D : Ad5) : TS := tSeq (tIfS (tOr (tNot (tTest (tOp (rEqOwn D.cPrg (spPEq D.cPrg)) (tVar 6) (tVar 10)))) (tOr (tTest (tOp (rNeOwn D.cPrg (spPEq D.cPrg)) (tVar 6) (tVar 10))) (tTest (tOp (rEqOwn D.cPrg (spPEq D.cPrg)) (tVar 6) (tTupU (tCons (tVar 1) (tCons (tVar 2) (tCons (tVar 3) (tNil))))))))) (tRet (tC (.bl false))) (tNext)) (t5_told_t9 K D)
noncomputable def t5_told_t7 (K : PySem.W.Frag) (D : Ad5) : TS := tSeq (tAsg (tMkP D (tCons (tVar 1) (tCons (tVar 2) (tCons (tVar 3) (tNil))))) (gName 10)) (t5_told_t8 K D)
noncomputable def t5_told_t6 (K : PySem.W.Frag) (D : Ad5) : TS := tSeq (tIfS (tNot (tB (tCall (spSame 20) [] E0 (tCons (tLstU (tCons (tMeth D.cPrg "reads" (spPReads D.cPrg) [] E0 (tVar 6) tNil) (tCons (tMeth D.cPrg "hours" (spPHours D.cPrg) [] E0 (tVar 6) tNil) (tCons (tMeth D.cPrg "tells" (spPTells D.cPrg) [] E0 (tVar 6) tNil) (tNil))))) (tCons (tVar 7) (tNil)))))) (tRet (tC (.bl false))) (tNext)) (t5_told_t7 K D)
noncomputable def t5_told_t5 (K : PySem.W.Frag) (D : Ad5) : TS := tSeq (tForU (iSeqU K (tTupU (tCons (tMeth D.cPrg "reads" (spPReads D.cPrg) [] E0 (tVar 6) tNil) (tCons (tMeth D.cPrg "hours" (spPHours D.cPrg) [] E0 (tVar 6) tNil) (tCons (tMeth D.cPrg "tells" (spPTells D.cPrg) [] E0 (tVar 6) tNil) (tCons (tOp (rIxU K) (tOp (rAddU K) (tMeth D.cPrg "hours" (spPHours D.cPrg) [] E0 (tVar 6) tNil) (tLstU (tCons (tLstU (tNil)) (tNil)))) (tC (.int 0))) (tNil))))))) (gName 9) (t5_told_b5 K D)) (t5_told_t6 K D)
noncomputable def t5_told_t4 (K : PySem.W.Frag) (D : Ad5) : TS := tSeq (tForU (iSeqU K (tVar 4)) (gName 8) (t5_told_b4 K D)) (t5_told_t5 K D)
noncomputable def t5_told_t3 (K : PySem.W.Frag) (D : Ad5) : TS := tSeq (tIfS (tOr (tNot (tB (tCall (spSame 20) [] E0 (tCons (tLstU (tCons (tMeth D.cPrg "reads" (spPReads D.cPrg) [] E0 (tVar 6) tNil) (tCons (tMeth D.cPrg "hours" (spPHours D.cPrg) [] E0 (tVar 6) tNil) (tCons (tMeth D.cPrg "tells" (spPTells D.cPrg) [] E0 (tVar 6) tNil) (tNil))))) (tCons (tVar 7) (tNil)))))) (tTest (tOp (rNeU K) (tCB (rRepr K) (tCons (tVar 4) (tNil))) (tVar 5)))) (tRet (tC (.bl false))) (tNext)) (t5_told_t4 K D)
noncomputable def t5_told_t2 (K : PySem.W.Frag) (D : Ad5) : TS := tSeq (tAsg (tLstU (tCons (tVar 1) (tCons (tVar 2) (tCons (tVar 3) (tNil))))) (gName 7)) (t5_told_t3 K D)
noncomputable def t5_told_t1 (K : PySem.W.Frag) (D : Ad5) : TS := tSeq (tPar 5 6 (tCons (tCB (rRepr K) (tCons (tVar 4) (tNil))) (tCons (tMkKP D (tCons (tOp (rIxU K) (tVar 4) (tC (.int 2))) (tCons (tOp (rIxU K) (tVar 4) (tC (.int 1))) (tCons (tOp (rIxU K) (tVar 4) (tC (.int 0))) (tNil))))) (tNil)))) (t5_told_t2 K D)
noncomputable def t5_told (K : PySem.W.Frag) (D : Ad5) : TS := tSeq (tAsg (tLstU (tCons (tCall (spLoose 20) [] E0 (tCons (tVar 0) (tCons (tVar 1) (tNil)))) (tCons (tCall (spLoose 20) [] E0 (tCons (tVar 0) (tCons (tVar 2) (tNil)))) (tCons (tCall (spLoose 20) [] E0 (tCons (tVar 0) (tCons (tVar 3) (tNil)))) (tNil))))) (gName 4)) (t5_told_t1 K D)
noncomputable def t5_bent_b1 (K : PySem.W.Frag) (D : Ad5) : TS := tSeq (tAsg (tLstU (tCons (tCB (rLstOf K) (tCons (tVar 1) (tNil))) (tCons (tCB (rLstOf K) (tCons (tVar 2) (tNil))) (tCons (tCB (rLstOf K) (tCons (tVar 3) (tNil))) (tNil))))) (gName 6))
      (tSeq (tForU (iSeqU K (tVar 6)) (gName 7) (tIfS (tTest (tOp (rEqU K) (tCall spDraw [] E0 (tCons (tVar 0) (tCons (tC (.int 2)) (tNil)))) (tC (.int 0)))) (tDrop (tBM K "list" (rInsert) (tVar 7) (tCons (tCall spDraw [] E0 (tCons (tVar 0) (tCons (tOp (rAddU K) (tCB (rLenU K) (tCons (tVar 7) (tNil))) (tC (.int 1))) (tNil)))) (tCons (tVar 5) (tNil))))) (tNext)))
      (tIfS (tNot (tB (tCall (spSame 20) [] E0 (tCons (tLstU (tCons (tCall spPMet [] E0 (tCons (tOp (rIxU K) (tVar 6) (tC (.int 0))) (tCons (tOp (rIxU K) (tVar 6) (tC (.int 1))) (tCons (tOp (rIxU K) (tVar 6) (tC (.int 2))) (tNil))))) (tNil))) (tCons (tLstU (tCons (tCall spLFault [] E0 (tCons (tOp (rIxU K) (tVar 6) (tC (.int 0))) (tCons (tOp (rIxU K) (tVar 6) (tC (.int 1))) (tCons (tOp (rIxU K) (tVar 6) (tC (.int 2))) (tNil))))) (tNil))) (tNil)))))) (tRet (tC (.bl false))) (tNext)))
noncomputable def t5_bent_b2 (K : PySem.W.Frag) (D : Ad5) : TS := tSeq (tAsg (tLstU (tCons (tCall spPMet [] E0 (tCons (tVar 5) (tCons (tC .non) (tCons (tC .non) (tNil))))) (tCons (tCall spPMet [] E0 (tCons (tVar 1) (tCons (tVar 5) (tCons (tC .non) (tNil))))) (tCons (tCall spPMet [] E0 (tCons (tVar 1) (tCons (tVar 2) (tCons (tVar 5) (tNil))))) (tNil))))) (gName 8))
      (tIfS (tNot (tB (tCall (spSame 20) [] E0 (tCons (tVar 8) (tCons (tLstU (tCons (tTupU (tCons (tC (.str "reads")) (tCons (tC (.int 0)) (tNil)))) (tCons (tTupU (tCons (tC (.str "hours")) (tCons (tC (.int 0)) (tNil)))) (tCons (tTupU (tCons (tC (.str "tells")) (tCons (tC (.int 0)) (tNil)))) (tNil))))) (tNil)))))) (tRet (tC (.bl false))) (tNext))
noncomputable def t5_bent_t3 (K : PySem.W.Frag) (D : Ad5) : TS := tRet (tC (.bl true))
noncomputable def t5_bent_t2 (K : PySem.W.Frag) (D : Ad5) : TS := tSeq (tForU (iSeqU K (tTupU (tCons (tC .non) (tCons (tC (.int 5)) (tCons (tC (.str "ab")) (tCons (tDNewK) (tCons (tC (.bl true)) (tNil)))))))) (gName 5) (t5_bent_b2 K D)) (t5_bent_t3 K D)
noncomputable def t5_bent_t1 (K : PySem.W.Frag) (D : Ad5) : TS := tSeq (tForU (iSeqU K (tVar 4)) (gName 5) (t5_bent_b1 K D)) (t5_bent_t2 K D)
noncomputable def t5_bent (K : PySem.W.Frag) (D : Ad5) : TS := tSeq (tAsg (tOp (rAddU K) (tSl (rSlU K) (tCall spMixed [] E0 (tCons (tVar 0) (tCons (tCall spOddP [] E0 (tCons (tVar 0) (tCons (tVar 1) (tNil)))) (tNil)))) (tNoPart) (tPart (tC (.int 12)))) (tCall spMixed [] E0 (tCons (tVar 0) (tCons (tCall spOddH [] E0 (tCons (tVar 0) (tCons (tVar 2) (tNil)))) (tNil))))) (gName 4)) (t5_bent_t1 K D)
noncomputable def t5_law_b1 (K : PySem.W.Frag) (D : Ad5) : TS := tSeq (tAsg (tCall spAProg [] E0 (tCons (tVar 1) (tCons (tCall spALines [] E0 (tCons (tVar 1) (tCons (tOp (rAddU K) (tC (.int 2)) (tCall spDraw [] E0 (tCons (tVar 1) (tCons (tC (.int 8)) (tNil))))) (tCons (tC (.int 2)) (tNil))))) (tNil)))) (gTup K 3 (gCons (gName 3) (gCons (gName 4) (gCons (gName 5) (gNil))))))
      (tSeq (tIfS (tOr (tTest (tOp rNotN (tCall spLFault [] E0 (tCons (tVar 3) (tCons (tVar 4) (tCons (tVar 5) (tNil))))) (tC .non))) (tNot (tB (tCall spTold5 [] E0 (tCons (tVar 1) (tCons (tVar 3) (tCons (tVar 4) (tCons (tVar 5) (tNil))))))))) (tRet (tC (.bl false))) (tNext))
      (tIfS (tNot (tB (tCall spBent5 [] E0 (tCons (tVar 1) (tCons (tVar 3) (tCons (tVar 4) (tCons (tVar 5) (tNil)))))))) (tRet (tC (.bl false))) (tNext)))
noncomputable def t5_law_t2 (K : PySem.W.Frag) (D : Ad5) : TS := tRet (tAndV (tOp (rEqOwn D.cPrg (spPEq D.cPrg)) (tMkP D (tCons (tLstU (tNil)) (tCons (tLstU (tNil)) (tCons (tLstU (tNil)) (tNil))))) (tMkP D (tCons (tTupU (tNil)) (tCons (tTupU (tNil)) (tCons (tTupU (tNil)) (tNil)))))) (tOp (rNeOwn D.cPrg (spPEq D.cPrg)) (tMkP D (tCons (tLstU (tNil)) (tCons (tLstU (tCons (tLstU (tNil)) (tNil))) (tCons (tLstU (tNil)) (tNil))))) (tMkP D (tCons (tLstU (tNil)) (tCons (tLstU (tNil)) (tCons (tLstU (tNil)) (tNil)))))))
noncomputable def t5_law_t1 (K : PySem.W.Frag) (D : Ad5) : TS := tSeq (tForU (iRng1 (tCons (tC (.int 4)) (tNil))) (gName 2) (t5_law_b1 K D)) (t5_law_t2 K D)
noncomputable def t5_law (K : PySem.W.Frag) (D : Ad5) : TS := tSeq (tAsg (tCall (spStart K) [] E0 (tCons (tVar 0) (tNil))) (gName 1)) (t5_law_t1 K D)

end Tw
end

section
set_option Elab.async false
set_option linter.all false
set_option maxRecDepth 100000
set_option maxHeartbeats 1000000
namespace Tw
open PySem L2 PyProof.Rows
def S5 (st lr lh lt hd : Addr) (was : Str) (x pd : Addr) (u8 u9 u10 u11 u12 u13 : Option V) : L2.St := [some (.ref st), some (.ref lr), some (.ref lh), some (.ref lt), some (.ref hd), some (.str was), some (.ref x), some (.ref pd), u8, u9, u10, u11, u12, u13]
section
variable {K : PySem.W.Frag} {D : Ad5} {D' : Ends} {st cl lr lh lt : Addr} {M : List Addr} {x dx a b e : Addr} {xs ys zs ka kb ke : List V} {P : PD} {c : Nat} {H H' : Hp} {hd pd : Addr} {was : Str} {u8 u9 u10 u11 u12 u13 : Option V}
theorem GoodP.self (g : GoodP P) : PyData.eqvAll P.r P.r = true ∧ PyData.eqvAll P.h P.h = true ∧ PyData.eqvAll P.t P.t = true := ⟨eqvAll_refl _ (oks_plain g.or), eqvAll_refl _ (oks_plain g.oh), eqvAll_refl _ (oks_plain g.ot)⟩
theorem GoodP.bent (g : GoodP P) : GoodP { P with hours := P.hours.map List.reverse } :=
  ⟨g.rn, g.rc, g.rk, fun z hz => by
    obtain ⟨y, hy, rfl⟩ := List.mem_map.mp hz
    have h := g.hk y hy
    exact ⟨by rw [List.length_reverse]; exact h.1, fun x hx => h.2 x (List.mem_reverse.mp hx)⟩, g.tn, g.tk, g.lr, by show (P.hours.map List.reverse).length ≤ 800; rw [List.length_map]; exact g.lh, g.lt⟩
theorem GoodP.revR (g : GoodP P) : GoodP { P with reads := P.reads.reverse } :=
  ⟨by show (P.reads.reverse.map (·.1)).Nodup; rw [List.map_reverse]; exact (List.reverse_perm _).nodup_iff.mpr g.rn, by show (P.reads.reverse.map (·.2)).Nodup; rw [List.map_reverse]; exact (List.reverse_perm _).nodup_iff.mpr g.rc, fun x hx => g.rk x (List.mem_reverse.mp hx), g.hk, g.tn, g.tk, by show P.reads.reverse.length ≤ 750; rw [List.length_reverse]; exact g.lr, g.lh, g.lt⟩
theorem GoodP.revT (g : GoodP P) : GoodP { P with tells := P.tells.reverse } :=
  ⟨g.rn, g.rc, g.rk, g.hk, by show (P.tells.reverse.map (·.1)).Nodup; rw [List.map_reverse]; exact (List.reverse_perm _).nodup_iff.mpr g.tn, fun x hx => g.tk x (List.mem_reverse.mp hx), g.lr, g.lh, by show P.tells.reverse.length ≤ 20; rw [List.length_reverse]; exact g.lt⟩
theorem GoodP.more (g : GoodP P) (h : P.hours.length < 800) : GoodP { P with hours := P.hours ++ [[]] } :=
  ⟨g.rn, g.rc, g.rk, fun z hz => by
    rcases List.mem_append.mp hz with hz | hz
    · exact g.hk z hz
    · rw [List.mem_singleton.mp hz]; exact ⟨by simp, fun x hx => by simp at hx⟩, g.tn, g.tk, g.lr, by show (P.hours ++ [[]]).length ≤ 800; rw [List.length_append]; simp; omega, g.lt⟩
/-- the last row -/
theorem told_t10 (t : TR5 D.cPrg st cl lr lh lt M x dx a b e xs ys zs ka kb ke P c H) (g : GoodP P) (q : ∀ H', ExF [] H H' → D'.rt (.bl true) H') : t5_told_t10 K D D' (S5 st lr lh lt hd was x pd u8 u9 u10 u11 u12 u13) H := by
  have sz : sizeLine = 16777216 := sizeLine_eq
  have lh8 := g.lH
  have ly := t.rh.1
  unfold t5_told_t10 tSeq tAsg
  let P' : PD := { P with hours := P.hours.map List.reverse }
  have gb : GoodP P' := g.bent
  refine lcMap (F := M) (k := 13) (xs := ys) (iter_var (a := lh) rfl (.inl t.hh) (by simp)) P'.h ?_ (by omega) (fun _ => rfl) ?_ ?_
  · rw [ly]; show ((P.hours.map List.reverse).map _).length = (P.hours.map _).length; simp
  · intro D0 i v d H1 hv he x1 n1 k1 Qc k
    have he' : P.h[i]? = some (.list ((P.hours.map (fun z => z.map roD))[i]?.getD [])) ∧ d = .list ((P.hours.map (fun z => z.map roD))[i]?.getD []).reverse := by
      have hi := get_lt hv
      rw [ly] at hi
      have hi' : i < P.hours.length := by unfold PD.h at hi; rw [List.length_map] at hi; exact hi
      have e1 : P.hours[i]? = some P.hours[i] := by simp [hi']
      refine ⟨by simp [PD.h, e1], ?_⟩
      have e2 : P'.h[i]? = some (.list (P.hours[i].reverse.map roD)) := by
        show ((P.hours.map List.reverse).map _)[i]? = _
        simp [e1]
      rw [e2] at he
      cases he
      simp [e1, List.map_reverse]
    obtain ⟨h1, rfl⟩ := he'
    obtain ⟨v', hv', rv⟩ := t.rh.get h1
    rw [hv] at hv'
    cases hv'
    obtain ⟨p, ws, rfl, np, hp, rw'⟩ := (rv.ex x1.of).list_inv
    refine ⟨_, rfl, p, ws, rfl, .inl (.inl hp), fun r hr => ?_⟩
    have hr0 := x1.free hr
    have nr : r ∉ M := t.tM.nin hr0
    have nD : r ≠ D0 := fun z => k1 (by rw [← z]; exact hr)
    refine k (.ref r) _ (ExF.new hr) ?_
    have nDM : D0 ∉ M := t.tM.nin n1
    have hD1 : ∀ {w : V} {dd : PyData}, Rp M H w dd → Rp (D0 :: M) H w dd := fun r => r.add n1
    have rvD := (hD1 rv).ex x1.of
    obtain ⟨p', ws', e', np', hp', rw2⟩ := rvD.list_inv
    cases e'
    rw [hp] at hp'
    cases hp'
    exact .list (by simp [nr, nD]) upd_same ((rw2.ex (ExF.new hr)).reverse)
  · intro r ws H1 hr h1 r1 x1
    unfold t5_told_t11 tRet
    have t1 := t.ex x1.of
    refine ⟨_, rfl, _, rfl, _, rfl, _, rfl, .ref lr, .ref r, .ref lt, rfl, ?_⟩
    have ws1 : RpL M H1 ws P'.h := r1
    refine mkOf (P' := P') t1.hr h1 t1.ht t1.rr ws1 t1.rt gb fun y k1 k2 k3 H2 x2 py p1 p2 p3 => ?_
    have t2 := t1.ex x2.of
    refine eqP t2 g gb py p1 p2 p3 fun H3 x3 => ?_
    have t3 := t2.ex x3.of
    have x23 := x2.trans x3
    refine ⟨_, rfl, _, rfl, ?_⟩
    have o1 : ok 5 (.list P'.h) = true := by rw [ok_list]; exact ⟨gb.oh, by have := gb.lH; omega⟩
    have o2 : ok 5 (.list P.h) = true := by rw [ok_list]; exact ⟨g.oh, by have := g.lH; omega⟩
    refine eqO (n := 5) (m := 5) (F := []) (G := []) (.list (by simp) (x23.at_ _ _ (by simp) h1) ((ws1.sub (by simp)).ex x23)) (.list (by simp) t3.hh (t3.rh.sub (by simp))) o1 o2 (eqB ?_)
    have e1 : PyData.eqv (.list P'.h) (.list P.h) = prgEqv P.r (hoT P.hours) P.t P'.r (hoT P'.hours) P'.t := by
      rw [looks_alike]
      unfold dueP
      have s1 : PyData.eqvAll P'.r P.r = true := g.self.1
      have s2 : PyData.eqvAll P'.t P.t = true := g.self.2.2
      rw [PyData.eqv, PyData.eqv, PyData.eqvAll, PyData.eqvAll, PyData.eqvAll, PyData.eqv, PyData.eqv, PyData.eqv, PyData.eqvAll, s1, s2]
      cases PyData.eqvAll P'.h P.h <;> rfl
    rw [e1, beq_self_eq_true]
    exact q H3 (x1.trans x23)

/-- one of the three others -/
theorem told_b9 {nx : L2.St → Hp → Prop} {bk ct : L2.St → Hp → Prop} {Qr : VK} {oth l1 l2 l3 : Addr} {w1 w2 w3 : List V} {P' : PD} (t : TR5 D.cPrg st cl lr lh lt M x dx a b e xs ys zs ka kb ke P c H) (g : GoodP P) (g' : GoodP P') (ru : Rp M H (.ref pd) (dueP P))
    (ho : H oth = some (.tup [.ref l1, .ref l2, .ref l3])) (h1 : H l1 = some (.lst w1)) (h2 : H l2 = some (.lst w2)) (h3 : H l3 = some (.lst w3)) (r1 : RpL [] H w1 P'.r) (r2 : RpL [] H w2 P'.h) (r3 : RpL [] H w3 P'.t)
    (q : ∀ H', ExF [] H H' → nx (S5 st lr lh lt hd was x pd u8 u9 u10 (some (.ref oth)) u12 u13) H') : t5_told_b9 K D { nx := nx, rt := Qr, bk := bk, ct := ct } (S5 st lr lh lt hd was x pd u8 u9 u10 (some (.ref oth)) u12 u13) H := by
  unfold t5_told_b9
  have three : tCons (tOp (rIxU K) (tVar 11) (tC (.int 0))) (tCons (tOp (rIxU K) (tVar 11) (tC (.int 1))) (tCons (tOp (rIxU K) (tVar 11) (tC (.int 2))) (tNil))) (S5 st lr lh lt hd was x pd u8 u9 u10 (some (.ref oth)) u12 u13) H fun zs H1 => ∃ v1 v2 v3, zs = [v1, v2, v3] ∧ MkP D v1 v2 v3 H1 fun v H2 => rEqOwn D.cPrg (spPEq D.cPrg) (.ref x) v H2 fun v H3 => tOp (rEqU K) (tCB (rLstOf K) (tCons (tVar 11) (tNil))) (tVar 7) (S5 st lr lh lt hd was x pd u8 u9 u10 (some (.ref oth)) u12 u13) H3 fun u H4 => rNeU K v u H4 fun w H5 => ∃ k, w = .bl k ∧ if k = true then tRet (tC (.bl false)) { nx := nx, rt := Qr, bk := bk, ct := ct } (S5 st lr lh lt hd was x pd u8 u9 u10 (some (.ref oth)) u12 u13) H5 else nx (S5 st lr lh lt hd was x pd u8 u9 u10 (some (.ref oth)) u12 u13) H5 := by
    refine ⟨_, rfl, ixT ho rfl ⟨_, rfl, ixT ho rfl ⟨_, rfl, ixT ho rfl ⟨_, _, _, rfl, ?_⟩⟩⟩⟩
    refine mkOf h1 h2 h3 r1 r2 r3 g' fun y k1 k2 k3 H2 x2 py p1 p2 p3 => ?_
    have t2 := t.ex x2.of
    refine eqP t2 g g' py p1 p2 p3 fun H3 x3 => ?_
    have x23 := x2.trans x3
    refine ⟨_, rfl, lstOfT (x23.at_ _ _ (by simp) ho) fun p H4 hp e4 => ⟨_, rfl, ?_⟩⟩
    have x4 : ExF [] H H4 := x23.trans (exn e4 hp)
    have rp : Rp [] H4 (.ref p) (dueP P') := .list (by simp) (eqs e4) (.cons (.list (by simp) (x4.at_ _ _ (by simp) h1) (r1.ex x4)) (.cons (.list (by simp) (x4.at_ _ _ (by simp) h2) (r2.ex x4)) (.one (.list (by simp) (x4.at_ _ _ (by simp) h3) (r3.ex x4)))))
    refine eqO (n := 8) (m := 8) rp (ru.ex x4.of) (dueP_ok g') (dueP_ok g) (neB ⟨_, rfl, ?_⟩)
    have e1 : PyData.eqv (dueP P') (dueP P) = prgEqv P.r (hoT P.hours) P.t P'.r (hoT P'.hours) P'.t := by rw [looks_alike]; rfl
    rw [e1, bne_self_eq_false]
    exact iteF (q H4 x4)
  exact ⟨_, rfl, three⟩
theorem told_t9 (t : TR5 D.cPrg st cl lr lh lt M x dx a b e xs ys zs ka kb ke P c H) (g : GoodP P) (h79 : P.hours.length ≤ 790) (ru : Rp M H (.ref pd) (dueP P)) (q : ∀ H', ExF [] H H' → D'.rt (.bl true) H') : t5_told_t9 K D D' (S5 st lr lh lt hd was x pd u8 u9 u10 u11 u12 u13) H := by
  have sz : sizeLine = 16777216 := sizeLine_eq
  have lh8 := g.lH
  have ly := t.rh.1
  unfold t5_told_t9 tSeq tForU
  refine .inr (.inl ?_)
  unfold iTup tTupU
  refine ⟨_, rfl, lr, xs, rfl, .inl (.inl t.hr), fun p1 hp1 => ?_⟩
  generalize e1 : upd H p1 (.lst xs.reverse) = H1
  have e1 := e1.symm
  have x1 : ExF [] H H1 := exn e1 hp1
  refine ⟨_, rfl, _, rfl, ⟨by show 3 ≤ sizeLine; decide, fun q1 H2 hq1 e2 => ?_⟩⟩
  have x2 : ExF [] H1 H2 := exn e2 hq1
  have t2 := t.ex (x1.trans x2).of
  refine ⟨_, rfl, _, rfl, ⟨by decide, fun p2 H3 hp2 e3 => ⟨by show 1 ≤ sizeLine; decide, fun p3 H4 hp3 e4 => ?_⟩⟩⟩
  have x3 : ExF [] H2 H3 := exn e3 hp2
  have x4 : ExF [] H3 H4 := exn e4 hp3
  have t4 := t2.ex (x3.trans x4).of
  refine catL t4.hh (eqs e4) (by show ys.length + 1 ≤ sizeLine; omega) fun p4 H5 hp4 e5 => ?_
  have x5 : ExF [] H4 H5 := exn e5 hp4
  refine ⟨_, rfl, ⟨by show 3 ≤ sizeLine; decide, fun q2 H6 hq2 e6 => ?_⟩⟩
  have x6 : ExF [] H5 H6 := exn e6 hq2
  have t6 := t4.ex (x5.trans x6).of
  refine ⟨_, rfl, _, rfl, _, rfl, lt, zs, rfl, .inl (.inl t6.ht), fun p5 hp5 => ?_⟩
  generalize e7 : upd H6 p5 (.lst zs.reverse) = H7
  have e7 := e7.symm
  have x7 : ExF [] H6 H7 := exn e7 hp5
  refine ⟨by show 3 ≤ sizeLine; decide, fun q3 H8 hq3 e8 => ⟨by show 3 ≤ sizeLine; decide, fun q4 H9 hq4 e9 => ⟨q4, rfl, ⟨_, .inl (.inl (eqs e9))⟩, ?_⟩⟩⟩
  have x8 : ExF [] H7 H8 := exn e8 hq3
  have x9 : ExF [] H8 H9 := exn e9 hq4
  have x79 : ExF [] H6 H9 := (x7.trans x8).trans x9
  have x59 : ExF [] H4 H9 := (x5.trans x6).trans x79
  have x29 : ExF [] H2 H9 := (x3.trans x4).trans x59
  have x09 : ExF [] H H9 := (x1.trans x2).trans x29
  have t9 := t.ex x09.of
  have ru9 := ru.ex x09.of
  have b1 : H9 p1 = some (.lst xs.reverse) := (x2.trans x29).at_ _ _ (by simp) (eqs e1)
  have b2 : H9 p4 = some (.lst (ys ++ [.ref p2])) := (x6.trans x79).at_ _ _ (by simp) (eqs e5)
  have b3 : H9 p5 = some (.lst zs.reverse) := (x8.trans x9).at_ _ _ (by simp) (eqs e7)
  have c1 : H9 q1 = some (.tup [.ref p1, .ref lh, .ref lt]) := x29.at_ _ _ (by simp) (eqs e2)
  have c2 : H9 q2 = some (.tup [.ref lr, .ref p4, .ref lt]) := x79.at_ _ _ (by simp) (eqs e6)
  have c3 : H9 q3 = some (.tup [.ref lr, .ref lh, .ref p5]) := x9.at_ _ _ (by simp) (eqs e8)
  have n2 : H9 p2 = some (.lst []) := ((x4.trans x59)).at_ _ _ (by simp) (eqs e3)
  have rr : RpL [] H9 xs P.r := t9.rr.sub (by simp)
  have rh : RpL [] H9 ys P.h := t9.rh.sub (by simp)
  have rt : RpL [] H9 zs P.t := t9.rt.sub (by simp)
  have d1 : RpL [] H9 xs.reverse (PD.mk P.reads.reverse P.hours P.tells).r := by have := rr.reverse; show RpL [] H9 _ (P.reads.reverse.map prD); rw [List.map_reverse]; exact this
  have d3 : RpL [] H9 zs.reverse (PD.mk P.reads P.hours P.tells.reverse).t := by have := rt.reverse; show RpL [] H9 _ (P.tells.reverse.map prD); rw [List.map_reverse]; exact this
  have d2 : RpL [] H9 (ys ++ [.ref p2]) (PD.mk P.reads (P.hours ++ [[]]) P.tells).h := by
    show RpL [] H9 _ ((P.hours ++ [[]]).map _)
    rw [List.map_append]
    exact rh.append (.one (.list (by simp) n2 .nil))
  refine for_it (wkT (xs := [.ref q1, .ref q2, .ref q3])) (fun i σ' H' => ∃ w : Option V, σ' = S5 st lr lh lt hd was x pd u8 u9 u10 w u12 u13 ∧ ExF [] H9 H') ⟨u11, rfl, ExF.refl⟩ (fun i σ' H' _ ⟨_, _, y⟩ => y.at_ _ _ (by simp) (eqs e9)) ?_ ?_
  · rintro i v σ' H' H'' hi ⟨w, rfl, y⟩ ⟨e, hv⟩
    subst e
    have ty := t9.ex y.of
    have hi3 : i = 0 ∨ i = 1 ∨ i = 2 := by simp at hi; omega
    rcases hi3 with e | e | e <;> subst e
    · cases hv
      exact told_b9 ty g g.revR (ru9.ex y.of) (y.at_ _ _ (by simp) c1) (y.at_ _ _ (by simp) b1) ty.hh ty.ht (d1.ex y) (ty.rh.sub (by simp)) (ty.rt.sub (by simp)) fun H2 y2 => ⟨_, rfl, y.trans y2⟩
    · cases hv
      exact told_b9 ty g (g.more (by omega)) (ru9.ex y.of) (y.at_ _ _ (by simp) c2) ty.hr (y.at_ _ _ (by simp) b2) ty.ht (ty.rr.sub (by simp)) (d2.ex y) (ty.rt.sub (by simp)) fun H2 y2 => ⟨_, rfl, y.trans y2⟩
    · cases hv
      exact told_b9 ty g g.revT (ru9.ex y.of) (y.at_ _ _ (by simp) c3) ty.hr ty.hh (y.at_ _ _ (by simp) b3) (ty.rr.sub (by simp)) (ty.rh.sub (by simp)) (d3.ex y) fun H2 y2 => ⟨_, rfl, y.trans y2⟩
  · rintro σ' H' ⟨w, rfl, y⟩
    exact told_t10 (t9.ex y.of) g fun H2 y2 => q H2 ((x09.trans y).trans y2)
end
end Tw
end

section
set_option Elab.async false
set_option linter.all false
set_option maxRecDepth 100000
set_option maxHeartbeats 1000000
namespace Tw
open PySem L2 PyProof.Rows
section
variable {K : PySem.W.Frag} {D : Ad5} {D' : Ends} {st cl lr lh lt : Addr} {M : List Addr} {x dx a b e : Addr} {xs ys zs ka kb ke : List V} {P : PD} {c : Nat} {H H' : Hp} {hd pd : Addr} {was : Str} {u8 u9 u10 u11 u12 u13 : Option V}
theorem GoodP.selfP (g : GoodP P) : prgEqv P.r (hoT P.hours) P.t P.r (hoT P.hours) P.t = true := by
  rw [looks_alike]
  exact eqv_refl _ (ok_plain (dueP_ok g))
theorem told_t7 (t : TR5 D.cPrg st cl lr lh lt M x dx a b e xs ys zs ka kb ke P c H) (g : GoodP P) (h79 : P.hours.length ≤ 790) (ru : Rp M H (.ref pd) (dueP P)) (q : ∀ H', ExF [] H H' → D'.rt (.bl true) H') : t5_told_t7 K D D' (S5 st lr lh lt hd was x pd u8 u9 u10 u11 u12 u13) H := by
  unfold t5_told_t7 tSeq tAsg
  refine ⟨_, rfl, _, rfl, _, rfl, _, _, _, rfl, ?_⟩
  refine mkOf t.hr t.hh t.ht t.rr t.rh t.rt g fun y k1 k2 k3 H2 x2 py p1 p2 p3 => ?_
  have t2 := t.ex x2.of
  unfold t5_told_t8 tSeq
  have pyx : ∀ {H3 : Hp}, ExF [] H2 H3 → PrgAt D.cPrg H3 y k1 k2 k3 := fun x => by
    obtain ⟨dy, a', b', e', h1, h2, h3, h4⟩ := py
    exact ⟨dy, a', b', e', x.at_ _ _ (by simp) h1, x.at_ _ _ (by simp) h2, x.at_ _ _ (by simp) h3, x.at_ _ _ (by simp) h4⟩
  refine ⟨_, rfl, _, rfl, eqP t2 g g py p1 p2 p3 fun H3 x3 => ⟨_, rfl, ?_⟩⟩
  have t3 := t2.ex x3.of
  rw [g.selfP]
  refine iteF ?_
  refine ⟨_, rfl, _, rfl, neP t3 g g (pyx x3) (p1.ex x3) (p2.ex x3) (p3.ex x3) fun H4 x4 => ⟨_, rfl, ?_⟩⟩
  have t4 := t3.ex x4.of
  rw [g.selfP]
  refine iteF ?_
  refine ⟨_, rfl, _, rfl, _, rfl, _, rfl, ⟨by show 3 ≤ sizeLine; decide, fun p H5 hp e5 => ?_⟩⟩
  have x5 : ExF [] H4 H5 := exn e5 hp
  have t5 := t4.ex x5.of
  refine eqTup (ds := [.list P.r, .list P.h, .list P.t]) t5 g (eqs e5) (.cons (.list (t.ne _ (by simp)) t5.hr t5.rr) (.cons (.list (t.ne _ (by simp)) t5.hh t5.rh) (.one (.list (t.ne _ (by simp)) t5.ht t5.rt)))) fun H6 x6 => ⟨_, rfl, iteF ?_⟩
  have x06 : ExF [] H H6 := (((x2.trans x3).trans x4).trans x5).trans x6
  exact told_t9 (t5.ex x6.of) g h79 (ru.ex x06.of) fun H' x' => q H' (x06.trans x')
theorem told_t6 (t : TR5 D.cPrg st cl lr lh lt M x dx a b e xs ys zs ka kb ke P c H) (g : GoodP P) (h79 : P.hours.length ≤ 790) (ru : Rp M H (.ref pd) (dueP P)) (q : ∀ H', ExF [] H H' → D'.rt (.bl true) H') : t5_told_t6 K D D' (S5 st lr lh lt hd was x pd u8 u9 u10 u11 u12 u13) H := by
  unfold t5_told_t6 tSeq
  refine same5 t g rfl rfl ru fun H1 x1 => ⟨_, rfl, iteF ?_⟩
  exact told_t7 (t.ex x1.of) g h79 (ru.ex x1.of) fun H' x' => q H' (x1.trans x')
theorem told_t5 (t : TR5 D.cPrg st cl lr lh lt M x dx a b e xs ys zs ka kb ke P c H) (g : GoodP P) (h79 : P.hours.length ≤ 790) (ru : Rp M H (.ref pd) (dueP P)) (q : ∀ H', ExF [] H H' → D'.rt (.bl true) H') : t5_told_t5 K D D' (S5 st lr lh lt hd was x pd u8 u9 u10 u11 u12 u13) H := by
  have sz : sizeLine = 16777216 := sizeLine_eq
  have lR := g.lR
  have lH := g.lH
  have lT := g.lT
  unfold t5_told_t5 tSeq tForU
  refine .inr (.inl ?_)
  unfold iTup tTupU
  refine reads5 t rfl fun r1 H1 n1 h1 x1 => ?_
  have t1 := t.ex x1.of
  refine hours5 t1 g rfl fun r2 ws H2 n2 h2 rw2 _ x2 => ?_
  have t2 := t1.ex x2.of
  refine tells5 t2 rfl fun r3 H3 n3 h3 x3 => ?_
  have t3 := t2.ex x3.of
  refine hours5 t3 g rfl fun r4 vs H4 n4 h4 rw4 nw x4 => ?_
  have t4 := t3.ex x4.of
  have lv := rw4.1
  refine ⟨by decide, fun p5 H5 hp5 e5 => ⟨by show 1 ≤ sizeLine; decide, fun p6 H6 hp6 e6 => ?_⟩⟩
  have x5 : ExF [] H4 H5 := exn e5 hp5
  have x6 : ExF [] H5 H6 := exn e6 hp6
  refine catL ((x5.trans x6).at_ _ _ (by simp) h4) (eqs e6) (by show vs.length + 1 ≤ sizeLine; omega) fun p7 H7 hp7 e7 => ?_
  have x7 : ExF [] H6 H7 := exn e7 hp7
  -- the first of them: a new list
  have fst : ∃ r z, (vs ++ [V.ref p5])[0]? = some (.ref r) ∧ H3 r = none ∧ H7 r = some (.lst z) ∧ z.length ≤ 1000 := by
    cases vs with
    | nil => exact ⟨p5, [], rfl, x4.free hp5, (x6.trans x7).at_ _ _ (by simp) (eqs e5), by simp⟩
    | cons v vs =>
      obtain ⟨p, z, e, hp, hz⟩ := nw 0 v rfl
      subst e
      refine ⟨p, z, rfl, hp, ((x5.trans x6).trans x7).at_ _ _ (by simp) hz, ?_⟩
      obtain ⟨d, hd, rd⟩ := rw4.get' (i := 0) rfl
      obtain ⟨y, hy, e⟩ : ∃ y, y ∈ P.hours ∧ d = .list (y.map roD) := by
        unfold PD.h at hd
        rw [List.getElem?_map] at hd
        cases hh : P.hours[0]? with
        | none => rw [hh] at hd; cases hd
        | some y => rw [hh] at hd; cases hd; exact ⟨y, List.mem_of_getElem? hh, rfl⟩
      subst e
      obtain ⟨p', z', e', _, hp', rz⟩ := rd.list_inv
      cases e'
      rw [hz] at hp'
      cases hp'
      have := rz.1
      rw [List.length_map] at this
      have := (g.hk y hy).1
      omega
  obtain ⟨r, z, e0, nr, hr, lz⟩ := fst
  have at0 : atI (vs ++ [V.ref p5]) (0 : Int) = some (.ref r) := atN (by decide) e0
  refine ixL (eqs e7) at0 ⟨by show 4 ≤ sizeLine; decide, fun p8 H8 hp8 e8 => ⟨p8, rfl, ⟨_, .inl (.inl (eqs e8))⟩, ?_⟩⟩
  have x8 : ExF [] H7 H8 := exn e8 hp8
  have x48 : ExF [] H4 H8 := ((x5.trans x6).trans x7).trans x8
  have x38 := x4.trans x48
  have x28 := x3.trans x38
  have x18 := x2.trans x28
  have x08 := x1.trans x18
  have k1 := x18.at_ _ _ (by simp) h1
  have k2 := x28.at_ _ _ (by simp) h2
  have k3 := x38.at_ _ _ (by simp) h3
  have k4 := x8.at_ _ _ (by simp) hr
  have d12 : r1 ≠ r2 := ne_of_none h1 n2
  have d13 : r1 ≠ r3 := ne_of_none (x2.at_ _ _ (by simp) h1) n3
  have d23 : r2 ≠ r3 := ne_of_none h2 n3
  have d14 : r1 ≠ r := ne_of_none ((x2.trans x3).at_ _ _ (by simp) h1) nr
  have d24 : r2 ≠ r := ne_of_none (x3.at_ _ _ (by simp) h2) nr
  have d34 : r3 ≠ r := ne_of_none h3 nr
  have f2 := x1.free n2
  have f3 := (x1.trans x2).free n3
  have f4 := ((x1.trans x2).trans x3).free nr
  have np : p8 ∉ [r1, r2, r3, r] := by
    intro w
    simp at w
    rcases w with w | w | w | w <;> subst w
    · exact ne_of_none ((x2.trans (x3.trans (x4.trans ((x5.trans x6).trans x7)))).at_ _ _ (by simp) h1) hp8 rfl
    · exact ne_of_none ((x3.trans (x4.trans ((x5.trans x6).trans x7))).at_ _ _ (by simp) h2) hp8 rfl
    · exact ne_of_none ((x4.trans ((x5.trans x6).trans x7)).at_ _ _ (by simp) h3) hp8 rfl
    · exact ne_of_none hr hp8 rfl
  have l1 := t1.ra.1
  have l3 := t3.re.1
  have l2 := rw2.1
  refine for_it (wkT (xs := [.ref r1, .ref r2, .ref r3, .ref r])) (fun i σ' H' => ∃ (w : Option V) (z1 z2 z3 z4 : List V), σ' = S5 st lr lh lt hd was x pd u8 w u10 u11 u12 u13 ∧ H' r1 = some (.lst z1) ∧ H' r2 = some (.lst z2) ∧ H' r3 = some (.lst z3) ∧ H' r = some (.lst z4) ∧ z1.length ≤ 1000 + i ∧ z2.length ≤ 1000 + i ∧ z3.length ≤ 1000 + i ∧ z4.length ≤ 1000 + i ∧ ExF [r1, r2, r3, r] H8 H')
    ⟨u9, _, _, _, _, rfl, k1, k2, k3, k4, by omega, by omega, by omega, by omega, ExF.refl⟩ ?_ ?_ ?_
  · rintro i σ' H' _ ⟨_, _, _, _, _, _, _, _, _, _, _, _, _, _, y⟩
    exact y.at_ _ _ np (eqs e8)
  · rintro i v σ' H' H'' hi ⟨w, z1, z2, z3, z4, rfl, w1, w2, w3, w4, s1, s2, s3, s4, y⟩ ⟨e, hv⟩
    subst e
    have hi3 : i = 0 ∨ i = 1 ∨ i = 2 ∨ i = 3 := by simp at hi; omega
    rcases hi3 with e | e | e | e <;> subst e
    · cases hv
      refine ⟨_, rfl, tyL w1, app w1 (by omega) fun H10 e10 => ?_⟩
      exact ⟨_, _, _, _, _, rfl, eqs e10, eqn e10 d12.symm w2, eqn e10 d13.symm w3, eqn e10 d14.symm w4, by simp; omega, by omega, by omega, by omega, exm e10 (.inr (by simp)) y⟩
    · cases hv
      refine ⟨_, rfl, tyL w2, app w2 (by omega) fun H10 e10 => ?_⟩
      exact ⟨_, _, _, _, _, rfl, eqn e10 d12 w1, eqs e10, eqn e10 d23.symm w3, eqn e10 d24.symm w4, by omega, by simp; omega, by omega, by omega, exm e10 (.inr (by simp)) y⟩
    · cases hv
      refine ⟨_, rfl, tyL w3, app w3 (by omega) fun H10 e10 => ?_⟩
      exact ⟨_, _, _, _, _, rfl, eqn e10 d13 w1, eqn e10 d23 w2, eqs e10, eqn e10 d34.symm w4, by omega, by omega, by simp; omega, by omega, exm e10 (.inr (by simp)) y⟩
    · cases hv
      refine ⟨_, rfl, tyL w4, app w4 (by omega) fun H10 e10 => ?_⟩
      exact ⟨_, _, _, _, _, rfl, eqn e10 d14 w1, eqn e10 d24 w2, eqn e10 d34 w3, eqs e10, by omega, by omega, by omega, by simp; omega, exm e10 (.inr (by simp)) y⟩
  · rintro σ' H10 ⟨w, z1, z2, z3, z4, rfl, w1, w2, w3, w4, s1, s2, s3, s4, y⟩
    have x10 : ExF [] H H10 := ((((x08.of.trans y).drop n1).drop f2).drop f3).drop f4
    exact told_t6 (t.ex x10.of) g h79 (ru.ex x10.of) fun H' x' => q H' (x10.trans x')
end
end Tw
end

section
set_option Elab.async false
set_option linter.all false
set_option maxRecDepth 100000
set_option maxHeartbeats 1000000
namespace Tw
open PySem L2 PyProof.Rows
theorem isiSq {K : PySem.W.Frag} {H : Hp} {Q : VK} {p : Addr} {zs : List V} (h : Sq H p zs) (q1 : H p = some (.lst zs) → Q (.bl true) H) (q2 : Q (.bl false) H) : rIsiU K [.ref p, .ty "list"] H Q := by
  unfold rIsiU
  rcases h with h | h
  · exact .inl ⟨.ref p, .ty "list", _, _, true, rfl, .ty "list", .base (.lst h), kit_ty (by decide +kernel), q1 h⟩
  · exact .inl ⟨.ref p, .ty "list", _, _, false, rfl, .ty "list", .base (.tup h), kit_ty (by decide +kernel), q2⟩
section
variable {K : PySem.W.Frag} {D : Ad5} {D' : Ends} {st cl lr lh lt : Addr} {M : List Addr} {x dx a b e : Addr} {xs ys zs ka kb ke : List V} {P : PD} {c : Nat} {H H' : Hp} {hd pd : Addr} {was : Str} {u8 u9 u10 u11 u12 u13 : Option V}
theorem told_b4 {nx : L2.St → Hp → Prop} {bk ct : L2.St → Hp → Prop} {Qr : VK} {p : Addr} {ws : List V} (h : Sq H p ws) (hl : ws.length ≤ 1000)
    (q0 : nx (S5 st lr lh lt hd was x pd (some (.ref p)) u9 u10 u11 u12 u13) H) (q1 : ∀ H' o, H' = upd H p o → nx (S5 st lr lh lt hd was x pd (some (.ref p)) u9 u10 u11 u12 u13) H') : t5_told_b4 K D { nx := nx, rt := Qr, bk := bk, ct := ct } (S5 st lr lh lt hd was x pd (some (.ref p)) u9 u10 u11 u12 u13) H := by
  unfold t5_told_b4
  have sz : sizeLine = 16777216 := sizeLine_eq
  refine ⟨_, rfl, isiSq h (fun h => ⟨_, rfl, iteT ?_⟩) ⟨_, rfl, iteF q0⟩⟩
  exact ⟨_, rfl, tyL h, app h (by omega) fun H' e => q1 H' _ e⟩
theorem told_t4 {h1 h2 h3 : Addr} {w1 w2 w3 : List V} (t : TR5 D.cPrg st cl lr lh lt [h1, h2, h3] x dx a b e xs ys zs ka kb ke P c H) (g : GoodP P) (h79 : P.hours.length ≤ 790) (ru : Rp [h1, h2, h3] H (.ref pd) (dueP P))
    (hh : H hd = some (.lst [.ref h1, .ref h2, .ref h3])) (nh : hd ∉ [h1, h2, h3]) (s1 : Sq H h1 w1) (s2 : Sq H h2 w2) (s3 : Sq H h3 w3) (l1 : w1.length ≤ 1000) (l2 : w2.length ≤ 1000) (l3 : w3.length ≤ 1000) (d12 : h1 ≠ h2) (d13 : h1 ≠ h3) (d23 : h2 ≠ h3)
    (q : ∀ H', ExF [h1, h2, h3] H H' → D'.rt (.bl true) H') : t5_told_t4 K D D' (S5 st lr lh lt hd was x pd u8 u9 u10 u11 u12 u13) H := by
  unfold t5_told_t4 tSeq tForU
  refine .inl ⟨_, rfl, hd, rfl, ⟨_, .inl (.inl hh)⟩, ?_⟩
  refine for_it (wkL (xs := [.ref h1, .ref h2, .ref h3])) (fun i σ' H' => ∃ w : Option V, σ' = S5 st lr lh lt hd was x pd w u9 u10 u11 u12 u13 ∧ ExF [h1, h2, h3] H H' ∧ (i ≤ 0 → Sq H' h1 w1) ∧ (i ≤ 1 → Sq H' h2 w2) ∧ (i ≤ 2 → Sq H' h3 w3)) ⟨u8, rfl, ExF.refl, fun _ => s1, fun _ => s2, fun _ => s3⟩ (fun i σ' H' _ ⟨_, _, y, _⟩ => y.at_ _ _ nh hh) ?_ ?_
  · rintro i v σ' H' H'' hi ⟨w, rfl, y, k1, k2, k3⟩ ⟨e, hv⟩
    subst e
    have keep : ∀ {p r : Addr} {o : HO} {H2 H' : Hp} {ws : List V}, H2 = upd H' p o → r ≠ p → Sq H' r ws → Sq H2 r ws := fun e n s => s.elim (fun h => .inl (eqn e n h)) fun h => .inr (eqn e n h)
    have hi3 : i = 0 ∨ i = 1 ∨ i = 2 := by simp at hi; omega
    rcases hi3 with e | e | e <;> subst e
    · cases hv
      exact told_b4 (D := D) (k1 (by decide)) l1 ⟨_, rfl, y, fun h => by omega, fun _ => k2 (by decide), fun _ => k3 (by decide)⟩ fun H2 o e2 => ⟨_, rfl, exm e2 (.inr (by simp)) y, fun h => by omega, fun _ => keep e2 d12.symm (k2 (by decide)), fun _ => keep e2 d13.symm (k3 (by decide))⟩
    · cases hv
      exact told_b4 (D := D) (k2 (by decide)) l2 ⟨_, rfl, y, fun h => by omega, fun h => by omega, fun _ => k3 (by decide)⟩ fun H2 o e2 => ⟨_, rfl, exm e2 (.inr (by simp)) y, fun h => by omega, fun h => by omega, fun _ => keep e2 d23.symm (k3 (by decide))⟩
    · cases hv
      exact told_b4 (D := D) (k3 (by decide)) l3 ⟨_, rfl, y, fun h => by omega, fun h => by omega, fun h => by omega⟩ fun H2 o e2 => ⟨_, rfl, exm e2 (.inr (by simp)) y, fun h => by omega, fun h => by omega, fun h => by omega⟩
  · rintro σ' H' ⟨w, rfl, y, _⟩
    exact told_t5 (t.ex y) g h79 (ru.ex y) fun H2 y2 => q H2 (y.trans y2.of)
end
/-- loose of a list -/
theorem loose5 {st cl l : Addr} {c : Nat} {F : List Addr} {H : Hp} {xs : List V} {ds : List PyData} {Q : VK} (S : Strm st cl H c) (fs : st ∈ F) (fc : cl ∈ F) (hl : H l = some (.lst xs)) (nl : l ∉ F) (r : RpL F H xs ds) (ho : oks 4 ds = true) (hz : ds.length ≤ 1000) (hc : c + (sizes ds + 1) < 2 ^ 48)
    (q : ∀ p d' ds' zs c' H', c ≤ c' → c' ≤ c + (sizes ds + 1) → Strm st cl H' c' → ExF [st, cl] H H' → Rp [st, cl] H' (.ref p) d' → tupD d' = tupD (.list ds) → items d' = some ds' → tups ds' = tups ds → ok 5 d' = true → H p = none → H' p ≠ none → Sq H' p zs → zs.length ≤ 1000 → Q (.ref p) H') : spLoose 20 [.ref st, .ref l] H Q E0 := by
  refine ⟨st, cl, c, F, [st, cl], .ref l, .list ds, 5, rfl, S, fs, fc, .list nl hl r, by rw [ok_list]; exact ⟨ho, by omega⟩, by decide, by rw [size]; omega, S.trk, fun r d' c' H1 l1 u1 S1 x1 rh htup hok hfresh => ?_⟩
  obtain ⟨p, rfl, hp⟩ := hfresh rfl
  have hit : ∃ ds', items d' = some ds' ∧ tups ds' = tups ds := by
    have ht := htup
    cases d' with
    | list es => rw [tupD, tupD] at ht; injection ht with ht; exact ⟨es, rfl, ht⟩
    | tuple es => rw [tupD, tupD] at ht; injection ht with ht; exact ⟨es, rfl, ht⟩
    | none => rw [tupD, tupD] at ht; cases ht
    | bool _ => rw [tupD, tupD] at ht; cases ht
    | int _ => rw [tupD, tupD] at ht; cases ht
    | str _ => rw [tupD, tupD] at ht; cases ht
    | dict _ => rw [tupD, tupD] at ht; cases ht
  obtain ⟨ds', hi, hds⟩ := hit
  obtain ⟨p', zs, e, _, hs, rz⟩ := rh.items hi
  cases e
  rw [size] at u1
  have lz := rz.1
  have : ds'.length = ds.length := by rw [← tups_len ds', hds, tups_len]
  exact q p d' ds' zs c' H1 l1 (by omega) S1 x1 rh htup hi hds hok hp hs.ne hs (by omega)
end Tw
end

section
set_option Elab.async false
set_option linter.all false
set_option maxRecDepth 100000
set_option maxHeartbeats 2000000
namespace Tw
open PySem L2 PyProof.Rows
theorem rd5_told {K : PySem.W.Frag} {D : Ad5} {vs : List V} {H : Hp} {Q : VK} {E : XK} (h : spTold5 vs H Q E) :
    t5_told K D { nx := fun _ H' => Q .non H', rt := Q } (start ["_law_stream", "_law_reads", "_law_hours", "_law_tells", "_law_handed", "_law_was", "_law_made", "_law_due", "_law_passed", "_law_told", "_law_twin", "_law_other", "_law_bent", "_law_hour"] vs) H := by
  obtain ⟨st, cl, c, F, lr, lh, lt, xs, ys, zs, P, rfl, S, fs, fc, hlr, hlh, hlt, nr, nh, nt, rr, rh, rt, g, h79, hc, q⟩ := h
  have sz : sizeLine = 16777216 := sizeLine_eq
  have lR := g.lR
  have lH := g.lH
  have lT := g.lT
  have zR : sizes P.r ≤ 2250 := by unfold PD.r; rw [size_prs]; have := g.lr; omega
  have zT : sizes P.t ≤ 60 := by unfold PD.t; rw [size_prs]; have := g.lt; omega
  have zH := g.sh
  have sF : ∀ a ∈ [st, cl], a ∈ F := fun a z => by simp at z; rcases z with z | z <;> (rw [z]; assumption)
  unfold t5_told tSeq tAsg
  -- the three, in loose brackets
  refine ⟨_, rfl, _, rfl, loose5 S fs fc hlr nr rr g.or (by omega) (by omega) fun h1 d1 e1 w1 c1 H1 g1 u1 S1 x1 p1 t1 i1 j1 o1 n1 m1 s1 l1 => ?_⟩
  have xF1 : ExF F H H1 := x1.sub sF
  have nl : ∀ {l : Addr}, l ∉ F → l ∉ [st, cl] := fun n z => n (sF _ z)
  have hlr1 := x1.at_ _ _ (nl nr) hlr
  have hlh1 := x1.at_ _ _ (nl nh) hlh
  have hlt1 := x1.at_ _ _ (nl nt) hlt
  refine ⟨_, rfl, _, rfl, loose5 S1 fs fc hlh1 nh (rh.ex xF1) g.oh (by omega) (by omega) fun h2 d2 e2 w2 c2 H2 g2 u2 S2 x2 p2 t2 i2 j2 o2 n2 m2 s2 l2 => ?_⟩
  have xF2 : ExF F H1 H2 := x2.sub sF
  refine ⟨_, rfl, _, rfl, loose5 S2 fs fc (x2.at_ _ _ (nl nt) hlt1) nt (rt.ex (xF1.trans xF2)) g.ot (by omega) (by omega) fun h3 d3 e3 w3 c3 H3 g3 u3 S3 x3 p3 t3 i3 j3 o3 n3 m3 s3 l3 => ?_⟩
  have xF3 : ExF F H2 H3 := x3.sub sF
  have x03 : ExF [st, cl] H H3 := (x1.trans x2).trans x3
  have st_ : H st ≠ none := S.trk st (by simp)
  have cl_ : H cl ≠ none := S.trk cl (by simp)
  have q12 : h1 ≠ h2 := fun z => by rw [z] at m1; exact m1 n2
  have q23 : h2 ≠ h3 := fun z => by rw [z] at m2; exact m2 n3
  have q13 : h1 ≠ h3 := fun z => by rw [z] at m1; exact x2.kept _ m1 n3
  have n2' := x1.free n2
  have n3' := (x1.trans x2).free n3
  -- what was there before is none of the three
  have old : ∀ {a : Addr}, H a ≠ none → a ∉ [h1, h2, h3] := fun k z => by
    simp at z
    rcases z with z | z | z <;> rw [z] at k
    · exact k n1
    · exact k n2'
    · exact k n3'
  have hst : ∀ {a : Addr} {o : HO}, H a = some o → H a ≠ none := fun h z => by rw [h] at z; cases z
  have sM : ∀ a ∈ [h1, h2, h3], a ∈ h1 :: h2 :: h3 :: F := fun a z => by simp at z; rcases z with z | z | z <;> simp [z]
  have sB : ∀ a ∈ [st, cl], a ∈ h1 :: h2 :: h3 :: F := fun a z => by simp [sF a z]
  have rM : ∀ {ws : List V} {ds : List PyData}, RpL F H ws ds → RpL [h1, h2, h3] H3 ws ds := fun r => ((((r.add n3').add n2').add n1).ex (x03.sub sB)).sub sM
  have hlr3 := x03.at_ _ _ (nl nr) hlr
  have hlh3 := x03.at_ _ _ (nl nh) hlh
  have hlt3 := x03.at_ _ _ (nl nt) hlt
  refine ⟨by show 3 ≤ sizeLine; decide, fun hd H4 hhd e4 => ?_⟩
  have x4 : ExF [] H3 H4 := exn e4 hhd
  have tM3 : Trk [h1, h2, h3] H3 := fun a z => by
    simp at z
    rcases z with z | z | z <;> rw [z]
    · exact x3.kept _ (x2.kept _ m1)
    · exact x3.kept _ m2
    · exact m3
  have nhd : hd ∉ [h1, h2, h3] := tM3.nin hhd
  have tM4 := tM3.ex x4
  have hd4 : H4 hd = some (.lst [.ref h1, .ref h2, .ref h3]) := eqs e4
  have a1 : Rp [] H4 (.ref h1) d1 := ((p1.ex (x2.trans x3)).ex x4.of).sub (by simp)
  have a2 : Rp [] H4 (.ref h2) d2 := ((p2.ex x3).ex x4.of).sub (by simp)
  have a3 : Rp [] H4 (.ref h3) d3 := (p3.ex x4.of).sub (by simp)
  have rhd : Rp [] H4 (.ref hd) (.list [d1, d2, d3]) := .list (by simp) hd4 (.cons a1 (.cons a2 (.one a3)))
  have okD : ok 6 (.list [d1, d2, d3]) = true := by rw [ok_list, oks_cons, oks_cons, oks_cons]; exact ⟨⟨o1, o2, o3, by rw [oks]⟩, by simp⟩
  have ncD : nc (.list [d1, d2, d3]) = true := by
    have k1 : nc d1 = true := by rw [← nc_tup, t1, nc_tup, nc]; exact g.nr
    have k2 : nc d2 = true := by rw [← nc_tup, t2, nc_tup, nc]; exact g.nh
    have k3 : nc d3 = true := by rw [← nc_tup, t3, nc_tup, nc]; exact g.nt
    rw [nc, ncs, ncs, ncs, ncs, k1, k2, k3]; rfl
  have wD : wsz (.list [d1, d2, d3]) ≤ 16000000 := by
    have k1 : wsz d1 = wszs P.r + 6 := by rw [← wsz_tup, t1, wsz_tup, wsz]
    have k2 : wsz d2 = wszs P.h + 6 := by rw [← wsz_tup, t2, wsz_tup, wsz]
    have k3 : wsz d3 = wszs P.t + 6 := by rw [← wsz_tup, t3, wsz_tup, wsz]
    have k4 : wszs P.r = 101 * P.reads.length := wszs_prs _
    have k5 : wszs P.t = 101 * P.tells.length := wszs_prs _
    have := g.wh
    have := g.lr
    have := g.lt
    rw [wsz, wszs, wszs, wszs, wszs, k1, k2, k3, k4, k5]
    omega
  -- was, made
  unfold t5_told_t1 tSeq tPar
  refine ⟨_, rfl, reprNC rhd okD (by decide) ncD wD ?_⟩
  refine ⟨_, rfl, ixL hd4 rfl ⟨_, rfl, ixL hd4 rfl ⟨_, rfl, ixL hd4 rfl ⟨_, _, _, rfl, ?_⟩⟩⟩⟩
  have le : ∀ {ds' ds : List PyData}, tups ds' = tups ds → ds.length ≤ 1000 → ds'.length ≤ 1000 := fun e h => by rw [← tups_len, e, tups_len]; exact h
  have pf : progF d1 d2 d3 = none := by rw [progF_tup t1 t2 t3]; exact g.f
  refine mkPrg (n := 5) a1 a2 a3 (okx_of o1) (okx_of o2) (okx_of o3) (by decide) i1 i2 i3 (le j1 (by omega)) (le j2 (by omega)) (le j3 (by omega)) pf tM4 fun x dx a b e ka kb ke H5 x5 hx nx na nb ne hxs ha hb he ra rb re => ⟨_, _, rfl, ?_⟩
  have eR : tups e1 = P.r := by rw [j1]; exact map_prD_tup _
  have eH : tups e2 = hoT P.hours := by rw [j2]; exact hoL_tup _
  have eT : tups e3 = P.t := by rw [j3]; exact map_prD_tup _
  rw [eR] at ra
  rw [eH] at rb
  rw [eT] at re
  have x45 : ExF [] H3 H5 := x4.trans x5
  have T5 : TR5 D.cPrg st cl lr lh lt [h1, h2, h3] x dx a b e xs ys zs ka kb ke P c3 H5 := ⟨S3.ex' (F := []) (by simp) (by simp) x45, x45.at_ _ _ (by simp) hlr3, x45.at_ _ _ (by simp) hlh3, x45.at_ _ _ (by simp) hlt3, (rM rr).ex x45.of, (rM rh).ex x45.of, (rM rt).ex x45.of, hxs, ha, hb, he, ra, rb, re, fun w z => by
    simp only [List.mem_cons, List.not_mem_nil, or_false] at z
    rcases z with z | z | z | z | z | z | z | z | z <;> rw [z]
    · exact old st_
    · exact old cl_
    · exact old (hst hlr)
    · exact old (hst hlh)
    · exact old (hst hlt)
    · exact nx
    · exact na
    · exact nb
    · exact ne, tM4.ex x5⟩
  -- due
  unfold t5_told_t2 tSeq tAsg
  refine ⟨_, rfl, _, rfl, _, rfl, ⟨by show 3 ≤ sizeLine; decide, fun pd H6 hpd e6 => ?_⟩⟩
  have x6 : ExF [] H5 H6 := exn e6 hpd
  have T6 := T5.ex x6.of
  have npd : pd ∉ [h1, h2, h3] := T5.tM.nin hpd
  have ru6 : Rp [h1, h2, h3] H6 (.ref pd) (dueP P) := .list npd (eqs e6) (.cons (.list (T5.ne _ (by simp)) T6.hr T6.rr) (.cons (.list (T5.ne _ (by simp)) T6.hh T6.rh) (.one (.list (T5.ne _ (by simp)) T6.ht T6.rt))))
  -- the first look
  unfold t5_told_t3 tSeq
  refine same5 T6 g rfl rfl ru6 fun H7 x7 => ⟨_, rfl, iteF ?_⟩
  have x47 : ExF [] H4 H7 := (x5.trans x6).trans x7
  refine ⟨_, rfl, reprNC (rhd.ex x47) okD (by decide) ncD wD ?_⟩
  refine ⟨_, rfl, neS ⟨_, rfl, ?_⟩⟩
  rw [decide_eq_true rfl]
  refine iteF ?_
  have T7 := T6.ex x7.of
  have x37 : ExF [] H3 H7 := x4.trans x47
  refine told_t4 (hd := hd) (pd := pd) (x := x) T7 g h79 (ru6.ex x7.of) (x47.at_ _ _ (by simp) hd4) nhd (((s1.ex (x2.trans x3) ?_).ex x37 (by simp))) ((s2.ex x3 ?_).ex x37 (by simp)) (s3.ex x37 (by simp)) l1 l2 l3 q12 q13 q23 fun H8 x8 => ?_
  · exact S.trk.nin n1
  · exact S1.trk.nin n2
  refine q c3 H8 (by omega) (by omega) (T7.S.ex' (T7.ne _ (by simp)) (T7.ne _ (by simp)) x8) ?_
  have y : ExF [h1, h2, h3, st, cl] H H8 := (x03.sub (fun a z => by simp at z; rcases z with z | z <;> simp [z])).trans ((x37.of (G := [h1, h2, h3])).trans x8 |>.sub fun a z => by simp at z; rcases z with z | z | z <;> simp [z])
  exact ((y.drop n1).drop n2').drop n3'
end Tw
end

section
set_option Elab.async false
set_option linter.all false
set_option maxRecDepth 100000
set_option maxHeartbeats 1000000
namespace Tw
open PySem L2 PyProof.Rows
def T5 (st lr lh lt : Addr) (u4 u5 u6 u7 u8 : Option V) : L2.St := [some (.ref st), some (.ref lr), some (.ref lh), some (.ref lt), u4, u5, u6, u7, u8]
def Lot (M : List Addr) (H : Hp) (q : Addr) (k : Nat) : Prop := ∃ zs es, H q = some (.lst zs) ∧ RpL M H zs es ∧ okxs 12 es = true ∧ es.length ≤ k
theorem progF_cases (r h t : PyData) : progF r h t = none ∨ ∃ w i, progF r h t = some (w, i) ∧ (w = "reads" ∨ w = "hours" ∨ w = "tells") := by
  unfold progF
  cases pairsM true r with
  | some i => exact .inr ⟨_, i, rfl, .inl rfl⟩
  | none =>
    cases hoursM h with
    | some i => exact .inr ⟨_, i, rfl, .inr (.inl rfl)⟩
    | none =>
      cases pairsM false t with
      | some i => exact .inr ⟨_, i, rfl, .inr (.inr rfl)⟩
      | none => exact .inl rfl
theorem whyD_w {w : Str} {i : Nat} (h : w = "reads" ∨ w = "hours" ∨ w = "tells") : ok 2 (whyD (some (w, i))) = true := by
  have : okS w = true := by rcases h with h | h | h <;> (rw [h]; decide +kernel)
  rw [whyD, ok_tuple, oks_cons, oks_cons, ok_str, ok_int]
  exact ⟨⟨this, rfl, by rw [oks]⟩, by simp⟩
theorem whyD_ok (r h t : PyData) : ok 2 (whyD (progF r h t)) = true := by
  rcases progF_cases r h t with e | ⟨w, i, e, hw⟩
  · rw [e]; exact ok_none
  · rw [e]; exact whyD_w hw
section
variable {K : PySem.W.Frag} {D : Ad5} {nx bk ct : L2.St → Hp → Prop} {Qr : VK} {st cl lr lh lt : Addr} {M : List Addr} {xs ys zs : List V} {P : PD} {c : Nat} {H : Hp} {u4 u6 u7 u8 : Option V} {v : V} {d : PyData}
theorem Lot.keep {q : Addr} {k : Nat} {H' : Hp} (h : Lot M H q k) (x : ExF M H H') (e : ∀ o, H q = some o → H' q = some o) : Lot M H' q k := by
  obtain ⟨zs, es, h1, h2, h3⟩ := h
  exact ⟨zs, es, e _ h1, h2.ex x, h3⟩
theorem Lot.le {q : Addr} {k j : Nat} (h : Lot M H q k) (l : k ≤ j) : Lot M H q j := by
  obtain ⟨zs, es, h1, h2, h3, h4⟩ := h
  exact ⟨zs, es, h1, h2, h3, by omega⟩
theorem bent_lot {p : Addr} {k : Nat} (S : Strm st cl H c) (hc : c + 10 < 2 ^ 48) (hp : Lot M H p k) (hk : k ≤ 950) (ov : Rp M H v d) (od : okx 12 d = true) (sM : ∀ a ∈ [st, cl], a ∈ M) (pM : p ∈ M) (np : p ∉ [st, cl])
    (q : ∀ c' H', c ≤ c' → c' ≤ c + 2 → Strm st cl H' c' → ExF M H H' → ExF [p, st, cl] H H' → Lot M H' p (k + 1) → nx (T5 st lr lh lt u4 (some v) u6 (some (.ref p)) u8) H') :
    (tIfS (tTest (tOp (rEqU K) (tCall spDraw [] E0 (tCons (tVar 0) (tCons (tC (.int 2)) (tNil)))) (tC (.int 0)))) (tDrop (tBM K "list" (rInsert) (tVar 7) (tCons (tCall spDraw [] E0 (tCons (tVar 0) (tCons (tOp (rAddU K) (tCB (rLenU K) (tCons (tVar 7) (tNil))) (tC (.int 1))) (tNil)))) (tCons (tVar 5) (tNil))))) (tNext)) { nx := nx, rt := Qr, bk := bk, ct := ct } (T5 st lr lh lt u4 (some v) u6 (some (.ref p)) u8) H := by
  have sz : sizeLine = 16777216 := sizeLine_eq
  have hp48 : (2 : Nat) ^ 48 = 281474976710656 := by decide
  have nst : st ≠ p := fun e => np (by simp [e])
  have ncl : cl ≠ p := fun e => np (by simp [e])
  refine ⟨_, rfl, st, cl, c, 2, rfl, S, by omega, by decide, by decide, fun k1 H1 g0 g1 S1 x1 => eqI ⟨_, rfl, ?_⟩⟩
  have sP : ∀ a ∈ [st, cl], a ∈ [p, st, cl] := fun a z => List.mem_cons_of_mem _ z
  by_cases h0 : k1 = 0
  · rw [decide_eq_true h0]
    refine iteT ?_
    obtain ⟨ws, es, h1, h2, h3, h4⟩ := hp
    have lw := h2.1
    have h1' := x1.at_ _ _ np h1
    refine ⟨_, rfl, tyL h1', _, rfl, _, rfl, lenL h1' (addI ?_)⟩
    refine ⟨st, cl, c + 1, (ws.length : Int) + 1, rfl, S1, by omega, by omega, by omega, fun k2 H2 b0 b1 S2 x2 => ?_⟩
    obtain ⟨n2, rfl⟩ : ∃ j : Nat, k2 = j := ⟨k2.toNat, by omega⟩
    have h1'' := x2.at_ _ _ np h1'
    refine ⟨_, rfl, insL n2 rfl h1'' (by omega) (by omega) fun H3 e3 => ?_⟩
    have x12 : ExF [st, cl] H H2 := x1.trans x2
    have xM : ExF M H H3 := exm e3 (.inr pM) (x12.sub sM)
    have xP : ExF [p, st, cl] H H3 := exm e3 (.inr (by simp)) (x12.sub sP)
    have r2 := h2.ex xM
    have rv := ov.ex xM
    refine q (c + 1 + 1) H3 (by omega) (by omega) (S2.ex' (F := [p]) (by simp [nst]) (by simp [ncl]) (exm e3 (.inr (by simp)) ExF.refl)) xM xP ⟨_, es.take n2 ++ [d] ++ es.drop n2, eqs e3, ((r2.take n2).append (.one rv)).append (r2.dropN n2), ?_, ?_⟩
    · have := okxs_iff.mp h3
      refine okxs_iff.mpr fun e he => ?_
      rcases List.mem_append.mp he with he | he
      · rcases List.mem_append.mp he with he | he
        · exact this e (List.mem_of_mem_take he)
        · rw [List.mem_singleton.mp he]; exact od
      · exact this e (List.mem_of_mem_drop he)
    · rw [List.length_append, List.length_append, List.length_take, List.length_drop]
      simp
      omega
  · rw [decide_eq_false h0]
    exact iteF (q (c + 1) H1 (by omega) (by omega) S1 (x1.sub sM) (x1.sub sP) ((hp.keep (x1.sub sM) fun o h => x1.at_ _ _ np h).le (by omega)))
theorem bent_b1 (S : Strm st cl H c) (hc : c + 20 < 2 ^ 48) (g : GoodP P) (hr : H lr = some (.lst xs)) (hh : H lh = some (.lst ys)) (ht : H lt = some (.lst zs)) (rr : RpL [st, cl] H xs P.r) (rh : RpL [st, cl] H ys P.h) (rt : RpL [st, cl] H zs P.t)
    (ov : Rp [st, cl] H v d) (od : okx 12 d = true) (q : ∀ c' w6 w7 H', c ≤ c' → c' ≤ c + 6 → Strm st cl H' c' → ExF [st, cl] H H' → nx (T5 st lr lh lt u4 (some v) w6 w7 u8) H') :
    t5_bent_b1 K D { nx := nx, rt := Qr, bk := bk, ct := ct } (T5 st lr lh lt u4 (some v) u6 u7 u8) H := by
  have sz : sizeLine = 16777216 := sizeLine_eq
  have hp48 : (2 : Nat) ^ 48 = 281474976710656 := by decide
  have lR := g.lR
  have lH := g.lH
  have lT := g.lT
  unfold t5_bent_b1
  refine ⟨_, rfl, lstOfL hr fun q1 H1 hq1 e1 => ?_⟩
  have x1 : ExF [] H H1 := exn e1 hq1
  refine ⟨_, rfl, lstOfL (x1.at_ _ _ (by simp) hh) fun q2 H2 hq2 e2 => ?_⟩
  have x2 : ExF [] H1 H2 := exn e2 hq2
  refine ⟨_, rfl, lstOfL ((x1.trans x2).at_ _ _ (by simp) ht) fun q3 H3 hq3 e3 => ?_⟩
  have x3 : ExF [] H2 H3 := exn e3 hq3
  refine ⟨by show 3 ≤ sizeLine; decide, fun q4 H4 hq4 e4 => ?_⟩
  have x4 : ExF [] H3 H4 := exn e4 hq4
  have x14 : ExF [] H1 H4 := (x2.trans x3).trans x4
  have x04 : ExF [] H H4 := x1.trans x14
  have n2 := x1.free hq2
  have n3 := (x1.trans x2).free hq3
  have n4 := ((x1.trans x2).trans x3).free hq4
  have S4 := S.ex' (F := []) (by simp) (by simp) x04
  have tk := S.trk
  have m1 : q1 ∉ [st, cl] := tk.nin hq1
  have m2 : q2 ∉ [st, cl] := tk.nin n2
  have m3 : q3 ∉ [st, cl] := tk.nin n3
  have m4 : q4 ∉ [st, cl] := tk.nin n4
  have k1 : H4 q1 = some (.lst xs) := x14.at_ _ _ (by simp) (eqs e1)
  have k2 : H4 q2 = some (.lst ys) := (x3.trans x4).at_ _ _ (by simp) (eqs e2)
  have k3 : H4 q3 = some (.lst zs) := x4.at_ _ _ (by simp) (eqs e3)
  have k4 : H4 q4 = some (.lst [.ref q1, .ref q2, .ref q3]) := eqs e4
  have d12 : q1 ≠ q2 := ne_of_none (eqs e1) hq2
  have d13 : q1 ≠ q3 := ne_of_none (x2.at_ _ _ (by simp) (eqs e1)) hq3
  have d23 : q2 ≠ q3 := ne_of_none (eqs e2) hq3
  have d14 : q1 ≠ q4 := ne_of_none ((x2.trans x3).at_ _ _ (by simp) (eqs e1)) hq4
  have d24 : q2 ≠ q4 := ne_of_none (x3.at_ _ _ (by simp) (eqs e2)) hq4
  have d34 : q3 ≠ q4 := ne_of_none (eqs e3) hq4
  have n4M : q4 ∉ [q1, q2, q3, st, cl] := by
    intro z
    simp only [List.mem_cons, List.not_mem_nil, or_false] at z
    rcases z with z | z | z | z
    · exact d14 z.symm
    · exact d24 z.symm
    · exact d34 z.symm
    · exact m4 (by simpa using z)
  have up : ∀ {ws : List V} {ds : List PyData}, RpL [st, cl] H ws ds → RpL [q1, q2, q3, st, cl] H4 ws ds := fun r => (((r.add n3).add n2).add hq1).ex x04.of
  have ov4 : Rp [q1, q2, q3, st, cl] H4 v d := (((ov.add n3).add n2).add hq1).ex x04.of
  have o12 : ∀ {ds : List PyData}, oks 4 ds = true → okxs 12 ds = true := fun h => okxs_of (oks_le h (by decide))
  have L1 : Lot [q1, q2, q3, st, cl] H4 q1 900 := ⟨xs, P.r, k1, up rr, o12 g.or, by omega⟩
  have L2 : Lot [q1, q2, q3, st, cl] H4 q2 900 := ⟨ys, P.h, k2, up rh, o12 g.oh, by omega⟩
  have L3 : Lot [q1, q2, q3, st, cl] H4 q3 900 := ⟨zs, P.t, k3, up rt, o12 g.ot, by omega⟩
  have sM : ∀ a ∈ [st, cl], a ∈ [q1, q2, q3, st, cl] := fun a z => by simp at z; rcases z with z | z <;> simp [z]
  refine forI (.inl ?_)
  refine ⟨_, rfl, q4, rfl, ⟨_, .inl (.inl k4)⟩, ?_⟩
  refine for_it (wkL (xs := [.ref q1, .ref q2, .ref q3])) (fun i σ' H' => ∃ (c' : Nat) (w7 : Option V), σ' = T5 st lr lh lt u4 (some v) (some (.ref q4)) w7 u8 ∧ Strm st cl H' c' ∧ c ≤ c' ∧ c' ≤ c + 2 * i ∧ ExF [q1, q2, q3, st, cl] H4 H' ∧ Lot [q1, q2, q3, st, cl] H' q1 901 ∧ Lot [q1, q2, q3, st, cl] H' q2 901 ∧ Lot [q1, q2, q3, st, cl] H' q3 901 ∧ (i ≤ 0 → Lot [q1, q2, q3, st, cl] H' q1 900) ∧ (i ≤ 1 → Lot [q1, q2, q3, st, cl] H' q2 900) ∧ (i ≤ 2 → Lot [q1, q2, q3, st, cl] H' q3 900))
    ⟨c, u7, rfl, S4, by omega, by omega, ExF.refl, L1.le (by decide), L2.le (by decide), L3.le (by decide), fun _ => L1, fun _ => L2, fun _ => L3⟩ (fun i σ' H' _ ⟨_, _, _, _, _, _, y, _⟩ => y.at_ _ _ n4M k4) ?_ ?_
  · rintro i w σ' H' H'' hi ⟨c', w7, rfl, S', g1, g2, y, A1, A2, A3, B1, B2, B3⟩ ⟨e, hv⟩
    subst e
    have oth : ∀ {p r : Addr} {H2 : Hp} {k : Nat}, r ≠ p → r ∉ [st, cl] → ExF [q1, q2, q3, st, cl] H'' H2 → ExF [p, st, cl] H'' H2 → Lot [q1, q2, q3, st, cl] H'' r k → Lot [q1, q2, q3, st, cl] H2 r k := fun n m x1 x2 l => l.keep x1 fun o h => x2.at_ _ _ (by simp only [List.mem_cons, not_or] at m ⊢; exact ⟨n, m⟩) h
    have hi3 : i = 0 ∨ i = 1 ∨ i = 2 := by simp at hi; omega
    rcases hi3 with e | e | e <;> subst e
    · cases hv
      exact bent_lot S' (by omega) (B1 (by decide)) (by decide) (ov4.ex y) od sM (by simp) m1 fun c2 H2 f1 f2 S2 y1 y2 L => ⟨c2, _, rfl, S2, by omega, by omega, y.trans y1, L, oth d12.symm m2 y1 y2 A2, oth d13.symm m3 y1 y2 A3, fun h => by omega, fun _ => oth d12.symm m2 y1 y2 (B2 (by decide)), fun _ => oth d13.symm m3 y1 y2 (B3 (by decide))⟩
    · cases hv
      exact bent_lot S' (by omega) (B2 (by decide)) (by decide) (ov4.ex y) od sM (by simp) m2 fun c2 H2 f1 f2 S2 y1 y2 L => ⟨c2, _, rfl, S2, by omega, by omega, y.trans y1, oth d12 m1 y1 y2 A1, L, oth d23.symm m3 y1 y2 A3, fun h => by omega, fun h => by omega, fun _ => oth d23.symm m3 y1 y2 (B3 (by decide))⟩
    · cases hv
      exact bent_lot S' (by omega) (B3 (by decide)) (by decide) (ov4.ex y) od sM (by simp) m3 fun c2 H2 f1 f2 S2 y1 y2 L => ⟨c2, _, rfl, S2, by omega, by omega, y.trans y1, oth d13 m1 y1 y2 A1, oth d23 m2 y1 y2 A2, L, fun h => by omega, fun h => by omega, fun h => by omega⟩
  · rintro σ' H5 ⟨c', w7, rfl, S', g1, g2, y, A1, A2, A3, _⟩
    have g2 : c' ≤ c + 6 := g2
    obtain ⟨z1, f1, h1, r1, o1, l1⟩ := A1
    obtain ⟨z2, f2, h2, r2, o2, l2⟩ := A2
    obtain ⟨z3, f3, h3, r3, o3, l3⟩ := A3
    have h4 := y.at_ _ _ n4M k4
    have ol : ∀ {ds : List PyData}, okxs 12 ds = true → ds.length ≤ 901 → okx 13 (.list ds) = true := fun h l => by rw [okx_list]; exact ⟨h, by omega⟩
    have y5 : ExF [st, cl] H H5 := ((((x04.of : ExF [q1, q2, q3, st, cl] H H4).trans y).drop hq1).drop n2).drop n3
    refine ⟨_, rfl, ixL h4 rfl ⟨_, rfl, ixL h4 rfl ⟨_, rfl, ixL h4 rfl ?_⟩⟩⟩
    refine ⟨_, _, _, [], .list f1, .list f2, .list f3, 13, rfl, .list (by simp) h1 (r1.sub (by simp)), .list (by simp) h2 (r2.sub (by simp)), .list (by simp) h3 (r3.sub (by simp)), ol o1 l1, ol o2 l2, ol o3 l3, by decide, fun ds h => by cases h; omega, fun ds h => by cases h; omega, fun ds h => by cases h; omega, fun rv H6 x6 rrv => ⟨by show 1 ≤ sizeLine; decide, fun p1 H7 hp1 e7 => ?_⟩⟩
    have x7 : ExF [] H6 H7 := exn e7 hp1
    have x57 : ExF [] H5 H7 := x6.trans x7
    have h4' := x57.at_ _ _ (by simp) h4
    refine ⟨_, rfl, ixL h4' rfl ⟨_, rfl, ixL h4' rfl ⟨_, rfl, ixL h4' rfl ?_⟩⟩⟩
    refine ⟨[], _, _, _, .list f1, .list f2, .list f3, 13, rfl, .list (by simp) (x57.at_ _ _ (by simp) h1) ((r1.sub (by simp)).ex x57), .list (by simp) (x57.at_ _ _ (by simp) h2) ((r2.sub (by simp)).ex x57), .list (by simp) (x57.at_ _ _ (by simp) h3) ((r3.sub (by simp)).ex x57), ol o1 l1, ol o2 l2, ol o3 l3, fun ds h => by cases h; omega, fun ds h => by cases h; omega, fun ds h => by cases h; omega, fun rf H8 x8 rrf => ⟨by show 1 ≤ sizeLine; decide, fun p2 H9 hp2 e9 => ?_⟩⟩
    have x9 : ExF [] H8 H9 := exn e9 hp2
    have x79 : ExF [] H7 H9 := x8.trans x9
    refine ⟨[], [], .ref p1, .ref p2, .list [whyD (progF (.list f1) (.list f2) (.list f3))], 3, rfl, .list (by simp) (x79.at_ _ _ (by simp) (eqs e7)) (.one (rrv.ex (x7.trans x79))), .list (by simp) (eqs e9) (.one (rrf.ex x9)), by rw [ok_list, oks_cons]; exact ⟨⟨whyD_ok _ _ _, by rw [oks]⟩, by simp⟩, by decide, by decide, fun H10 x10 => ⟨_, rfl, iteF ?_⟩⟩
    have x510 : ExF [] H5 H10 := (x57.trans x79).trans x10
    exact q c' _ _ H10 g1 g2 (S'.ex' (F := []) (by simp) (by simp) x510) (y5.trans x510.of)
end
end Tw
end

section
set_option Elab.async false
set_option linter.all false
set_option maxRecDepth 100000
set_option maxHeartbeats 1000000
namespace Tw
open PySem L2 PyProof.Rows
theorem GoodP.pr {P : PD} (g : GoodP P) : pairsM true (.list P.r) = none := pairsF_good P.reads [] [] 0 g.rk (by simpa using g.rn) (fun _ => by simpa using g.rc)
theorem GoodP.ph {P : PD} (g : GoodP P) : hoursM (.list P.h) = none := hoursF_all _ 0 fun d hd => by
  obtain ⟨z, hz, rfl⟩ := List.mem_map.mp hd
  exact g.ho z hz
def thr (i : Nat) : PyData := .list [whyD (some ("reads", i)), whyD (some ("hours", i)), whyD (some ("tells", i))]
section
variable {K : PySem.W.Frag} {D : Ad5} {nx bk ct : L2.St → Hp → Prop} {Qr : VK} {st cl lr lh lt : Addr} {M : List Addr} {xs ys zs : List V} {P : PD} {c : Nat} {H : Hp} {u4 u6 u7 u8 : Option V} {v : V} {d : PyData}
theorem bent_b2 (g : GoodP P) (hr : H lr = some (.lst xs)) (hh : H lh = some (.lst ys)) (rr : RpL [] H xs P.r) (rh : RpL [] H ys P.h) (ov : Rp [] H v d) (od : okx 1 d = true) (hi : items d = none)
    (q : ∀ w8 H', ExF [] H H' → nx (T5 st lr lh lt u4 (some v) u6 u7 w8) H') : t5_bent_b2 K D { nx := nx, rt := Qr, bk := bk, ct := ct } (T5 st lr lh lt u4 (some v) u6 u7 u8) H := by
  have sz : sizeLine = 16777216 := sizeLine_eq
  have lR := g.lR
  have lH := g.lH
  have oR : okx 5 (.list P.r) = true := okx_of (by rw [ok_list]; exact ⟨g.or, by omega⟩)
  have oH : okx 5 (.list P.h) = true := okx_of (by rw [ok_list]; exact ⟨g.oh, by omega⟩)
  have oD : okx 5 d = true := okx_le od (by decide)
  have oN : okx 5 PyData.none = true := by rw [okx]
  have f1 : progF d .none .none = some (("reads" : Str), 0) := by
    have : pairsM true d = some 0 := by unfold pairsM; rw [hi]
    unfold progF; rw [this]
  have f2 : progF (.list P.r) d .none = some (("hours" : Str), 0) := by
    have : hoursM d = some 0 := by unfold hoursM; rw [hi]
    unfold progF; rw [g.pr, this]
  have f3 : progF (.list P.r) (.list P.h) d = some (("tells" : Str), 0) := by
    have : pairsM false d = some 0 := by unfold pairsM; rw [hi]
    unfold progF; rw [g.pr, g.ph, this]; rfl
  have lN : ∀ {k : Nat} (ds : List PyData), items PyData.none = some ds → ds.length ≤ k := fun ds h => by cases h
  have lD : ∀ (ds : List PyData), items d = some ds → ds.length ≤ 1000 := fun ds h => by rw [hi] at h; cases h
  unfold t5_bent_b2
  refine ⟨_, rfl, v, .non, .non, [], d, .none, .none, 5, rfl, ov, .non, .non, oD, oN, oN, by decide, lD, lN, lN, fun v1 H1 x1 r1 => ?_⟩
  refine ⟨_, rfl, _, rfl, .ref lr, v, .non, [], .list P.r, d, .none, 5, rfl, .list (by simp) (x1.at_ _ _ (by simp) hr) (rr.ex x1), ov.ex x1, .non, oR, oD, oN, by decide, fun ds h => by cases h; omega, lD, lN, fun v2 H2 x2 r2 => ?_⟩
  have x12 := x1.trans x2
  refine ⟨_, rfl, _, rfl, _, rfl, .ref lr, .ref lh, v, [], .list P.r, .list P.h, d, 5, rfl, .list (by simp) (x12.at_ _ _ (by simp) hr) (rr.ex x12), .list (by simp) (x12.at_ _ _ (by simp) hh) (rh.ex x12), ov.ex x12, oR, oH, oD, by decide, fun ds h => by cases h; omega, fun ds h => by cases h; omega, lD, fun v3 H3 x3 r3 => ?_⟩
  refine ⟨by show 3 ≤ sizeLine; decide, fun p H4 hp e4 => ?_⟩
  have x4 : ExF [] H3 H4 := exn e4 hp
  rw [f1] at r1
  rw [f2] at r2
  rw [f3] at r3
  refine ⟨_, rfl, ?_⟩
  refine ⟨by show 2 ≤ sizeLine; decide, fun a1 H5 ha1 e5 => ⟨by show 2 ≤ sizeLine; decide, fun a2 H6 ha2 e6 => ⟨by show 2 ≤ sizeLine; decide, fun a3 H7 ha3 e7 => ⟨by show 3 ≤ sizeLine; decide, fun p2 H8 hp2 e8 => ?_⟩⟩⟩⟩
  have x5 : ExF [] H4 H5 := exn e5 ha1
  have x6 : ExF [] H5 H6 := exn e6 ha2
  have x7 : ExF [] H6 H7 := exn e7 ha3
  have x8 : ExF [] H7 H8 := exn e8 hp2
  have x48 : ExF [] H4 H8 := ((x5.trans x6).trans x7).trans x8
  have x08 : ExF [] H H8 := ((x12.trans x3).trans x4).trans x48
  have okT : ok 3 (thr 0) = true := by
    unfold thr
    rw [ok_list, oks_cons, oks_cons, oks_cons]
    exact ⟨⟨whyD_w (.inl rfl), whyD_w (.inr (.inl rfl)), whyD_w (.inr (.inr rfl)), by rw [oks]⟩, by simp⟩
  have tw : ∀ {s : Str}, RpL [] H8 [V.str s, .int 0] [.str s, .int 0] := .cons (.str _) (.one (.int _))
  refine ⟨[], [], .ref p, .ref p2, thr 0, 3, rfl, .list (by simp) (x48.at_ _ _ (by simp) (eqs e4)) (.cons (r1.ex (((x2.trans x3).trans x4).trans x48)) (.cons (r2.ex ((x3.trans x4).trans x48)) (.one (r3.ex (x4.trans x48))))), .list (by simp) (eqs e8) (.cons (.tuple (by simp) (((x6.trans x7).trans x8).at_ _ _ (by simp) (eqs e5)) tw) (.cons (.tuple (by simp) ((x7.trans x8).at_ _ _ (by simp) (eqs e6)) tw) (.one (.tuple (by simp) (x8.at_ _ _ (by simp) (eqs e7)) tw)))), okT, by decide, by decide, fun H9 x9 => ⟨_, rfl, iteF ?_⟩⟩
  exact q _ H9 (x08.trans x9)
end
theorem rd5_bent {K : PySem.W.Frag} {D : Ad5} {vs : List V} {H : Hp} {Q : VK} {E : XK} (h : spBent5 vs H Q E) :
    t5_bent K D { nx := fun _ H' => Q .non H', rt := Q } (start ["_law_stream", "_law_reads", "_law_hours", "_law_tells", "_law_odds", "_law_odd", "_law_lots", "_law_lot", "_law_found"] vs) H := by
  obtain ⟨st, cl, c, F, lr, lh, lt, xs, ys, zs, P, rfl, S, fs, fc, hlr, hlh, hlt, nr, nh, nt, rr, rh, rt, g, h79, hc, q⟩ := h
  have sz : sizeLine = 16777216 := sizeLine_eq
  have hp48 : (2 : Nat) ^ 48 = 281474976710656 := by decide
  have hp20 : (2 : Nat) ^ 20 = 1048576 := by decide
  have sF : ∀ a ∈ [st, cl], a ∈ F := fun a z => by simp at z; rcases z with z | z <;> (rw [z]; assumption)
  have rr : RpL [st, cl] H xs P.r := rr.sub sF
  have rh : RpL [st, cl] H ys P.h := rh.sub sF
  have rt : RpL [st, cl] H zs P.t := rt.sub sF
  have nr : lr ∉ [st, cl] := fun z => nr (sF _ z)
  have nh : lh ∉ [st, cl] := fun z => nh (sF _ z)
  have nt : lt ∉ [st, cl] := fun z => nt (sF _ z)
  unfold t5_bent tSeq tAsg
  refine ⟨_, rfl, _, rfl, _, rfl, st, cl, c, [st, cl], [st, cl], lr, xs, P.reads, rfl, S, by omega, by simp, by simp, hlr, nr, rr, fun x hx => (nmOk_iff.mp (g.rk x hx).1).2, by have := g.lr; omega, S.trk, fun o os es H1 S1 x1 no ho ro odd1 len1 => ?_⟩
  have lo := ro.1
  refine ⟨st, cl, c + 1, o, os, rfl, S1, by omega, .inl ho, by omega, fun m ms H2 pm nm hm S2 x2 => ⟨_, rfl, slToL 12 rfl hm fun p H3 hp e3 => ?_⟩⟩
  obtain ⟨es', pe, re⟩ := (ro.ex x2).perm pm
  have x3 : ExF [] H2 H3 := exn e3 hp
  have x03 : ExF [st, cl] H H3 := (x1.trans x2).trans x3.of
  have S3 := S2.ex' (F := []) (by simp) (by simp) x3
  have np : p ∉ [st, cl] := S2.trk.nin hp
  refine ⟨_, rfl, _, rfl, _, rfl, [st, cl], .ref st, .ref lh, rfl, S3.trk, fun o2 os2 es2 H4 x4 no2 ho2 ro2 odd2 len2 => ?_⟩
  have lo2 := ro2.1
  have S4 := S3.ex' (F := []) (by simp) (by simp) x4
  refine ⟨st, cl, _, o2, os2, rfl, S4, by omega, .inl ho2, by omega, fun m2 ms2 H5 pm2 nm2 hm2 S5 x5 => ?_⟩
  obtain ⟨es2', pe2, re2⟩ := (ro2.ex x5).perm pm2
  have hp5 := x5.at_ _ _ np (x4.at_ _ _ (by simp) (eqs e3))
  have lm := pm.length_eq
  have lm2 := pm2.length_eq
  refine catL hp5 hm2 (by rw [List.length_take]; omega) fun od H6 hod e6 => ?_
  have x6 : ExF [] H5 H6 := exn e6 hod
  have x36 : ExF [st, cl] H3 H6 := (x4.of.trans x5).trans x6.of
  have x06 := x03.trans x36
  have S6 := S5.ex' (F := []) (by simp) (by simp) x6
  have nod : od ∉ [st, cl] := S5.trk.nin hod
  have r6 : RpL [st, cl] H6 (ms.take 12 ++ ms2) (es'.take 12 ++ es2') := (((re.ex x3.of).ex x36).take 12).append (re2.ex x6.of)
  have o6 : ∀ e ∈ es'.take 12 ++ es2', okx 12 e = true := fun e he => by
    rcases List.mem_append.mp he with he | he
    · exact odd1 e (pe.mem_iff.mp (List.mem_of_mem_take he))
    · exact odd2 e (pe2.mem_iff.mp he)
  have lx : (ms.take 12 ++ ms2).length ≤ 112 := by rw [List.length_append, List.length_take]; omega
  generalize ms.take 12 ++ ms2 = ox at r6 e6 lx
  generalize es'.take 12 ++ es2' = oe at r6 o6
  unfold t5_bent_t1 tSeq
  refine forI (.inl ⟨_, rfl, od, rfl, ⟨_, .inl (.inl (eqs e6))⟩, ?_⟩)
  refine for_it (wkL (xs := ox)) (fun i σ' H' => ∃ (c' : Nat) (w5 w6 w7 w8 : Option V), σ' = T5 st lr lh lt (some (.ref od)) w5 w6 w7 w8 ∧ Strm st cl H' c' ∧ c ≤ c' ∧ c' ≤ c + 1000 + 6 * i ∧ ExF [st, cl] H6 H')
    ⟨_, none, none, none, none, rfl, S6, by omega, by omega, ExF.refl⟩ (fun i σ' H' _ ⟨_, _, _, _, _, _, _, _, _, y⟩ => y.at_ _ _ nod (eqs e6)) ?_ ?_
  · rintro i w σ' H' H'' hi ⟨c', w5, w6, w7, w8, rfl, S', g1, g2, y⟩ ⟨e, hv⟩
    subst e
    obtain ⟨de, hde, rv⟩ := r6.get' hv
    have yy := x06.trans y
    exact bent_b1 (D := D) S' (by omega) g (yy.at_ _ _ nr hlr) (yy.at_ _ _ nh hlh) (yy.at_ _ _ nt hlt) (rr.ex yy) (rh.ex yy) (rt.ex yy) (rv.ex y) (o6 _ (List.mem_of_getElem? hde)) fun c2 v6 v7 H2 k1 k2 S2 y2 => ⟨c2, _, _, _, _, rfl, S2, by omega, by omega, y.trans y2⟩
  · rintro σ' H7 ⟨c', w5, w6, w7, w8, rfl, S7, g1, g2, y⟩
    have yy := x06.trans y
    have hlr7 := yy.at_ _ _ nr hlr
    have hlh7 := yy.at_ _ _ nh hlh
    have rr7 : RpL [] H7 xs P.r := (rr.ex yy).sub (by simp)
    have rh7 : RpL [] H7 ys P.h := (rh.ex yy).sub (by simp)
    unfold t5_bent_t2 tSeq
    refine forI (.inr (.inl ?_))
    unfold iTup tTupU
    refine fun p1 hp1 => ?_
    generalize eA : upd H7 p1 (.dK []) = HA at *
    have eA := eA.symm
    have xA : ExF [] H7 HA := exn eA hp1
    refine ⟨by show 5 ≤ sizeLine; decide, fun p2 HB hp2 eB => ⟨p2, rfl, ⟨_, .inl (.inl (eqs eB))⟩, ?_⟩⟩
    have xB : ExF [] HA HB := exn eB hp2
    have xAB := xA.trans xB
    have di : Rp [] HB (.ref p1) (.dict []) := .dct (by simp) (xB.at_ _ _ (by simp) (eqs eA))
    refine for_it (wkT (xs := [.non, .int 5, .str "ab", .ref p1, .bl true])) (fun i σ' H' => ∃ (w5 w6 w7 w8 : Option V), σ' = T5 st lr lh lt (some (.ref od)) w5 w6 w7 w8 ∧ ExF [] HB H') ⟨_, _, _, _, rfl, ExF.refl⟩ (fun i σ' H' _ ⟨_, _, _, _, _, z⟩ => z.at_ _ _ (by simp) (eqs eB)) ?_ ?_
    · rintro i w σ' H' H'' hi ⟨v5, v6, v7, v8, rfl, z⟩ ⟨e, hv⟩
      subst e
      have zz := xAB.trans z
      have all : ∃ d, Rp [] H'' w d ∧ okx 1 d = true ∧ items d = none := by
        match i, hv with
        | 0, hv => cases hv; exact ⟨_, .non, by decide, rfl⟩
        | 1, hv => cases hv; exact ⟨_, .int 5, by decide, rfl⟩
        | 2, hv => cases hv; exact ⟨_, .str "ab", by decide +kernel, rfl⟩
        | 3, hv => cases hv; exact ⟨_, di.ex z, by decide, rfl⟩
        | 4, hv => cases hv; exact ⟨_, .bl true, by decide, rfl⟩
        | n + 5, hv => simp at hv
      obtain ⟨d, rd, od', hi'⟩ := all
      exact bent_b2 (K := K) (D := D) g (zz.at_ _ _ (by simp) hlr7) (zz.at_ _ _ (by simp) hlh7) (rr7.ex zz) (rh7.ex zz) rd od' hi' fun w8 H2 y2 => ⟨_, _, _, _, rfl, z.trans y2⟩
    · rintro σ' H8 ⟨v5, v6, v7, v8, rfl, z⟩
      have zz := xAB.trans z
      exact q c' H8 g1 (by omega) (S7.ex' (F := []) (by simp) (by simp) zz) (yy.trans zz.of)
end Tw
end

section
set_option Elab.async false
set_option linter.all false
set_option maxRecDepth 100000
set_option maxHeartbeats 1000000
namespace Tw
open PySem L2 PyProof.Rows
def L5 (a st : Addr) (u2 u3 u4 u5 : Option V) : L2.St := [some (.ref a), some (.ref st), u2, u3, u4, u5]
def Turn5 (a st cl : Addr) (i : Nat) (σ : L2.St) (H : Hp) : Prop := ∃ (c : Nat) (u2 u3 u4 u5 : Option V), σ = L5 a st u2 u3 u4 u5 ∧ Strm st cl H c ∧ c ≤ i * 12000000
section
variable {K : PySem.W.Frag} {D : Ad5} {H : Hp} {Q : VK}
theorem rd_turn5 {a st cl : Addr} {i : Nat} {σ : L2.St} (D' : Ends) (hD' : D'.nx = Turn5 a st cl (i + 1)) (hi : i < 4) (h : Turn5 a st cl i σ H) : t5_law_b1 K D D' (σ.set 2 (some (.int (0 + (i : Nat))))) H := by
  obtain ⟨c, u2, u3, u4, u5, rfl, S, hc⟩ := h
  have sz : sizeLine = 16777216 := sizeLine_eq
  have hp30 : (2 : Nat) ^ 30 = 1073741824 := by decide
  have hp48 : (2 : Nat) ^ 48 = 281474976710656 := by decide
  have ec : eCost 2 ≤ 39 := by decide
  unfold t5_law_b1 tSeq tAsg
  refine ⟨_, rfl, _, rfl, _, rfl, st, cl, c, 8, rfl, S, by omega, by decide, by decide, fun k1 H1 g0 g1 S1 x1 => addI ?_⟩
  obtain ⟨m1, rfl⟩ : ∃ j : Nat, k1 = j := ⟨k1.toNat, by omega⟩
  have e1 : (2 : Int) + (m1 : Int) = ((2 + m1 : Nat) : Int) := by omega
  rw [e1]
  refine ⟨st, cl, c + 1, 2 + m1, 2, [st, cl], rfl, by omega, by omega, by decide, S1, by omega, S1.trk, fun r xs ds c2 H2 l2 q2 S2 x2 nr hr rx g lds sds => ?_⟩
  have sd : sizes ds ≤ 740 := by
    have h1 := sizes_le sds
    have h2 : ds.length * (eCost 2 + 5) ≤ 16 * 44 := Nat.mul_le_mul (by omega) (by omega)
    omega
  refine ⟨st, cl, c2, [st, cl], [st, cl], r, xs, ds, rfl, S2, by omega, hr, rx, g, sd, S2.trk, fun p lr lh lt ws ys zs P c3 H3 l3 q3 S3 hp hlr hlh hlt nlr nlh nlt rr rh rt gp h79 x3 => ?_⟩
  refine ⟨p, _, rfl, .inl (.inl hp), rfl, _, _, rfl, _, _, rfl, _, _, rfl, rfl, ?_⟩
  have lR := gp.lR
  have lH := gp.lH
  have lT := gp.lT
  have o : ∀ {es : List PyData}, oks 4 es = true → es.length ≤ 1000 → okx 5 (.list es) = true := fun h l => okx_of (by rw [ok_list]; exact ⟨h, by omega⟩)
  -- fault(..) is None
  refine ⟨_, rfl, _, rfl, _, rfl, [st, cl], .ref lr, .ref lh, .ref lt, .list P.r, .list P.h, .list P.t, 5, rfl, .list nlr hlr rr, .list nlh hlh rh, .list nlt hlt rt, o gp.or (by omega), o gp.oh (by omega), o gp.ot (by omega), fun ds h => by cases h; omega, fun ds h => by cases h; omega, fun ds h => by cases h; omega, fun v H4 x4 rv => ⟨rfl, ⟨_, rfl, ?_⟩⟩⟩
  rw [gp.f] at rv
  have rv := rv.non_inv
  subst rv
  refine iteF ?_
  have at4 : ∀ {l : Addr} {o : HO}, H3 l = some o → H4 l = some o := fun h => x4.at_ _ _ (by simp) h
  refine ⟨_, rfl, _, rfl, _, rfl, _, rfl, st, cl, c3, [st, cl], lr, lh, lt, ws, ys, zs, P, rfl, S3.ex' (F := []) (by simp) (by simp) x4, by simp, by simp, at4 hlr, at4 hlh, at4 hlt, nlr, nlh, nlt, rr.ex x4.of, rh.ex x4.of, rt.ex x4.of, gp, h79, by omega, fun c5 H5 l5 q5 S5 x5 => ⟨_, rfl, iteF ?_⟩⟩
  have x35 : ExF [st, cl] H3 H5 := x4.of.trans x5
  refine ⟨_, rfl, _, rfl, _, rfl, _, rfl, st, cl, c5, [st, cl], lr, lh, lt, ws, ys, zs, P, rfl, S5, by simp, by simp, x35.at_ _ _ nlr hlr, x35.at_ _ _ nlh hlh, x35.at_ _ _ nlt hlt, nlr, nlh, nlt, rr.ex x35, rh.ex x35, rt.ex x35, gp, h79, by omega, fun c6 H6 l6 q6 S6 x6 => ⟨_, rfl, iteF ?_⟩⟩
  show D'.nx _ _
  rw [hD']
  exact ⟨c6, _, _, _, _, rfl, S6, by omega⟩
def P0 : PD := ⟨[], [], []⟩
def P1 : PD := ⟨[], [[]], []⟩
theorem g0 : GoodP P0 := ⟨by decide, by decide, fun x hx => by simp [P0] at hx, fun z hz => by simp [P0] at hz, by decide, fun x hx => by simp [P0] at hx, by decide, by decide, by decide⟩
theorem g1 : GoodP P1 := ⟨by decide, by decide, fun x hx => by simp [P1] at hx, fun z hz => by
  have : z = [] := by simpa [P1] using hz
  subst this
  exact ⟨by decide, fun x hx => by simp at hx⟩, by decide, fun x hx => by simp [P1] at hx, by decide, by decide, by decide⟩
theorem own5 {x y : Addr} {ka kb ke ka' kb' ke' : List V} {P P' : PD} (g : GoodP P) (g' : GoodP P') (px : PrgAt D.cPrg H x ka kb ke) (p1 : RpL [] H ka P.r) (p2 : RpL [] H kb (hoT P.hours)) (p3 : RpL [] H ke P.t) (py : PrgAt D.cPrg H y ka' kb' ke') (r1 : RpL [] H ka' P'.r) (r2 : RpL [] H kb' (hoT P'.hours)) (r3 : RpL [] H ke' P'.t) {Q : VK}
    (q : ∀ H', ExF [] H H' → Q (.bl (prgEqv P.r (hoT P.hours) P.t P'.r (hoT P'.hours) P'.t)) H') : ∃ dx fs, H x = some (.ins D.cPrg dx fs) ∧ RightOk H D.cPrg (.ref y) ∧ spPEq D.cPrg [.ref x, .ref y] H Q E0 := by
  obtain ⟨dx, a, b, e, hx, _⟩ := id px
  obtain ⟨dy, a', b', e', hy, _⟩ := id py
  have lh : ∀ {P : PD}, GoodP P → (hoT P.hours).length ≤ 800 := fun g => by unfold hoT; rw [List.length_map]; exact g.lh
  have l1 := lh g
  have l2 := lh g'
  have l3 := g.lR
  have l4 := g.lT
  have l5 := g'.lR
  have l6 := g'.lT
  exact ⟨dx, _, hx, ⟨y, rfl, .inl ⟨_, _, hy⟩⟩, x, ka, kb, ke, [], P.r, hoT P.hours, P.t, .ref y, rfl, px, p1, p2, p3, ok20 g.or (by omega), ok20 g.oT (by omega), ok20 g.ot (by omega), .inl ⟨y, ka', kb', ke', [], P'.r, hoT P'.hours, P'.t, rfl, py, r1, r2, r3, ok20 g'.or (by omega), ok20 g'.oT (by omega), ok20 g'.ot (by omega), q⟩⟩
theorem eq5 {x y : Addr} {ka kb ke ka' kb' ke' : List V} {P P' : PD} (g : GoodP P) (g' : GoodP P') (px : PrgAt D.cPrg H x ka kb ke) (p1 : RpL [] H ka P.r) (p2 : RpL [] H kb (hoT P.hours)) (p3 : RpL [] H ke P.t) (py : PrgAt D.cPrg H y ka' kb' ke') (r1 : RpL [] H ka' P'.r) (r2 : RpL [] H kb' (hoT P'.hours)) (r3 : RpL [] H ke' P'.t) {Q : VK}
    (q : ∀ H', ExF [] H H' → Q (.bl (prgEqv P.r (hoT P.hours) P.t P'.r (hoT P'.hours) P'.t)) H') : rEqOwn D.cPrg (spPEq D.cPrg) (.ref x) (.ref y) H Q := by
  obtain ⟨dx, fs, hx, ho, hsp⟩ := own5 (Q := fun v H' => ∃ b, v = .bl b ∧ Q (.bl b) H') g g' px p1 p2 p3 py r1 r2 r3 (fun H' x' => ⟨_, rfl, q H' x'⟩)
  exact ⟨x, dx, fs, rfl, hx, ho, hsp⟩
theorem ne5 {x y : Addr} {ka kb ke ka' kb' ke' : List V} {P P' : PD} (g : GoodP P) (g' : GoodP P') (px : PrgAt D.cPrg H x ka kb ke) (p1 : RpL [] H ka P.r) (p2 : RpL [] H kb (hoT P.hours)) (p3 : RpL [] H ke P.t) (py : PrgAt D.cPrg H y ka' kb' ke') (r1 : RpL [] H ka' P'.r) (r2 : RpL [] H kb' (hoT P'.hours)) (r3 : RpL [] H ke' P'.t) {Q : VK}
    (q : ∀ H', ExF [] H H' → Q (.bl (!prgEqv P.r (hoT P.hours) P.t P'.r (hoT P'.hours) P'.t)) H') : rNeOwn D.cPrg (spPEq D.cPrg) (.ref x) (.ref y) H Q := by
  obtain ⟨dx, fs, hx, ho, hsp⟩ := own5 (Q := fun v H' => ∃ b, v = .bl b ∧ Q (.bl (!b)) H') g g' px p1 p2 p3 py r1 r2 r3 (fun H' x' => ⟨_, rfl, q H' x'⟩)
  exact ⟨x, dx, fs, rfl, hx, ho, hsp⟩
theorem mk0 {l1 l2 l3 : Addr} {Q : VK} (h1 : H l1 = some (.tup [])) (h2 : H l2 = some (.tup [])) (h3 : H l3 = some (.tup []))
    (q : ∀ y ka kb ke H', ExF [] H H' → PrgAt D.cPrg H' y ka kb ke → RpL [] H' ka P0.r → RpL [] H' kb (hoT P0.hours) → RpL [] H' ke P0.t → Q (.ref y) H') : MkP D (.ref l1) (.ref l2) (.ref l3) H Q :=
  mkPrg (n := 5) (F1 := []) (F2 := []) (F3 := []) (G := []) (r := .tuple []) (h := .tuple []) (t := .tuple []) (.tuple (by simp) h1 .nil) (.tuple (by simp) h2 .nil) (.tuple (by simp) h3 .nil) (by decide) (by decide) (by decide) (by decide) rfl rfl rfl (by decide) (by decide) (by decide) rfl Trk.nil
    fun x2 dx2 a2 b2 c2 ws4 ws5 ws6 H' y _ _ _ _ _ k1 k2 k3 k4 k5 k6 k7 => q x2 ws4 ws5 ws6 H' y ⟨dx2, a2, b2, c2, k1, k2, k3, k4⟩ k5 k6 k7
end
theorem rd5_law {K : PySem.W.Frag} {D : Ad5} {vs : List V} {H : Hp} {Q : VK} {E : XK} (h : spLaw5 K vs H Q E) :
    t5_law K D { nx := fun _ H' => Q .non H', rt := Q } (start ["_law_script", "_law_stream", "_law_turn", "_law_reads", "_law_hours", "_law_tells"] vs) H := by
  obtain ⟨a, ns, rfl, hs, hl, q⟩ := h
  unfold t5_law tSeq tAsg
  refine ⟨_, rfl, a, ns, rfl, hs, hl, fun st cl H1 S1 n1 n2 x1 => ?_⟩
  refine forI ⟨(4 : Int), rfl, by decide, by decide, ?_⟩
  refine forRg (n := 4) (Turn5 a st cl) ⟨0, _, _, _, _, rfl, S1, by omega⟩ (fun i σ' H' hi p => rd_turn5 _ rfl hi p) ?_
  rintro σ2 H2 ⟨c, u2, u3, u4, u5, rfl, S2, hc⟩
  unfold t5_law_t2 tRet
  have PA : ∀ {x : Addr} {ka kb ke : List V} {H3 H4 : Hp}, PrgAt D.cPrg H3 x ka kb ke → ExF [] H3 H4 → PrgAt D.cPrg H4 x ka kb ke := fun h x => h.ex x
  -- Program([], [], []) == Program((), (), ())
  refine ⟨by decide, fun p1 H3 hp1 e3 => ⟨by decide, fun p2 H4 hp2 e4 => ⟨by decide, fun p3 H5 hp3 e5 => ⟨_, _, _, rfl, ?_⟩⟩⟩⟩
  refine mkOf (P' := P0) (F := []) (eqf e5 hp3 (eqf e4 hp2 (eqs e3))) (eqf e5 hp3 (eqs e4)) (eqs e5) .nil .nil .nil g0 fun y ka kb ke H6 x6 py r1 r2 r3 => ?_
  refine ⟨by decide, fun p4 H7 hp4 e7 => ⟨by decide, fun p5 H8 hp5 e8 => ⟨by decide, fun p6 H9 hp6 e9 => ⟨_, _, _, rfl, ?_⟩⟩⟩⟩
  have x79 : ExF [] H6 H9 := ((exn e7 hp4).trans (exn e8 hp5)).trans (exn e9 hp6)
  refine mk0 (eqf e9 hp6 (eqf e8 hp5 (eqs e7))) (eqf e9 hp6 (eqs e8)) (eqs e9) fun y2 ka2 kb2 ke2 HA xA py2 s1 s2 s3 => ?_
  have x6A := x79.trans xA
  refine eq5 g0 g0 (PA py x6A) (r1.ex x6A) (r2.ex x6A) (r3.ex x6A) py2 s1 s2 s3 fun HB xB => ⟨_, rfl, ?_⟩
  have e1 : prgEqv P0.r (hoT P0.hours) P0.t P0.r (hoT P0.hours) P0.t = true := g0.selfP
  rw [e1]
  refine iteT ?_
  refine ⟨by decide, fun q1 HC hq1 eC => ⟨by decide, fun q2 HD hq2 eD => ⟨by show 1 ≤ sizeLine; decide, fun q3 HE hq3 eE => ⟨by decide, fun q4 HF hq4 eF => ⟨_, _, _, rfl, ?_⟩⟩⟩⟩⟩
  have xCF : ExF [] HC HF := ((exn eD hq2).trans (exn eE hq3)).trans (exn eF hq4)
  refine mkOf (P' := P1) (F := []) (xCF.at_ _ _ (by simp) (eqs eC)) (eqf eF hq4 (eqs eE)) (eqs eF) .nil (.one (.list (by simp) (eqf eF hq4 (eqf eE hq3 (eqs eD))) .nil)) .nil g1 fun y3 ka3 kb3 ke3 HG xG py3 r4 r5 r6 => ?_
  refine ⟨by decide, fun p7 HI hp7 eI => ⟨by decide, fun p8 HJ hp8 eJ => ⟨by decide, fun p9 HL hp9 eL => ⟨_, _, _, rfl, ?_⟩⟩⟩⟩
  have xGL : ExF [] HG HL := ((exn eI hp7).trans (exn eJ hp8)).trans (exn eL hp9)
  refine mkOf (P' := P0) (F := []) (eqf eL hp9 (eqf eJ hp8 (eqs eI))) (eqf eL hp9 (eqs eJ)) (eqs eL) .nil .nil .nil g0 fun y4 ka4 kb4 ke4 HM xM py4 s4 s5 s6 => ?_
  have xGM := xGL.trans xM
  refine ne5 g1 g0 (PA py3 xGM) (r4.ex xGM) (r5.ex xGM) (r6.ex xGM) py4 s4 s5 s6 fun HN xN => ?_
  have e2 : prgEqv P1.r (hoT P1.hours) P1.t P0.r (hoT P0.hours) P0.t = false := by
    simp [prgEqv, P0, P1, hoT, PD.r, PD.t, PyData.eqv, PyData.eqvAll]
  rw [e2]
  exact q HN
end Tw
end

section
set_option Elab.async false
set_option linter.all false
set_option maxRecDepth 100000
set_option maxHeartbeats 4000000
namespace Tw
open PySem L2 PyProof.Rows
theorem passX {X : Cx} : Passes (L2.CX X.prog X.w) X E0 := fun _ _ _ _ _ _ _ h => by
  obtain ⟨_, _, _, _, _, _, _, _, _, _, _, _, e⟩ := h
  exact e.elim
theorem zero_spAsTuples {vs : List V} {H : Hp} {Q : VK} {E : XK} (h : spAsTuples 0 vs H Q E) : False := by
  obtain ⟨_, _, _, _, _, _, h, _⟩ := h
  exact absurd h.1 (Nat.not_lt_zero _)
theorem zero_spAExpr {vs : List V} {H : Hp} {Q : VK} {E : XK} (h : spAExpr 0 vs H Q E) : False := by
  obtain ⟨_, _, _, _, _, _, _, n, _, _, h, _⟩ := h
  exact absurd h (Nat.not_lt_zero _)
theorem zero_spSame {vs : List V} {H : Hp} {Q : VK} {E : XK} (h : spSame 0 vs H Q E) : False := by
  obtain ⟨_, _, _, _, _, _, _, _, _, _, h, _⟩ := h
  exact absurd h (Nat.not_lt_zero _)
theorem zero_spLoose {vs : List V} {H : Hp} {Q : VK} {E : XK} (h : spLoose 0 vs H Q E) : False := by
  obtain ⟨_, _, _, _, _, _, _, _, _, _, _, _, _, _, h, _⟩ := h
  exact absurd h (Nat.not_lt_zero _)
section
variable {X : Cx} {D : Ad5} {CX : CXT} {k : Nat} {f : Addr} {fd : FuncData} {ps ks : List Str} {x : Str} {p pos : Pos} {e : Expr} {es : List Expr} {t : TA} {te : TE}
theorem pe_mkP (M : Mk X.K D.cPrg f) (Fd : FnOk X.prog X.w X.K X.mg X.base CX k f fd ps (spPInit D)) (hr : Room (k + 1) X.A) (hg : Gl X x) (hm : X.mg x = some (.ref D.cPrg)) (hb : Binds X.K fd ps []) (hx : Passes CX X E0)
    (ha : PA X (e :: es) t) (hdb : (x == ("__debug__" : Str)) = false := by decide) (he : starEach (e :: es) X.env = (false, eval e X.env) :: starEach es X.env := by rfl) (hpl : (backTo pos (starEach es X.env)).any (·.1) = false := by rfl) :
    PE X (.Call (.Name x p) (e :: es) [] pos) (tMkP D t) := by
  refine ⟨fun pins s σ H Q I h => ?_⟩
  refine wpAny_Call_Name_kw (ld_glob I hg hm ?_ hdb)
  refine PySem.W.callWith_K (h₀ := X.base) I.ok.mod.kin M.kp (thn (ha.run pos pins s σ H _ I h) fun us s1 ⟨vs, H1, I1, r, v1, v2, v3, ev, q⟩ => ⟨I1.kIn, ?_⟩) he hpl
  subst ev
  unfold MkP at q
  exact run_make M Fd hr hb .nil hx I1 r q
theorem pe_mkKP {kws : List Keyword} {tk : TA} (M : Mk X.K D.cPrg f) (Fd : FnOk X.prog X.w X.K X.mg X.base CX k f fd ps (spPInit D)) (hr : Room (k + 1) X.A) (hg : Gl X x) (hm : X.mg x = some (.ref D.cPrg)) (hb : KBn X.K fd ps 1 ["tells", "hours", "reads"] (fun us ws => us ++ ws.reverse) (fun vs zs => vs ++ zs.reverse)) (hx : Passes CX X E0) (ha : PK X kws tk)
    (hall : (backToKw pos (keywordEach kws X.env)).all (·.1.isSome) = true := by rfl) (hks : (backToKw pos (keywordEach kws X.env)).filterMap (·.1) = (["tells", "hours", "reads"] : List Str) := by rfl) (hdb : (x == ("__debug__" : Str)) = false := by decide)
    (hpl : ((backTo pos (starEach [] X.env)).any (·.1) || (backToKw pos (keywordEach kws X.env)).any (·.1.isNone)) = false := by rfl) :
    PE X (.Call (.Name x p) [] kws pos) (tMkKP D tk) := by
  refine ⟨fun pins s σ H Q I h => ?_⟩
  refine wpAny_Call_Name_kw (ld_glob I hg hm ?_ hdb)
  refine PySem.W.callWith_KW0 (h₀ := X.base) I.ok.mod.kin M.kp hall ?_ hpl
  refine thn (ha.run pos pins s σ H _ I h) fun ws s2 ⟨zs, H2, I2, rz, v3, v2, v1, ev, q2⟩ => ⟨I2.kIn, ?_⟩
  subst ev
  rw [hks]
  unfold MkP at q2
  exact run_makeN (n := 0) (us := []) (vs := []) M Fd hr hb hx I2 .nil rz rfl rfl q2
end
def top (i : Nat) : Stmt := PySem.Challenge.pw_twoslots_k05_whole_programs.main.body.getD i (.Pass ⟨0, 0, 0, 0⟩)
abbrev s_p_BadHours_init : Stmt := inClass (top 2) 0
abbrev N_p_BadHours_init : List Str := ["self", "index"]
theorem sc_p_BadHours_init : FnScope ["self", "index"] ["self", "index"] (defScope s_p_BadHours_init) := ⟨rfl, rfl, rfl, by decide +kernel, rfl, by decide +kernel, by decide +kernel⟩
abbrev s_p_BadReads_init : Stmt := inClass (top 3) 0
abbrev N_p_BadReads_init : List Str := ["self", "index"]
theorem sc_p_BadReads_init : FnScope ["self", "index"] ["self", "index"] (defScope s_p_BadReads_init) := ⟨rfl, rfl, rfl, by decide +kernel, rfl, by decide +kernel, by decide +kernel⟩
abbrev s_p_BadTells_init : Stmt := inClass (top 4) 0
abbrev N_p_BadTells_init : List Str := ["self", "index"]
theorem sc_p_BadTells_init : FnScope ["self", "index"] ["self", "index"] (defScope s_p_BadTells_init) := ⟨rfl, rfl, rfl, by decide +kernel, rfl, by decide +kernel, by decide +kernel⟩
abbrev s_p_is_list : Stmt := top 10
abbrev N_p_is_list : List Str := ["thing"]
theorem sc_p_is_list : FnScope ["thing"] ["thing"] (defScope s_p_is_list) := ⟨rfl, rfl, rfl, by decide +kernel, rfl, by decide +kernel, by decide +kernel⟩
abbrev s_p_is_integer : Stmt := top 11
abbrev N_p_is_integer : List Str := ["thing"]
theorem sc_p_is_integer : FnScope ["thing"] ["thing"] (defScope s_p_is_integer) := ⟨rfl, rfl, rfl, by decide +kernel, rfl, by decide +kernel, by decide +kernel⟩
abbrev s_p_is_name : Stmt := top 12
abbrev N_p_is_name : List Str := ["thing", "sign"]
theorem sc_p_is_name : FnScope ["thing", "sign"] ["thing"] (defScope s_p_is_name) := ⟨rfl, rfl, rfl, by decide +kernel, rfl, by decide +kernel, by decide +kernel⟩
abbrev s_p_as_tuples : Stmt := top 13
abbrev N_p_as_tuples : List Str := ["thing", "part"]
theorem sc_p_as_tuples : FnScope ["thing", "part"] ["thing"] (defScope s_p_as_tuples) := ⟨rfl, rfl, rfl, by decide +kernel, rfl, by decide +kernel, by decide +kernel⟩
abbrev s_p_is_cell : Stmt := top 15
abbrev N_p_is_cell : List Str := ["thing"]
theorem sc_p_is_cell : FnScope ["thing"] ["thing"] (defScope s_p_is_cell) := ⟨rfl, rfl, rfl, by decide +kernel, rfl, by decide +kernel, by decide +kernel⟩
abbrev s_p_is_pair : Stmt := top 16
abbrev N_p_is_pair : List Str := ["thing"]
theorem sc_p_is_pair : FnScope ["thing"] ["thing"] (defScope s_p_is_pair) := ⟨rfl, rfl, rfl, by decide +kernel, rfl, by decide +kernel, by decide +kernel⟩
abbrev s_p_is_instruction : Stmt := top 17
abbrev N_p_is_instruction : List Str := ["thing", "cell"]
theorem sc_p_is_instruction : FnScope ["thing", "cell"] ["thing"] (defScope s_p_is_instruction) := ⟨rfl, rfl, rfl, by decide +kernel, rfl, by decide +kernel, by decide +kernel⟩
abbrev s_p_is_hour : Stmt := top 18
abbrev N_p_is_hour : List Str := ["thing", "one"]
theorem sc_p_is_hour : FnScope ["thing", "one"] ["thing"] (defScope s_p_is_hour) := ⟨rfl, rfl, rfl, by decide +kernel, rfl, by decide +kernel, by decide +kernel⟩
abbrev s_p_Program_init : Stmt := inClass (top 19) 0
abbrev N_p_Program_init : List Str := ["self", "reads", "hours", "tells", "names", "cells", "told", "index", "thing"]
theorem sc_p_Program_init : FnScope ["self", "reads", "hours", "tells", "names", "cells", "told", "index", "thing"] ["self", "reads", "hours", "tells"] (defScope s_p_Program_init) := ⟨rfl, rfl, rfl, by decide +kernel, rfl, by decide +kernel, by decide +kernel⟩
abbrev s_p_Program_reads : Stmt := inClass (top 19) 1
abbrev N_p_Program_reads : List Str := ["self"]
theorem sc_p_Program_reads : FnScope ["self"] ["self"] (defScope s_p_Program_reads) := ⟨rfl, rfl, rfl, by decide +kernel, rfl, by decide +kernel, by decide +kernel⟩
abbrev s_p_Program_hours : Stmt := inClass (top 19) 2
abbrev N_p_Program_hours : List Str := ["self", "hour"]
theorem sc_p_Program_hours : FnScope ["self", "hour"] ["self"] (defScope s_p_Program_hours) := ⟨rfl, rfl, rfl, by decide +kernel, rfl, by decide +kernel, by decide +kernel⟩
abbrev s_p_Program_tells : Stmt := inClass (top 19) 3
abbrev N_p_Program_tells : List Str := ["self"]
theorem sc_p_Program_tells : FnScope ["self"] ["self"] (defScope s_p_Program_tells) := ⟨rfl, rfl, rfl, by decide +kernel, rfl, by decide +kernel, by decide +kernel⟩
abbrev s_p_Program_eq : Stmt := inClass (top 19) 4
abbrev N_p_Program_eq : List Str := ["self", "other", "mine", "theirs"]
theorem sc_p_Program_eq : FnScope ["self", "other", "mine", "theirs"] ["self", "other"] (defScope s_p_Program_eq) := ⟨rfl, rfl, rfl, by decide +kernel, rfl, by decide +kernel, by decide +kernel⟩
abbrev s_l_a_name : Stmt := top 21
abbrev N_l_a_name : List Str := ["_law_stream", "_law_taken", "_law_some", "_law_left", "_law_number", "_law_name"]
theorem sc_l_a_name : FnScope ["_law_stream", "_law_taken", "_law_some", "_law_left", "_law_number", "_law_name"] ["_law_stream", "_law_taken"] (defScope s_l_a_name) := ⟨rfl, rfl, rfl, by decide +kernel, rfl, by decide +kernel, by decide +kernel⟩
abbrev s_l_a_expr : Stmt := top 22
abbrev N_l_a_expr : List Str := ["_law_stream", "_law_known", "_law_ops", "_law_deep", "_law_way", "_law_many", "_law_k"]
theorem sc_l_a_expr : FnScope ["_law_stream", "_law_known", "_law_ops", "_law_deep", "_law_way", "_law_many", "_law_k"] ["_law_stream", "_law_known", "_law_ops", "_law_deep"] (defScope s_l_a_expr) := ⟨rfl, rfl, rfl, by decide +kernel, rfl, by decide +kernel, by decide +kernel⟩
abbrev s_l_a_lines : Stmt := top 23
abbrev N_l_a_lines : List Str := ["_law_stream", "_law_many", "_law_deep", "_law_ops", "_law_lines", "_law_known", "_law_told", "_law_k", "_law_way", "_law_left", "_law_name"]
theorem sc_l_a_lines : FnScope ["_law_stream", "_law_many", "_law_deep", "_law_ops", "_law_lines", "_law_known", "_law_told", "_law_k", "_law_way", "_law_left", "_law_name"] ["_law_stream", "_law_many", "_law_deep"] (defScope s_l_a_lines) := ⟨rfl, rfl, rfl, by decide +kernel, rfl, by decide +kernel, by decide +kernel⟩
abbrev s_l_a_term : Stmt := top 24
abbrev N_l_a_term : List Str := ["_law_rows", "_law_means", "_law_expr", "_law_row", "_law_part"]
theorem sc_l_a_term : FnScope ["_law_rows", "_law_means", "_law_expr", "_law_row", "_law_part"] ["_law_rows", "_law_means", "_law_expr"] (defScope s_l_a_term) := ⟨rfl, rfl, rfl, by decide +kernel, rfl, by decide +kernel, by decide +kernel⟩
abbrev s_l_a_terms : Stmt := top 25
abbrev N_l_a_terms : List Str := ["_law_lines", "_law_rows", "_law_means", "_law_told", "_law_line"]
theorem sc_l_a_terms : FnScope ["_law_lines", "_law_rows", "_law_means", "_law_told", "_law_line"] ["_law_lines"] (defScope s_l_a_terms) := ⟨rfl, rfl, rfl, by decide +kernel, rfl, by decide +kernel, by decide +kernel⟩
abbrev s_l_a_needed : Stmt := top 26
abbrev N_l_a_needed : List Str := ["_law_rows", "_law_told", "_law_found", "_law_number", "_law_name"]
theorem sc_l_a_needed : FnScope ["_law_rows", "_law_told", "_law_found", "_law_number", "_law_name"] ["_law_rows", "_law_told"] (defScope s_l_a_needed) := ⟨rfl, rfl, rfl, by decide +kernel, rfl, by decide +kernel, by decide +kernel⟩
abbrev s_l_a_program : Stmt := top 27
abbrev N_l_a_program : List Str := ["_law_stream", "_law_lines", "_law_rows", "_law_told", "_law_needed", "_law_cells", "_law_place", "_law_reads", "_law_hours", "_law_left", "_law_free", "_law_now", "_law_number", "_law_row", "_law_one", "_law_part", "_law_name"]
theorem sc_l_a_program : FnScope ["_law_stream", "_law_lines", "_law_rows", "_law_told", "_law_needed", "_law_cells", "_law_place", "_law_reads", "_law_hours", "_law_left", "_law_free", "_law_now", "_law_number", "_law_row", "_law_one", "_law_part", "_law_name"] ["_law_stream", "_law_lines"] (defScope s_l_a_program) := ⟨rfl, rfl, rfl, by decide +kernel, rfl, by decide +kernel, by decide +kernel⟩
abbrev s_l_start : Stmt := top 28
abbrev N_l_start : List Str := ["_law_script"]
theorem sc_l_start : FnScope ["_law_script"] ["_law_script"] (defScope s_l_start) := ⟨rfl, rfl, rfl, by decide +kernel, rfl, by decide +kernel, by decide +kernel⟩
abbrev s_l_draw : Stmt := top 29
abbrev N_l_draw : List Str := ["_law_stream", "_law_many", "_law_cell", "_law_digit", "_law_mixed_here"]
theorem sc_l_draw : FnScope ["_law_stream", "_law_many", "_law_cell", "_law_digit", "_law_mixed_here"] ["_law_stream", "_law_many"] (defScope s_l_draw) := ⟨rfl, rfl, rfl, by decide +kernel, rfl, by decide +kernel, by decide +kernel⟩
abbrev s_l_pick : Stmt := top 30
abbrev N_l_pick : List Str := ["_law_stream", "_law_some"]
theorem sc_l_pick : FnScope ["_law_stream", "_law_some"] ["_law_stream", "_law_some"] (defScope s_l_pick) := ⟨rfl, rfl, rfl, by decide +kernel, rfl, by decide +kernel, by decide +kernel⟩
abbrev s_l_mixed : Stmt := top 31
abbrev N_l_mixed : List Str := ["_law_stream", "_law_some", "_law_left", "_law_k"]
theorem sc_l_mixed : FnScope ["_law_stream", "_law_some", "_law_left", "_law_k"] ["_law_stream", "_law_some"] (defScope s_l_mixed) := ⟨rfl, rfl, rfl, by decide +kernel, rfl, by decide +kernel, by decide +kernel⟩
abbrev s_l_same : Stmt := top 32
abbrev N_l_same : List Str := ["_law_found", "_law_due", "_law_x", "_law_y"]
theorem sc_l_same : FnScope ["_law_found", "_law_due", "_law_x", "_law_y"] ["_law_found", "_law_due"] (defScope s_l_same) := ⟨rfl, rfl, rfl, by decide +kernel, rfl, by decide +kernel, by decide +kernel⟩
abbrev s_l_each_once : Stmt := top 33
abbrev N_l_each_once : List Str := ["_law_things", "_law_found", "_law_thing"]
theorem sc_l_each_once : FnScope ["_law_things", "_law_found", "_law_thing"] ["_law_things"] (defScope s_l_each_once) := ⟨rfl, rfl, rfl, by decide +kernel, rfl, by decide +kernel, by decide +kernel⟩
abbrev s_l_loose : Stmt := top 34
abbrev N_l_loose : List Str := ["_law_stream", "_law_thing", "_law_found", "_law_part"]
theorem sc_l_loose : FnScope ["_law_stream", "_law_thing", "_law_found", "_law_part"] ["_law_stream", "_law_thing"] (defScope s_l_loose) := ⟨rfl, rfl, rfl, by decide +kernel, rfl, by decide +kernel, by decide +kernel⟩
abbrev s_l_is_name : Stmt := top 35
abbrev N_l_is_name : List Str := ["_law_thing", "_law_letters", "_law_figures", "_law_sign"]
theorem sc_l_is_name : FnScope ["_law_thing", "_law_letters", "_law_figures", "_law_sign"] ["_law_thing"] (defScope s_l_is_name) := ⟨rfl, rfl, rfl, by decide +kernel, rfl, by decide +kernel, by decide +kernel⟩
abbrev s_l_is_cell : Stmt := top 36
abbrev N_l_is_cell : List Str := ["_law_thing"]
theorem sc_l_is_cell : FnScope ["_law_thing"] ["_law_thing"] (defScope s_l_is_cell) := ⟨rfl, rfl, rfl, by decide +kernel, rfl, by decide +kernel, by decide +kernel⟩
abbrev s_l_is_pair : Stmt := top 37
abbrev N_l_is_pair : List Str := ["_law_thing"]
theorem sc_l_is_pair : FnScope ["_law_thing"] ["_law_thing"] (defScope s_l_is_pair) := ⟨rfl, rfl, rfl, by decide +kernel, rfl, by decide +kernel, by decide +kernel⟩
abbrev s_l_is_row : Stmt := top 38
abbrev N_l_is_row : List Str := ["_law_thing", "_law_cell"]
theorem sc_l_is_row : FnScope ["_law_thing", "_law_cell"] ["_law_thing"] (defScope s_l_is_row) := ⟨rfl, rfl, rfl, by decide +kernel, rfl, by decide +kernel, by decide +kernel⟩
abbrev s_l_pairs_fault : Stmt := top 39
abbrev N_l_pairs_fault : List Str := ["_law_thing", "_law_is_read", "_law_names", "_law_cells", "_law_at", "_law_pair"]
theorem sc_l_pairs_fault : FnScope ["_law_thing", "_law_is_read", "_law_names", "_law_cells", "_law_at", "_law_pair"] ["_law_thing", "_law_is_read"] (defScope s_l_pairs_fault) := ⟨rfl, rfl, rfl, by decide +kernel, rfl, by decide +kernel, by decide +kernel⟩
abbrev s_l_fault : Stmt := top 40
abbrev N_l_fault : List Str := ["_law_reads", "_law_hours", "_law_tells", "_law_found", "_law_at", "_law_hour", "_law_row"]
theorem sc_l_fault : FnScope ["_law_reads", "_law_hours", "_law_tells", "_law_found", "_law_at", "_law_hour", "_law_row"] ["_law_reads", "_law_hours", "_law_tells"] (defScope s_l_fault) := ⟨rfl, rfl, rfl, by decide +kernel, rfl, by decide +kernel, by decide +kernel⟩
abbrev s_l_met : Stmt := top 41
abbrev N_l_met : List Str := ["_law_reads", "_law_hours", "_law_tells", "e"]
theorem sc_l_met : FnScope ["_law_reads", "_law_hours", "_law_tells", "e"] ["_law_reads", "_law_hours", "_law_tells"] (defScope s_l_met) := ⟨rfl, rfl, rfl, by decide +kernel, rfl, by decide +kernel, by decide +kernel⟩
abbrev s_l_odd_pairs : Stmt := top 42
abbrev N_l_odd_pairs : List Str := ["_law_stream", "_law_pairs", "_law_name", "_law_cell", "_law_found", "_law_odd"]
theorem sc_l_odd_pairs : FnScope ["_law_stream", "_law_pairs", "_law_name", "_law_cell", "_law_found", "_law_odd"] ["_law_stream", "_law_pairs"] (defScope s_l_odd_pairs) := ⟨rfl, rfl, rfl, by decide +kernel, rfl, by decide +kernel, by decide +kernel⟩
abbrev s_l_odd_hours : Stmt := top 43
abbrev N_l_odd_hours : List Str := ["_law_stream", "_law_hours", "_law_row", "_law_found", "_law_odd"]
theorem sc_l_odd_hours : FnScope ["_law_stream", "_law_hours", "_law_row", "_law_found", "_law_odd"] ["_law_stream", "_law_hours"] (defScope s_l_odd_hours) := ⟨rfl, rfl, rfl, by decide +kernel, rfl, by decide +kernel, by decide +kernel⟩
abbrev s_l_told_right : Stmt := top 44
abbrev N_l_told_right : List Str := ["_law_stream", "_law_reads", "_law_hours", "_law_tells", "_law_handed", "_law_was", "_law_made", "_law_due", "_law_passed", "_law_told", "_law_twin", "_law_other", "_law_bent", "_law_hour"]
theorem sc_l_told_right : FnScope ["_law_stream", "_law_reads", "_law_hours", "_law_tells", "_law_handed", "_law_was", "_law_made", "_law_due", "_law_passed", "_law_told", "_law_twin", "_law_other", "_law_bent", "_law_hour"] ["_law_stream", "_law_reads", "_law_hours", "_law_tells"] (defScope s_l_told_right) := ⟨rfl, rfl, rfl, by decide +kernel, rfl, by decide +kernel, by decide +kernel⟩
abbrev s_l_bent_right : Stmt := top 45
abbrev N_l_bent_right : List Str := ["_law_stream", "_law_reads", "_law_hours", "_law_tells", "_law_odds", "_law_odd", "_law_lots", "_law_lot", "_law_found"]
theorem sc_l_bent_right : FnScope ["_law_stream", "_law_reads", "_law_hours", "_law_tells", "_law_odds", "_law_odd", "_law_lots", "_law_lot", "_law_found"] ["_law_stream", "_law_reads", "_law_hours", "_law_tells"] (defScope s_l_bent_right) := ⟨rfl, rfl, rfl, by decide +kernel, rfl, by decide +kernel, by decide +kernel⟩
abbrev s_law : Stmt := top 46
abbrev N_law : List Str := ["_law_script", "_law_stream", "_law_turn", "_law_reads", "_law_hours", "_law_tells"]
theorem sc_law : FnScope ["_law_script", "_law_stream", "_law_turn", "_law_reads", "_law_hours", "_law_tells"] ["_law_script"] (defScope s_law) := ⟨rfl, rfl, rfl, by decide +kernel, rfl, by decide +kernel, by decide +kernel⟩
structure Txt (K : PySem.W.Frag) (mg : Str → Option Value) (D : Ad) (D2 : Ad5) : Prop where
  n_all : mg "all" = none
  n_bool : mg "bool" = none
  n_dict : mg "dict" = none
  n_enumerate : mg "enumerate" = none
  n_int : mg "int" = none
  n_isinstance : mg "isinstance" = none
  n_len : mg "len" = none
  n_list : mg "list" = none
  n_max : mg "max" = none
  n_range : mg "range" = none
  n_repr : mg "repr" = none
  n_str : mg "str" = none
  n_tuple : mg "tuple" = none
  n_zip : mg "zip" = none
  g_SMALL : ∃ u, mg "SMALL" = some u ∧ RelV (.str "abcdefghijklmnopqrstuvwxyz") u
  g_FIGURES : ∃ u, mg "FIGURES" = some u ∧ RelV (.str "0123456789") u
  g_WORDS : ∃ u, mg "WORDS" = some u ∧ RelV (.ref D.words) u
  hW : ∀ H : Hp, SqT K H D.words [.str "read", .str "tell"]
  g_Program : mg "Program" = some (.ref D2.cPrg)
  prg : PrgC K D2.cPrg
  xfcR : XfC K D2.cR
  oexcR : OexC K D2.cR
  nocR : PySem.W.findIn K (.ref D2.cR) "index" = some none
  xfcH : XfC K D2.cH
  oexcH : OexC K D2.cH
  nocH : PySem.W.findIn K (.ref D2.cH) "index" = some none
  xfcT : XfC K D2.cT
  oexcT : OexC K D2.cT
  nocT : PySem.W.findIn K (.ref D2.cT) "index" = some none
  tR : PySem.W.exmOne K (.ref D2.cR) (.ref D2.cR) = some true
  tHR : PySem.W.exmOne K (.ref D2.cH) (.ref D2.cR) = some false
  tH : PySem.W.exmOne K (.ref D2.cH) (.ref D2.cH) = some true
  tTR : PySem.W.exmOne K (.ref D2.cT) (.ref D2.cR) = some false
  tTH : PySem.W.exmOne K (.ref D2.cT) (.ref D2.cH) = some false
  tT : PySem.W.exmOne K (.ref D2.cT) (.ref D2.cT) = some true
section
variable {P : Program} {w : World} {K : PySem.W.Frag} {mg : Str → Option Value} {base : Heap} {D : Ad} {D2 : Ad5}
theorem ok_l_start {f : Addr} {fd : FuncData} (F : Fun K "_law_start" "_law_start" s_l_start f fd) (b : Binds K fd ["_law_script"] []) (hf : mg "_law_start" = some (.ref f)) (T : Txt K mg D D2)   : Cal P w K mg base 1 "_law_start" (spStart K) [] := by
  refine ⟨f, fd, ["_law_script"], [], F.ok sc_l_start (fun vs H Q E h => ?_) (fun cdv A outer s H vs Q E hr h => ⟨t_l_start K, ?_, rd_l_start K h⟩), hf, F.kp, b, .nil⟩
  · unfold spStart at h
    repeat (first | (obtain ⟨rfl, _⟩ := h; rfl) | (obtain ⟨_, h⟩ := h))
  · exact pss_one (ps_ret (pe_lstU (pa_cons (pe_callTy call_lstOf (by rfl) T.n_list (by decide +kernel) (pa_cons (pv 0) (pa_nil))) (pa_cons (pe_int) (pa_cons (pe_int) (pa_cons (pe_int) (pa_nil)))))))

theorem ok_l_draw {f : Addr} {fd : FuncData} (F : Fun K "_law_draw" "_law_draw" s_l_draw f fd) (b : Binds K fd ["_law_stream", "_law_many"] []) (hf : mg "_law_draw" = some (.ref f)) (T : Txt K mg D D2)   : Cal P w K mg base 1 "_law_draw" spDraw [] := by
  refine ⟨f, fd, ["_law_stream", "_law_many"], [], F.ok sc_l_draw (fun vs H Q E h => ?_) (fun cdv A outer s H vs Q E hr h => ⟨t_l_draw K, ?_, rd_l_draw K h⟩), hf, F.kp, b, .nil⟩
  · unfold spDraw at h
    repeat (first | (obtain ⟨rfl, _⟩ := h; rfl) | (obtain ⟨_, h⟩ := h))
  · exact pss_cons (ps_asg (pe_op op_addU (pe_ix ix_U (pv 0) (pe_int) (fun _ _ => rfl)) (pe_int)) (pg_sub (pv 0) (pe_int) (set_U (hu_of hr))))
      (pss_cons (ps_while PassesOwn.never (PW.pt (pw_and (pt_cmpR (op_eqU hr.units) (pe_ix ix_U (pv 0) (pe_int) (fun _ _ => rfl)) (pe_int) (nomark _)) (pw_and1 (pt_cmpR (op_neU hr.units) (pe_ix ix_U (pv 0) (pe_int) (fun _ _ => rfl)) (pe_lstU (pa_nil)) (nomark _))))) (pss_cons (ps_set (i := 2) sc_l_draw.nd rfl (Or.inl rfl) (pe_bm PySem.F.plainAttrs_list PySem.F.slot_list_pop PySem.F.type_list_pop mt_popAtU (pe_ix ix_U (pv 0) (pe_int) (fun _ _ => rfl)) (pa_cons (pe_int) (pa_nil))))
      (pss_cons (ps_asg (pe_op op_modN (pe_callTy call_in1 (by rfl) T.n_int (by decide +kernel) (pa_cons (pe_op op_addU (pe_op op_addU (pe_op op_mulU (pe_ix ix_U (pv 0) (pe_int) (fun _ _ => rfl)) (pe_int)) (pv 2)) (pe_int)) (pa_nil))) (pe_int)) (pg_sub (pv 0) (pe_int) (set_U (hu_of hr))))
      (pss_one (ps_asg (pe_ifExp (pt_cmpR op_ge (pv 2) (pe_op op_pow (pe_int) (pe_int)) (nomark _)) (pv 2) (pe_int)) (pg_sub (pv 0) (pe_int) (set_U (hu_of hr))))))))
      (pss_cons (ps_if (pt_cmpR op_gt (pe_ix ix_U (pv 0) (pe_int) (fun _ _ => rfl)) (pe_int) (nomark _)) (pss_cons (ps_set (i := 3) sc_l_draw.nd rfl (Or.inl rfl) (pe_op op_modN (pe_callTy call_in1 (by rfl) T.n_int (by decide +kernel) (pa_cons (pe_ix ix_U (pv 0) (pe_int) (fun _ _ => rfl)) (pa_nil))) (pv 1)))
      (pss_cons (ps_asg (pe_op op_fdivN (pe_ix ix_U (pv 0) (pe_int) (fun _ _ => rfl)) (pv 1)) (pg_sub (pv 0) (pe_int) (set_U (hu_of hr))))
      (pss_one (ps_ret (pv 3))))) (pss_nil))
      (pss_cons (ps_set (i := 4) sc_l_draw.nd rfl (Or.inl rfl) (pe_op op_modN (pe_callTy call_in1 (by rfl) T.n_int (by decide +kernel) (pa_cons (pe_op op_pow (pe_op op_addU (pe_op op_addU (pe_ix ix_U (pv 0) (pe_int) (fun _ _ => rfl)) (pe_op op_mulU (pe_int) (pe_ix ix_U (pv 0) (pe_int) (fun _ _ => rfl)))) (pe_int)) (pe_int)) (pa_nil))) (pe_int)))
      (pss_one (ps_ret (pe_op op_modN (pe_op op_modN (pe_callTy call_in1 (by rfl) T.n_int (by decide +kernel) (pa_cons (pe_op op_pow (pe_op op_addU (pe_op op_addU (pe_op op_mulU (pv 4) (pe_int)) (pe_op op_mulU (pe_int) (pe_ix ix_U (pv 0) (pe_int) (fun _ _ => rfl)))) (pe_int)) (pe_int)) (pa_nil))) (pe_int)) (pv 1)))))))

theorem ok_l_pick {f : Addr} {fd : FuncData} (F : Fun K "_law_pick" "_law_pick" s_l_pick f fd) (b : Binds K fd ["_law_stream", "_law_some"] []) (hf : mg "_law_pick" = some (.ref f)) (T : Txt K mg D D2) (C_l_draw : Cal P w K mg base 1 "_law_draw" spDraw [])  : Cal P w K mg base 2 "_law_pick" spPick [] := by
  refine ⟨f, fd, ["_law_stream", "_law_some"], [], F.ok sc_l_pick (fun vs H Q E h => ?_) (fun cdv A outer s H vs Q E hr h => ⟨t_l_pick K, ?_, rd_l_pick K h⟩), hf, F.kp, b, .nil⟩
  · unfold spPick at h
    repeat (first | (obtain ⟨rfl, _⟩ := h; rfl) | (obtain ⟨_, h⟩ := h))
  · exact pss_one (ps_ret (pe_ix ix_U (pv 1) (pe_c C_l_draw hr (by decide) rfl (pa_cons (pv 0) (pa_cons (pe_callB call_lenU (by rfl) T.n_len (by decide +kernel) (pa_cons (pv 1) (pa_nil))) (pa_nil)))) (fun _ _ => rfl)))

theorem ok_l_mixed {f : Addr} {fd : FuncData} (F : Fun K "_law_mixed" "_law_mixed" s_l_mixed f fd) (b : Binds K fd ["_law_stream", "_law_some"] []) (hf : mg "_law_mixed" = some (.ref f)) (T : Txt K mg D D2) (C_l_draw : Cal P w K mg base 1 "_law_draw" spDraw [])  : Cal P w K mg base 2 "_law_mixed" spMixed [] := by
  refine ⟨f, fd, ["_law_stream", "_law_some"], [], F.ok sc_l_mixed (fun vs H Q E h => ?_) (fun cdv A outer s H vs Q E hr h => ⟨t_l_mixed K, ?_, rd_l_mixed K h⟩), hf, F.kp, b, .nil⟩
  · unfold spMixed at h
    repeat (first | (obtain ⟨rfl, _⟩ := h; rfl) | (obtain ⟨_, h⟩ := h))
  · exact pss_cons (ps_set (i := 2) sc_l_mixed.nd rfl (Or.inr rfl) (pe_callTy call_lstOf (by rfl) T.n_list (by decide +kernel) (pa_cons (pv 1) (pa_nil))))
      (pss_one (ps_ret (pe_lcU (own := [("_law_k", 3)]) (g := gName 3) (tt := tYes) rfl sc_l_mixed.nd (pi_range1 rfl T.n_range (pa_cons (pe_callB call_lenU (by rfl) T.n_len (by decide +kernel) (pa_cons (pv 2) (pa_nil))) (pa_nil))) (blkOk_by (N := N_l_mixed) (sc := defScope s_l_mixed) (by decide +kernel)) (fun _ _ _ _ _ => pg_name (i := 3) sc_l_mixed.nd rfl (Or.inl rfl)) (fun _ _ _ _ _ => pts_nil) (fun _ _ _ _ _ => pe_bm PySem.F.plainAttrs_list PySem.F.slot_list_pop PySem.F.type_list_pop mt_popAtU (pv 2) (pa_cons (pe_c C_l_draw hr (by decide) rfl (pa_cons (pv 0) (pa_cons (pe_callB call_lenU (by rfl) T.n_len (by decide +kernel) (pa_cons (pv 2) (pa_nil))) (pa_nil)))) (pa_nil))))))

theorem ok_p_is_list {f : Addr} {fd : FuncData} (F : Fun K "is_list" "is_list" s_p_is_list f fd) (b : Binds K fd ["thing"] []) (hf : mg "is_list" = some (.ref f)) (T : Txt K mg D D2)   : Cal P w K mg base 1 "is_list" (spIsList K) [] := by
  refine ⟨f, fd, ["thing"], [], F.ok sc_p_is_list (fun vs H Q E h => ?_) (fun cdv A outer s H vs Q E hr h => ⟨t_p_is_list K, ?_, rd_p_is_list K h⟩), hf, F.kp, b, .nil⟩
  · unfold spIsList at h
    rcases h with h | h <;> (repeat (first | (obtain ⟨rfl, _⟩ := h; rfl) | (obtain ⟨_, h⟩ := h)))
  · exact pss_one (ps_ret (pe_callB call_isiU (by rfl) T.n_isinstance (by decide +kernel) (pa_cons (pv 0) (pa_cons (pe_tupU (pa_cons (pe_bltn rfl T.n_list (by decide +kernel) rfl) (pa_cons (pe_bltn rfl T.n_tuple (by decide +kernel) rfl) (pa_nil)))) (pa_nil)))))

theorem ok_p_is_integer {f : Addr} {fd : FuncData} (F : Fun K "is_integer" "is_integer" s_p_is_integer f fd) (b : Binds K fd ["thing"] []) (hf : mg "is_integer" = some (.ref f)) (T : Txt K mg D D2)   : Cal P w K mg base 1 "is_integer" (spBoolOf intD) [] := by
  refine ⟨f, fd, ["thing"], [], F.ok sc_p_is_integer (fun vs H Q E h => ?_) (fun cdv A outer s H vs Q E hr h => ⟨t_p_is_integer K, ?_, rd_p_is_integer K h⟩), hf, F.kp, b, .nil⟩
  · unfold spBoolOf at h
    repeat (first | (obtain ⟨rfl, _⟩ := h; rfl) | (obtain ⟨_, h⟩ := h))
  · exact pss_one (ps_ret (pe_and (pe_callB call_isiU (by rfl) T.n_isinstance (by decide +kernel) (pa_cons (pv 0) (pa_cons (pe_bltn rfl T.n_int (by decide +kernel) rfl) (pa_nil)))) (pe_one (pe_not (pe_callB call_isiU (by rfl) T.n_isinstance (by decide +kernel) (pa_cons (pv 0) (pa_cons (pe_bltn rfl T.n_bool (by decide +kernel) rfl) (pa_nil))))))))

theorem ok_p_is_name {f : Addr} {fd : FuncData} (F : Fun K "is_name" "is_name" s_p_is_name f fd) (b : Binds K fd ["thing"] []) (hf : mg "is_name" = some (.ref f)) (T : Txt K mg D D2)   : Cal P w K mg base 1 "is_name" spIsName [] := by
  refine ⟨f, fd, ["thing"], [], F.ok sc_p_is_name (fun vs H Q E h => ?_) (fun cdv A outer s H vs Q E hr h => ⟨t_p_is_name K D, ?_, rd_p_is_name K D T.hW h⟩), hf, F.kp, b, .nil⟩
  · unfold spIsName at h
    repeat (first | (obtain ⟨rfl, _⟩ := h; rfl) | (obtain ⟨_, h⟩ := h))
  · exact pss_cons (ps_if (PW.pt (pw_or (pt_not (pt_val (pe_callB call_isiU (by rfl) T.n_isinstance (by decide +kernel) (pa_cons (pv 0) (pa_cons (pe_bltn rfl T.n_str (by decide +kernel) rfl) (pa_nil)))))) (pw_or (pt_not (pt_chain op_lt op_le (pe_int) (pe_callB call_lenU (by rfl) T.n_len (by decide +kernel) (pa_cons (pv 0) (pa_nil))) (pe_int))) (pw_or (pt_notInU (hu65 hr) (pe_ix ix_U (pv 0) (pe_int) (fun _ _ => rfl)) (pe_gc rfl T.g_SMALL)) (pw_or1 (pt_inU (hu65 hr) (pv 0) (pe_gc rfl T.g_WORDS))))))) (pss_one (ps_ret (pe_bl))) (pss_nil))
      (pss_one (ps_ret (pe_callB (call_allU rfl) (by rfl) T.n_all (by decide +kernel) (pa_cons (pe_lcU (own := [("sign", 1)]) (g := gName 1) (tt := tYes) rfl sc_p_is_name.nd (pi_U (pv 0)) (blkOk_by (N := N_p_is_name) (sc := defScope s_p_is_name) (by decide +kernel)) (fun _ _ _ _ _ => pg_name (i := 1) sc_p_is_name.nd rfl (Or.inl rfl)) (fun _ _ _ _ _ => pts_nil) (fun _ _ _ _ _ => pe_inU (hu65 hr) (pv 1) (pe_op op_addU (pe_gc rfl T.g_SMALL) (pe_gc rfl T.g_FIGURES)))) (pa_nil)))))

theorem ok_p_is_cell {f : Addr} {fd : FuncData} (F : Fun K "is_cell" "is_cell" s_p_is_cell f fd) (b : Binds K fd ["thing"] []) (hf : mg "is_cell" = some (.ref f)) (T : Txt K mg D D2) (C_p_is_integer : Cal P w K mg base 1 "is_integer" (spBoolOf intD) [])  : Cal P w K mg base 2 "is_cell" (spBoolOf cellD) [] := by
  refine ⟨f, fd, ["thing"], [], F.ok sc_p_is_cell (fun vs H Q E h => ?_) (fun cdv A outer s H vs Q E hr h => ⟨t_p_is_cell K, ?_, rd_p_is_cell K h⟩), hf, F.kp, b, .nil⟩
  · unfold spBoolOf at h
    repeat (first | (obtain ⟨rfl, _⟩ := h; rfl) | (obtain ⟨_, h⟩ := h))
  · exact pss_one (ps_ret (pe_and (pe_c C_p_is_integer hr (by decide) rfl (pa_cons (pv 0) (pa_nil))) (pe_one (pe_chain op_le op_le (pe_int) (pv 0) (pe_int)))))

theorem ok_p_is_pair {f : Addr} {fd : FuncData} (F : Fun K "is_pair" "is_pair" s_p_is_pair f fd) (b : Binds K fd ["thing"] []) (hf : mg "is_pair" = some (.ref f)) (T : Txt K mg D D2) (C_p_is_list : Cal P w K mg base 1 "is_list" (spIsList K) []) (C_p_is_name : Cal P w K mg base 1 "is_name" spIsName []) (C_p_is_cell : Cal P w K mg base 2 "is_cell" (spBoolOf cellD) [])  : Cal P w K mg base 3 "is_pair" (spBoolOf pairD) [] := by
  refine ⟨f, fd, ["thing"], [], F.ok sc_p_is_pair (fun vs H Q E h => ?_) (fun cdv A outer s H vs Q E hr h => ⟨t_p_is_pair K, ?_, rd_p_is_pair K h⟩), hf, F.kp, b, .nil⟩
  · unfold spBoolOf at h
    repeat (first | (obtain ⟨rfl, _⟩ := h; rfl) | (obtain ⟨_, h⟩ := h))
  · exact pss_one (ps_ret (pe_and (pe_c C_p_is_list hr (by decide) rfl (pa_cons (pv 0) (pa_nil))) (pe_and (pe_cmpR (op_eqU hr.units) (pe_callB call_lenU (by rfl) T.n_len (by decide +kernel) (pa_cons (pv 0) (pa_nil))) (pe_int) (nomark _)) (pe_and (pe_c C_p_is_name hr (by decide) rfl (pa_cons (pe_ix ix_U (pv 0) (pe_int) (fun _ _ => rfl)) (pa_nil))) (pe_one (pe_c C_p_is_cell hr (by decide) rfl (pa_cons (pe_ix ix_U (pv 0) (pe_int) (fun _ _ => rfl)) (pa_nil))))))))

theorem ok_p_is_instruction {f : Addr} {fd : FuncData} (F : Fun K "is_instruction" "is_instruction" s_p_is_instruction f fd) (b : Binds K fd ["thing"] []) (hf : mg "is_instruction" = some (.ref f)) (T : Txt K mg D D2) (C_p_is_list : Cal P w K mg base 1 "is_list" (spIsList K) []) (C_p_is_cell : Cal P w K mg base 2 "is_cell" (spBoolOf cellD) []) (C_p_is_name : Cal P w K mg base 1 "is_name" spIsName [])  : Cal P w K mg base 3 "is_instruction" (spBoolOf rowD) [] := by
  refine ⟨f, fd, ["thing"], [], F.ok sc_p_is_instruction (fun vs H Q E h => ?_) (fun cdv A outer s H vs Q E hr h => ⟨t_p_is_instruction K, ?_, rd_p_is_instruction K h⟩), hf, F.kp, b, .nil⟩
  · unfold spBoolOf at h
    repeat (first | (obtain ⟨rfl, _⟩ := h; rfl) | (obtain ⟨_, h⟩ := h))
  · exact pss_cons (ps_if (PW.pt (pw_or (pt_not (pt_val (pe_c C_p_is_list hr (by decide) rfl (pa_cons (pv 0) (pa_nil))))) (pw_or (pt_cmpR (op_neU hr.units) (pe_callB call_lenU (by rfl) T.n_len (by decide +kernel) (pa_cons (pv 0) (pa_nil))) (pe_int) (nomark _)) (pw_or (pt_not (pt_val (pe_c C_p_is_cell hr (by decide) rfl (pa_cons (pe_ix ix_U (pv 0) (pe_int) (fun _ _ => rfl)) (pa_nil))))) (pw_or1 (pt_not (pt_val (pe_c C_p_is_name hr (by decide) rfl (pa_cons (pe_ix ix_U (pv 0) (pe_int) (fun _ _ => rfl)) (pa_nil)))))))))) (pss_one (ps_ret (pe_bl))) (pss_nil))
      (pss_one (ps_ret (pe_and (pe_c C_p_is_list hr (by decide) rfl (pa_cons (pe_ix ix_U (pv 0) (pe_int) (fun _ _ => rfl)) (pa_nil))) (pe_one (pe_callB (call_allU rfl) (by rfl) T.n_all (by decide +kernel) (pa_cons (pe_lcU (own := [("cell", 1)]) (g := gName 1) (tt := tYes) rfl sc_p_is_instruction.nd (pi_U (pe_ix ix_U (pv 0) (pe_int) (fun _ _ => rfl))) (blkOk_by (N := N_p_is_instruction) (sc := defScope s_p_is_instruction) (by decide +kernel)) (fun _ _ _ _ _ => pg_name (i := 1) sc_p_is_instruction.nd rfl (Or.inl rfl)) (fun _ _ _ _ _ => pts_nil) (fun _ _ _ _ _ => pe_c C_p_is_cell hr (by decide) rfl (pa_cons (pv 1) (pa_nil)))) (pa_nil)))))))

theorem ok_p_is_hour {f : Addr} {fd : FuncData} (F : Fun K "is_hour" "is_hour" s_p_is_hour f fd) (b : Binds K fd ["thing"] []) (hf : mg "is_hour" = some (.ref f)) (T : Txt K mg D D2) (C_p_is_list : Cal P w K mg base 1 "is_list" (spIsList K) []) (C_p_is_instruction : Cal P w K mg base 3 "is_instruction" (spBoolOf rowD) [])  : Cal P w K mg base 4 "is_hour" (spBoolOf hourD) [] := by
  refine ⟨f, fd, ["thing"], [], F.ok sc_p_is_hour (fun vs H Q E h => ?_) (fun cdv A outer s H vs Q E hr h => ⟨t_p_is_hour K, ?_, rd_p_is_hour K h⟩), hf, F.kp, b, .nil⟩
  · unfold spBoolOf at h
    repeat (first | (obtain ⟨rfl, _⟩ := h; rfl) | (obtain ⟨_, h⟩ := h))
  · exact pss_one (ps_ret (pe_and (pe_c C_p_is_list hr (by decide) rfl (pa_cons (pv 0) (pa_nil))) (pe_and (pe_cmpR op_le (pe_callB call_lenU (by rfl) T.n_len (by decide +kernel) (pa_cons (pv 0) (pa_nil))) (pe_int) (nomark _)) (pe_one (pe_callB (call_allU rfl) (by rfl) T.n_all (by decide +kernel) (pa_cons (pe_lcU (own := [("one", 1)]) (g := gName 1) (tt := tYes) rfl sc_p_is_hour.nd (pi_U (pv 0)) (blkOk_by (N := N_p_is_hour) (sc := defScope s_p_is_hour) (by decide +kernel)) (fun _ _ _ _ _ => pg_name (i := 1) sc_p_is_hour.nd rfl (Or.inl rfl)) (fun _ _ _ _ _ => pts_nil) (fun _ _ _ _ _ => pe_c C_p_is_instruction hr (by decide) rfl (pa_cons (pv 1) (pa_nil)))) (pa_nil)))))))

theorem okr_p_as_tuples {f : Addr} {fd : FuncData} (F : Fun K "as_tuples" "as_tuples" s_p_as_tuples f fd) (b : Binds K fd ["thing"] []) (hf : mg "as_tuples" = some (.ref f)) (T : Txt K mg D D2) (C_p_is_list : Cal P w K mg base 1 "is_list" (spIsList K) []) : ∀ m : Nat, Cal P w K mg base (1 + m) "as_tuples" (spAsTuples m) []
  | 0 => by
    refine ⟨f, fd, ["thing"], [], (F.ok (k := 0) sc_p_as_tuples (fun vs H Q E h => ?_) (fun cdv A outer s H vs Q E hr h => ?_)), hf, F.kp, b, .nil⟩
    · exact (zero_spAsTuples h).elim
    · exact (zero_spAsTuples h).elim
  | m + 1 => by
    have C_p_as_tuples := okr_p_as_tuples F b hf T C_p_is_list m
    refine ⟨f, fd, ["thing"], [], F.ok (k := 1 + m) sc_p_as_tuples (fun vs H Q E h => ?_) (fun cdv A outer s H vs Q E hr h => ⟨t_p_as_tuples K m, ?_, rd_p_as_tuples K m h⟩), hf, F.kp, b, .nil⟩
    · unfold spAsTuples at h
      repeat (first | (obtain ⟨rfl, _⟩ := h; rfl) | (obtain ⟨_, h⟩ := h))
    · exact pss_one (ps_ret (pe_ifExp (pt_val (pe_c C_p_is_list hr (by omega) rfl (pa_cons (pv 0) (pa_nil)))) (pe_callTy call_tupOf (by rfl) T.n_tuple (by decide +kernel) (pa_cons (pe_lcU (own := [("part", 1)]) (g := gName 1) (tt := tYes) rfl sc_p_as_tuples.nd (pi_U (pv 0)) (blkOk_by (N := N_p_as_tuples) (sc := defScope s_p_as_tuples) (by decide +kernel)) (fun _ _ _ _ _ => pg_name (i := 1) sc_p_as_tuples.nd rfl (Or.inl rfl)) (fun _ _ _ _ _ => pts_nil) (fun _ _ _ _ _ => pe_c C_p_as_tuples hr (Nat.le_refl _) rfl (pa_cons (pv 1) (pa_nil)))) (pa_nil))) (pv 0)))

theorem ok_l_is_name {f : Addr} {fd : FuncData} (F : Fun K "_law_is_name" "_law_is_name" s_l_is_name f fd) (b : Binds K fd ["_law_thing"] []) (hf : mg "_law_is_name" = some (.ref f)) (T : Txt K mg D D2)   : Cal P w K mg base 1 "_law_is_name" spIsName [] := by
  refine ⟨f, fd, ["_law_thing"], [], F.ok sc_l_is_name (fun vs H Q E h => ?_) (fun cdv A outer s H vs Q E hr h => ⟨t_l_is_name K, ?_, rd_l_is_name K h⟩), hf, F.kp, b, .nil⟩
  · unfold spIsName at h
    repeat (first | (obtain ⟨rfl, _⟩ := h; rfl) | (obtain ⟨_, h⟩ := h))
  · exact pss_cons (ps_asg (pe_tupU (pa_cons (pe_str) (pa_cons (pe_str) (pa_nil)))) (pg_tup rfl (pgs_cons (pg_name (i := 1) sc_l_is_name.nd rfl (Or.inr rfl)) (pgs_cons (pg_name (i := 2) sc_l_is_name.nd rfl (Or.inr rfl)) (pgs_nil)))))
      (pss_cons (ps_if (PW.pt (pw_or (pt_not (pt_val (pe_callB call_isiU (by rfl) T.n_isinstance (by decide +kernel) (pa_cons (pv 0) (pa_cons (pe_bltn rfl T.n_str (by decide +kernel) rfl) (pa_nil)))))) (pw_or (pt_not (pt_chain op_le op_le (pe_int) (pe_callB call_lenU (by rfl) T.n_len (by decide +kernel) (pa_cons (pv 0) (pa_nil))) (pe_int))) (pw_or1 (pt_inU (hu65 hr) (pv 0) (pe_tupU (pa_cons (pe_str) (pa_cons (pe_str) (pa_nil))))))))) (pss_one (ps_ret (pe_bl))) (pss_nil))
      (pss_one (ps_ret (pe_and (pe_inU (hu65 hr) (pe_ix ix_U (pv 0) (pe_int) (fun _ _ => rfl)) (pv 1)) (pe_one (pe_callB (call_allU rfl) (by rfl) T.n_all (by decide +kernel) (pa_cons (pe_lcU (own := [("_law_sign", 3)]) (g := gName 3) (tt := tYes) rfl sc_l_is_name.nd (pi_U (pv 0)) (blkOk_by (N := N_l_is_name) (sc := defScope s_l_is_name) (by decide +kernel)) (fun _ _ _ _ _ => pg_name (i := 3) sc_l_is_name.nd rfl (Or.inl rfl)) (fun _ _ _ _ _ => pts_nil) (fun _ _ _ _ _ => pe_inU (hu65 hr) (pv 3) (pe_op op_addU (pv 1) (pv 2)))) (pa_nil))))))))

theorem ok_l_is_cell {f : Addr} {fd : FuncData} (F : Fun K "_law_is_cell" "_law_is_cell" s_l_is_cell f fd) (b : Binds K fd ["_law_thing"] []) (hf : mg "_law_is_cell" = some (.ref f)) (T : Txt K mg D D2)   : Cal P w K mg base 1 "_law_is_cell" (spBoolOf cellD) [] := by
  refine ⟨f, fd, ["_law_thing"], [], F.ok sc_l_is_cell (fun vs H Q E h => ?_) (fun cdv A outer s H vs Q E hr h => ⟨t_l_is_cell K, ?_, rd_l_is_cell K h⟩), hf, F.kp, b, .nil⟩
  · unfold spBoolOf at h
    repeat (first | (obtain ⟨rfl, _⟩ := h; rfl) | (obtain ⟨_, h⟩ := h))
  · exact pss_one (ps_ret (pe_and (pe_callB call_isiU (by rfl) T.n_isinstance (by decide +kernel) (pa_cons (pv 0) (pa_cons (pe_bltn rfl T.n_int (by decide +kernel) rfl) (pa_nil)))) (pe_and (pe_not (pe_callB call_isiU (by rfl) T.n_isinstance (by decide +kernel) (pa_cons (pv 0) (pa_cons (pe_bltn rfl T.n_bool (by decide +kernel) rfl) (pa_nil))))) (pe_one (pe_chain op_lt op_lt (pe_int) (pv 0) (pe_int))))))

theorem ok_l_is_pair {f : Addr} {fd : FuncData} (F : Fun K "_law_is_pair" "_law_is_pair" s_l_is_pair f fd) (b : Binds K fd ["_law_thing"] []) (hf : mg "_law_is_pair" = some (.ref f)) (T : Txt K mg D D2) (C_l_is_name : Cal P w K mg base 1 "_law_is_name" spIsName []) (C_l_is_cell : Cal P w K mg base 1 "_law_is_cell" (spBoolOf cellD) [])  : Cal P w K mg base 2 "_law_is_pair" (spBoolOf pairD) [] := by
  refine ⟨f, fd, ["_law_thing"], [], F.ok sc_l_is_pair (fun vs H Q E h => ?_) (fun cdv A outer s H vs Q E hr h => ⟨t_l_is_pair K, ?_, rd_l_is_pair K h⟩), hf, F.kp, b, .nil⟩
  · unfold spBoolOf at h
    repeat (first | (obtain ⟨rfl, _⟩ := h; rfl) | (obtain ⟨_, h⟩ := h))
  · exact pss_one (ps_ret (pe_and (pe_callB call_isiU (by rfl) T.n_isinstance (by decide +kernel) (pa_cons (pv 0) (pa_cons (pe_tupU (pa_cons (pe_bltn rfl T.n_list (by decide +kernel) rfl) (pa_cons (pe_bltn rfl T.n_tuple (by decide +kernel) rfl) (pa_nil)))) (pa_nil)))) (pe_and (pe_cmpR (op_eqU hr.units) (pe_callB call_lenU (by rfl) T.n_len (by decide +kernel) (pa_cons (pv 0) (pa_nil))) (pe_int) (nomark _)) (pe_and (pe_c C_l_is_name hr (by decide) rfl (pa_cons (pe_ix ix_U (pv 0) (pe_int) (fun _ _ => rfl)) (pa_nil))) (pe_one (pe_c C_l_is_cell hr (by decide) rfl (pa_cons (pe_ix ix_U (pv 0) (pe_int) (fun _ _ => rfl)) (pa_nil))))))))

theorem ok_l_is_row {f : Addr} {fd : FuncData} (F : Fun K "_law_is_row" "_law_is_row" s_l_is_row f fd) (b : Binds K fd ["_law_thing"] []) (hf : mg "_law_is_row" = some (.ref f)) (T : Txt K mg D D2) (C_l_is_cell : Cal P w K mg base 1 "_law_is_cell" (spBoolOf cellD) []) (C_l_is_name : Cal P w K mg base 1 "_law_is_name" spIsName [])  : Cal P w K mg base 2 "_law_is_row" (spBoolOf rowD) [] := by
  refine ⟨f, fd, ["_law_thing"], [], F.ok sc_l_is_row (fun vs H Q E h => ?_) (fun cdv A outer s H vs Q E hr h => ⟨t_l_is_row K, ?_, rd_l_is_row K h⟩), hf, F.kp, b, .nil⟩
  · unfold spBoolOf at h
    repeat (first | (obtain ⟨rfl, _⟩ := h; rfl) | (obtain ⟨_, h⟩ := h))
  · exact pss_cons (ps_if (PW.pt (pw_or (pt_not (pt_val (pe_callB call_isiU (by rfl) T.n_isinstance (by decide +kernel) (pa_cons (pv 0) (pa_cons (pe_tupU (pa_cons (pe_bltn rfl T.n_list (by decide +kernel) rfl) (pa_cons (pe_bltn rfl T.n_tuple (by decide +kernel) rfl) (pa_nil)))) (pa_nil)))))) (pw_or (pt_cmpR (op_neU hr.units) (pe_callB call_lenU (by rfl) T.n_len (by decide +kernel) (pa_cons (pv 0) (pa_nil))) (pe_int) (nomark _)) (pw_or1 (pt_not (pt_val (pe_callB call_isiU (by rfl) T.n_isinstance (by decide +kernel) (pa_cons (pe_ix ix_U (pv 0) (pe_int) (fun _ _ => rfl)) (pa_cons (pe_tupU (pa_cons (pe_bltn rfl T.n_list (by decide +kernel) rfl) (pa_cons (pe_bltn rfl T.n_tuple (by decide +kernel) rfl) (pa_nil)))) (pa_nil)))))))))) (pss_one (ps_ret (pe_bl))) (pss_nil))
      (pss_one (ps_ret (pe_and (pe_c C_l_is_cell hr (by decide) rfl (pa_cons (pe_ix ix_U (pv 0) (pe_int) (fun _ _ => rfl)) (pa_nil))) (pe_and (pe_c C_l_is_name hr (by decide) rfl (pa_cons (pe_ix ix_U (pv 0) (pe_int) (fun _ _ => rfl)) (pa_nil))) (pe_one (pe_callB (call_allU rfl) (by rfl) T.n_all (by decide +kernel) (pa_cons (pe_lcU (own := [("_law_cell", 1)]) (g := gName 1) (tt := tYes) rfl sc_l_is_row.nd (pi_U (pe_ix ix_U (pv 0) (pe_int) (fun _ _ => rfl))) (blkOk_by (N := N_l_is_row) (sc := defScope s_l_is_row) (by decide +kernel)) (fun _ _ _ _ _ => pg_name (i := 1) sc_l_is_row.nd rfl (Or.inl rfl)) (fun _ _ _ _ _ => pts_nil) (fun _ _ _ _ _ => pe_c C_l_is_cell hr (by decide) rfl (pa_cons (pv 1) (pa_nil)))) (pa_nil))))))))

theorem ok_l_pairs_fault {f : Addr} {fd : FuncData} (F : Fun K "_law_pairs_fault" "_law_pairs_fault" s_l_pairs_fault f fd) (b : Binds K fd ["_law_thing", "_law_is_read"] []) (hf : mg "_law_pairs_fault" = some (.ref f)) (T : Txt K mg D D2) (C_l_is_pair : Cal P w K mg base 2 "_law_is_pair" (spBoolOf pairD) [])  : Cal P w K mg base 3 "_law_pairs_fault" spLPairsF [] := by
  refine ⟨f, fd, ["_law_thing", "_law_is_read"], [], F.ok sc_l_pairs_fault (fun vs H Q E h => ?_) (fun cdv A outer s H vs Q E hr h => ⟨t_l_pairs_fault K, ?_, rd_l_pairs_fault K h⟩), hf, F.kp, b, .nil⟩
  · unfold spLPairsF at h
    repeat (first | (obtain ⟨rfl, _⟩ := h; rfl) | (obtain ⟨_, h⟩ := h))
  · exact pss_cons (ps_if (pt_not (pt_val (pe_callB call_isiU (by rfl) T.n_isinstance (by decide +kernel) (pa_cons (pv 0) (pa_cons (pe_tupU (pa_cons (pe_bltn rfl T.n_list (by decide +kernel) rfl) (pa_cons (pe_bltn rfl T.n_tuple (by decide +kernel) rfl) (pa_nil)))) (pa_nil)))))) (pss_one (ps_ret (pe_int))) (pss_nil))
      (pss_cons (ps_par (i := 2) (j := 3) rfl sc_l_pairs_fault.nd rfl rfl (by decide) rfl rfl (pa_cons (pe_lstU (pa_nil)) (pa_cons (pe_lstU (pa_nil)) (pa_nil))) (by rfl))
      (pss_cons (ps_forU PassesOwn.never rfl (pi_enumU rfl T.n_enumerate (pa_cons (pv 0) (pa_nil))) (pg_tup rfl (pgs_cons (pg_name (i := 4) sc_l_pairs_fault.nd rfl (Or.inl rfl)) (pgs_cons (pg_name (i := 5) sc_l_pairs_fault.nd rfl (Or.inl rfl)) (pgs_nil)))) (pss_cons (ps_if (PW.pt (pw_or (pt_not (pt_val (pe_c C_l_is_pair hr (by decide) rfl (pa_cons (pv 5) (pa_nil))))) (pw_or (pt_inU (hu65 hr) (pe_ix ix_U (pv 5) (pe_int) (fun _ _ => rfl)) (pv 2)) (pw_or1 (PW.pt (pw_and (pt_val (pv 1)) (pw_and1 (pt_inU (hu65 hr) (pe_ix ix_U (pv 5) (pe_int) (fun _ _ => rfl)) (pv 3))))))))) (pss_one (ps_ret (pv 4))) (pss_nil))
      (pss_cons (ps_expr (pe_bm PySem.F.plainAttrs_list PySem.F.slot_list_append PySem.F.type_list_append mt_appendU (pv 2) (pa_cons (pe_ix ix_U (pv 5) (pe_int) (fun _ _ => rfl)) (pa_nil))))
      (pss_one (ps_expr (pe_bm PySem.F.plainAttrs_list PySem.F.slot_list_append PySem.F.type_list_append mt_appendU (pv 3) (pa_cons (pe_ix ix_U (pv 5) (pe_int) (fun _ _ => rfl)) (pa_nil))))))))
      (pss_one (ps_ret (pe_non)))))

theorem ok_l_fault {f : Addr} {fd : FuncData} (F : Fun K "_law_fault" "_law_fault" s_l_fault f fd) (b : Binds K fd ["_law_reads", "_law_hours", "_law_tells"] []) (hf : mg "_law_fault" = some (.ref f)) (T : Txt K mg D D2) (C_l_pairs_fault : Cal P w K mg base 3 "_law_pairs_fault" spLPairsF []) (C_l_is_row : Cal P w K mg base 2 "_law_is_row" (spBoolOf rowD) [])  : Cal P w K mg base 4 "_law_fault" spLFault [] := by
  refine ⟨f, fd, ["_law_reads", "_law_hours", "_law_tells"], [], F.ok sc_l_fault (fun vs H Q E h => ?_) (fun cdv A outer s H vs Q E hr h => ⟨t_l_fault5 K, ?_, rd_l_fault5 K h⟩), hf, F.kp, b, .nil⟩
  · unfold spLFault at h
    repeat (first | (obtain ⟨rfl, _⟩ := h; rfl) | (obtain ⟨_, h⟩ := h))
  · exact pss_cons (ps_set (i := 3) sc_l_fault.nd rfl (Or.inl rfl) (pe_c C_l_pairs_fault hr (by decide) rfl (pa_cons (pv 0) (pa_cons (pe_bl) (pa_nil)))))
      (pss_cons (ps_if (pt_cmpR op_notN (pv 3) (pe_non) (nomark _)) (pss_one (ps_ret (pe_tupU (pa_cons (pe_str) (pa_cons (pv 3) (pa_nil)))))) (pss_nil))
      (pss_cons (ps_if (pt_not (pt_val (pe_callB call_isiU (by rfl) T.n_isinstance (by decide +kernel) (pa_cons (pv 1) (pa_cons (pe_tupU (pa_cons (pe_bltn rfl T.n_list (by decide +kernel) rfl) (pa_cons (pe_bltn rfl T.n_tuple (by decide +kernel) rfl) (pa_nil)))) (pa_nil)))))) (pss_one (ps_ret (pe_tupU (pa_cons (pe_str) (pa_cons (pe_int) (pa_nil)))))) (pss_nil))
      (pss_cons (ps_forU PassesOwn.never rfl (pi_enumU rfl T.n_enumerate (pa_cons (pv 1) (pa_nil))) (pg_tup rfl (pgs_cons (pg_name (i := 4) sc_l_fault.nd rfl (Or.inl rfl)) (pgs_cons (pg_name (i := 5) sc_l_fault.nd rfl (Or.inl rfl)) (pgs_nil)))) (pss_one (ps_if (PW.pt (pw_or (pt_not (pt_val (pe_callB call_isiU (by rfl) T.n_isinstance (by decide +kernel) (pa_cons (pv 5) (pa_cons (pe_tupU (pa_cons (pe_bltn rfl T.n_list (by decide +kernel) rfl) (pa_cons (pe_bltn rfl T.n_tuple (by decide +kernel) rfl) (pa_nil)))) (pa_nil)))))) (pw_or (pt_cmpR op_gt (pe_callB call_lenU (by rfl) T.n_len (by decide +kernel) (pa_cons (pv 5) (pa_nil))) (pe_int) (nomark _)) (pw_or1 (pt_not (pt_val (pe_callB (call_allU rfl) (by rfl) T.n_all (by decide +kernel) (pa_cons (pe_lcU (own := [("_law_row", 6)]) (g := gName 6) (tt := tYes) rfl sc_l_fault.nd (pi_U (pv 5)) (blkOk_by (N := N_l_fault) (sc := defScope s_l_fault) (by decide +kernel)) (fun _ _ _ _ _ => pg_name (i := 6) sc_l_fault.nd rfl (Or.inl rfl)) (fun _ _ _ _ _ => pts_nil) (fun _ _ _ _ _ => pe_c C_l_is_row hr (by decide) rfl (pa_cons (pv 6) (pa_nil)))) (pa_nil))))))))) (pss_one (ps_ret (pe_tupU (pa_cons (pe_str) (pa_cons (pv 4) (pa_nil)))))) (pss_nil))))
      (pss_cons (ps_set (i := 3) sc_l_fault.nd rfl (Or.inl rfl) (pe_c C_l_pairs_fault hr (by decide) rfl (pa_cons (pv 2) (pa_cons (pe_bl) (pa_nil)))))
      (pss_one (ps_ret (pe_ifExp (pt_cmpR op_isN (pv 3) (pe_non) (nomark _)) (pe_non) (pe_tupU (pa_cons (pe_str) (pa_cons (pv 3) (pa_nil)))))))))))

theorem ok_l_each_once {f : Addr} {fd : FuncData} (F : Fun K "_law_each_once" "_law_each_once" s_l_each_once f fd) (b : Binds K fd ["_law_things"] []) (hf : mg "_law_each_once" = some (.ref f)) (T : Txt K mg D D2)   : Cal P w K mg base 1 "_law_each_once" spOnce [] := by
  refine ⟨f, fd, ["_law_things"], [], F.ok sc_l_each_once (fun vs H Q E h => ?_) (fun cdv A outer s H vs Q E hr h => ⟨t_l_each_once K, ?_, rd_l_each_once K h⟩), hf, F.kp, b, .nil⟩
  · unfold spOnce at h
    repeat (first | (obtain ⟨rfl, _⟩ := h; rfl) | (obtain ⟨_, h⟩ := h))
  · exact pss_cons (ps_set (i := 1) sc_l_each_once.nd rfl (Or.inl rfl) (pe_lstU (pa_nil)))
      (pss_cons (ps_forU PassesOwn.never rfl (pi_U (pv 0)) (pg_name (i := 2) sc_l_each_once.nd rfl (Or.inl rfl)) (pss_one (ps_if (pt_notInU (hu65 hr) (pv 2) (pv 1)) (pss_one (ps_expr (pe_bm PySem.F.plainAttrs_list PySem.F.slot_list_append PySem.F.type_list_append mt_appendU (pv 1) (pa_cons (pv 2) (pa_nil))))) (pss_nil))))
      (pss_one (ps_ret (pv 1))))

theorem ok_l_a_name {f : Addr} {fd : FuncData} (F : Fun K "_law_a_name" "_law_a_name" s_l_a_name f fd) (b : Binds K fd ["_law_stream", "_law_taken"] []) (hf : mg "_law_a_name" = some (.ref f)) (T : Txt K mg D D2) (C_l_pick : Cal P w K mg base 2 "_law_pick" spPick [])  : Cal P w K mg base 3 "_law_a_name" spAName [] := by
  refine ⟨f, fd, ["_law_stream", "_law_taken"], [], F.ok sc_l_a_name (fun vs H Q E h => ?_) (fun cdv A outer s H vs Q E hr h => ⟨t_l_a_name K, ?_, rd_l_a_name K h⟩), hf, F.kp, b, .nil⟩
  · unfold spAName at h
    repeat (first | (obtain ⟨rfl, _⟩ := h; rfl) | (obtain ⟨_, h⟩ := h))
  · exact pss_cons (ps_set (i := 2) sc_l_a_name.nd rfl (Or.inl rfl) (pe_lt (pe_lstU (pa_cons (pe_str) (pa_cons (pe_str) (pa_cons (pe_str) (pa_cons (pe_str) (pa_cons (pe_str) (pa_cons (pe_str) (pa_cons (pe_str) (pa_cons (pe_str) (pa_cons (pe_str) (pa_cons (pe_str) (pa_cons (pe_str) (pa_cons (pe_str) (pa_cons (pe_str) (pa_cons (pe_str) (pa_cons (pe_str) (pa_nil)))))))))))))))))))
      (pss_cons (ps_par (i := 3) (j := 4) rfl sc_l_a_name.nd rfl rfl (by decide) rfl rfl (pa_cons (pe_lcU (own := [("_law_name", 5)]) (g := gName 5) (tt := tB (tNotInU K (tVar 5) (tVar 1))) rfl sc_l_a_name.nd (pi_U (pv 2)) (blkOk_by (N := N_l_a_name) (sc := defScope s_l_a_name) (by decide +kernel)) (fun _ _ _ _ _ => pg_name (i := 5) sc_l_a_name.nd rfl (Or.inl rfl)) (fun _ _ _ _ _ => pts_one (pt_notInU (hu65 hr) (pv 5) (pv 1))) (fun _ _ _ _ _ => pv 5)) (pa_cons (pe_callB call_lenU (by rfl) T.n_len (by decide +kernel) (pa_cons (pv 1) (pa_nil))) (pa_nil))) (by rfl))
      (pss_cons (ps_while PassesOwn.never (pt_inU (hu65 hr) (pe_op op_addU (pe_str) (pe_callTy call_st1 (by rfl) T.n_str (by decide +kernel) (pa_cons (pv 4) (pa_nil)))) (pv 1)) (pss_one (ps_set (i := 4) sc_l_a_name.nd rfl (Or.inl rfl) (pe_op op_addU (pv 4) (pe_int)))))
      (pss_one (ps_ret (pe_c C_l_pick hr (by decide) rfl (pa_cons (pv 0) (pa_cons (pe_op op_addU (pv 3) (pe_lstU (pa_cons (pe_op op_addU (pe_str) (pe_callTy call_st1 (by rfl) T.n_str (by decide +kernel) (pa_cons (pv 4) (pa_nil)))) (pa_nil)))) (pa_nil))))))))

theorem okr_l_a_expr {f : Addr} {fd : FuncData} (F : Fun K "_law_a_expr" "_law_a_expr" s_l_a_expr f fd) (b : Binds K fd ["_law_stream", "_law_known", "_law_ops", "_law_deep"] []) (hf : mg "_law_a_expr" = some (.ref f)) (T : Txt K mg D D2) (C_l_draw : Cal P w K mg base 1 "_law_draw" spDraw []) (C_l_pick : Cal P w K mg base 2 "_law_pick" spPick []) : ∀ m : Nat, Cal P w K mg base (3 + m) "_law_a_expr" (spAExpr m) []
  | 0 => by
    refine ⟨f, fd, ["_law_stream", "_law_known", "_law_ops", "_law_deep"], [], (F.ok (k := 2) sc_l_a_expr (fun vs H Q E h => ?_) (fun cdv A outer s H vs Q E hr h => ?_)), hf, F.kp, b, .nil⟩
    · exact (zero_spAExpr h).elim
    · exact (zero_spAExpr h).elim
  | m + 1 => by
    have C_l_a_expr := okr_l_a_expr F b hf T C_l_draw C_l_pick m
    refine ⟨f, fd, ["_law_stream", "_law_known", "_law_ops", "_law_deep"], [], F.ok (k := 3 + m) sc_l_a_expr (fun vs H Q E h => ?_) (fun cdv A outer s H vs Q E hr h => ⟨t_l_a_expr K m, ?_, rd_l_a_expr K m h⟩), hf, F.kp, b, .nil⟩
    · unfold spAExpr at h
      repeat (first | (obtain ⟨rfl, _⟩ := h; rfl) | (obtain ⟨_, h⟩ := h))
    · exact pss_cons (ps_set (i := 4) sc_l_a_expr.nd rfl (Or.inl rfl) (pe_c C_l_draw hr (by omega) rfl (pa_cons (pv 0) (pa_cons (pe_int) (pa_nil)))))
          (pss_cons (ps_if (PW.pt (pw_and (pt_cmpR (op_neU hr.units) (pv 1) (pe_lt (pe_lstU (pa_nil))) (nomark _)) (pw_and1 (PW.pt (pw_or (pt_cmpR (op_eqU hr.units) (pv 3) (pe_int) (nomark _)) (pw_or1 (pt_cmpR (op_eqU hr.units) (pv 4) (pe_int) (nomark _)))))))) (pss_one (ps_ret (pe_c C_l_pick hr (by omega) rfl (pa_cons (pv 0) (pa_cons (pv 1) (pa_nil)))))) (pss_nil))
          (pss_cons (ps_set (i := 5) sc_l_a_expr.nd rfl (Or.inl rfl) (pe_ifExp (PW.pt (pw_and (pt_cmpR (op_eqU hr.units) (pv 1) (pe_lt (pe_lstU (pa_nil))) (nomark _)) (pw_and1 (pt_cmpR (op_eqU hr.units) (pv 3) (pe_int) (nomark _))))) (pe_int) (pe_c C_l_pick hr (by omega) rfl (pa_cons (pv 0) (pa_cons (pe_lt (pe_lstU (pa_cons (pe_int) (pa_cons (pe_int) (pa_cons (pe_int) (pa_cons (pe_int) (pa_cons (pe_int) (pa_cons (pe_int) (pa_cons (pe_int) (pa_nil)))))))))) (pa_nil))))))
          (pss_one (ps_ret (pe_callTy call_tupOf (by rfl) T.n_tuple (by decide +kernel) (pa_cons (pe_op op_addU (pe_lstU (pa_cons (pe_c C_l_pick hr (by omega) rfl (pa_cons (pv 0) (pa_cons (pv 2) (pa_nil)))) (pa_nil))) (pe_lcU (own := [("_law_k", 6)]) (g := gName 6) (tt := tYes) rfl sc_l_a_expr.nd (pi_range1 rfl T.n_range (pa_cons (pv 5) (pa_nil))) (blkOk_by (N := N_l_a_expr) (sc := defScope s_l_a_expr) (by decide +kernel)) (fun _ _ _ _ _ => pg_name (i := 6) sc_l_a_expr.nd rfl (Or.inl rfl)) (fun _ _ _ _ _ => pts_nil) (fun _ _ _ _ _ => pe_c C_l_a_expr hr (Nat.le_refl _) rfl (pa_cons (pv 0) (pa_cons (pv 1) (pa_cons (pv 2) (pa_cons (pe_callB (call_mx2 rfl) (by rfl) T.n_max (by decide +kernel) (pa_cons (pe_int) (pa_cons (pe_op op_sub (pv 3) (pe_int)) (pa_nil)))) (pa_nil)))))))) (pa_nil)))))))

theorem ok_l_a_lines {f : Addr} {fd : FuncData} (F : Fun K "_law_a_lines" "_law_a_lines" s_l_a_lines f fd) (b : Binds K fd ["_law_stream", "_law_many", "_law_deep"] []) (hf : mg "_law_a_lines" = some (.ref f)) (T : Txt K mg D D2) (C_l_mixed : Cal P w K mg base 2 "_law_mixed" spMixed []) (C_l_draw : Cal P w K mg base 1 "_law_draw" spDraw []) (C_l_a_name : Cal P w K mg base 3 "_law_a_name" spAName []) (C_l_pick : Cal P w K mg base 2 "_law_pick" spPick []) (C_l_a_expr : Cal P w K mg base 8 "_law_a_expr" (spAExpr 5) []) (C_l_each_once : Cal P w K mg base 1 "_law_each_once" spOnce [])  : Cal P w K mg base 9 "_law_a_lines" spALines [] := by
  refine ⟨f, fd, ["_law_stream", "_law_many", "_law_deep"], [], F.ok sc_l_a_lines (fun vs H Q E h => ?_) (fun cdv A outer s H vs Q E hr h => ⟨t_l_a_lines K, ?_, rd_l_a_lines K h⟩), hf, F.kp, b, .nil⟩
  · unfold spALines at h
    repeat (first | (obtain ⟨rfl, _⟩ := h; rfl) | (obtain ⟨_, h⟩ := h))
  · exact pss_cons (ps_set (i := 3) sc_l_a_lines.nd rfl (Or.inl rfl) (pe_slice sl_U (pe_c C_l_mixed hr (by decide) rfl (pa_cons (pv 0) (pa_cons (pe_lt (pe_lstU (pa_cons (pe_str) (pa_cons (pe_str) (pa_cons (pe_str) (pa_cons (pe_str) (pa_cons (pe_str) (pa_cons (pe_str) (pa_nil))))))))) (pa_nil)))) (po_none) (po_some (pe_op op_addU (pe_int) (pe_c C_l_draw hr (by decide) rfl (pa_cons (pv 0) (pa_cons (pe_int) (pa_nil))))))))
      (pss_cons (ps_asg (pe_tupU (pa_cons (pe_lstU (pa_nil)) (pa_cons (pe_lstU (pa_nil)) (pa_cons (pe_lstU (pa_nil)) (pa_nil))))) (pg_tup rfl (pgs_cons (pg_name (i := 4) sc_l_a_lines.nd rfl (Or.inl rfl)) (pgs_cons (pg_name (i := 5) sc_l_a_lines.nd rfl (Or.inl rfl)) (pgs_cons (pg_name (i := 6) sc_l_a_lines.nd rfl (Or.inr rfl)) (pgs_nil))))))
      (pss_cons (ps_forU PassesOwn.never rfl (pi_range1 rfl T.n_range (pa_cons (pe_c C_l_draw hr (by decide) rfl (pa_cons (pv 0) (pa_cons (pe_int) (pa_nil)))) (pa_nil))) (pg_name (i := 7) sc_l_a_lines.nd rfl (Or.inl rfl)) (pss_cons (ps_expr (pe_bm PySem.F.plainAttrs_list PySem.F.slot_list_append PySem.F.type_list_append mt_appendU (pv 4) (pa_cons (pe_tupU (pa_cons (pe_str) (pa_cons (pe_c C_l_a_name hr (by decide) rfl (pa_cons (pv 0) (pa_cons (pv 5) (pa_nil)))) (pa_nil)))) (pa_nil))))
      (pss_one (ps_expr (pe_bm PySem.F.plainAttrs_list PySem.F.slot_list_append PySem.F.type_list_append mt_appendU (pv 5) (pa_cons (pe_ix ix_U (pe_ix ix_U (pv 4) (pe_un un_neg (pe_int)) (fun _ _ => rfl)) (pe_int) (fun _ _ => rfl)) (pa_nil)))))))
      (pss_cons (ps_forU PassesOwn.never rfl (pi_range1 rfl T.n_range (pa_cons (pv 1) (pa_nil))) (pg_name (i := 7) sc_l_a_lines.nd rfl (Or.inl rfl)) (pss_cons (ps_par (i := 8) (j := 9) rfl sc_l_a_lines.nd rfl rfl (by decide) rfl rfl (pa_cons (pe_c C_l_draw hr (by decide) rfl (pa_cons (pv 0) (pa_cons (pe_int) (pa_nil)))) (pa_cons (pe_lcU (own := [("_law_name", 10)]) (g := gName 10) (tt := tB (tNotInU K (tVar 10) (tVar 6))) rfl sc_l_a_lines.nd (pi_U (pv 5)) (blkOk_by (N := N_l_a_lines) (sc := defScope s_l_a_lines) (by decide +kernel)) (fun _ _ _ _ _ => pg_name (i := 10) sc_l_a_lines.nd rfl (Or.inl rfl)) (fun _ _ _ _ _ => pts_one (pt_notInU (hu65 hr) (pv 10) (pv 6))) (fun _ _ _ _ _ => pv 10)) (pa_nil))) (by rfl))
      (pss_cons (ps_if (pt_cmpR (op_eqU hr.units) (pv 8) (pe_int) (nomark _)) (pss_one (ps_expr (pe_bm PySem.F.plainAttrs_list PySem.F.slot_list_append PySem.F.type_list_append mt_appendU (pv 4) (pa_cons (pe_tupU (pa_cons (pe_str) (pa_cons (pe_c C_l_a_name hr (by decide) rfl (pa_cons (pv 0) (pa_cons (pv 5) (pa_nil)))) (pa_nil)))) (pa_nil))))) (pss_one (ps_if (PW.pt (pw_and (pt_cmpR (op_eqU hr.units) (pv 8) (pe_int) (nomark _)) (pw_and1 (pt_cmpR (op_neU hr.units) (pv 9) (pe_lstU (pa_nil)) (nomark _))))) (pss_cons (ps_expr (pe_bm PySem.F.plainAttrs_list PySem.F.slot_list_append PySem.F.type_list_append mt_appendU (pv 4) (pa_cons (pe_tupU (pa_cons (pe_str) (pa_cons (pe_c C_l_pick hr (by decide) rfl (pa_cons (pv 0) (pa_cons (pv 9) (pa_nil)))) (pa_nil)))) (pa_nil))))
      (pss_one (ps_expr (pe_bm PySem.F.plainAttrs_list PySem.F.slot_list_append PySem.F.type_list_append mt_appendU (pv 6) (pa_cons (pe_ix ix_U (pe_ix ix_U (pv 4) (pe_un un_neg (pe_int)) (fun _ _ => rfl)) (pe_int) (fun _ _ => rfl)) (pa_nil)))))) (pss_cons (ps_set (i := 10) sc_l_a_lines.nd rfl (Or.inl rfl) (pe_ifExp (PW.pt (pw_and (pt_cmpR (op_neU hr.units) (pv 5) (pe_lstU (pa_nil)) (nomark _)) (pw_and1 (pt_cmpR op_lt (pv 8) (pe_int) (nomark _))))) (pe_c C_l_pick hr (by decide) rfl (pa_cons (pv 0) (pa_cons (pv 5) (pa_nil)))) (pe_c C_l_a_name hr (by decide) rfl (pa_cons (pv 0) (pa_cons (pv 5) (pa_nil))))))
      (pss_one (ps_expr (pe_bm PySem.F.plainAttrs_list PySem.F.slot_list_append PySem.F.type_list_append mt_appendU (pv 4) (pa_cons (pe_tupU (pa_cons (pe_str) (pa_cons (pv 10) (pa_cons (pe_c C_l_a_expr hr (by decide) rfl (pa_cons (pv 0) (pa_cons (pv 5) (pa_cons (pv 3) (pa_cons (pv 2) (pa_nil)))))) (pa_nil))))) (pa_nil)))))))))
      (pss_one (ps_set (i := 5) sc_l_a_lines.nd rfl (Or.inl rfl) (pe_c C_l_each_once hr (by decide) rfl (pa_cons (pe_op op_addU (pv 5) (pe_lstU (pa_cons (pe_ix ix_U (pe_ix ix_U (pv 4) (pe_un un_neg (pe_int)) (fun _ _ => rfl)) (pe_int) (fun _ _ => rfl)) (pa_nil)))) (pa_nil))))))))
      (pss_cons (ps_set (i := 9) sc_l_a_lines.nd rfl (Or.inl rfl) (pe_c C_l_mixed hr (by decide) rfl (pa_cons (pv 0) (pa_cons (pe_lcU (own := [("_law_name", 10)]) (g := gName 10) (tt := tB (tNotInU K (tVar 10) (tVar 6))) rfl sc_l_a_lines.nd (pi_U (pv 5)) (blkOk_by (N := N_l_a_lines) (sc := defScope s_l_a_lines) (by decide +kernel)) (fun _ _ _ _ _ => pg_name (i := 10) sc_l_a_lines.nd rfl (Or.inl rfl)) (fun _ _ _ _ _ => pts_one (pt_notInU (hu65 hr) (pv 10) (pv 6))) (fun _ _ _ _ _ => pv 10)) (pa_nil)))))
      (pss_one (ps_ret (pe_op op_addU (pv 4) (pe_lcU (own := [("_law_name", 10)]) (g := gName 10) (tt := tYes) rfl sc_l_a_lines.nd (pi_U (pe_slice sl_U (pv 9) (po_none) (po_some (pe_c C_l_pick hr (by decide) rfl (pa_cons (pv 0) (pa_cons (pe_lt (pe_lstU (pa_cons (pe_int) (pa_cons (pe_int) (pa_cons (pe_int) (pa_cons (pe_int) (pa_cons (pe_int) (pa_cons (pe_int) (pa_cons (pe_int) (pa_nil)))))))))) (pa_nil))))))) (blkOk_by (N := N_l_a_lines) (sc := defScope s_l_a_lines) (by decide +kernel)) (fun _ _ _ _ _ => pg_name (i := 10) sc_l_a_lines.nd rfl (Or.inl rfl)) (fun _ _ _ _ _ => pts_nil) (fun _ _ _ _ _ => pe_lt (pe_tupU (pa_cons (pe_str) (pa_cons (pv 10) (pa_nil)))))))))))))

theorem okr_l_a_term {f : Addr} {fd : FuncData} (F : Fun K "_law_a_term" "_law_a_term" s_l_a_term f fd) (b : Binds K fd ["_law_rows", "_law_means", "_law_expr"] []) (hf : mg "_law_a_term" = some (.ref f)) (T : Txt K mg D D2)  : ∀ m : Nat, Cal P w K mg base (1 + m) "_law_a_term" (spATerm m) []
  | 0 => by
    refine ⟨f, fd, ["_law_rows", "_law_means", "_law_expr"], [], (F.ok (k := 0) sc_l_a_term (fun vs H Q E h => ?_) (fun cdv A outer s H vs Q E hr h => ?_)), hf, F.kp, b, .nil⟩
    · exact (zero_spATerm h).elim
    · exact (zero_spATerm h).elim
  | m + 1 => by
    have C_l_a_term := okr_l_a_term F b hf T  m
    refine ⟨f, fd, ["_law_rows", "_law_means", "_law_expr"], [], F.ok (k := 1 + m) sc_l_a_term (fun vs H Q E h => ?_) (fun cdv A outer s H vs Q E hr h => ⟨t_l_a_term K m, ?_, rd_l_a_term K m h⟩), hf, F.kp, b, .nil⟩
    · unfold spATerm at h
      repeat (first | (obtain ⟨rfl, _⟩ := h; rfl) | (obtain ⟨_, h⟩ := h))
    · exact pss_cons (ps_if (pt_val (pe_callB call_isiU (by rfl) T.n_isinstance (by decide +kernel) (pa_cons (pv 2) (pa_cons (pe_bltn rfl T.n_str (by decide +kernel) rfl) (pa_nil))))) (pss_one (ps_ret (pe_dget (hu_of hr) (pv 1) (pv 2) (fun _ _ => rfl)))) (pss_nil))
          (pss_cons (ps_set (i := 3) sc_l_a_term.nd rfl (Or.inl rfl) (pe_tupU (pa_cons (pe_ix ix_U (pv 2) (pe_int) (fun _ _ => rfl)) (pa_cons (pe_lcU (own := [("_law_part", 4)]) (g := gName 4) (tt := tYes) rfl sc_l_a_term.nd (pi_U (pe_slice sl_U (pv 2) (po_some (pe_int)) (po_none))) (blkOk_by (N := N_l_a_term) (sc := defScope s_l_a_term) (by decide +kernel)) (fun _ _ _ _ _ => pg_name (i := 4) sc_l_a_term.nd rfl (Or.inl rfl)) (fun _ _ _ _ _ => pts_nil) (fun _ _ _ _ _ => pe_c C_l_a_term hr (Nat.le_refl _) rfl (pa_cons (pv 0) (pa_cons (pv 1) (pa_cons (pv 4) (pa_nil)))))) (pa_nil)))))
          (pss_cons (ps_if (pt_notInU (hu65 hr) (pv 3) (pv 0)) (pss_one (ps_expr (pe_bm PySem.F.plainAttrs_list PySem.F.slot_list_append PySem.F.type_list_append mt_appendU (pv 0) (pa_cons (pv 3) (pa_nil))))) (pss_nil))
          (pss_one (ps_ret (pe_bm PySem.F.plainAttrs_list PySem.F.slot_list_index PySem.F.type_list_index (mt_indexD (hu65 hr)) (pv 0) (pa_cons (pv 3) (pa_nil)))))))

theorem ok_l_a_terms {f : Addr} {fd : FuncData} (F : Fun K "_law_a_terms" "_law_a_terms" s_l_a_terms f fd) (b : Binds K fd ["_law_lines"] []) (hf : mg "_law_a_terms" = some (.ref f)) (T : Txt K mg D D2) (C_l_a_term : Cal P w K mg base 10 "_law_a_term" (spATerm 9) [])  : Cal P w K mg base 11 "_law_a_terms" spATerms [] := by
  refine ⟨f, fd, ["_law_lines"], [], F.ok sc_l_a_terms (fun vs H Q E h => ?_) (fun cdv A outer s H vs Q E hr h => ⟨t_l_a_terms K, ?_, rd_l_a_terms K h⟩), hf, F.kp, b, .nil⟩
  · unfold spATerms at h
    repeat (first | (obtain ⟨rfl, _⟩ := h; rfl) | (obtain ⟨_, h⟩ := h))
  · exact pss_cons (ps_par3 (i := 1) (j := 2) (l := 3) rfl sc_l_a_terms.nd rfl rfl rfl (by decide) (by decide) (by decide) rfl rfl rfl (pa_cons (pe_lstU (pa_nil)) (pa_cons (pe_dnewK) (pa_cons (pe_lstU (pa_nil)) (pa_nil)))) (by rfl))
      (pss_cons (ps_forU PassesOwn.never rfl (pi_U (pv 0)) (pg_name (i := 4) sc_l_a_terms.nd rfl (Or.inl rfl)) (pss_one (ps_if (pt_cmpR (op_eqU hr.units) (pe_ix ix_U (pv 4) (pe_int) (fun _ _ => rfl)) (pe_str) (nomark _)) (pss_cons (ps_expr (pe_bm PySem.F.plainAttrs_list PySem.F.slot_list_append PySem.F.type_list_append mt_appendU (pv 1) (pa_cons (pe_tupU (pa_cons (pe_str) (pa_cons (pe_ix ix_U (pv 4) (pe_int) (fun _ _ => rfl)) (pa_nil)))) (pa_nil))))
      (pss_one (ps_asg (pe_op op_sub (pe_callB call_lenU (by rfl) T.n_len (by decide +kernel) (pa_cons (pv 1) (pa_nil))) (pe_int)) (pg_sub (pv 2) (pe_ix ix_U (pv 4) (pe_int) (fun _ _ => rfl)) (set_U (hu_of hr)))))) (pss_one (ps_if (pt_cmpR (op_eqU hr.units) (pe_ix ix_U (pv 4) (pe_int) (fun _ _ => rfl)) (pe_str) (nomark _)) (pss_one (ps_asg (pe_c C_l_a_term hr (by decide) rfl (pa_cons (pv 1) (pa_cons (pv 2) (pa_cons (pe_ix ix_U (pv 4) (pe_int) (fun _ _ => rfl)) (pa_nil))))) (pg_sub (pv 2) (pe_ix ix_U (pv 4) (pe_int) (fun _ _ => rfl)) (set_U (hu_of hr))))) (pss_one (ps_expr (pe_bm PySem.F.plainAttrs_list PySem.F.slot_list_append PySem.F.type_list_append mt_appendU (pv 3) (pa_cons (pe_tupU (pa_cons (pe_ix ix_U (pv 4) (pe_int) (fun _ _ => rfl)) (pa_cons (pe_dget (hu_of hr) (pv 2) (pe_ix ix_U (pv 4) (pe_int) (fun _ _ => rfl)) (fun _ _ => rfl)) (pa_nil)))) (pa_nil))))))))))
      (pss_one (ps_ret (pe_tupU (pa_cons (pv 1) (pa_cons (pv 3) (pa_nil)))))))

theorem ok_l_a_needed {f : Addr} {fd : FuncData} (F : Fun K "_law_a_needed" "_law_a_needed" s_l_a_needed f fd) (b : Binds K fd ["_law_rows", "_law_told"] []) (hf : mg "_law_a_needed" = some (.ref f)) (T : Txt K mg D D2)   : Cal P w K mg base 1 "_law_a_needed" spNeeded [] := by
  refine ⟨f, fd, ["_law_rows", "_law_told"], [], F.ok sc_l_a_needed (fun vs H Q E h => ?_) (fun cdv A outer s H vs Q E hr h => ⟨t_l_a_needed K, ?_, rd_l_a_needed K h⟩), hf, F.kp, b, .nil⟩
  · unfold spNeeded at h
    repeat (first | (obtain ⟨rfl, _⟩ := h; rfl) | (obtain ⟨_, h⟩ := h))
  · exact pss_cons (ps_set (i := 2) sc_l_a_needed.nd rfl (Or.inr rfl) (pe_lcU (own := [("_law_name", 4), ("_law_number", 3)]) (g := gTup K 2 (gCons (gName 4) (gCons (gName 3) (gNil)))) (tt := tYes) rfl sc_l_a_needed.nd (pi_U (pv 1)) (blkOk_by (N := N_l_a_needed) (sc := defScope s_l_a_needed) (by decide +kernel)) (fun _ _ _ _ _ => pg_tup rfl (pgs_cons (pg_name (i := 4) sc_l_a_needed.nd rfl (Or.inl rfl)) (pgs_cons (pg_name (i := 3) sc_l_a_needed.nd rfl (Or.inl rfl)) (pgs_nil)))) (fun _ _ _ _ _ => pts_nil) (fun _ _ _ _ _ => pv 3)))
      (pss_cons (ps_forU PassesOwn.never rfl (pi_range3 rfl T.n_range (pa_cons (pe_op op_sub (pe_callB call_lenU (by rfl) T.n_len (by decide +kernel) (pa_cons (pv 0) (pa_nil))) (pe_int)) (pa_cons (pe_un un_neg (pe_int)) (pa_cons (pe_un un_neg (pe_int)) (pa_nil))))) (pg_name (i := 3) sc_l_a_needed.nd rfl (Or.inl rfl)) (pss_one (ps_expr (pe_bm PySem.F.plainAttrs_list PySem.F.slot_list_extend PySem.F.type_list_extend mt_extendU (pv 2) (pa_cons (pe_ifExp (PW.pt (pw_and (pt_inU (hu65 hr) (pv 3) (pv 2)) (pw_and1 (pt_cmpR (op_neU hr.units) (pe_ix ix_U (pe_ix ix_U (pv 0) (pv 3) (fun _ _ => rfl)) (pe_int) (fun _ _ => rfl)) (pe_str) (nomark _))))) (pe_ix ix_U (pe_ix ix_U (pv 0) (pv 3) (fun _ _ => rfl)) (pe_int) (fun _ _ => rfl)) (pe_lstU (pa_nil))) (pa_nil))))))
      (pss_one (ps_ret (pe_lcU (own := [("_law_number", 3)]) (g := gName 3) (tt := tAnd (tB (tInU K (tVar 3) (tVar 2))) (tTest (tOp (rNeU K) (tOp (rIxU K) (tOp (rIxU K) (tVar 0) (tVar 3)) (tC (.int 0))) (tC (.str "read"))))) rfl sc_l_a_needed.nd (pi_range1 rfl T.n_range (pa_cons (pe_callB call_lenU (by rfl) T.n_len (by decide +kernel) (pa_cons (pv 0) (pa_nil))) (pa_nil))) (blkOk_by (N := N_l_a_needed) (sc := defScope s_l_a_needed) (by decide +kernel)) (fun _ _ _ _ _ => pg_name (i := 3) sc_l_a_needed.nd rfl (Or.inl rfl)) (fun _ _ _ _ _ => pts_one (PW.pt (pw_and (pt_inU (hu65 hr) (pv 3) (pv 2)) (pw_and1 (pt_cmpR (op_neU hr.units) (pe_ix ix_U (pe_ix ix_U (pv 0) (pv 3) (fun _ _ => rfl)) (pe_int) (fun _ _ => rfl)) (pe_str) (nomark _)))))) (fun _ _ _ _ _ => pv 3)))))

theorem ok_l_a_program {f : Addr} {fd : FuncData} (F : Fun K "_law_a_program" "_law_a_program" s_l_a_program f fd) (b : Binds K fd ["_law_stream", "_law_lines"] []) (hf : mg "_law_a_program" = some (.ref f)) (T : Txt K mg D D2) (C_l_a_terms : Cal P w K mg base 11 "_law_a_terms" spATerms []) (C_l_mixed : Cal P w K mg base 2 "_law_mixed" spMixed []) (C_l_a_needed : Cal P w K mg base 1 "_law_a_needed" spNeeded []) (C_l_pick : Cal P w K mg base 2 "_law_pick" spPick [])  : Cal P w K mg base 12 "_law_a_program" spAProg [] := by
  refine ⟨f, fd, ["_law_stream", "_law_lines"], [], F.ok sc_l_a_program (fun vs H Q E h => ?_) (fun cdv A outer s H vs Q E hr h => ⟨t_l_a_program K, ?_, rd_l_a_program K h⟩), hf, F.kp, b, .nil⟩
  · unfold spAProg at h
    repeat (first | (obtain ⟨rfl, _⟩ := h; rfl) | (obtain ⟨_, h⟩ := h))
  · exact pss_cons (ps_asg (pe_c C_l_a_terms hr (by decide) rfl (pa_cons (pv 1) (pa_nil))) (pg_tup rfl (pgs_cons (pg_name (i := 2) sc_l_a_program.nd rfl (Or.inr rfl)) (pgs_cons (pg_name (i := 3) sc_l_a_program.nd rfl (Or.inl rfl)) (pgs_nil)))))
      (pss_cons (ps_asg (pe_tupU (pa_cons (pe_c C_l_a_needed hr (by decide) rfl (pa_cons (pv 2) (pa_cons (pv 3) (pa_nil)))) (pa_cons (pe_c C_l_mixed hr (by decide) rfl (pa_cons (pv 0) (pa_cons (pe_op op_addU (pe_listRg rfl (by rfl) T.n_list (prg_2 (by rfl) T.n_range (pe_int) (pe_int))) (pe_lstU (pa_cons (pe_int) (pa_cons (pe_int) (pa_nil))))) (pa_nil)))) (pa_nil)))) (pg_tup rfl (pgs_cons (pg_name (i := 4) sc_l_a_program.nd rfl (Or.inl rfl)) (pgs_cons (pg_name (i := 5) sc_l_a_program.nd rfl (Or.inr rfl)) (pgs_nil)))))
      (pss_cons (ps_set (i := 5) sc_l_a_program.nd rfl (Or.inr rfl) (pe_op op_addU (pv 5) (pe_listRg rfl (by rfl) T.n_list (prg_2 (by rfl) T.n_range (pe_int) (pe_int)))))
      (pss_cons (ps_set (i := 6) sc_l_a_program.nd rfl (Or.inr rfl) (pe_callTy (call_dictPP rfl) (by rfl) T.n_dict (by decide +kernel) (pa_cons (pe_lcU (own := [("_law_number", 12), ("_law_row", 13)]) (g := gTup K 2 (gCons (gName 12) (gCons (gName 13) (gNil)))) (tt := tTest (tOp (rEqU K) (tOp (rIxU K) (tVar 13) (tC (.int 0))) (tC (.str "read")))) rfl sc_l_a_program.nd (pi_enumU rfl T.n_enumerate (pa_cons (pv 2) (pa_nil))) (blkOk_by (N := N_l_a_program) (sc := defScope s_l_a_program) (by decide +kernel)) (fun _ _ _ _ _ => pg_tup rfl (pgs_cons (pg_name (i := 12) sc_l_a_program.nd rfl (Or.inl rfl)) (pgs_cons (pg_name (i := 13) sc_l_a_program.nd rfl (Or.inl rfl)) (pgs_nil)))) (fun _ _ _ _ _ => pts_one (pt_cmpR (op_eqU hr.units) (pe_ix ix_U (pv 13) (pe_int) (fun _ _ => rfl)) (pe_str) (nomark _))) (fun _ _ _ _ _ => pe_tupU (pa_cons (pv 12) (pa_cons (pe_ix ix_U (pv 5) (pv 12) (fun _ _ => rfl)) (pa_nil))))) (pa_nil))))
      (pss_cons (ps_setLcU (i := 7) (own := [("_law_number", 12)]) (g := gName 12) (tt := tYes) rfl sc_l_a_program.nd rfl rfl (sw_true rfl rfl rfl (by decide +kernel)) (pi_U (pe_c C_l_mixed hr (by decide) rfl (pa_cons (pv 0) (pa_cons (pe_callTy (call_list_dK rfl) (by rfl) T.n_list (by decide +kernel) (pa_cons (pv 6) (pa_nil))) (pa_nil))))) (blkOk_by (N := N_l_a_program) (sc := defScope s_l_a_program) (by decide +kernel)) (fun _ _ _ _ _ => pg_name (i := 12) sc_l_a_program.nd rfl (Or.inl rfl)) (fun _ _ _ _ _ => pts_nil) (fun _ _ _ _ _ => pe_tupU (pa_cons (pe_ix ix_U (pe_ix ix_U (pv 2) (pv 12) (fun _ _ => rfl)) (pe_int) (fun _ _ => rfl)) (pa_cons (pe_dget (hu_of hr) (pv 6) (pv 12) (fun _ _ => rfl)) (pa_nil)))))
      (pss_cons (ps_par (i := 8) (j := 9) rfl sc_l_a_program.nd rfl rfl (by decide) rfl rfl (pa_cons (pe_lstU (pa_nil)) (pa_cons (pe_callTy call_lstOf (by rfl) T.n_list (by decide +kernel) (pa_cons (pv 4) (pa_nil))) (pa_nil))) (by rfl))
      (pss_cons (ps_while PassesOwn.never (pt_cmpR (op_neU hr.units) (pv 9) (pe_lstU (pa_nil)) (nomark _)) (pss_cons (ps_set (i := 10) sc_l_a_program.nd rfl (Or.inl rfl) (pe_c C_l_mixed hr (by decide) rfl (pa_cons (pv 0) (pa_cons (pe_lcU (own := [("_law_one", 14)]) (g := gName 14) (tt := tB (tCB (rAllU K) (tCons (tLcU (iSeqU K (tOp (rIxU K) (tOp (rIxU K) (tVar 2) (tVar 14)) (tC (.int 1)))) (gName 15) (tYes) (tInU K (tVar 15) (tVar 6)) [15]) (tNil)))) rfl sc_l_a_program.nd (pi_U (pv 9)) (blkOk_by (N := N_l_a_program) (sc := defScope s_l_a_program) (by decide +kernel)) (fun _ _ _ _ _ => pg_name (i := 14) sc_l_a_program.nd rfl (Or.inl rfl)) (fun _ _ _ _ _ => pts_one (pt_val (pe_callB (call_allU rfl) (by rfl) T.n_all (by decide +kernel) (pa_cons (pe_lcU (own := [("_law_part", 15)]) (g := gName 15) (tt := tYes) rfl sc_l_a_program.nd (pi_U (pe_ix ix_U (pe_ix ix_U (pv 2) (pv 14) (fun _ _ => rfl)) (pe_int) (fun _ _ => rfl))) (blkOk_by (N := N_l_a_program) (by rfl)) (fun _ _ _ _ _ => pg_name (i := 15) sc_l_a_program.nd rfl (Or.inl rfl)) (fun _ _ _ _ _ => pts_nil) (fun _ _ _ _ _ => pe_inU (hu65 hr) (pv 15) (pv 6))) (pa_nil))))) (fun _ _ _ _ _ => pv 14)) (pa_nil)))))
      (pss_cons (ps_set (i := 11) sc_l_a_program.nd rfl (Or.inr rfl) (pe_slice sl_U (pv 10) (po_none) (po_some (pe_ifExp (pt_cmpR op_gt (pe_callB call_lenU (by rfl) T.n_len (by decide +kernel) (pa_cons (pv 8) (pa_nil))) (pe_int) (nomark _)) (pe_int) (pe_c C_l_pick hr (by decide) rfl (pa_cons (pv 0) (pa_cons (pe_lstU (pa_cons (pe_int) (pa_cons (pe_int) (pa_cons (pe_int) (pa_cons (pe_int) (pa_cons (pe_int) (pa_nil))))))) (pa_nil))))))))
      (pss_cons (ps_expr (pe_bm PySem.F.plainAttrs_list PySem.F.slot_list_append PySem.F.type_list_append mt_appendU (pv 8) (pa_cons (pe_lcU (own := [("_law_one", 14)]) (g := gName 14) (tt := tYes) rfl sc_l_a_program.nd (pi_U (pv 11)) (blkOk_by (N := N_l_a_program) (sc := defScope s_l_a_program) (by decide +kernel)) (fun _ _ _ _ _ => pg_name (i := 14) sc_l_a_program.nd rfl (Or.inl rfl)) (fun _ _ _ _ _ => pts_nil) (fun _ _ _ _ _ => pe_tupU (pa_cons (pe_ix ix_U (pv 5) (pv 14) (fun _ _ => rfl)) (pa_cons (pe_ix ix_U (pe_ix ix_U (pv 2) (pv 14) (fun _ _ => rfl)) (pe_int) (fun _ _ => rfl)) (pa_cons (pe_callTy call_tupOf (by rfl) T.n_tuple (by decide +kernel) (pa_cons (pe_lcU (own := [("_law_part", 15)]) (g := gName 15) (tt := tYes) rfl sc_l_a_program.nd (pi_U (pe_ix ix_U (pe_ix ix_U (pv 2) (pv 14) (fun _ _ => rfl)) (pe_int) (fun _ _ => rfl))) (blkOk_by (N := N_l_a_program) (by rfl)) (fun _ _ _ _ _ => pg_name (i := 15) sc_l_a_program.nd rfl (Or.inl rfl)) (fun _ _ _ _ _ => pts_nil) (fun _ _ _ _ _ => pe_dget (hu_of hr) (pv 6) (pv 15) (fun _ _ => rfl))) (pa_nil))) (pa_nil)))))) (pa_nil))))
      (pss_cons (ps_expr (pe_bm PySem.F.plainAttrs_dict PySem.F.slot_dict_update PySem.F.type_dict_update mtd_update (pv 6) (pa_cons (pe_callTy (call_dictPP rfl) (by rfl) T.n_dict (by decide +kernel) (pa_cons (pe_lcU (own := [("_law_one", 14)]) (g := gName 14) (tt := tYes) rfl sc_l_a_program.nd (pi_U (pv 11)) (blkOk_by (N := N_l_a_program) (sc := defScope s_l_a_program) (by decide +kernel)) (fun _ _ _ _ _ => pg_name (i := 14) sc_l_a_program.nd rfl (Or.inl rfl)) (fun _ _ _ _ _ => pts_nil) (fun _ _ _ _ _ => pe_tupU (pa_cons (pv 14) (pa_cons (pe_ix ix_U (pv 5) (pv 14) (fun _ _ => rfl)) (pa_nil))))) (pa_nil))) (pa_nil))))
      (pss_one (ps_setLcU (i := 9) (own := [("_law_one", 14)]) (g := gName 14) (tt := tB (tNotInU K (tVar 14) (tVar 11))) rfl sc_l_a_program.nd rfl rfl (sw_true rfl rfl rfl (by decide +kernel)) (pi_U (pv 9)) (blkOk_by (N := N_l_a_program) (sc := defScope s_l_a_program) (by decide +kernel)) (fun _ _ _ _ _ => pg_name (i := 14) sc_l_a_program.nd rfl (Or.inl rfl)) (fun _ _ _ _ _ => pts_one (pt_notInU (hu65 hr) (pv 14) (pv 11))) (fun _ _ _ _ _ => pv 14))))))))
      (pss_one (ps_ret (pe_tupU (pa_cons (pv 7) (pa_cons (pv 8) (pa_cons (pe_lcU (own := [("_law_name", 16), ("_law_number", 12)]) (g := gTup K 2 (gCons (gName 16) (gCons (gName 12) (gNil)))) (tt := tYes) rfl sc_l_a_program.nd (pi_U (pv 3)) (blkOk_by (N := N_l_a_program) (sc := defScope s_l_a_program) (by decide +kernel)) (fun _ _ _ _ _ => pg_tup rfl (pgs_cons (pg_name (i := 16) sc_l_a_program.nd rfl (Or.inl rfl)) (pgs_cons (pg_name (i := 12) sc_l_a_program.nd rfl (Or.inl rfl)) (pgs_nil)))) (fun _ _ _ _ _ => pts_nil) (fun _ _ _ _ _ => pe_tupU (pa_cons (pv 16) (pa_cons (pe_dget (hu_of hr) (pv 6) (pv 12) (fun _ _ => rfl)) (pa_nil))))) (pa_nil)))))))))))))

theorem okr_l_same {f : Addr} {fd : FuncData} (F : Fun K "_law_same" "_law_same" s_l_same f fd) (b : Binds K fd ["_law_found", "_law_due"] []) (hf : mg "_law_same" = some (.ref f)) (T : Txt K mg D D2)  : ∀ m : Nat, Cal P w K mg base (1 + m) "_law_same" (spSame m) []
  | 0 => by
    refine ⟨f, fd, ["_law_found", "_law_due"], [], (F.ok (k := 0) sc_l_same (fun vs H Q E h => ?_) (fun cdv A outer s H vs Q E hr h => ?_)), hf, F.kp, b, .nil⟩
    · exact (zero_spSame h).elim
    · exact (zero_spSame h).elim
  | m + 1 => by
    have C_l_same := okr_l_same F b hf T  m
    refine ⟨f, fd, ["_law_found", "_law_due"], [], F.ok (k := 1 + m) sc_l_same (fun vs H Q E h => ?_) (fun cdv A outer s H vs Q E hr h => ⟨t_l_same K m, ?_, rd_l_same K m h⟩), hf, F.kp, b, .nil⟩
    · unfold spSame at h
      repeat (first | (obtain ⟨rfl, _⟩ := h; rfl) | (obtain ⟨_, h⟩ := h))
    · exact pss_cons (ps_if (pt_val (pe_callB call_isiU (by rfl) T.n_isinstance (by decide +kernel) (pa_cons (pv 1) (pa_cons (pe_tupU (pa_cons (pe_bltn rfl T.n_list (by decide +kernel) rfl) (pa_cons (pe_bltn rfl T.n_tuple (by decide +kernel) rfl) (pa_nil)))) (pa_nil))))) (pss_cons (ps_if (PW.pt (pw_or (pt_cmpR (op_neU hr.units) (pe_callB call_isiU (by rfl) T.n_isinstance (by decide +kernel) (pa_cons (pv 0) (pa_cons (pe_bltn rfl T.n_list (by decide +kernel) rfl) (pa_nil)))) (pe_callB call_isiU (by rfl) T.n_isinstance (by decide +kernel) (pa_cons (pv 1) (pa_cons (pe_bltn rfl T.n_list (by decide +kernel) rfl) (pa_nil)))) (nomark _)) (pw_or1 (pt_cmpR (op_neU hr.units) (pe_callB call_isiU (by rfl) T.n_isinstance (by decide +kernel) (pa_cons (pv 0) (pa_cons (pe_bltn rfl T.n_tuple (by decide +kernel) rfl) (pa_nil)))) (pe_callB call_isiU (by rfl) T.n_isinstance (by decide +kernel) (pa_cons (pv 1) (pa_cons (pe_bltn rfl T.n_tuple (by decide +kernel) rfl) (pa_nil)))) (nomark _))))) (pss_one (ps_ret (pe_bl))) (pss_nil))
          (pss_one (ps_ret (pe_and (pe_cmpR (op_eqU hr.units) (pe_callB call_lenU (by rfl) T.n_len (by decide +kernel) (pa_cons (pv 0) (pa_nil))) (pe_callB call_lenU (by rfl) T.n_len (by decide +kernel) (pa_cons (pv 1) (pa_nil))) (nomark _)) (pe_one (pe_callB (call_allU rfl) (by rfl) T.n_all (by decide +kernel) (pa_cons (pe_lcU (own := [("_law_x", 2), ("_law_y", 3)]) (g := gTup K 2 (gCons (gName 2) (gCons (gName 3) (gNil)))) (tt := tYes) rfl sc_l_same.nd (RZ.pi_zipA rfl T.n_zip (pa_cons (pv 0) (pa_cons (pv 1) (pa_nil)))) (blkOk_by (N := N_l_same) (sc := defScope s_l_same) (by decide +kernel)) (fun _ _ _ _ _ => pg_tup rfl (pgs_cons (pg_name (i := 2) sc_l_same.nd rfl (Or.inl rfl)) (pgs_cons (pg_name (i := 3) sc_l_same.nd rfl (Or.inl rfl)) (pgs_nil)))) (fun _ _ _ _ _ => pts_nil) (fun _ _ _ _ _ => pe_c C_l_same hr (Nat.le_refl _) rfl (pa_cons (pv 2) (pa_cons (pv 3) (pa_nil))))) (pa_nil)))))))) (pss_nil))
          (pss_cons (ps_if (pt_val (pe_callB call_isiU (by rfl) T.n_isinstance (by decide +kernel) (pa_cons (pv 1) (pa_cons (pe_bltn rfl T.n_dict (by decide +kernel) rfl) (pa_nil))))) (pss_one (ps_no)) (pss_nil))
          (pss_cons (ps_if (pt_val (pe_callB call_isiU (by rfl) T.n_isinstance (by decide +kernel) (pa_cons (pv 1) (pa_cons (pe_bltn rfl T.n_int (by decide +kernel) rfl) (pa_nil))))) (pss_one (ps_ret (pe_and (pe_callB call_isiU (by rfl) T.n_isinstance (by decide +kernel) (pa_cons (pv 0) (pa_cons (pe_bltn rfl T.n_int (by decide +kernel) rfl) (pa_nil)))) (pe_and (pe_cmpR (op_eqU hr.units) (pe_callB call_isiU (by rfl) T.n_isinstance (by decide +kernel) (pa_cons (pv 0) (pa_cons (pe_bltn rfl T.n_bool (by decide +kernel) rfl) (pa_nil)))) (pe_callB call_isiU (by rfl) T.n_isinstance (by decide +kernel) (pa_cons (pv 1) (pa_cons (pe_bltn rfl T.n_bool (by decide +kernel) rfl) (pa_nil)))) (nomark _)) (pe_one (pe_cmpR (op_eqU hr.units) (pv 0) (pv 1) (nomark _))))))) (pss_nil))
          (pss_one (ps_ret (pe_and (pe_not (pe_callB call_isiU (by rfl) T.n_isinstance (by decide +kernel) (pa_cons (pv 0) (pa_cons (pe_tupU (pa_cons (pe_bltn rfl T.n_int (by decide +kernel) rfl) (pa_cons (pe_bltn rfl T.n_list (by decide +kernel) rfl) (pa_cons (pe_bltn rfl T.n_tuple (by decide +kernel) rfl) (pa_cons (pe_bltn rfl T.n_dict (by decide +kernel) rfl) (pa_nil)))))) (pa_nil))))) (pe_one (pe_cmpR (op_eqU hr.units) (pv 0) (pv 1) (nomark _))))))))

theorem okr_l_loose {f : Addr} {fd : FuncData} (F : Fun K "_law_loose" "_law_loose" s_l_loose f fd) (b : Binds K fd ["_law_stream", "_law_thing"] []) (hf : mg "_law_loose" = some (.ref f)) (T : Txt K mg D D2) (C_l_draw : Cal P w K mg base 1 "_law_draw" spDraw []) : ∀ m : Nat, Cal P w K mg base (2 + m) "_law_loose" (spLoose m) []
  | 0 => by
    refine ⟨f, fd, ["_law_stream", "_law_thing"], [], (F.ok (k := 1) sc_l_loose (fun vs H Q E h => ?_) (fun cdv A outer s H vs Q E hr h => ?_)), hf, F.kp, b, .nil⟩
    · exact (zero_spLoose h).elim
    · exact (zero_spLoose h).elim
  | m + 1 => by
    have C_l_loose := okr_l_loose F b hf T C_l_draw m
    refine ⟨f, fd, ["_law_stream", "_law_thing"], [], F.ok (k := 2 + m) sc_l_loose (fun vs H Q E h => ?_) (fun cdv A outer s H vs Q E hr h => ⟨t_l_loose K m, ?_, rd_l_loose K m h⟩), hf, F.kp, b, .nil⟩
    · unfold spLoose at h
      repeat (first | (obtain ⟨rfl, _⟩ := h; rfl) | (obtain ⟨_, h⟩ := h))
    · exact pss_cons (ps_if (pt_not (pt_val (pe_callB call_isiU (by rfl) T.n_isinstance (by decide +kernel) (pa_cons (pv 1) (pa_cons (pe_tupU (pa_cons (pe_bltn rfl T.n_list (by decide +kernel) rfl) (pa_cons (pe_bltn rfl T.n_tuple (by decide +kernel) rfl) (pa_nil)))) (pa_nil)))))) (pss_one (ps_ret (pv 1))) (pss_nil))
          (pss_cons (ps_setLcU (i := 2) (own := [("_law_part", 3)]) (g := gName 3) (tt := tYes) rfl sc_l_loose.nd rfl rfl (sw_true rfl rfl rfl (by decide +kernel)) (pi_U (pv 1)) (blkOk_by (N := N_l_loose) (sc := defScope s_l_loose) (by decide +kernel)) (fun _ _ _ _ _ => pg_name (i := 3) sc_l_loose.nd rfl (Or.inl rfl)) (fun _ _ _ _ _ => pts_nil) (fun _ _ _ _ _ => pe_c C_l_loose hr (Nat.le_refl _) rfl (pa_cons (pv 0) (pa_cons (pv 3) (pa_nil)))))
          (pss_one (ps_ret (pe_ifExp (pt_cmpR (op_eqU hr.units) (pe_c C_l_draw hr (by omega) rfl (pa_cons (pv 0) (pa_cons (pe_int) (pa_nil)))) (pe_int) (nomark _)) (pv 2) (pe_callTy call_tupOf (by rfl) T.n_tuple (by decide +kernel) (pa_cons (pv 2) (pa_nil)))))))

theorem ok_l_odd_pairs {f : Addr} {fd : FuncData} (F : Fun K "_law_odd_pairs" "_law_odd_pairs" s_l_odd_pairs f fd) (b : Binds K fd ["_law_stream", "_law_pairs"] []) (hf : mg "_law_odd_pairs" = some (.ref f)) (T : Txt K mg D D2) (C_l_pick : Cal P w K mg base 2 "_law_pick" spPick [])  : Cal P w K mg base 3 "_law_odd_pairs" spOddP [] := by
  refine ⟨f, fd, ["_law_stream", "_law_pairs"], [], F.ok sc_l_odd_pairs (fun vs H Q E h => ?_) (fun cdv A outer s H vs Q E hr h => ⟨t_l_odd_pairs K, ?_, rd_l_odd_pairs K h⟩), hf, F.kp, b, .nil⟩
  · unfold spOddP at h
    repeat (first | (obtain ⟨rfl, _⟩ := h; rfl) | (obtain ⟨_, h⟩ := h))
  · exact pss_cons (ps_asg (pe_c C_l_pick hr (by decide) rfl (pa_cons (pv 0) (pa_cons (pe_op op_addU (pv 1) (pe_lt (pe_lstU (pa_cons (pe_tupU (pa_cons (pe_str) (pa_cons (pe_int) (pa_nil)))) (pa_nil))))) (pa_nil)))) (pg_tup rfl (pgs_cons (pg_name (i := 2) sc_l_odd_pairs.nd rfl (Or.inl rfl)) (pgs_cons (pg_name (i := 3) sc_l_odd_pairs.nd rfl (Or.inl rfl)) (pgs_nil)))))
      (pss_cons (ps_set (i := 4) sc_l_odd_pairs.nd rfl (Or.inl rfl) (pe_lt (pe_lstU (pa_cons (pe_non) (pa_cons (pe_int) (pa_cons (pe_str) (pa_cons (pe_dnewK) (pa_cons (pe_tupU (pa_nil)) (pa_cons (pe_tupU (pa_cons (pv 2) (pa_nil))) (pa_cons (pe_tupU (pa_cons (pv 2) (pa_cons (pv 3) (pa_cons (pe_int) (pa_nil))))) (pa_cons (pe_tupU (pa_cons (pv 3) (pa_cons (pv 2) (pa_nil)))) (pa_cons (pe_tupU (pa_cons (pv 2) (pa_cons (pe_int) (pa_nil)))) (pa_cons (pe_tupU (pa_cons (pe_str) (pa_cons (pv 3) (pa_nil)))) (pa_cons (pe_lstU (pa_cons (pv 2) (pa_cons (pv 3) (pa_nil)))) (pa_nil)))))))))))))))
      (pss_cons (ps_forU PassesOwn.never rfl (pi_U (pe_tupU (pa_cons (pe_int) (pa_cons (pe_un un_neg (pe_int)) (pa_cons (pe_int) (pa_cons (pe_bl) (pa_cons (pe_str) (pa_cons (pe_non) (pa_cons (pe_lt (pe_lstU (pa_cons (pe_int) (pa_nil)))) (pa_cons (pe_op op_pow (pe_int) (pe_int)) (pa_nil))))))))))) (pg_name (i := 5) sc_l_odd_pairs.nd rfl (Or.inl rfl)) (pss_one (ps_expr (pe_bm PySem.F.plainAttrs_list PySem.F.slot_list_append PySem.F.type_list_append mt_appendU (pv 4) (pa_cons (pe_lt (pe_tupU (pa_cons (pe_str) (pa_cons (pv 5) (pa_nil))))) (pa_nil))))))
      (pss_one (ps_ret (pe_op op_addU (pv 4) (pe_lcU (own := [("_law_odd", 5)]) (g := gName 5) (tt := tYes) rfl sc_l_odd_pairs.nd (pi_U (pe_lt (pe_tupU (pa_cons (pe_str) (pa_cons (pe_str) (pa_cons (pe_str) (pa_cons (pe_str) (pa_cons (pe_str) (pa_cons (pe_int) (pa_cons (pe_non) (pa_cons (pe_lstU (pa_cons (pe_str) (pa_nil))) (pa_cons (pe_str) (pa_nil))))))))))))) (blkOk_by (N := N_l_odd_pairs) (sc := defScope s_l_odd_pairs) (by decide +kernel)) (fun _ _ _ _ _ => pg_name (i := 5) sc_l_odd_pairs.nd rfl (Or.inl rfl)) (fun _ _ _ _ _ => pts_nil) (fun _ _ _ _ _ => pe_lt (pe_tupU (pa_cons (pv 5) (pa_cons (pe_int) (pa_nil)))))))))))

theorem ok_l_odd_hours {f : Addr} {fd : FuncData} (F : Fun K "_law_odd_hours" "_law_odd_hours" s_l_odd_hours f fd) (b : Binds K fd ["_law_stream", "_law_hours"] []) (hf : mg "_law_odd_hours" = some (.ref f)) (T : Txt K mg D D2)   : Cal P w K mg base 1 "_law_odd_hours" spOddH [] := by
  refine ⟨f, fd, ["_law_stream", "_law_hours"], [], F.ok sc_l_odd_hours (fun vs H Q E h => ?_) (fun cdv A outer s H vs Q E hr h => ⟨t_l_odd_hours K, ?_, rd_l_odd_hours K h⟩), hf, F.kp, b, .nil⟩
  · unfold spOddH at h
    repeat (first | (obtain ⟨rfl, _⟩ := h; rfl) | (obtain ⟨_, h⟩ := h))
  · exact pss_cons (ps_set (i := 2) sc_l_odd_hours.nd rfl (Or.inl rfl) (pe_lt (pe_tupU (pa_cons (pe_int) (pa_cons (pe_str) (pa_cons (pe_tupU (pa_cons (pe_int) (pa_cons (pe_int) (pa_nil)))) (pa_nil)))))))
      (pss_cons (ps_set (i := 3) sc_l_odd_hours.nd rfl (Or.inl rfl) (pe_lstU (pa_cons (pe_non) (pa_cons (pe_int) (pa_cons (pe_str) (pa_cons (pe_dnewK) (pa_cons (pe_lt (pe_tupU (pa_nil))) (pa_cons (pe_op op_mulU (pe_lt (pe_lstU (pa_cons (pv 2) (pa_nil)))) (pe_int)) (pa_cons (pe_op op_mulU (pe_lt (pe_lstU (pa_cons (pv 2) (pa_nil)))) (pe_int)) (pa_cons (pv 2) (pa_cons (pe_lt (pe_lstU (pa_cons (pe_non) (pa_nil)))) (pa_cons (pe_lt (pe_lstU (pa_cons (pv 2) (pa_cons (pe_int) (pa_nil))))) (pa_cons (pe_lt (pe_lstU (pa_cons (pe_tupU (pa_cons (pe_int) (pa_cons (pe_str) (pa_nil)))) (pa_nil)))) (pa_cons (pe_lt (pe_lstU (pa_cons (pe_tupU (pa_cons (pe_int) (pa_cons (pe_str) (pa_cons (pe_tupU (pa_cons (pe_int) (pa_nil))) (pa_cons (pe_int) (pa_nil)))))) (pa_nil)))) (pa_nil)))))))))))))))
      (pss_cons (ps_expr (pe_bm PySem.F.plainAttrs_list PySem.F.slot_list_extend PySem.F.type_list_extend mt_extendU (pv 3) (pa_cons (pe_lstU (pa_cons (pe_lt (pe_lstU (pa_cons (pe_lstU (pa_cons (pe_int) (pa_cons (pe_str) (pa_cons (pe_lstU (pa_cons (pe_int) (pa_nil))) (pa_nil))))) (pa_cons (pv 2) (pa_nil))))) (pa_cons (pe_lt (pe_lstU (pa_cons (pe_tupU (pa_cons (pe_int) (pa_cons (pe_str) (pa_cons (pe_int) (pa_nil))))) (pa_nil)))) (pa_cons (pe_lt (pe_lstU (pa_cons (pe_tupU (pa_cons (pe_int) (pa_cons (pe_str) (pa_cons (pe_str) (pa_nil))))) (pa_nil)))) (pa_cons (pe_lstU (pa_cons (pe_tupU (pa_cons (pe_int) (pa_cons (pe_str) (pa_cons (pe_disp (pps_cons (pe_int) (pe_int) (pps_nil)) (by rfl) (by rfl) (fun z => by cases z) (by decide)) (pa_nil))))) (pa_nil))) (pa_cons (pe_lt (pe_lstU (pa_cons (pe_tupU (pa_cons (pe_int) (pa_cons (pe_str) (pa_cons (pe_tupU (pa_nil)) (pa_nil))))) (pa_nil)))) (pa_nil))))))) (pa_nil))))
      (pss_cons (ps_forU PassesOwn.never rfl (pi_U (pe_lt (pe_tupU (pa_cons (pe_int) (pa_cons (pe_int) (pa_cons (pe_bl) (pa_cons (pe_non) (pa_cons (pe_str) (pa_cons (pe_lstU (pa_cons (pe_int) (pa_nil))) (pa_nil)))))))))) (pg_name (i := 4) sc_l_odd_hours.nd rfl (Or.inl rfl)) (pss_one (ps_expr (pe_bm PySem.F.plainAttrs_list PySem.F.slot_list_extend PySem.F.type_list_extend mt_extendU (pv 3) (pa_cons (pe_lt (pe_lstU (pa_cons (pe_lstU (pa_cons (pe_tupU (pa_cons (pv 4) (pa_cons (pe_str) (pa_cons (pe_tupU (pa_cons (pe_int) (pa_nil))) (pa_nil))))) (pa_nil))) (pa_cons (pe_lstU (pa_cons (pe_tupU (pa_cons (pe_int) (pa_cons (pe_str) (pa_cons (pe_tupU (pa_cons (pe_int) (pa_cons (pv 4) (pa_nil)))) (pa_nil))))) (pa_nil))) (pa_nil))))) (pa_nil))))))
      (pss_one (ps_ret (pe_op op_addU (pv 3) (pe_lcU (own := [("_law_odd", 4)]) (g := gName 4) (tt := tYes) rfl sc_l_odd_hours.nd (pi_U (pe_lt (pe_tupU (pa_cons (pe_str) (pa_cons (pe_str) (pa_cons (pe_str) (pa_cons (pe_str) (pa_cons (pe_str) (pa_cons (pe_int) (pa_cons (pe_non) (pa_cons (pe_lstU (pa_cons (pe_str) (pa_nil))) (pa_nil)))))))))))) (blkOk_by (N := N_l_odd_hours) (sc := defScope s_l_odd_hours) (by decide +kernel)) (fun _ _ _ _ _ => pg_name (i := 4) sc_l_odd_hours.nd rfl (Or.inl rfl)) (fun _ _ _ _ _ => pts_nil) (fun _ _ _ _ _ => pe_lt (pe_lstU (pa_cons (pe_tupU (pa_cons (pe_int) (pa_cons (pv 4) (pa_cons (pe_tupU (pa_cons (pe_int) (pa_nil))) (pa_nil))))) (pa_nil)))))))))))

theorem okm_p_BadReads_init {f : Addr} {fd : FuncData} (F : Fun K "__init__" "BadReads.__init__" s_p_BadReads_init f fd) (T : Txt K mg D D2)   : FnOk P w K mg base CX0 1 f fd ["self", "index"] (spOneF "index" D2.cR) := by
  refine F.ok sc_p_BadReads_init (fun vs H Q E h => ?_) (fun cdv A outer s H vs Q E hr h => ⟨t_p_BadReads_init K D2, ?_, rd_bad_init T.oexcR T.nocR h⟩)
  · unfold spOneF at h
    repeat (first | (obtain ⟨rfl, _⟩ := h; rfl) | (obtain ⟨_, h⟩ := h))
  · exact pss_one (ps_ost (pv 0) (pv 1))

theorem okm_p_BadHours_init {f : Addr} {fd : FuncData} (F : Fun K "__init__" "BadHours.__init__" s_p_BadHours_init f fd) (T : Txt K mg D D2)   : FnOk P w K mg base CX0 1 f fd ["self", "index"] (spOneF "index" D2.cH) := by
  refine F.ok sc_p_BadHours_init (fun vs H Q E h => ?_) (fun cdv A outer s H vs Q E hr h => ⟨t_p_BadHours_init K D2, ?_, rd_bad_init T.oexcH T.nocH h⟩)
  · unfold spOneF at h
    repeat (first | (obtain ⟨rfl, _⟩ := h; rfl) | (obtain ⟨_, h⟩ := h))
  · exact pss_one (ps_ost (pv 0) (pv 1))

theorem okm_p_BadTells_init {f : Addr} {fd : FuncData} (F : Fun K "__init__" "BadTells.__init__" s_p_BadTells_init f fd) (T : Txt K mg D D2)   : FnOk P w K mg base CX0 1 f fd ["self", "index"] (spOneF "index" D2.cT) := by
  refine F.ok sc_p_BadTells_init (fun vs H Q E h => ?_) (fun cdv A outer s H vs Q E hr h => ⟨t_p_BadTells_init K D2, ?_, rd_bad_init T.oexcT T.nocT h⟩)
  · unfold spOneF at h
    repeat (first | (obtain ⟨rfl, _⟩ := h; rfl) | (obtain ⟨_, h⟩ := h))
  · exact pss_one (ps_ost (pv 0) (pv 1))

theorem okm_p_Program_init {f : Addr} {fd : FuncData} (F : Fun K "__init__" "Program.__init__" s_p_Program_init f fd) (T : Txt K mg D D2) (C_p_is_list : Cal P w K mg base 1 "is_list" (spIsList K) []) (C_p_is_pair : Cal P w K mg base 3 "is_pair" (spBoolOf pairD) []) (C_p_is_hour : Cal P w K mg base 4 "is_hour" (spBoolOf hourD) []) (C_p_as_tuples : Cal P w K mg base 31 "as_tuples" (spAsTuples 30) []) (B_BadReads : OwnErr P w K mg base 1 "BadReads" D2.cR (spOneF "index" D2.cR)) (B_BadHours : OwnErr P w K mg base 1 "BadHours" D2.cH (spOneF "index" D2.cH)) (B_BadTells : OwnErr P w K mg base 1 "BadTells" D2.cT (spOneF "index" D2.cT)) : FnOk P w K mg base (L2.CX P w) 32 f fd ["self", "reads", "hours", "tells"] (spPInit D2) := by
  refine F.okX sc_p_Program_init (fun vs H Q E h => ?_) (fun cdv A outer s H vs Q E hr h => ⟨t_p_Program_init K D2 E, ?_, rd_p_Program_init T.prg h⟩)
  · unfold spPInit at h
    repeat (first | (obtain ⟨rfl, _⟩ := h; rfl) | (obtain ⟨_, h⟩ := h))
  · exact pss_cons (ps_par3 (i := 4) (j := 5) (l := 6) rfl sc_p_Program_init.nd rfl rfl rfl (by decide) (by decide) (by decide) rfl rfl rfl (pa_cons (pe_dnewK) (pa_cons (pe_dnewK) (pa_cons (pe_dnewK) (pa_nil)))) (by rfl))
      (pss_cons (ps_if (pt_not (pt_val (pe_c C_p_is_list hr (by decide) rfl (pa_cons (pv 1) (pa_nil))))) (pss_one (ps_rz B_BadReads rfl hr (by decide) (takes_of rfl rfl rfl rfl) rfl (pa_cons (pe_int) (pa_nil)))) (pss_nil))
      (pss_cons (ps_forU PassesOwn.leaving rfl (pi_enumU rfl T.n_enumerate (pa_cons (pv 1) (pa_nil))) (pg_tup rfl (pgs_cons (pg_name (i := 7) sc_p_Program_init.nd rfl (Or.inl rfl)) (pgs_cons (pg_name (i := 8) sc_p_Program_init.nd rfl (Or.inl rfl)) (pgs_nil)))) (pss_cons (ps_if (PW.pt (pw_or (pt_not (pt_val (pe_c C_p_is_pair hr (by decide) rfl (pa_cons (pv 8) (pa_nil))))) (pw_or (pt_inU (hu65 hr) (pe_ix ix_U (pv 8) (pe_int) (fun _ _ => rfl)) (pv 4)) (pw_or1 (pt_inU (hu65 hr) (pe_ix ix_U (pv 8) (pe_int) (fun _ _ => rfl)) (pv 5)))))) (pss_one (ps_rz B_BadReads rfl hr (by decide) (takes_of rfl rfl rfl rfl) rfl (pa_cons (pv 7) (pa_nil)))) (pss_nil))
      (pss_one (ps_asg (pe_tupU (pa_cons (pe_bl) (pa_cons (pe_bl) (pa_nil)))) (pg_tup rfl (pgs_cons (pg_sub (pv 4) (pe_ix ix_U (pv 8) (pe_int) (fun _ _ => rfl)) (set_U (hu_of hr))) (pgs_cons (pg_sub (pv 5) (pe_ix ix_U (pv 8) (pe_int) (fun _ _ => rfl)) (set_U (hu_of hr))) (pgs_nil))))))))
      (pss_cons (ps_if (pt_not (pt_val (pe_c C_p_is_list hr (by decide) rfl (pa_cons (pv 2) (pa_nil))))) (pss_one (ps_rz B_BadHours rfl hr (by decide) (takes_of rfl rfl rfl rfl) rfl (pa_cons (pe_int) (pa_nil)))) (pss_nil))
      (pss_cons (ps_forU PassesOwn.leaving rfl (pi_enumU rfl T.n_enumerate (pa_cons (pv 2) (pa_nil))) (pg_tup rfl (pgs_cons (pg_name (i := 7) sc_p_Program_init.nd rfl (Or.inl rfl)) (pgs_cons (pg_name (i := 8) sc_p_Program_init.nd rfl (Or.inl rfl)) (pgs_nil)))) (pss_one (ps_if (pt_not (pt_val (pe_c C_p_is_hour hr (by decide) rfl (pa_cons (pv 8) (pa_nil))))) (pss_one (ps_rz B_BadHours rfl hr (by decide) (takes_of rfl rfl rfl rfl) rfl (pa_cons (pv 7) (pa_nil)))) (pss_nil))))
      (pss_cons (ps_if (pt_not (pt_val (pe_c C_p_is_list hr (by decide) rfl (pa_cons (pv 3) (pa_nil))))) (pss_one (ps_rz B_BadTells rfl hr (by decide) (takes_of rfl rfl rfl rfl) rfl (pa_cons (pe_int) (pa_nil)))) (pss_nil))
      (pss_cons (ps_forU PassesOwn.leaving rfl (pi_enumU rfl T.n_enumerate (pa_cons (pv 3) (pa_nil))) (pg_tup rfl (pgs_cons (pg_name (i := 7) sc_p_Program_init.nd rfl (Or.inl rfl)) (pgs_cons (pg_name (i := 8) sc_p_Program_init.nd rfl (Or.inl rfl)) (pgs_nil)))) (pss_cons (ps_if (PW.pt (pw_or (pt_not (pt_val (pe_c C_p_is_pair hr (by decide) rfl (pa_cons (pv 8) (pa_nil))))) (pw_or1 (pt_inU (hu65 hr) (pe_ix ix_U (pv 8) (pe_int) (fun _ _ => rfl)) (pv 6))))) (pss_one (ps_rz B_BadTells rfl hr (by decide) (takes_of rfl rfl rfl rfl) rfl (pa_cons (pv 7) (pa_nil)))) (pss_nil))
      (pss_one (ps_asg (pe_bl) (pg_sub (pv 6) (pe_ix ix_U (pv 8) (pe_int) (fun _ _ => rfl)) (set_U (hu_of hr)))))))
      (pss_one (ps_asg (pe_tupU (pa_cons (pe_c C_p_as_tuples hr (by decide) rfl (pa_cons (pv 1) (pa_nil))) (pa_cons (pe_c C_p_as_tuples hr (by decide) rfl (pa_cons (pv 2) (pa_nil))) (pa_cons (pe_c C_p_as_tuples hr (by decide) rfl (pa_cons (pv 3) (pa_nil))) (pa_nil))))) (pg_tup rfl (pgs_cons (pg_fld (pv 0)) (pgs_cons (pg_fld (pv 0)) (pgs_cons (pg_fld (pv 0)) (pgs_nil)))))))))))))

theorem okm_p_Program_reads {f : Addr} {fd : FuncData} (F : Fun K "reads" "Program.reads" s_p_Program_reads f fd) (T : Txt K mg D D2)   : FnOk P w K mg base CX0 1 f fd ["self"] (spPReads D2.cPrg) := by
  refine F.ok sc_p_Program_reads (fun vs H Q E h => ?_) (fun cdv A outer s H vs Q E hr h => ⟨t_p_Program_reads K D2, ?_, rd_p_Program_reads T.prg h⟩)
  · unfold spPReads at h
    repeat (first | (obtain ⟨rfl, _⟩ := h; rfl) | (obtain ⟨_, h⟩ := h))
  · exact pss_one (ps_ret (pe_callTy call_lstOf (by rfl) T.n_list (by decide +kernel) (pa_cons (pe_fld (pv 0) rfl) (pa_nil))))

theorem okm_p_Program_hours {f : Addr} {fd : FuncData} (F : Fun K "hours" "Program.hours" s_p_Program_hours f fd) (T : Txt K mg D D2)   : FnOk P w K mg base CX0 1 f fd ["self"] (spPHours D2.cPrg) := by
  refine F.ok sc_p_Program_hours (fun vs H Q E h => ?_) (fun cdv A outer s H vs Q E hr h => ⟨t_p_Program_hours K D2, ?_, rd_p_Program_hours T.prg h⟩)
  · unfold spPHours at h
    repeat (first | (obtain ⟨rfl, _⟩ := h; rfl) | (obtain ⟨_, h⟩ := h))
  · exact pss_one (ps_ret (pe_lcU (own := [("hour", 1)]) (g := gName 1) (tt := tYes) rfl sc_p_Program_hours.nd (pi_U (pe_fld (pv 0) rfl)) (blkOk_by (N := N_p_Program_hours) (sc := defScope s_p_Program_hours) (by decide +kernel)) (fun _ _ _ _ _ => pg_name (i := 1) sc_p_Program_hours.nd rfl (Or.inl rfl)) (fun _ _ _ _ _ => pts_nil) (fun _ _ _ _ _ => pe_callTy call_lstOf (by rfl) T.n_list (by decide +kernel) (pa_cons (pv 1) (pa_nil)))))

theorem okm_p_Program_tells {f : Addr} {fd : FuncData} (F : Fun K "tells" "Program.tells" s_p_Program_tells f fd) (T : Txt K mg D D2)   : FnOk P w K mg base CX0 1 f fd ["self"] (spPTells D2.cPrg) := by
  refine F.ok sc_p_Program_tells (fun vs H Q E h => ?_) (fun cdv A outer s H vs Q E hr h => ⟨t_p_Program_tells K D2, ?_, rd_p_Program_tells T.prg h⟩)
  · unfold spPTells at h
    repeat (first | (obtain ⟨rfl, _⟩ := h; rfl) | (obtain ⟨_, h⟩ := h))
  · exact pss_one (ps_ret (pe_callTy call_lstOf (by rfl) T.n_list (by decide +kernel) (pa_cons (pe_fld (pv 0) rfl) (pa_nil))))

theorem okm_p_Program_eq {f : Addr} {fd : FuncData} (F : Fun K "__eq__" "Program.__eq__" s_p_Program_eq f fd) (T : Txt K mg D D2)   : FnOk P w K mg base CX0 1 f fd ["self", "other"] (spPEq D2.cPrg) := by
  refine F.ok sc_p_Program_eq (fun vs H Q E h => ?_) (fun cdv A outer s H vs Q E hr h => ⟨t_p_Program_eq K D2, ?_, rd_p_Program_eq T.prg h⟩)
  · unfold spPEq at h
    repeat (first | (obtain ⟨rfl, _⟩ := h; rfl) | (obtain ⟨_, h⟩ := h))
  · exact pss_cons (ps_if (pt_not (pt_val (pe_callB call_isiU (by rfl) T.n_isinstance (by decide +kernel) (pa_cons (pv 1) (pa_cons (pe_gc rfl ⟨_, T.g_Program, rfl⟩) pa_nil))))) (pss_one (ps_ret (pe_bl))) (pss_nil))
      (pss_cons (ps_par (i := 2) (j := 3) rfl sc_p_Program_eq.nd rfl rfl (by decide) rfl rfl (pa_cons (pe_tupU (pa_cons (pe_fld (pv 0) rfl) (pa_cons (pe_fld (pv 0) rfl) (pa_nil)))) (pa_cons (pe_tupU (pa_cons (pe_fld (pv 1) rfl) (pa_cons (pe_fld (pv 1) rfl) (pa_nil)))) (pa_nil))) (by rfl))
      (pss_one (ps_ret (pe_and (pe_cmpR (op_eqU hr.units) (pv 2) (pv 3) (nomark _)) (pe_one (pe_cmpR (op_eqU hr.units) (pe_fld (pv 0) rfl) (pe_fld (pv 1) rfl) (nomark _)))))))

theorem ok_l_met {f : Addr} {fd : FuncData} (F : Fun K "_law_met" "_law_met" s_l_met f fd) (b : Binds K fd ["_law_reads", "_law_hours", "_law_tells"] []) (hf : mg "_law_met" = some (.ref f)) (T : Txt K mg D D2)  (B_BadReads : OwnErr P w K mg base 1 "BadReads" D2.cR (spOneF "index" D2.cR)) (B_BadHours : OwnErr P w K mg base 1 "BadHours" D2.cH (spOneF "index" D2.cH)) (B_BadTells : OwnErr P w K mg base 1 "BadTells" D2.cT (spOneF "index" D2.cT)) {fI : Addr} {fdI : FuncData} (M_prg : Mk K D2.cPrg fI) (F_init : FnOk P w K mg base (L2.CX P w) 32 fI fdI ["self", "reads", "hours", "tells"] (spPInit D2)) (b_init : Binds K fdI ["self", "reads", "hours", "tells"] []) : Cal P w K mg base 34 "_law_met" spPMet [] := by
  refine ⟨f, fd, ["_law_reads", "_law_hours", "_law_tells"], [], F.ok sc_l_met (fun vs H Q E h => ?_) (fun cdv A outer s H vs Q E hr h => ⟨t_l_met5 K D2, ?_, rd_l_met5 T.tR T.tHR T.tH T.tTR T.tTH T.tT h⟩), hf, F.kp, b, .nil⟩
  · unfold spPMet at h
    repeat (first | (obtain ⟨rfl, _⟩ := h; rfl) | (obtain ⟨_, h⟩ := h))
  · exact pss_one (ps_tryManyAs (i := 3) (tb := fun W => tSeq (tDrop (tMakeS D2.cPrg (spPInit D2) (WE W) (tCons (tVar 0) (tCons (tVar 1) (tCons (tVar 2) tNil))))) (tRet (tC .non))) (Wout := fun _ _ _ _ => False) (l := metL D2) rfl rfl sc_l_met.nd rfl rfl takes0
      (fun W pn xe tk _ => pss_cons (ps_expr (pe_makeS M_prg F_init (hr.mono (by decide)) rfl T.g_Program b_init (fun σ => passAt tk σ) (by exact (pa_cons (pv 0) (pa_cons (pv 1) (pa_cons (pv 2) pa_nil)))))) (pss_one (ps_ret pe_non))) (.cons ⟨rfl, by decide, .inl B_BadReads.gC⟩ (fun a oe cls d pn hz hf => pss_one (ps_ret (pe_tupU (pa_cons pe_str (pa_cons (pe_xf T.xfcR T.nocR hz hf (pv 3)) pa_nil))))) (.cons ⟨rfl, by decide, .inl B_BadHours.gC⟩ (fun a oe cls d pn hz hf => pss_one (ps_ret (pe_tupU (pa_cons pe_str (pa_cons (pe_xf T.xfcH T.nocH hz hf (pv 3)) pa_nil))))) (.cons ⟨rfl, by decide, .inl B_BadTells.gC⟩ (fun a oe cls d pn hz hf => pss_one (ps_ret (pe_tupU (pa_cons pe_str (pa_cons (pe_xf T.xfcT T.nocT hz hf (pv 3)) pa_nil))))) .nil))))

theorem ok_l_told_right {f : Addr} {fd : FuncData} (F : Fun K "_law_told_right" "_law_told_right" s_l_told_right f fd) (b : Binds K fd ["_law_stream", "_law_reads", "_law_hours", "_law_tells"] []) (T : Txt K mg D D2) (C_l_loose : Cal P w K mg base 22 "_law_loose" (spLoose 20) []) (C_l_same : Cal P w K mg base 21 "_law_same" (spSame 20) []) (B_BadReads : OwnErr P w K mg base 1 "BadReads" D2.cR (spOneF "index" D2.cR)) (B_BadHours : OwnErr P w K mg base 1 "BadHours" D2.cH (spOneF "index" D2.cH)) (B_BadTells : OwnErr P w K mg base 1 "BadTells" D2.cT (spOneF "index" D2.cT)) {fI : Addr} {fdI : FuncData} (M_prg : Mk K D2.cPrg fI) (F_init : FnOk P w K mg base (L2.CX P w) 32 fI fdI ["self", "reads", "hours", "tells"] (spPInit D2)) (b_init : Binds K fdI ["self", "reads", "hours", "tells"] []) (kb_init : KBn K fdI ["self", "reads", "hours", "tells"] 1 ["tells", "hours", "reads"] (fun us ws => us ++ ws.reverse) (fun vs zs => vs ++ zs.reverse)) {fL fR fT fE : Addr} {fdL fdR fdT fdE : FuncData} (m_reads : Meth K D2.cPrg "reads" fL) (F_reads : FnOk P w K mg base CX0 1 fL fdL ["self"] (spPReads D2.cPrg)) (b_reads : Binds K fdL ["self"] [])
    (m_hours : Meth K D2.cPrg "hours" fR) (F_hours : FnOk P w K mg base CX0 1 fR fdR ["self"] (spPHours D2.cPrg)) (b_hours : Binds K fdR ["self"] []) (m_tells : Meth K D2.cPrg "tells" fT) (F_tells : FnOk P w K mg base CX0 1 fT fdT ["self"] (spPTells D2.cPrg)) (b_tells : Binds K fdT ["self"] [])
    (O_prg : OwnE K D2.cPrg fE) (F_eq : FnOk P w K mg base CX0 1 fE fdE ["self", "other"] (spPEq D2.cPrg)) (b_eq : Binds K fdE ["self", "other"] []) : FnG P w K mg base 34 f ["_law_stream", "_law_reads", "_law_hours", "_law_tells"] spTold5 := by
  refine Fun.okG F sc_l_told_right b (fun vs H Q E h => ?_) (fun cdv A outer s H vs Q E hg hr h => ⟨t5_told K D2, ?_, rd5_told h⟩)
  · unfold spTold5 at h
    repeat (first | (obtain ⟨rfl, _⟩ := h; rfl) | (obtain ⟨_, h⟩ := h))
  · exact pss_cons (ps_set (i := 4) sc_l_told_right.nd rfl (Or.inl rfl) (pe_lstU (pa_cons (pe_c C_l_loose hr (by decide) rfl (pa_cons (pv 0) (pa_cons (pv 1) (pa_nil)))) (pa_cons (pe_c C_l_loose hr (by decide) rfl (pa_cons (pv 0) (pa_cons (pv 2) (pa_nil)))) (pa_cons (pe_c C_l_loose hr (by decide) rfl (pa_cons (pv 0) (pa_cons (pv 3) (pa_nil)))) (pa_nil))))))
      (pss_cons (ps_par (i := 5) (j := 6) rfl sc_l_told_right.nd rfl rfl (by decide) rfl rfl (pa_cons (pe_callB (call_repr hg (hu65 hr)) (by rfl) T.n_repr (by decide +kernel) (pa_cons (pv 4) (pa_nil))) (pa_cons (pe_mkKP M_prg F_init (hr.mono (by decide)) rfl T.g_Program kb_init passX (pk_cons (pe_ix ix_U (pv 4) (pe_int) (fun _ _ => rfl)) (pk_cons (pe_ix ix_U (pv 4) (pe_int) (fun _ _ => rfl)) (pk_cons (pe_ix ix_U (pv 4) (pe_int) (fun _ _ => rfl)) (pk_nil))))) (pa_nil))) (by rfl))
      (pss_cons (ps_set (i := 7) sc_l_told_right.nd rfl (Or.inl rfl) (pe_lstU (pa_cons (pv 1) (pa_cons (pv 2) (pa_cons (pv 3) (pa_nil))))))
      (pss_cons (ps_if (PW.pt (pw_or (pt_not (pt_val (pe_c C_l_same hr (by decide) rfl (pa_cons (pe_lstU (pa_cons (pe_meth0 (pv 6) T.prg.cl m_reads F_reads (hr.mono (by decide)) b_reads .nil pass0) (pa_cons (pe_meth0 (pv 6) T.prg.cl m_hours F_hours (hr.mono (by decide)) b_hours .nil pass0) (pa_cons (pe_meth0 (pv 6) T.prg.cl m_tells F_tells (hr.mono (by decide)) b_tells .nil pass0) (pa_nil))))) (pa_cons (pv 7) (pa_nil)))))) (pw_or1 (pt_cmpR (op_neU hr.units) (pe_callB (call_repr hg (hu65 hr)) (by rfl) T.n_repr (by decide +kernel) (pa_cons (pv 4) (pa_nil))) (pv 5) (nomark _))))) (pss_one (ps_ret (pe_bl))) (pss_nil))
      (pss_cons (ps_forU PassesOwn.never rfl (pi_U (pv 4)) (pg_name (i := 8) sc_l_told_right.nd rfl (Or.inl rfl)) (pss_one (ps_if (pt_val (pe_callB call_isiU (by rfl) T.n_isinstance (by decide +kernel) (pa_cons (pv 8) (pa_cons (pe_bltn rfl T.n_list (by decide +kernel) rfl) (pa_nil))))) (pss_one (ps_expr (pe_bm PySem.F.plainAttrs_list PySem.F.slot_list_append PySem.F.type_list_append mt_appendU (pv 8) (pa_cons (pe_str) (pa_nil))))) (pss_nil))))
      (pss_cons (ps_forU PassesOwn.never rfl (pi_U (pe_tupU (pa_cons (pe_meth0 (pv 6) T.prg.cl m_reads F_reads (hr.mono (by decide)) b_reads .nil pass0) (pa_cons (pe_meth0 (pv 6) T.prg.cl m_hours F_hours (hr.mono (by decide)) b_hours .nil pass0) (pa_cons (pe_meth0 (pv 6) T.prg.cl m_tells F_tells (hr.mono (by decide)) b_tells .nil pass0) (pa_cons (pe_ix ix_U (pe_op op_addU (pe_meth0 (pv 6) T.prg.cl m_hours F_hours (hr.mono (by decide)) b_hours .nil pass0) (pe_lstU (pa_cons (pe_lstU (pa_nil)) (pa_nil)))) (pe_int) (fun _ _ => rfl)) (pa_nil))))))) (pg_name (i := 9) sc_l_told_right.nd rfl (Or.inl rfl)) (pss_one (ps_expr (pe_bm PySem.F.plainAttrs_list PySem.F.slot_list_append PySem.F.type_list_append mt_appendU (pv 9) (pa_cons (pe_str) (pa_nil))))))
      (pss_cons (ps_if (pt_not (pt_val (pe_c C_l_same hr (by decide) rfl (pa_cons (pe_lstU (pa_cons (pe_meth0 (pv 6) T.prg.cl m_reads F_reads (hr.mono (by decide)) b_reads .nil pass0) (pa_cons (pe_meth0 (pv 6) T.prg.cl m_hours F_hours (hr.mono (by decide)) b_hours .nil pass0) (pa_cons (pe_meth0 (pv 6) T.prg.cl m_tells F_tells (hr.mono (by decide)) b_tells .nil pass0) (pa_nil))))) (pa_cons (pv 7) (pa_nil)))))) (pss_one (ps_ret (pe_bl))) (pss_nil))
      (pss_cons (ps_set (i := 10) sc_l_told_right.nd rfl (Or.inl rfl) (pe_mkP M_prg F_init (hr.mono (by decide)) rfl T.g_Program b_init passX (pa_cons (pv 1) (pa_cons (pv 2) (pa_cons (pv 3) (pa_nil))))))
      (pss_cons (ps_if (PW.pt (pw_or (pt_not (pt_cmpR (op_eqOwn O_prg F_eq b_eq pass0 (hr.mono (by decide))) (pv 6) (pv 10) (nomark _))) (pw_or (pt_cmpR (op_neOwn O_prg F_eq b_eq pass0 (hr.mono (by decide))) (pv 6) (pv 10) (nomark _)) (pw_or1 (pt_cmpR (op_eqOwn O_prg F_eq b_eq pass0 (hr.mono (by decide))) (pv 6) (pe_tupU (pa_cons (pv 1) (pa_cons (pv 2) (pa_cons (pv 3) (pa_nil))))) (nomark _)))))) (pss_one (ps_ret (pe_bl))) (pss_nil))
      (pss_cons (ps_forU PassesOwn.never rfl (pi_U (pe_tupU (pa_cons (pe_tupU (pa_cons (pe_revL (pv 1)) (pa_cons (pv 2) (pa_cons (pv 3) (pa_nil))))) (pa_cons (pe_tupU (pa_cons (pv 1) (pa_cons (pe_op op_addU (pv 2) (pe_lstU (pa_cons (pe_lstU (pa_nil)) (pa_nil)))) (pa_cons (pv 3) (pa_nil))))) (pa_cons (pe_tupU (pa_cons (pv 1) (pa_cons (pv 2) (pa_cons (pe_revL (pv 3)) (pa_nil))))) (pa_nil)))))) (pg_name (i := 11) sc_l_told_right.nd rfl (Or.inl rfl)) (pss_one (ps_if (pt_cmpR (op_neU hr.units) (pe_cmpR (op_eqOwn O_prg F_eq b_eq pass0 (hr.mono (by decide))) (pv 6) (pe_mkP M_prg F_init (hr.mono (by decide)) rfl T.g_Program b_init passX (pa_cons (pe_ix ix_U (pv 11) (pe_int) (fun _ _ => rfl)) (pa_cons (pe_ix ix_U (pv 11) (pe_int) (fun _ _ => rfl)) (pa_cons (pe_ix ix_U (pv 11) (pe_int) (fun _ _ => rfl)) (pa_nil))))) (nomark _)) (pe_cmpR (op_eqU hr.units) (pe_callTy call_lstOf (by rfl) T.n_list (by decide +kernel) (pa_cons (pv 11) (pa_nil))) (pv 7) (nomark _)) (nomark _)) (pss_one (ps_ret (pe_bl))) (pss_nil))))
      (pss_cons (ps_setLcU (i := 12) (own := [("_law_hour", 13)]) (g := gName 13) (tt := tYes) rfl sc_l_told_right.nd rfl rfl (sw_true rfl rfl rfl (by decide +kernel)) (pi_U (pv 2)) (blkOk_by (N := N_l_told_right) (sc := defScope s_l_told_right) (by decide +kernel)) (fun _ _ _ _ _ => pg_name (i := 13) sc_l_told_right.nd rfl (Or.inl rfl)) (fun _ _ _ _ _ => pts_nil) (fun _ _ _ _ _ => pe_revL (pv 13)))
      (pss_one (ps_ret (pe_cmpR (op_eqU hr.units) (pe_cmpR (op_eqOwn O_prg F_eq b_eq pass0 (hr.mono (by decide))) (pv 6) (pe_mkP M_prg F_init (hr.mono (by decide)) rfl T.g_Program b_init passX (pa_cons (pv 1) (pa_cons (pv 12) (pa_cons (pv 3) (pa_nil))))) (nomark _)) (pe_cmpR (op_eqU hr.units) (pv 12) (pv 2) (nomark _)) (nomark _))))))))))))))

theorem ok_l_bent_right {f : Addr} {fd : FuncData} (F : Fun K "_law_bent_right" "_law_bent_right" s_l_bent_right f fd) (b : Binds K fd ["_law_stream", "_law_reads", "_law_hours", "_law_tells"] []) (hf : mg "_law_bent_right" = some (.ref f)) (T : Txt K mg D D2) (C_l_odd_pairs : Cal P w K mg base 3 "_law_odd_pairs" spOddP []) (C_l_mixed : Cal P w K mg base 2 "_law_mixed" spMixed []) (C_l_odd_hours : Cal P w K mg base 1 "_law_odd_hours" spOddH []) (C_l_draw : Cal P w K mg base 1 "_law_draw" spDraw []) (C_l_fault : Cal P w K mg base 4 "_law_fault" spLFault []) (C_l_met : Cal P w K mg base 34 "_law_met" spPMet []) (C_l_same : Cal P w K mg base 21 "_law_same" (spSame 20) [])  : Cal P w K mg base 35 "_law_bent_right" spBent5 [] := by
  refine ⟨f, fd, ["_law_stream", "_law_reads", "_law_hours", "_law_tells"], [], F.ok sc_l_bent_right (fun vs H Q E h => ?_) (fun cdv A outer s H vs Q E hr h => ⟨t5_bent K D2, ?_, rd5_bent h⟩), hf, F.kp, b, .nil⟩
  · unfold spBent5 spTold5 at h
    repeat (first | (obtain ⟨rfl, _⟩ := h; rfl) | (obtain ⟨_, h⟩ := h))
  · exact pss_cons (ps_set (i := 4) sc_l_bent_right.nd rfl (Or.inl rfl) (pe_op op_addU (pe_slice sl_U (pe_c C_l_mixed hr (by decide) rfl (pa_cons (pv 0) (pa_cons (pe_c C_l_odd_pairs hr (by decide) rfl (pa_cons (pv 0) (pa_cons (pv 1) (pa_nil)))) (pa_nil)))) (po_none) (po_some (pe_int))) (pe_c C_l_mixed hr (by decide) rfl (pa_cons (pv 0) (pa_cons (pe_c C_l_odd_hours hr (by decide) rfl (pa_cons (pv 0) (pa_cons (pv 2) (pa_nil)))) (pa_nil))))))
      (pss_cons (ps_forU PassesOwn.never rfl (pi_U (pv 4)) (pg_name (i := 5) sc_l_bent_right.nd rfl (Or.inl rfl)) (pss_cons (ps_set (i := 6) sc_l_bent_right.nd rfl (Or.inl rfl) (pe_lstU (pa_cons (pe_callTy call_lstOf (by rfl) T.n_list (by decide +kernel) (pa_cons (pv 1) (pa_nil))) (pa_cons (pe_callTy call_lstOf (by rfl) T.n_list (by decide +kernel) (pa_cons (pv 2) (pa_nil))) (pa_cons (pe_callTy call_lstOf (by rfl) T.n_list (by decide +kernel) (pa_cons (pv 3) (pa_nil))) (pa_nil))))))
      (pss_cons (ps_forU PassesOwn.never rfl (pi_U (pv 6)) (pg_name (i := 7) sc_l_bent_right.nd rfl (Or.inl rfl)) (pss_one (ps_if (pt_cmpR (op_eqU hr.units) (pe_c C_l_draw hr (by decide) rfl (pa_cons (pv 0) (pa_cons (pe_int) (pa_nil)))) (pe_int) (nomark _)) (pss_one (ps_expr (pe_bm PySem.F.plainAttrs_list PySem.F.slot_list_insert PySem.F.type_list_insert mt_insertU (pv 7) (pa_cons (pe_c C_l_draw hr (by decide) rfl (pa_cons (pv 0) (pa_cons (pe_op op_addU (pe_callB call_lenU (by rfl) T.n_len (by decide +kernel) (pa_cons (pv 7) (pa_nil))) (pe_int)) (pa_nil)))) (pa_cons (pv 5) (pa_nil)))))) (pss_nil))))
      (pss_one (ps_if (pt_not (pt_val (pe_c C_l_same hr (by decide) rfl (pa_cons (pe_lstU (pa_cons (pe_c C_l_met hr (by decide) rfl (pa_cons (pe_ix ix_U (pv 6) (pe_int) (fun _ _ => rfl)) (pa_cons (pe_ix ix_U (pv 6) (pe_int) (fun _ _ => rfl)) (pa_cons (pe_ix ix_U (pv 6) (pe_int) (fun _ _ => rfl)) (pa_nil))))) (pa_nil))) (pa_cons (pe_lstU (pa_cons (pe_c C_l_fault hr (by decide) rfl (pa_cons (pe_ix ix_U (pv 6) (pe_int) (fun _ _ => rfl)) (pa_cons (pe_ix ix_U (pv 6) (pe_int) (fun _ _ => rfl)) (pa_cons (pe_ix ix_U (pv 6) (pe_int) (fun _ _ => rfl)) (pa_nil))))) (pa_nil))) (pa_nil)))))) (pss_one (ps_ret (pe_bl))) (pss_nil))))))
      (pss_cons (ps_forU PassesOwn.never rfl (pi_U (pe_tupU (pa_cons (pe_non) (pa_cons (pe_int) (pa_cons (pe_str) (pa_cons (pe_dnewK) (pa_cons (pe_bl) (pa_nil)))))))) (pg_name (i := 5) sc_l_bent_right.nd rfl (Or.inl rfl)) (pss_cons (ps_set (i := 8) sc_l_bent_right.nd rfl (Or.inl rfl) (pe_lstU (pa_cons (pe_c C_l_met hr (by decide) rfl (pa_cons (pv 5) (pa_cons (pe_non) (pa_cons (pe_non) (pa_nil))))) (pa_cons (pe_c C_l_met hr (by decide) rfl (pa_cons (pv 1) (pa_cons (pv 5) (pa_cons (pe_non) (pa_nil))))) (pa_cons (pe_c C_l_met hr (by decide) rfl (pa_cons (pv 1) (pa_cons (pv 2) (pa_cons (pv 5) (pa_nil))))) (pa_nil))))))
      (pss_one (ps_if (pt_not (pt_val (pe_c C_l_same hr (by decide) rfl (pa_cons (pv 8) (pa_cons (pe_lstU (pa_cons (pe_tupU (pa_cons (pe_str) (pa_cons (pe_int) (pa_nil)))) (pa_cons (pe_tupU (pa_cons (pe_str) (pa_cons (pe_int) (pa_nil)))) (pa_cons (pe_tupU (pa_cons (pe_str) (pa_cons (pe_int) (pa_nil)))) (pa_nil))))) (pa_nil)))))) (pss_one (ps_ret (pe_bl))) (pss_nil)))))
      (pss_one (ps_ret (pe_bl)))))

theorem ok_law {f : Addr} {fd : FuncData} (F : Fun K "law" "law" s_law f fd) (b : Binds K fd ["_law_script"] []) (T : Txt K mg D D2) (C_l_start : Cal P w K mg base 1 "_law_start" (spStart K) []) (C_l_draw : Cal P w K mg base 1 "_law_draw" spDraw []) (C_l_a_lines : Cal P w K mg base 9 "_law_a_lines" spALines []) (C_l_a_program : Cal P w K mg base 12 "_law_a_program" spAProg []) (C_l_fault : Cal P w K mg base 4 "_law_fault" spLFault []) (C_l_told_right : CalG P w K mg base 34 "_law_told_right" spTold5) (C_l_bent_right : Cal P w K mg base 35 "_law_bent_right" spBent5 []) (B_BadReads : OwnErr P w K mg base 1 "BadReads" D2.cR (spOneF "index" D2.cR)) (B_BadHours : OwnErr P w K mg base 1 "BadHours" D2.cH (spOneF "index" D2.cH)) (B_BadTells : OwnErr P w K mg base 1 "BadTells" D2.cT (spOneF "index" D2.cT)) {fI : Addr} {fdI : FuncData} (M_prg : Mk K D2.cPrg fI) (F_init : FnOk P w K mg base (L2.CX P w) 32 fI fdI ["self", "reads", "hours", "tells"] (spPInit D2)) (b_init : Binds K fdI ["self", "reads", "hours", "tells"] []) (kb_init : KBn K fdI ["self", "reads", "hours", "tells"] 1 ["tells", "hours", "reads"] (fun us ws => us ++ ws.reverse) (fun vs zs => vs ++ zs.reverse)) {fL fR fT fE : Addr} {fdL fdR fdT fdE : FuncData} (m_reads : Meth K D2.cPrg "reads" fL) (F_reads : FnOk P w K mg base CX0 1 fL fdL ["self"] (spPReads D2.cPrg)) (b_reads : Binds K fdL ["self"] [])
    (m_hours : Meth K D2.cPrg "hours" fR) (F_hours : FnOk P w K mg base CX0 1 fR fdR ["self"] (spPHours D2.cPrg)) (b_hours : Binds K fdR ["self"] []) (m_tells : Meth K D2.cPrg "tells" fT) (F_tells : FnOk P w K mg base CX0 1 fT fdT ["self"] (spPTells D2.cPrg)) (b_tells : Binds K fdT ["self"] [])
    (O_prg : OwnE K D2.cPrg fE) (F_eq : FnOk P w K mg base CX0 1 fE fdE ["self", "other"] (spPEq D2.cPrg)) (b_eq : Binds K fdE ["self", "other"] []) : FnG P w K mg base 36 f ["_law_script"] (spLaw5 K) := by
  refine Fun.okG F sc_law b (fun vs H Q E h => ?_) (fun cdv A outer s H vs Q E hg hr h => ⟨t5_law K D2, ?_, rd5_law h⟩)
  · unfold spLaw5 spLaw at h
    repeat (first | (obtain ⟨rfl, _⟩ := h; rfl) | (obtain ⟨_, h⟩ := h))
  · exact pss_cons (ps_set (i := 1) sc_law.nd rfl (Or.inl rfl) (pe_c C_l_start hr (by decide) rfl (pa_cons (pv 0) (pa_nil))))
      (pss_cons (ps_forU PassesOwn.never rfl (pi_range1 rfl T.n_range (pa_cons (pe_int) (pa_nil))) (pg_name (i := 2) sc_law.nd rfl (Or.inl rfl)) (pss_cons (ps_asg (pe_c C_l_a_program hr (by decide) rfl (pa_cons (pv 1) (pa_cons (pe_c C_l_a_lines hr (by decide) rfl (pa_cons (pv 1) (pa_cons (pe_op op_addU (pe_int) (pe_c C_l_draw hr (by decide) rfl (pa_cons (pv 1) (pa_cons (pe_int) (pa_nil))))) (pa_cons (pe_int) (pa_nil))))) (pa_nil)))) (pg_tup rfl (pgs_cons (pg_name (i := 3) sc_law.nd rfl (Or.inl rfl)) (pgs_cons (pg_name (i := 4) sc_law.nd rfl (Or.inl rfl)) (pgs_cons (pg_name (i := 5) sc_law.nd rfl (Or.inl rfl)) (pgs_nil))))))
      (pss_cons (ps_if (PW.pt (pw_or (pt_cmpR op_notN (pe_c C_l_fault hr (by decide) rfl (pa_cons (pv 3) (pa_cons (pv 4) (pa_cons (pv 5) (pa_nil))))) (pe_non) (nomark _)) (pw_or1 (pt_not (pt_val (pe_cG C_l_told_right hg hr (by decide) rfl (pa_cons (pv 1) (pa_cons (pv 3) (pa_cons (pv 4) (pa_cons (pv 5) (pa_nil))))))))))) (pss_one (ps_ret (pe_bl))) (pss_nil))
      (pss_one (ps_if (pt_not (pt_val (pe_c C_l_bent_right hr (by decide) rfl (pa_cons (pv 1) (pa_cons (pv 3) (pa_cons (pv 4) (pa_cons (pv 5) (pa_nil)))))))) (pss_one (ps_ret (pe_bl))) (pss_nil))))))
      (pss_one (ps_ret (pe_and (pe_cmpR (op_eqOwn O_prg F_eq b_eq pass0 (hr.mono (by decide))) (pe_mkP M_prg F_init (hr.mono (by decide)) rfl T.g_Program b_init passX (pa_cons (pe_lstU (pa_nil)) (pa_cons (pe_lstU (pa_nil)) (pa_cons (pe_lstU (pa_nil)) (pa_nil))))) (pe_mkP M_prg F_init (hr.mono (by decide)) rfl T.g_Program b_init passX (pa_cons (pe_tupU (pa_nil)) (pa_cons (pe_tupU (pa_nil)) (pa_cons (pe_tupU (pa_nil)) (pa_nil))))) (nomark _)) (pe_one (pe_cmpR (op_neOwn O_prg F_eq b_eq pass0 (hr.mono (by decide))) (pe_mkP M_prg F_init (hr.mono (by decide)) rfl T.g_Program b_init passX (pa_cons (pe_lstU (pa_nil)) (pa_cons (pe_lstU (pa_cons (pe_lstU (pa_nil)) (pa_nil))) (pa_cons (pe_lstU (pa_nil)) (pa_nil))))) (pe_mkP M_prg F_init (hr.mono (by decide)) rfl T.g_Program b_init passX (pa_cons (pe_lstU (pa_nil)) (pa_cons (pe_lstU (pa_nil)) (pa_cons (pe_lstU (pa_nil)) (pa_nil))))) (nomark _)))))))

end
end Tw
end

section
set_option Elab.async false
set_option linter.all false
set_option maxRecDepth 100000
set_option maxHeartbeats 4000000
namespace Tw
open PySem L2 PyProof.Rows

theorem exm_two {K : PySem.W.Frag} {S : Addr} {cls : Value} {b : Bool} (h1 : PySem.W.subIn K (.ref S) (.type "BaseException") = some true) (h2 : PySem.W.isClsIn K S = true) (h3 : PySem.W.typeIn K (.ref S) = some (.type "type")) (h4 : PySem.W.subIn K cls (.ref S) = some b) :
    PySem.W.exmOne K cls (.ref S) = some b := by
  have e1 : (PySem.W.subIn K (.ref S) (.type "BaseException") == some true) = true := by rw [h1] <;> rfl
  have e2 : ((PySem.W.clsIn K S).isSome && PySem.W.typeIn K (.ref S) == some (.type "type")) = true := by
    have h2' : (PySem.W.clsIn K S).isSome = true := h2
    rw [h2', h3] <;> rfl
  show (if (PySem.W.subIn K (.ref S) (.type "BaseException") == some true) = true then (if ((PySem.W.clsIn K S).isSome && PySem.W.typeIn K (.ref S) == some (.type "type")) = true then PySem.W.subIn K cls (.ref S) else none) else none) = some b
  rw [if_pos e1, if_pos e2]
  exact h4
theorem kit_own {K : PySem.W.Frag} {S : Addr} {t : Value} {b : Bool} (hne : (t == .ref S) = false) (h2 : PySem.W.isClsIn K S = true) (h3 : PySem.W.typeIn K (.ref S) = some (.type "type")) (h4 : PySem.W.subIn K t (.ref S) = some b) : PySem.W.kitOne K t (.ref S) = some b := by
  have h2' : (PySem.W.clsIn K S).isSome = true := h2
  have e2 : ((PySem.W.clsIn K S).isSome && PySem.W.typeIn K (.ref S) == some (.type "type")) = true := by rw [h2', h3] <;> rfl
  unfold PySem.W.kitOne
  rw [hne, if_neg Bool.false_ne_true]
  show (if ((PySem.W.clsIn K S).isSome && PySem.W.typeIn K (.ref S) == some (.type "type")) = true then PySem.W.subIn K t (.ref S) else none) = some b
  rw [if_pos e2]
  exact h4
theorem kb_of {K : PySem.W.Frag} {f : Addr} {fd : FuncData} (Fd : Fun K "__init__" "Program.__init__" s_p_Program_init f fd) : KBn K fd ["self", "reads", "hours", "tells"] 1 ["tells", "hours", "reads"] (fun us ws => us ++ ws.reverse) (fun vs zs => vs ++ zs.reverse) := by
  obtain ⟨oc, od, kV, doc, pm, an, cdv, ct, osl, rfl, lk, hcd⟩ := Fd.ex
  exact ⟨fun s us ws _ h1 h2 => match us, ws, h1, h2 with | [_], [_, _, _], _, _ => .of_eq rfl, fun r1 r2 => r1.append r2.reverse⟩
theorem all_mk {l : PySem.W.OpenLaw} {w : World} {K : PySem.W.Frag} {h : Heap} {mg : Str → Option Value} {fa cS cR cH cT cE wd NR NH NT f_l_start f_l_draw f_l_pick f_l_mixed f_p_is_list f_p_is_integer f_p_is_name f_p_is_cell f_p_is_pair f_p_is_instruction f_p_is_hour f_p_as_tuples f_l_is_name f_l_is_cell f_l_is_pair f_l_is_row f_l_pairs_fault f_l_fault f_l_each_once f_l_a_name f_l_a_expr f_l_a_lines f_l_a_term f_l_a_terms f_l_a_needed f_l_a_program f_l_same f_l_loose f_l_odd_pairs f_l_odd_hours f_l_met f_l_told_right f_l_bent_right f_law f_p_BadReads_init f_p_BadHours_init f_p_BadTells_init f_p_Program_init f_p_Program_reads f_p_Program_hours f_p_Program_tells f_p_Program_eq : Addr} (X : K.In h) (G : h.Ns mainGlobals mg) (hfa : mg "law" = some (.ref fa))
    {odW od_l_start an_l_start od_l_draw an_l_draw od_l_pick an_l_pick od_l_mixed an_l_mixed od_p_is_list an_p_is_list od_p_is_integer an_p_is_integer od_p_is_name an_p_is_name od_p_is_cell an_p_is_cell od_p_is_pair an_p_is_pair od_p_is_instruction an_p_is_instruction od_p_is_hour an_p_is_hour od_p_as_tuples an_p_as_tuples od_l_is_name an_l_is_name od_l_is_cell an_l_is_cell od_l_is_pair an_l_is_pair od_l_is_row an_l_is_row od_l_pairs_fault an_l_pairs_fault od_l_fault an_l_fault od_l_each_once an_l_each_once od_l_a_name an_l_a_name od_l_a_expr an_l_a_expr od_l_a_lines an_l_a_lines od_l_a_term an_l_a_term od_l_a_terms an_l_a_terms od_l_a_needed an_l_a_needed od_l_a_program an_l_a_program od_l_same an_l_same od_l_loose an_l_loose od_l_odd_pairs an_l_odd_pairs od_l_odd_hours an_l_odd_hours od_l_met an_l_met od_l_told_right an_l_told_right od_l_bent_right an_l_bent_right od_law an_law od_p_BadReads_init an_p_BadReads_init od_p_BadHours_init an_p_BadHours_init od_p_BadTells_init an_p_BadTells_init od_p_Program_init an_p_Program_init od_p_Program_reads an_p_Program_reads od_p_Program_hours an_p_Program_hours od_p_Program_tells an_p_Program_tells od_p_Program_eq an_p_Program_eq : Option Addr} {slW sl_l_start sl_l_draw sl_l_pick sl_l_mixed sl_p_is_list sl_p_is_integer sl_p_is_name sl_p_is_cell sl_p_is_pair sl_p_is_instruction sl_p_is_hour sl_p_as_tuples sl_l_is_name sl_l_is_cell sl_l_is_pair sl_l_is_row sl_l_pairs_fault sl_l_fault sl_l_each_once sl_l_a_name sl_l_a_expr sl_l_a_lines sl_l_a_term sl_l_a_terms sl_l_a_needed sl_l_a_program sl_l_same sl_l_loose sl_l_odd_pairs sl_l_odd_hours sl_l_met sl_l_told_right sl_l_bent_right sl_law sl_p_BadReads_init sl_p_BadHours_init sl_p_BadTells_init sl_p_Program_init sl_p_Program_reads sl_p_Program_hours sl_p_Program_tells sl_p_Program_eq : Array (Option Value)} {oc_l_start kV_l_start dc_l_start pm_l_start cd_l_start ct_l_start oc_l_draw kV_l_draw dc_l_draw pm_l_draw cd_l_draw ct_l_draw oc_l_pick kV_l_pick dc_l_pick pm_l_pick cd_l_pick ct_l_pick oc_l_mixed kV_l_mixed dc_l_mixed pm_l_mixed cd_l_mixed ct_l_mixed oc_p_is_list kV_p_is_list dc_p_is_list pm_p_is_list cd_p_is_list ct_p_is_list oc_p_is_integer kV_p_is_integer dc_p_is_integer pm_p_is_integer cd_p_is_integer ct_p_is_integer oc_p_is_name kV_p_is_name dc_p_is_name pm_p_is_name cd_p_is_name ct_p_is_name oc_p_is_cell kV_p_is_cell dc_p_is_cell pm_p_is_cell cd_p_is_cell ct_p_is_cell oc_p_is_pair kV_p_is_pair dc_p_is_pair pm_p_is_pair cd_p_is_pair ct_p_is_pair oc_p_is_instruction kV_p_is_instruction dc_p_is_instruction pm_p_is_instruction cd_p_is_instruction ct_p_is_instruction oc_p_is_hour kV_p_is_hour dc_p_is_hour pm_p_is_hour cd_p_is_hour ct_p_is_hour oc_p_as_tuples kV_p_as_tuples dc_p_as_tuples pm_p_as_tuples cd_p_as_tuples ct_p_as_tuples oc_l_is_name kV_l_is_name dc_l_is_name pm_l_is_name cd_l_is_name ct_l_is_name oc_l_is_cell kV_l_is_cell dc_l_is_cell pm_l_is_cell cd_l_is_cell ct_l_is_cell oc_l_is_pair kV_l_is_pair dc_l_is_pair pm_l_is_pair cd_l_is_pair ct_l_is_pair oc_l_is_row kV_l_is_row dc_l_is_row pm_l_is_row cd_l_is_row ct_l_is_row oc_l_pairs_fault kV_l_pairs_fault dc_l_pairs_fault pm_l_pairs_fault cd_l_pairs_fault ct_l_pairs_fault oc_l_fault kV_l_fault dc_l_fault pm_l_fault cd_l_fault ct_l_fault oc_l_each_once kV_l_each_once dc_l_each_once pm_l_each_once cd_l_each_once ct_l_each_once oc_l_a_name kV_l_a_name dc_l_a_name pm_l_a_name cd_l_a_name ct_l_a_name oc_l_a_expr kV_l_a_expr dc_l_a_expr pm_l_a_expr cd_l_a_expr ct_l_a_expr oc_l_a_lines kV_l_a_lines dc_l_a_lines pm_l_a_lines cd_l_a_lines ct_l_a_lines oc_l_a_term kV_l_a_term dc_l_a_term pm_l_a_term cd_l_a_term ct_l_a_term oc_l_a_terms kV_l_a_terms dc_l_a_terms pm_l_a_terms cd_l_a_terms ct_l_a_terms oc_l_a_needed kV_l_a_needed dc_l_a_needed pm_l_a_needed cd_l_a_needed ct_l_a_needed oc_l_a_program kV_l_a_program dc_l_a_program pm_l_a_program cd_l_a_program ct_l_a_program oc_l_same kV_l_same dc_l_same pm_l_same cd_l_same ct_l_same oc_l_loose kV_l_loose dc_l_loose pm_l_loose cd_l_loose ct_l_loose oc_l_odd_pairs kV_l_odd_pairs dc_l_odd_pairs pm_l_odd_pairs cd_l_odd_pairs ct_l_odd_pairs oc_l_odd_hours kV_l_odd_hours dc_l_odd_hours pm_l_odd_hours cd_l_odd_hours ct_l_odd_hours oc_l_met kV_l_met dc_l_met pm_l_met cd_l_met ct_l_met oc_l_told_right kV_l_told_right dc_l_told_right pm_l_told_right cd_l_told_right ct_l_told_right oc_l_bent_right kV_l_bent_right dc_l_bent_right pm_l_bent_right cd_l_bent_right ct_l_bent_right oc_law kV_law dc_law pm_law cd_law ct_law oc_p_BadReads_init kV_p_BadReads_init dc_p_BadReads_init pm_p_BadReads_init cd_p_BadReads_init ct_p_BadReads_init oc_p_BadHours_init kV_p_BadHours_init dc_p_BadHours_init pm_p_BadHours_init cd_p_BadHours_init ct_p_BadHours_init oc_p_BadTells_init kV_p_BadTells_init dc_p_BadTells_init pm_p_BadTells_init cd_p_BadTells_init ct_p_BadTells_init oc_p_Program_init kV_p_Program_init dc_p_Program_init pm_p_Program_init cd_p_Program_init ct_p_Program_init oc_p_Program_reads kV_p_Program_reads dc_p_Program_reads pm_p_Program_reads cd_p_Program_reads ct_p_Program_reads oc_p_Program_hours kV_p_Program_hours dc_p_Program_hours pm_p_Program_hours cd_p_Program_hours ct_p_Program_hours oc_p_Program_tells kV_p_Program_tells dc_p_Program_tells pm_p_Program_tells cd_p_Program_tells ct_p_Program_tells oc_p_Program_eq kV_p_Program_eq dc_p_Program_eq pm_p_Program_eq cd_p_Program_eq ct_p_Program_eq : Value} {nmR qR : Str} {bsR : List Value} {snR : List Str} {subR : List Value} {abR : Bool} {colR : Option Bool} {ddR : Option Addr} {m0R m1R m2R m3R m5R : Option Value} {nmH qH : Str} {bsH : List Value} {snH : List Str} {subH : List Value} {abH : Bool} {colH : Option Bool} {ddH : Option Addr} {m0H m1H m2H m3H m5H : Option Value} {nmT qT : Str} {bsT : List Value} {snT : List Str} {subT : List Value} {abT : Bool} {colT : Option Bool} {ddT : Option Addr} {m0T m1T m2T m3T m5T : Option Value} {tS tF t1 t2 : Tok} {nW : Nat}
    (aS : PySem.W.nsIn K mainGlobals "Program" = some (some (.ref cS)))
    (acR : PySem.W.nsIn K mainGlobals "BadReads" = some (some (.ref cR)))
    (acH : PySem.W.nsIn K mainGlobals "BadHours" = some (some (.ref cH)))
    (acT : PySem.W.nsIn K mainGlobals "BadTells" = some (some (.ref cT)))
    (a_l_start : PySem.W.nsIn K mainGlobals "_law_start" = some (some (.ref f_l_start)))
    (l_l_start : K.lookup f_l_start = some ⟨oc_l_start, od_l_start, .func (PySem.W.fnOf "_law_start" "_law_start" (defArgs s_l_start) (defBody s_l_start) (defScope s_l_start) .none kV_l_start dc_l_start pm_l_start an_l_start cd_l_start ct_l_start), sl_l_start⟩)
    (c_l_start : PySem.W.codeIn K cd_l_start "_law_start" = true)
    (k_l_start : PySem.W.keepIn K (.ref f_l_start) = true)
    (a_l_draw : PySem.W.nsIn K mainGlobals "_law_draw" = some (some (.ref f_l_draw)))
    (l_l_draw : K.lookup f_l_draw = some ⟨oc_l_draw, od_l_draw, .func (PySem.W.fnOf "_law_draw" "_law_draw" (defArgs s_l_draw) (defBody s_l_draw) (defScope s_l_draw) .none kV_l_draw dc_l_draw pm_l_draw an_l_draw cd_l_draw ct_l_draw), sl_l_draw⟩)
    (c_l_draw : PySem.W.codeIn K cd_l_draw "_law_draw" = true)
    (k_l_draw : PySem.W.keepIn K (.ref f_l_draw) = true)
    (a_l_pick : PySem.W.nsIn K mainGlobals "_law_pick" = some (some (.ref f_l_pick)))
    (l_l_pick : K.lookup f_l_pick = some ⟨oc_l_pick, od_l_pick, .func (PySem.W.fnOf "_law_pick" "_law_pick" (defArgs s_l_pick) (defBody s_l_pick) (defScope s_l_pick) .none kV_l_pick dc_l_pick pm_l_pick an_l_pick cd_l_pick ct_l_pick), sl_l_pick⟩)
    (c_l_pick : PySem.W.codeIn K cd_l_pick "_law_pick" = true)
    (k_l_pick : PySem.W.keepIn K (.ref f_l_pick) = true)
    (a_l_mixed : PySem.W.nsIn K mainGlobals "_law_mixed" = some (some (.ref f_l_mixed)))
    (l_l_mixed : K.lookup f_l_mixed = some ⟨oc_l_mixed, od_l_mixed, .func (PySem.W.fnOf "_law_mixed" "_law_mixed" (defArgs s_l_mixed) (defBody s_l_mixed) (defScope s_l_mixed) .none kV_l_mixed dc_l_mixed pm_l_mixed an_l_mixed cd_l_mixed ct_l_mixed), sl_l_mixed⟩)
    (c_l_mixed : PySem.W.codeIn K cd_l_mixed "_law_mixed" = true)
    (k_l_mixed : PySem.W.keepIn K (.ref f_l_mixed) = true)
    (a_p_is_list : PySem.W.nsIn K mainGlobals "is_list" = some (some (.ref f_p_is_list)))
    (l_p_is_list : K.lookup f_p_is_list = some ⟨oc_p_is_list, od_p_is_list, .func (PySem.W.fnOf "is_list" "is_list" (defArgs s_p_is_list) (defBody s_p_is_list) (defScope s_p_is_list) .none kV_p_is_list dc_p_is_list pm_p_is_list an_p_is_list cd_p_is_list ct_p_is_list), sl_p_is_list⟩)
    (c_p_is_list : PySem.W.codeIn K cd_p_is_list "is_list" = true)
    (k_p_is_list : PySem.W.keepIn K (.ref f_p_is_list) = true)
    (a_p_is_integer : PySem.W.nsIn K mainGlobals "is_integer" = some (some (.ref f_p_is_integer)))
    (l_p_is_integer : K.lookup f_p_is_integer = some ⟨oc_p_is_integer, od_p_is_integer, .func (PySem.W.fnOf "is_integer" "is_integer" (defArgs s_p_is_integer) (defBody s_p_is_integer) (defScope s_p_is_integer) .none kV_p_is_integer dc_p_is_integer pm_p_is_integer an_p_is_integer cd_p_is_integer ct_p_is_integer), sl_p_is_integer⟩)
    (c_p_is_integer : PySem.W.codeIn K cd_p_is_integer "is_integer" = true)
    (k_p_is_integer : PySem.W.keepIn K (.ref f_p_is_integer) = true)
    (a_p_is_name : PySem.W.nsIn K mainGlobals "is_name" = some (some (.ref f_p_is_name)))
    (l_p_is_name : K.lookup f_p_is_name = some ⟨oc_p_is_name, od_p_is_name, .func (PySem.W.fnOf "is_name" "is_name" (defArgs s_p_is_name) (defBody s_p_is_name) (defScope s_p_is_name) .none kV_p_is_name dc_p_is_name pm_p_is_name an_p_is_name cd_p_is_name ct_p_is_name), sl_p_is_name⟩)
    (c_p_is_name : PySem.W.codeIn K cd_p_is_name "is_name" = true)
    (k_p_is_name : PySem.W.keepIn K (.ref f_p_is_name) = true)
    (a_p_is_cell : PySem.W.nsIn K mainGlobals "is_cell" = some (some (.ref f_p_is_cell)))
    (l_p_is_cell : K.lookup f_p_is_cell = some ⟨oc_p_is_cell, od_p_is_cell, .func (PySem.W.fnOf "is_cell" "is_cell" (defArgs s_p_is_cell) (defBody s_p_is_cell) (defScope s_p_is_cell) .none kV_p_is_cell dc_p_is_cell pm_p_is_cell an_p_is_cell cd_p_is_cell ct_p_is_cell), sl_p_is_cell⟩)
    (c_p_is_cell : PySem.W.codeIn K cd_p_is_cell "is_cell" = true)
    (k_p_is_cell : PySem.W.keepIn K (.ref f_p_is_cell) = true)
    (a_p_is_pair : PySem.W.nsIn K mainGlobals "is_pair" = some (some (.ref f_p_is_pair)))
    (l_p_is_pair : K.lookup f_p_is_pair = some ⟨oc_p_is_pair, od_p_is_pair, .func (PySem.W.fnOf "is_pair" "is_pair" (defArgs s_p_is_pair) (defBody s_p_is_pair) (defScope s_p_is_pair) .none kV_p_is_pair dc_p_is_pair pm_p_is_pair an_p_is_pair cd_p_is_pair ct_p_is_pair), sl_p_is_pair⟩)
    (c_p_is_pair : PySem.W.codeIn K cd_p_is_pair "is_pair" = true)
    (k_p_is_pair : PySem.W.keepIn K (.ref f_p_is_pair) = true)
    (a_p_is_instruction : PySem.W.nsIn K mainGlobals "is_instruction" = some (some (.ref f_p_is_instruction)))
    (l_p_is_instruction : K.lookup f_p_is_instruction = some ⟨oc_p_is_instruction, od_p_is_instruction, .func (PySem.W.fnOf "is_instruction" "is_instruction" (defArgs s_p_is_instruction) (defBody s_p_is_instruction) (defScope s_p_is_instruction) .none kV_p_is_instruction dc_p_is_instruction pm_p_is_instruction an_p_is_instruction cd_p_is_instruction ct_p_is_instruction), sl_p_is_instruction⟩)
    (c_p_is_instruction : PySem.W.codeIn K cd_p_is_instruction "is_instruction" = true)
    (k_p_is_instruction : PySem.W.keepIn K (.ref f_p_is_instruction) = true)
    (a_p_is_hour : PySem.W.nsIn K mainGlobals "is_hour" = some (some (.ref f_p_is_hour)))
    (l_p_is_hour : K.lookup f_p_is_hour = some ⟨oc_p_is_hour, od_p_is_hour, .func (PySem.W.fnOf "is_hour" "is_hour" (defArgs s_p_is_hour) (defBody s_p_is_hour) (defScope s_p_is_hour) .none kV_p_is_hour dc_p_is_hour pm_p_is_hour an_p_is_hour cd_p_is_hour ct_p_is_hour), sl_p_is_hour⟩)
    (c_p_is_hour : PySem.W.codeIn K cd_p_is_hour "is_hour" = true)
    (k_p_is_hour : PySem.W.keepIn K (.ref f_p_is_hour) = true)
    (a_p_as_tuples : PySem.W.nsIn K mainGlobals "as_tuples" = some (some (.ref f_p_as_tuples)))
    (l_p_as_tuples : K.lookup f_p_as_tuples = some ⟨oc_p_as_tuples, od_p_as_tuples, .func (PySem.W.fnOf "as_tuples" "as_tuples" (defArgs s_p_as_tuples) (defBody s_p_as_tuples) (defScope s_p_as_tuples) .none kV_p_as_tuples dc_p_as_tuples pm_p_as_tuples an_p_as_tuples cd_p_as_tuples ct_p_as_tuples), sl_p_as_tuples⟩)
    (c_p_as_tuples : PySem.W.codeIn K cd_p_as_tuples "as_tuples" = true)
    (k_p_as_tuples : PySem.W.keepIn K (.ref f_p_as_tuples) = true)
    (a_l_is_name : PySem.W.nsIn K mainGlobals "_law_is_name" = some (some (.ref f_l_is_name)))
    (l_l_is_name : K.lookup f_l_is_name = some ⟨oc_l_is_name, od_l_is_name, .func (PySem.W.fnOf "_law_is_name" "_law_is_name" (defArgs s_l_is_name) (defBody s_l_is_name) (defScope s_l_is_name) .none kV_l_is_name dc_l_is_name pm_l_is_name an_l_is_name cd_l_is_name ct_l_is_name), sl_l_is_name⟩)
    (c_l_is_name : PySem.W.codeIn K cd_l_is_name "_law_is_name" = true)
    (k_l_is_name : PySem.W.keepIn K (.ref f_l_is_name) = true)
    (a_l_is_cell : PySem.W.nsIn K mainGlobals "_law_is_cell" = some (some (.ref f_l_is_cell)))
    (l_l_is_cell : K.lookup f_l_is_cell = some ⟨oc_l_is_cell, od_l_is_cell, .func (PySem.W.fnOf "_law_is_cell" "_law_is_cell" (defArgs s_l_is_cell) (defBody s_l_is_cell) (defScope s_l_is_cell) .none kV_l_is_cell dc_l_is_cell pm_l_is_cell an_l_is_cell cd_l_is_cell ct_l_is_cell), sl_l_is_cell⟩)
    (c_l_is_cell : PySem.W.codeIn K cd_l_is_cell "_law_is_cell" = true)
    (k_l_is_cell : PySem.W.keepIn K (.ref f_l_is_cell) = true)
    (a_l_is_pair : PySem.W.nsIn K mainGlobals "_law_is_pair" = some (some (.ref f_l_is_pair)))
    (l_l_is_pair : K.lookup f_l_is_pair = some ⟨oc_l_is_pair, od_l_is_pair, .func (PySem.W.fnOf "_law_is_pair" "_law_is_pair" (defArgs s_l_is_pair) (defBody s_l_is_pair) (defScope s_l_is_pair) .none kV_l_is_pair dc_l_is_pair pm_l_is_pair an_l_is_pair cd_l_is_pair ct_l_is_pair), sl_l_is_pair⟩)
    (c_l_is_pair : PySem.W.codeIn K cd_l_is_pair "_law_is_pair" = true)
    (k_l_is_pair : PySem.W.keepIn K (.ref f_l_is_pair) = true)
    (a_l_is_row : PySem.W.nsIn K mainGlobals "_law_is_row" = some (some (.ref f_l_is_row)))
    (l_l_is_row : K.lookup f_l_is_row = some ⟨oc_l_is_row, od_l_is_row, .func (PySem.W.fnOf "_law_is_row" "_law_is_row" (defArgs s_l_is_row) (defBody s_l_is_row) (defScope s_l_is_row) .none kV_l_is_row dc_l_is_row pm_l_is_row an_l_is_row cd_l_is_row ct_l_is_row), sl_l_is_row⟩)
    (c_l_is_row : PySem.W.codeIn K cd_l_is_row "_law_is_row" = true)
    (k_l_is_row : PySem.W.keepIn K (.ref f_l_is_row) = true)
    (a_l_pairs_fault : PySem.W.nsIn K mainGlobals "_law_pairs_fault" = some (some (.ref f_l_pairs_fault)))
    (l_l_pairs_fault : K.lookup f_l_pairs_fault = some ⟨oc_l_pairs_fault, od_l_pairs_fault, .func (PySem.W.fnOf "_law_pairs_fault" "_law_pairs_fault" (defArgs s_l_pairs_fault) (defBody s_l_pairs_fault) (defScope s_l_pairs_fault) .none kV_l_pairs_fault dc_l_pairs_fault pm_l_pairs_fault an_l_pairs_fault cd_l_pairs_fault ct_l_pairs_fault), sl_l_pairs_fault⟩)
    (c_l_pairs_fault : PySem.W.codeIn K cd_l_pairs_fault "_law_pairs_fault" = true)
    (k_l_pairs_fault : PySem.W.keepIn K (.ref f_l_pairs_fault) = true)
    (a_l_fault : PySem.W.nsIn K mainGlobals "_law_fault" = some (some (.ref f_l_fault)))
    (l_l_fault : K.lookup f_l_fault = some ⟨oc_l_fault, od_l_fault, .func (PySem.W.fnOf "_law_fault" "_law_fault" (defArgs s_l_fault) (defBody s_l_fault) (defScope s_l_fault) .none kV_l_fault dc_l_fault pm_l_fault an_l_fault cd_l_fault ct_l_fault), sl_l_fault⟩)
    (c_l_fault : PySem.W.codeIn K cd_l_fault "_law_fault" = true)
    (k_l_fault : PySem.W.keepIn K (.ref f_l_fault) = true)
    (a_l_each_once : PySem.W.nsIn K mainGlobals "_law_each_once" = some (some (.ref f_l_each_once)))
    (l_l_each_once : K.lookup f_l_each_once = some ⟨oc_l_each_once, od_l_each_once, .func (PySem.W.fnOf "_law_each_once" "_law_each_once" (defArgs s_l_each_once) (defBody s_l_each_once) (defScope s_l_each_once) .none kV_l_each_once dc_l_each_once pm_l_each_once an_l_each_once cd_l_each_once ct_l_each_once), sl_l_each_once⟩)
    (c_l_each_once : PySem.W.codeIn K cd_l_each_once "_law_each_once" = true)
    (k_l_each_once : PySem.W.keepIn K (.ref f_l_each_once) = true)
    (a_l_a_name : PySem.W.nsIn K mainGlobals "_law_a_name" = some (some (.ref f_l_a_name)))
    (l_l_a_name : K.lookup f_l_a_name = some ⟨oc_l_a_name, od_l_a_name, .func (PySem.W.fnOf "_law_a_name" "_law_a_name" (defArgs s_l_a_name) (defBody s_l_a_name) (defScope s_l_a_name) .none kV_l_a_name dc_l_a_name pm_l_a_name an_l_a_name cd_l_a_name ct_l_a_name), sl_l_a_name⟩)
    (c_l_a_name : PySem.W.codeIn K cd_l_a_name "_law_a_name" = true)
    (k_l_a_name : PySem.W.keepIn K (.ref f_l_a_name) = true)
    (a_l_a_expr : PySem.W.nsIn K mainGlobals "_law_a_expr" = some (some (.ref f_l_a_expr)))
    (l_l_a_expr : K.lookup f_l_a_expr = some ⟨oc_l_a_expr, od_l_a_expr, .func (PySem.W.fnOf "_law_a_expr" "_law_a_expr" (defArgs s_l_a_expr) (defBody s_l_a_expr) (defScope s_l_a_expr) .none kV_l_a_expr dc_l_a_expr pm_l_a_expr an_l_a_expr cd_l_a_expr ct_l_a_expr), sl_l_a_expr⟩)
    (c_l_a_expr : PySem.W.codeIn K cd_l_a_expr "_law_a_expr" = true)
    (k_l_a_expr : PySem.W.keepIn K (.ref f_l_a_expr) = true)
    (a_l_a_lines : PySem.W.nsIn K mainGlobals "_law_a_lines" = some (some (.ref f_l_a_lines)))
    (l_l_a_lines : K.lookup f_l_a_lines = some ⟨oc_l_a_lines, od_l_a_lines, .func (PySem.W.fnOf "_law_a_lines" "_law_a_lines" (defArgs s_l_a_lines) (defBody s_l_a_lines) (defScope s_l_a_lines) .none kV_l_a_lines dc_l_a_lines pm_l_a_lines an_l_a_lines cd_l_a_lines ct_l_a_lines), sl_l_a_lines⟩)
    (c_l_a_lines : PySem.W.codeIn K cd_l_a_lines "_law_a_lines" = true)
    (k_l_a_lines : PySem.W.keepIn K (.ref f_l_a_lines) = true)
    (a_l_a_term : PySem.W.nsIn K mainGlobals "_law_a_term" = some (some (.ref f_l_a_term)))
    (l_l_a_term : K.lookup f_l_a_term = some ⟨oc_l_a_term, od_l_a_term, .func (PySem.W.fnOf "_law_a_term" "_law_a_term" (defArgs s_l_a_term) (defBody s_l_a_term) (defScope s_l_a_term) .none kV_l_a_term dc_l_a_term pm_l_a_term an_l_a_term cd_l_a_term ct_l_a_term), sl_l_a_term⟩)
    (c_l_a_term : PySem.W.codeIn K cd_l_a_term "_law_a_term" = true)
    (k_l_a_term : PySem.W.keepIn K (.ref f_l_a_term) = true)
    (a_l_a_terms : PySem.W.nsIn K mainGlobals "_law_a_terms" = some (some (.ref f_l_a_terms)))
    (l_l_a_terms : K.lookup f_l_a_terms = some ⟨oc_l_a_terms, od_l_a_terms, .func (PySem.W.fnOf "_law_a_terms" "_law_a_terms" (defArgs s_l_a_terms) (defBody s_l_a_terms) (defScope s_l_a_terms) .none kV_l_a_terms dc_l_a_terms pm_l_a_terms an_l_a_terms cd_l_a_terms ct_l_a_terms), sl_l_a_terms⟩)
    (c_l_a_terms : PySem.W.codeIn K cd_l_a_terms "_law_a_terms" = true)
    (k_l_a_terms : PySem.W.keepIn K (.ref f_l_a_terms) = true)
    (a_l_a_needed : PySem.W.nsIn K mainGlobals "_law_a_needed" = some (some (.ref f_l_a_needed)))
    (l_l_a_needed : K.lookup f_l_a_needed = some ⟨oc_l_a_needed, od_l_a_needed, .func (PySem.W.fnOf "_law_a_needed" "_law_a_needed" (defArgs s_l_a_needed) (defBody s_l_a_needed) (defScope s_l_a_needed) .none kV_l_a_needed dc_l_a_needed pm_l_a_needed an_l_a_needed cd_l_a_needed ct_l_a_needed), sl_l_a_needed⟩)
    (c_l_a_needed : PySem.W.codeIn K cd_l_a_needed "_law_a_needed" = true)
    (k_l_a_needed : PySem.W.keepIn K (.ref f_l_a_needed) = true)
    (a_l_a_program : PySem.W.nsIn K mainGlobals "_law_a_program" = some (some (.ref f_l_a_program)))
    (l_l_a_program : K.lookup f_l_a_program = some ⟨oc_l_a_program, od_l_a_program, .func (PySem.W.fnOf "_law_a_program" "_law_a_program" (defArgs s_l_a_program) (defBody s_l_a_program) (defScope s_l_a_program) .none kV_l_a_program dc_l_a_program pm_l_a_program an_l_a_program cd_l_a_program ct_l_a_program), sl_l_a_program⟩)
    (c_l_a_program : PySem.W.codeIn K cd_l_a_program "_law_a_program" = true)
    (k_l_a_program : PySem.W.keepIn K (.ref f_l_a_program) = true)
    (a_l_same : PySem.W.nsIn K mainGlobals "_law_same" = some (some (.ref f_l_same)))
    (l_l_same : K.lookup f_l_same = some ⟨oc_l_same, od_l_same, .func (PySem.W.fnOf "_law_same" "_law_same" (defArgs s_l_same) (defBody s_l_same) (defScope s_l_same) .none kV_l_same dc_l_same pm_l_same an_l_same cd_l_same ct_l_same), sl_l_same⟩)
    (c_l_same : PySem.W.codeIn K cd_l_same "_law_same" = true)
    (k_l_same : PySem.W.keepIn K (.ref f_l_same) = true)
    (a_l_loose : PySem.W.nsIn K mainGlobals "_law_loose" = some (some (.ref f_l_loose)))
    (l_l_loose : K.lookup f_l_loose = some ⟨oc_l_loose, od_l_loose, .func (PySem.W.fnOf "_law_loose" "_law_loose" (defArgs s_l_loose) (defBody s_l_loose) (defScope s_l_loose) .none kV_l_loose dc_l_loose pm_l_loose an_l_loose cd_l_loose ct_l_loose), sl_l_loose⟩)
    (c_l_loose : PySem.W.codeIn K cd_l_loose "_law_loose" = true)
    (k_l_loose : PySem.W.keepIn K (.ref f_l_loose) = true)
    (a_l_odd_pairs : PySem.W.nsIn K mainGlobals "_law_odd_pairs" = some (some (.ref f_l_odd_pairs)))
    (l_l_odd_pairs : K.lookup f_l_odd_pairs = some ⟨oc_l_odd_pairs, od_l_odd_pairs, .func (PySem.W.fnOf "_law_odd_pairs" "_law_odd_pairs" (defArgs s_l_odd_pairs) (defBody s_l_odd_pairs) (defScope s_l_odd_pairs) .none kV_l_odd_pairs dc_l_odd_pairs pm_l_odd_pairs an_l_odd_pairs cd_l_odd_pairs ct_l_odd_pairs), sl_l_odd_pairs⟩)
    (c_l_odd_pairs : PySem.W.codeIn K cd_l_odd_pairs "_law_odd_pairs" = true)
    (k_l_odd_pairs : PySem.W.keepIn K (.ref f_l_odd_pairs) = true)
    (a_l_odd_hours : PySem.W.nsIn K mainGlobals "_law_odd_hours" = some (some (.ref f_l_odd_hours)))
    (l_l_odd_hours : K.lookup f_l_odd_hours = some ⟨oc_l_odd_hours, od_l_odd_hours, .func (PySem.W.fnOf "_law_odd_hours" "_law_odd_hours" (defArgs s_l_odd_hours) (defBody s_l_odd_hours) (defScope s_l_odd_hours) .none kV_l_odd_hours dc_l_odd_hours pm_l_odd_hours an_l_odd_hours cd_l_odd_hours ct_l_odd_hours), sl_l_odd_hours⟩)
    (c_l_odd_hours : PySem.W.codeIn K cd_l_odd_hours "_law_odd_hours" = true)
    (k_l_odd_hours : PySem.W.keepIn K (.ref f_l_odd_hours) = true)
    (a_l_met : PySem.W.nsIn K mainGlobals "_law_met" = some (some (.ref f_l_met)))
    (l_l_met : K.lookup f_l_met = some ⟨oc_l_met, od_l_met, .func (PySem.W.fnOf "_law_met" "_law_met" (defArgs s_l_met) (defBody s_l_met) (defScope s_l_met) .none kV_l_met dc_l_met pm_l_met an_l_met cd_l_met ct_l_met), sl_l_met⟩)
    (c_l_met : PySem.W.codeIn K cd_l_met "_law_met" = true)
    (k_l_met : PySem.W.keepIn K (.ref f_l_met) = true)
    (a_l_told_right : PySem.W.nsIn K mainGlobals "_law_told_right" = some (some (.ref f_l_told_right)))
    (l_l_told_right : K.lookup f_l_told_right = some ⟨oc_l_told_right, od_l_told_right, .func (PySem.W.fnOf "_law_told_right" "_law_told_right" (defArgs s_l_told_right) (defBody s_l_told_right) (defScope s_l_told_right) .none kV_l_told_right dc_l_told_right pm_l_told_right an_l_told_right cd_l_told_right ct_l_told_right), sl_l_told_right⟩)
    (c_l_told_right : PySem.W.codeIn K cd_l_told_right "_law_told_right" = true)
    (k_l_told_right : PySem.W.keepIn K (.ref f_l_told_right) = true)
    (a_l_bent_right : PySem.W.nsIn K mainGlobals "_law_bent_right" = some (some (.ref f_l_bent_right)))
    (l_l_bent_right : K.lookup f_l_bent_right = some ⟨oc_l_bent_right, od_l_bent_right, .func (PySem.W.fnOf "_law_bent_right" "_law_bent_right" (defArgs s_l_bent_right) (defBody s_l_bent_right) (defScope s_l_bent_right) .none kV_l_bent_right dc_l_bent_right pm_l_bent_right an_l_bent_right cd_l_bent_right ct_l_bent_right), sl_l_bent_right⟩)
    (c_l_bent_right : PySem.W.codeIn K cd_l_bent_right "_law_bent_right" = true)
    (k_l_bent_right : PySem.W.keepIn K (.ref f_l_bent_right) = true)
    (a_law : PySem.W.nsIn K mainGlobals "law" = some (some (.ref f_law)))
    (l_law : K.lookup f_law = some ⟨oc_law, od_law, .func (PySem.W.fnOf "law" "law" (defArgs s_law) (defBody s_law) (defScope s_law) .none kV_law dc_law pm_law an_law cd_law ct_law), sl_law⟩)
    (c_law : PySem.W.codeIn K cd_law "law" = true)
    (k_law : PySem.W.keepIn K (.ref f_law) = true)
    (a_p_BadReads_init : PySem.W.findIn K (.ref cR) "__init__" = some (some (.ref f_p_BadReads_init)))
    (l_p_BadReads_init : K.lookup f_p_BadReads_init = some ⟨oc_p_BadReads_init, od_p_BadReads_init, .func (PySem.W.fnOf "__init__" "BadReads.__init__" (defArgs s_p_BadReads_init) (defBody s_p_BadReads_init) (defScope s_p_BadReads_init) .none kV_p_BadReads_init dc_p_BadReads_init pm_p_BadReads_init an_p_BadReads_init cd_p_BadReads_init ct_p_BadReads_init), sl_p_BadReads_init⟩)
    (c_p_BadReads_init : PySem.W.codeIn K cd_p_BadReads_init "BadReads.__init__" = true)
    (k_p_BadReads_init : PySem.W.keepIn K (.ref f_p_BadReads_init) = true)
    (t_p_BadReads_init : PySem.W.typeIn K (.ref f_p_BadReads_init) = some (.type "function"))
    (a_p_BadHours_init : PySem.W.findIn K (.ref cH) "__init__" = some (some (.ref f_p_BadHours_init)))
    (l_p_BadHours_init : K.lookup f_p_BadHours_init = some ⟨oc_p_BadHours_init, od_p_BadHours_init, .func (PySem.W.fnOf "__init__" "BadHours.__init__" (defArgs s_p_BadHours_init) (defBody s_p_BadHours_init) (defScope s_p_BadHours_init) .none kV_p_BadHours_init dc_p_BadHours_init pm_p_BadHours_init an_p_BadHours_init cd_p_BadHours_init ct_p_BadHours_init), sl_p_BadHours_init⟩)
    (c_p_BadHours_init : PySem.W.codeIn K cd_p_BadHours_init "BadHours.__init__" = true)
    (k_p_BadHours_init : PySem.W.keepIn K (.ref f_p_BadHours_init) = true)
    (t_p_BadHours_init : PySem.W.typeIn K (.ref f_p_BadHours_init) = some (.type "function"))
    (a_p_BadTells_init : PySem.W.findIn K (.ref cT) "__init__" = some (some (.ref f_p_BadTells_init)))
    (l_p_BadTells_init : K.lookup f_p_BadTells_init = some ⟨oc_p_BadTells_init, od_p_BadTells_init, .func (PySem.W.fnOf "__init__" "BadTells.__init__" (defArgs s_p_BadTells_init) (defBody s_p_BadTells_init) (defScope s_p_BadTells_init) .none kV_p_BadTells_init dc_p_BadTells_init pm_p_BadTells_init an_p_BadTells_init cd_p_BadTells_init ct_p_BadTells_init), sl_p_BadTells_init⟩)
    (c_p_BadTells_init : PySem.W.codeIn K cd_p_BadTells_init "BadTells.__init__" = true)
    (k_p_BadTells_init : PySem.W.keepIn K (.ref f_p_BadTells_init) = true)
    (t_p_BadTells_init : PySem.W.typeIn K (.ref f_p_BadTells_init) = some (.type "function"))
    (a_p_Program_init : PySem.W.findIn K (.ref cS) "__init__" = some (some (.ref f_p_Program_init)))
    (l_p_Program_init : K.lookup f_p_Program_init = some ⟨oc_p_Program_init, od_p_Program_init, .func (PySem.W.fnOf "__init__" "Program.__init__" (defArgs s_p_Program_init) (defBody s_p_Program_init) (defScope s_p_Program_init) .none kV_p_Program_init dc_p_Program_init pm_p_Program_init an_p_Program_init cd_p_Program_init ct_p_Program_init), sl_p_Program_init⟩)
    (c_p_Program_init : PySem.W.codeIn K cd_p_Program_init "Program.__init__" = true)
    (k_p_Program_init : PySem.W.keepIn K (.ref f_p_Program_init) = true)
    (i_p_Program_init : PySem.W.isFn K (.ref f_p_Program_init) = true)
    (a_p_Program_reads : PySem.W.findIn K (.ref cS) "reads" = some (some (.ref f_p_Program_reads)))
    (l_p_Program_reads : K.lookup f_p_Program_reads = some ⟨oc_p_Program_reads, od_p_Program_reads, .func (PySem.W.fnOf "reads" "Program.reads" (defArgs s_p_Program_reads) (defBody s_p_Program_reads) (defScope s_p_Program_reads) .none kV_p_Program_reads dc_p_Program_reads pm_p_Program_reads an_p_Program_reads cd_p_Program_reads ct_p_Program_reads), sl_p_Program_reads⟩)
    (c_p_Program_reads : PySem.W.codeIn K cd_p_Program_reads "Program.reads" = true)
    (k_p_Program_reads : PySem.W.keepIn K (.ref f_p_Program_reads) = true)
    (i_p_Program_reads : PySem.W.isFn K (.ref f_p_Program_reads) = true)
    (a_p_Program_hours : PySem.W.findIn K (.ref cS) "hours" = some (some (.ref f_p_Program_hours)))
    (l_p_Program_hours : K.lookup f_p_Program_hours = some ⟨oc_p_Program_hours, od_p_Program_hours, .func (PySem.W.fnOf "hours" "Program.hours" (defArgs s_p_Program_hours) (defBody s_p_Program_hours) (defScope s_p_Program_hours) .none kV_p_Program_hours dc_p_Program_hours pm_p_Program_hours an_p_Program_hours cd_p_Program_hours ct_p_Program_hours), sl_p_Program_hours⟩)
    (c_p_Program_hours : PySem.W.codeIn K cd_p_Program_hours "Program.hours" = true)
    (k_p_Program_hours : PySem.W.keepIn K (.ref f_p_Program_hours) = true)
    (i_p_Program_hours : PySem.W.isFn K (.ref f_p_Program_hours) = true)
    (a_p_Program_tells : PySem.W.findIn K (.ref cS) "tells" = some (some (.ref f_p_Program_tells)))
    (l_p_Program_tells : K.lookup f_p_Program_tells = some ⟨oc_p_Program_tells, od_p_Program_tells, .func (PySem.W.fnOf "tells" "Program.tells" (defArgs s_p_Program_tells) (defBody s_p_Program_tells) (defScope s_p_Program_tells) .none kV_p_Program_tells dc_p_Program_tells pm_p_Program_tells an_p_Program_tells cd_p_Program_tells ct_p_Program_tells), sl_p_Program_tells⟩)
    (c_p_Program_tells : PySem.W.codeIn K cd_p_Program_tells "Program.tells" = true)
    (k_p_Program_tells : PySem.W.keepIn K (.ref f_p_Program_tells) = true)
    (i_p_Program_tells : PySem.W.isFn K (.ref f_p_Program_tells) = true)
    (a_p_Program_eq : PySem.W.findIn K (.ref cS) "__eq__" = some (some (.ref f_p_Program_eq)))
    (l_p_Program_eq : K.lookup f_p_Program_eq = some ⟨oc_p_Program_eq, od_p_Program_eq, .func (PySem.W.fnOf "__eq__" "Program.__eq__" (defArgs s_p_Program_eq) (defBody s_p_Program_eq) (defScope s_p_Program_eq) .none kV_p_Program_eq dc_p_Program_eq pm_p_Program_eq an_p_Program_eq cd_p_Program_eq ct_p_Program_eq), sl_p_Program_eq⟩)
    (c_p_Program_eq : PySem.W.codeIn K cd_p_Program_eq "Program.__eq__" = true)
    (k_p_Program_eq : PySem.W.keepIn K (.ref f_p_Program_eq) = true)
    (i_p_Program_eq : PySem.W.isFn K (.ref f_p_Program_eq) = true)
    (pg : PySem.W.plainGet K cS Str.empty = true)
    (hd : PySem.W.hasDictIn K cS = true)
    (po : PySem.W.plainOver K cS = true)
    (sa : PySem.W.findIn K (.ref cS) "__setattr__" = some (some (.builtin "object.__setattr__")))
    (mk : PySem.W.makesIn K cS = true)
    (kS : PySem.W.keepIn K (.ref cS) = true)
    (ha : PySem.W.findIn K (.ref cS) "__class__" = some (some (.builtin "object.__class__")))
    (hn : PySem.W.specialIn K (.builtin "object.__class__") "__get__" = some (some (.builtin "getset_descriptor.__get__")))
    (htk : PySem.W.takesIn K (.builtin "object.__class__") = some true)
    (hm : PySem.W.mroIn K cS (.type "object") = some true)
    (icS : PySem.W.isClsIn K cS = true)
    (tyS : PySem.W.typeIn K (.ref cS) = some (.type "type"))
    (noR : PySem.W.findIn K (.ref cS) "own_reads" = some none)
    (noH : PySem.W.findIn K (.ref cS) "own_hours" = some none)
    (noT : PySem.W.findIn K (.ref cS) "own_tells" = some none)
    (sbLi : PySem.W.subIn K (.type "list") (.ref cS) = some false)
    (sbTu : PySem.W.subIn K (.type "tuple") (.ref cS) = some false)
    (ne : PySem.W.findIn K (.ref cS) "__ne__" = some (some (.builtin "object.__ne__")))
    (xR : K.lookup cR = some (excClassObj nmR qR cR NR bsR [.ref cE, .type "ValueError", .type "Exception", .type "BaseException", .type "object"] true snR subR abR colR ddR m0R m1R m2R m3R m5R "ValueError.__new__"))
    (saR : PySem.W.findIn K (.ref cR) "__setattr__" = some (some (.builtin "object.__setattr__")))
    (exR : PySem.W.subIn K (.ref cR) (.type "BaseException") = some true)
    (tyR : PySem.W.typeIn K (.ref cR) = some (.type "type"))
    (kkR : PySem.W.keepIn K (.ref cR) = true)
    (gaR : PySem.W.findIn K (.ref cR) "__getattribute__" = some (some (.builtin "BaseException.__getattribute__")))
    (ggR : PySem.W.findIn K (.ref cR) "__getattr__" = some none)
    (hdR : PySem.W.hasDictIn K cR = true)
    (nxR : PySem.W.findIn K (.ref cR) "index" = some none)
    (icR : PySem.W.isClsIn K cR = true)
    (suR : PySem.W.subIn K (.ref cR) (.ref cR) = some true)
    (xH : K.lookup cH = some (excClassObj nmH qH cH NH bsH [.ref cE, .type "ValueError", .type "Exception", .type "BaseException", .type "object"] true snH subH abH colH ddH m0H m1H m2H m3H m5H "ValueError.__new__"))
    (saH : PySem.W.findIn K (.ref cH) "__setattr__" = some (some (.builtin "object.__setattr__")))
    (exH : PySem.W.subIn K (.ref cH) (.type "BaseException") = some true)
    (tyH : PySem.W.typeIn K (.ref cH) = some (.type "type"))
    (kkH : PySem.W.keepIn K (.ref cH) = true)
    (gaH : PySem.W.findIn K (.ref cH) "__getattribute__" = some (some (.builtin "BaseException.__getattribute__")))
    (ggH : PySem.W.findIn K (.ref cH) "__getattr__" = some none)
    (hdH : PySem.W.hasDictIn K cH = true)
    (nxH : PySem.W.findIn K (.ref cH) "index" = some none)
    (icH : PySem.W.isClsIn K cH = true)
    (suH : PySem.W.subIn K (.ref cH) (.ref cH) = some true)
    (xT : K.lookup cT = some (excClassObj nmT qT cT NT bsT [.ref cE, .type "ValueError", .type "Exception", .type "BaseException", .type "object"] true snT subT abT colT ddT m0T m1T m2T m3T m5T "ValueError.__new__"))
    (saT : PySem.W.findIn K (.ref cT) "__setattr__" = some (some (.builtin "object.__setattr__")))
    (exT : PySem.W.subIn K (.ref cT) (.type "BaseException") = some true)
    (tyT : PySem.W.typeIn K (.ref cT) = some (.type "type"))
    (kkT : PySem.W.keepIn K (.ref cT) = true)
    (gaT : PySem.W.findIn K (.ref cT) "__getattribute__" = some (some (.builtin "BaseException.__getattribute__")))
    (ggT : PySem.W.findIn K (.ref cT) "__getattr__" = some none)
    (hdT : PySem.W.hasDictIn K cT = true)
    (nxT : PySem.W.findIn K (.ref cT) "index" = some none)
    (icT : PySem.W.isClsIn K cT = true)
    (suT : PySem.W.subIn K (.ref cT) (.ref cT) = some true)
    (suHR : PySem.W.subIn K (.ref cH) (.ref cR) = some false)
    (suTR : PySem.W.subIn K (.ref cT) (.ref cR) = some false)
    (suTH : PySem.W.subIn K (.ref cT) (.ref cH) = some false)
    (aSm : PySem.W.nsIn K mainGlobals "SMALL" = some (some (.str "abcdefghijklmnopqrstuvwxyz" tS)))
    (aFi : PySem.W.nsIn K mainGlobals "FIGURES" = some (some (.str "0123456789" tF)))
    (aWo : PySem.W.nsIn K mainGlobals "WORDS" = some (some (.ref wd)))
    (lWo : K.lookup wd = some ⟨.type "tuple", odW, .seq #[.str "read" t1, .str "tell" t2] nW, slW⟩)
    (z_all : PySem.W.nsIn K mainGlobals "all" = some none)
    (z_bool : PySem.W.nsIn K mainGlobals "bool" = some none)
    (z_dict : PySem.W.nsIn K mainGlobals "dict" = some none)
    (z_enumerate : PySem.W.nsIn K mainGlobals "enumerate" = some none)
    (z_int : PySem.W.nsIn K mainGlobals "int" = some none)
    (z_isinstance : PySem.W.nsIn K mainGlobals "isinstance" = some none)
    (z_len : PySem.W.nsIn K mainGlobals "len" = some none)
    (z_list : PySem.W.nsIn K mainGlobals "list" = some none)
    (z_max : PySem.W.nsIn K mainGlobals "max" = some none)
    (z_range : PySem.W.nsIn K mainGlobals "range" = some none)
    (z_repr : PySem.W.nsIn K mainGlobals "repr" = some none)
    (z_str : PySem.W.nsIn K mainGlobals "str" = some none)
    (z_tuple : PySem.W.nsIn K mainGlobals "tuple" = some none)
    (z_zip : PySem.W.nsIn K mainGlobals "zip" = some none) :
    ∃ ps : List Str, ∀ base : Heap, K.In base → base.Ns mainGlobals mg → FnG l.prog w K mg base 36 fa ps (spLaw5 K) := by
  have e := hfa.symm.trans (PySem.W.mg_of X G a_law)
  cases e
  have T : Txt K mg ⟨wd, 0, 0⟩ ⟨cS, cR, cH, cT⟩ := { n_all := PySem.W.mg_none_of X G z_all, n_bool := PySem.W.mg_none_of X G z_bool, n_dict := PySem.W.mg_none_of X G z_dict, n_enumerate := PySem.W.mg_none_of X G z_enumerate, n_int := PySem.W.mg_none_of X G z_int, n_isinstance := PySem.W.mg_none_of X G z_isinstance, n_len := PySem.W.mg_none_of X G z_len, n_list := PySem.W.mg_none_of X G z_list, n_max := PySem.W.mg_none_of X G z_max, n_range := PySem.W.mg_none_of X G z_range, n_repr := PySem.W.mg_none_of X G z_repr, n_str := PySem.W.mg_none_of X G z_str, n_tuple := PySem.W.mg_none_of X G z_tuple, n_zip := PySem.W.mg_none_of X G z_zip, g_SMALL := ⟨_, PySem.W.mg_of X G aSm, ⟨tS, rfl⟩⟩, g_FIGURES := ⟨_, PySem.W.mg_of X G aFi, ⟨tF, rfl⟩⟩, g_WORDS := ⟨_, PySem.W.mg_of X G aWo, rfl⟩, hW := fun H => .inr ⟨_, _, _, lWo, rfl, rfl, by rw [sizeLine_eq]; show 2 ≤ 16777216; decide, .cons ⟨t1, rfl⟩ (.cons ⟨t2, rfl⟩ .nil)⟩, g_Program := PySem.W.mg_of X G aS, prg := ⟨⟨pg, hd, po, sa⟩, ha, hn, htk, hm, noR, noH, noT, kit_own rfl icS tyS sbLi, kit_own rfl icS tyS sbTu⟩, xfcR := ⟨gaR, ggR, exR, hdR⟩, oexcR := ⟨⟨nmR, qR, NR, bsR, _, snR, subR, abR, colR, ddR, m0R, m1R, m2R, m3R, m5R, xR, rfl⟩, saR, exR, tyR, kkR⟩, nocR := nxR, xfcH := ⟨gaH, ggH, exH, hdH⟩, oexcH := ⟨⟨nmH, qH, NH, bsH, _, snH, subH, abH, colH, ddH, m0H, m1H, m2H, m3H, m5H, xH, rfl⟩, saH, exH, tyH, kkH⟩, nocH := nxH, xfcT := ⟨gaT, ggT, exT, hdT⟩, oexcT := ⟨⟨nmT, qT, NT, bsT, _, snT, subT, abT, colT, ddT, m0T, m1T, m2T, m3T, m5T, xT, rfl⟩, saT, exT, tyT, kkT⟩, nocT := nxT, tR := exm_two exR icR tyR suR, tHR := exm_two exR icR tyR suHR, tH := exm_two exH icH tyH suH, tTR := exm_two exR icR tyR suTR, tTH := exm_two exH icH tyH suTH, tT := exm_two exT icT tyT suT }
  have F_l_start := fun_mk (st := s_l_start) l_l_start c_l_start k_l_start
  have b_l_start := F_l_start.binds (ps := ["_law_script"]) fun _ _ _ _ _ _ us hl => match us, hl with | [_], _ => rfl
  have F_l_draw := fun_mk (st := s_l_draw) l_l_draw c_l_draw k_l_draw
  have b_l_draw := F_l_draw.binds (ps := ["_law_stream", "_law_many"]) fun _ _ _ _ _ _ us hl => match us, hl with | [_, _], _ => rfl
  have F_l_pick := fun_mk (st := s_l_pick) l_l_pick c_l_pick k_l_pick
  have b_l_pick := F_l_pick.binds (ps := ["_law_stream", "_law_some"]) fun _ _ _ _ _ _ us hl => match us, hl with | [_, _], _ => rfl
  have F_l_mixed := fun_mk (st := s_l_mixed) l_l_mixed c_l_mixed k_l_mixed
  have b_l_mixed := F_l_mixed.binds (ps := ["_law_stream", "_law_some"]) fun _ _ _ _ _ _ us hl => match us, hl with | [_, _], _ => rfl
  have F_p_is_list := fun_mk (st := s_p_is_list) l_p_is_list c_p_is_list k_p_is_list
  have b_p_is_list := F_p_is_list.binds (ps := ["thing"]) fun _ _ _ _ _ _ us hl => match us, hl with | [_], _ => rfl
  have F_p_is_integer := fun_mk (st := s_p_is_integer) l_p_is_integer c_p_is_integer k_p_is_integer
  have b_p_is_integer := F_p_is_integer.binds (ps := ["thing"]) fun _ _ _ _ _ _ us hl => match us, hl with | [_], _ => rfl
  have F_p_is_name := fun_mk (st := s_p_is_name) l_p_is_name c_p_is_name k_p_is_name
  have b_p_is_name := F_p_is_name.binds (ps := ["thing"]) fun _ _ _ _ _ _ us hl => match us, hl with | [_], _ => rfl
  have F_p_is_cell := fun_mk (st := s_p_is_cell) l_p_is_cell c_p_is_cell k_p_is_cell
  have b_p_is_cell := F_p_is_cell.binds (ps := ["thing"]) fun _ _ _ _ _ _ us hl => match us, hl with | [_], _ => rfl
  have F_p_is_pair := fun_mk (st := s_p_is_pair) l_p_is_pair c_p_is_pair k_p_is_pair
  have b_p_is_pair := F_p_is_pair.binds (ps := ["thing"]) fun _ _ _ _ _ _ us hl => match us, hl with | [_], _ => rfl
  have F_p_is_instruction := fun_mk (st := s_p_is_instruction) l_p_is_instruction c_p_is_instruction k_p_is_instruction
  have b_p_is_instruction := F_p_is_instruction.binds (ps := ["thing"]) fun _ _ _ _ _ _ us hl => match us, hl with | [_], _ => rfl
  have F_p_is_hour := fun_mk (st := s_p_is_hour) l_p_is_hour c_p_is_hour k_p_is_hour
  have b_p_is_hour := F_p_is_hour.binds (ps := ["thing"]) fun _ _ _ _ _ _ us hl => match us, hl with | [_], _ => rfl
  have F_p_as_tuples := fun_mk (st := s_p_as_tuples) l_p_as_tuples c_p_as_tuples k_p_as_tuples
  have b_p_as_tuples := F_p_as_tuples.binds (ps := ["thing"]) fun _ _ _ _ _ _ us hl => match us, hl with | [_], _ => rfl
  have F_l_is_name := fun_mk (st := s_l_is_name) l_l_is_name c_l_is_name k_l_is_name
  have b_l_is_name := F_l_is_name.binds (ps := ["_law_thing"]) fun _ _ _ _ _ _ us hl => match us, hl with | [_], _ => rfl
  have F_l_is_cell := fun_mk (st := s_l_is_cell) l_l_is_cell c_l_is_cell k_l_is_cell
  have b_l_is_cell := F_l_is_cell.binds (ps := ["_law_thing"]) fun _ _ _ _ _ _ us hl => match us, hl with | [_], _ => rfl
  have F_l_is_pair := fun_mk (st := s_l_is_pair) l_l_is_pair c_l_is_pair k_l_is_pair
  have b_l_is_pair := F_l_is_pair.binds (ps := ["_law_thing"]) fun _ _ _ _ _ _ us hl => match us, hl with | [_], _ => rfl
  have F_l_is_row := fun_mk (st := s_l_is_row) l_l_is_row c_l_is_row k_l_is_row
  have b_l_is_row := F_l_is_row.binds (ps := ["_law_thing"]) fun _ _ _ _ _ _ us hl => match us, hl with | [_], _ => rfl
  have F_l_pairs_fault := fun_mk (st := s_l_pairs_fault) l_l_pairs_fault c_l_pairs_fault k_l_pairs_fault
  have b_l_pairs_fault := F_l_pairs_fault.binds (ps := ["_law_thing", "_law_is_read"]) fun _ _ _ _ _ _ us hl => match us, hl with | [_, _], _ => rfl
  have F_l_fault := fun_mk (st := s_l_fault) l_l_fault c_l_fault k_l_fault
  have b_l_fault := F_l_fault.binds (ps := ["_law_reads", "_law_hours", "_law_tells"]) fun _ _ _ _ _ _ us hl => match us, hl with | [_, _, _], _ => rfl
  have F_l_each_once := fun_mk (st := s_l_each_once) l_l_each_once c_l_each_once k_l_each_once
  have b_l_each_once := F_l_each_once.binds (ps := ["_law_things"]) fun _ _ _ _ _ _ us hl => match us, hl with | [_], _ => rfl
  have F_l_a_name := fun_mk (st := s_l_a_name) l_l_a_name c_l_a_name k_l_a_name
  have b_l_a_name := F_l_a_name.binds (ps := ["_law_stream", "_law_taken"]) fun _ _ _ _ _ _ us hl => match us, hl with | [_, _], _ => rfl
  have F_l_a_expr := fun_mk (st := s_l_a_expr) l_l_a_expr c_l_a_expr k_l_a_expr
  have b_l_a_expr := F_l_a_expr.binds (ps := ["_law_stream", "_law_known", "_law_ops", "_law_deep"]) fun _ _ _ _ _ _ us hl => match us, hl with | [_, _, _, _], _ => rfl
  have F_l_a_lines := fun_mk (st := s_l_a_lines) l_l_a_lines c_l_a_lines k_l_a_lines
  have b_l_a_lines := F_l_a_lines.binds (ps := ["_law_stream", "_law_many", "_law_deep"]) fun _ _ _ _ _ _ us hl => match us, hl with | [_, _, _], _ => rfl
  have F_l_a_term := fun_mk (st := s_l_a_term) l_l_a_term c_l_a_term k_l_a_term
  have b_l_a_term := F_l_a_term.binds (ps := ["_law_rows", "_law_means", "_law_expr"]) fun _ _ _ _ _ _ us hl => match us, hl with | [_, _, _], _ => rfl
  have F_l_a_terms := fun_mk (st := s_l_a_terms) l_l_a_terms c_l_a_terms k_l_a_terms
  have b_l_a_terms := F_l_a_terms.binds (ps := ["_law_lines"]) fun _ _ _ _ _ _ us hl => match us, hl with | [_], _ => rfl
  have F_l_a_needed := fun_mk (st := s_l_a_needed) l_l_a_needed c_l_a_needed k_l_a_needed
  have b_l_a_needed := F_l_a_needed.binds (ps := ["_law_rows", "_law_told"]) fun _ _ _ _ _ _ us hl => match us, hl with | [_, _], _ => rfl
  have F_l_a_program := fun_mk (st := s_l_a_program) l_l_a_program c_l_a_program k_l_a_program
  have b_l_a_program := F_l_a_program.binds (ps := ["_law_stream", "_law_lines"]) fun _ _ _ _ _ _ us hl => match us, hl with | [_, _], _ => rfl
  have F_l_same := fun_mk (st := s_l_same) l_l_same c_l_same k_l_same
  have b_l_same := F_l_same.binds (ps := ["_law_found", "_law_due"]) fun _ _ _ _ _ _ us hl => match us, hl with | [_, _], _ => rfl
  have F_l_loose := fun_mk (st := s_l_loose) l_l_loose c_l_loose k_l_loose
  have b_l_loose := F_l_loose.binds (ps := ["_law_stream", "_law_thing"]) fun _ _ _ _ _ _ us hl => match us, hl with | [_, _], _ => rfl
  have F_l_odd_pairs := fun_mk (st := s_l_odd_pairs) l_l_odd_pairs c_l_odd_pairs k_l_odd_pairs
  have b_l_odd_pairs := F_l_odd_pairs.binds (ps := ["_law_stream", "_law_pairs"]) fun _ _ _ _ _ _ us hl => match us, hl with | [_, _], _ => rfl
  have F_l_odd_hours := fun_mk (st := s_l_odd_hours) l_l_odd_hours c_l_odd_hours k_l_odd_hours
  have b_l_odd_hours := F_l_odd_hours.binds (ps := ["_law_stream", "_law_hours"]) fun _ _ _ _ _ _ us hl => match us, hl with | [_, _], _ => rfl
  have F_l_met := fun_mk (st := s_l_met) l_l_met c_l_met k_l_met
  have b_l_met := F_l_met.binds (ps := ["_law_reads", "_law_hours", "_law_tells"]) fun _ _ _ _ _ _ us hl => match us, hl with | [_, _, _], _ => rfl
  have F_l_told_right := fun_mk (st := s_l_told_right) l_l_told_right c_l_told_right k_l_told_right
  have b_l_told_right := F_l_told_right.binds (ps := ["_law_stream", "_law_reads", "_law_hours", "_law_tells"]) fun _ _ _ _ _ _ us hl => match us, hl with | [_, _, _, _], _ => rfl
  have F_l_bent_right := fun_mk (st := s_l_bent_right) l_l_bent_right c_l_bent_right k_l_bent_right
  have b_l_bent_right := F_l_bent_right.binds (ps := ["_law_stream", "_law_reads", "_law_hours", "_law_tells"]) fun _ _ _ _ _ _ us hl => match us, hl with | [_, _, _, _], _ => rfl
  have F_law := fun_mk (st := s_law) l_law c_law k_law
  have b_law := F_law.binds (ps := ["_law_script"]) fun _ _ _ _ _ _ us hl => match us, hl with | [_], _ => rfl
  have F_p_BadReads_init := fun_mk (st := s_p_BadReads_init) l_p_BadReads_init c_p_BadReads_init k_p_BadReads_init
  have b_p_BadReads_init := F_p_BadReads_init.binds (ps := ["self", "index"]) fun _ _ _ _ _ _ us hl => match us, hl with | [_, _], _ => rfl
  have F_p_BadHours_init := fun_mk (st := s_p_BadHours_init) l_p_BadHours_init c_p_BadHours_init k_p_BadHours_init
  have b_p_BadHours_init := F_p_BadHours_init.binds (ps := ["self", "index"]) fun _ _ _ _ _ _ us hl => match us, hl with | [_, _], _ => rfl
  have F_p_BadTells_init := fun_mk (st := s_p_BadTells_init) l_p_BadTells_init c_p_BadTells_init k_p_BadTells_init
  have b_p_BadTells_init := F_p_BadTells_init.binds (ps := ["self", "index"]) fun _ _ _ _ _ _ us hl => match us, hl with | [_, _], _ => rfl
  have F_p_Program_init := fun_mk (st := s_p_Program_init) l_p_Program_init c_p_Program_init k_p_Program_init
  have b_p_Program_init := F_p_Program_init.binds (ps := ["self", "reads", "hours", "tells"]) fun _ _ _ _ _ _ us hl => match us, hl with | [_, _, _, _], _ => rfl
  have F_p_Program_reads := fun_mk (st := s_p_Program_reads) l_p_Program_reads c_p_Program_reads k_p_Program_reads
  have b_p_Program_reads := F_p_Program_reads.binds (ps := ["self"]) fun _ _ _ _ _ _ us hl => match us, hl with | [_], _ => rfl
  have F_p_Program_hours := fun_mk (st := s_p_Program_hours) l_p_Program_hours c_p_Program_hours k_p_Program_hours
  have b_p_Program_hours := F_p_Program_hours.binds (ps := ["self"]) fun _ _ _ _ _ _ us hl => match us, hl with | [_], _ => rfl
  have F_p_Program_tells := fun_mk (st := s_p_Program_tells) l_p_Program_tells c_p_Program_tells k_p_Program_tells
  have b_p_Program_tells := F_p_Program_tells.binds (ps := ["self"]) fun _ _ _ _ _ _ us hl => match us, hl with | [_], _ => rfl
  have F_p_Program_eq := fun_mk (st := s_p_Program_eq) l_p_Program_eq c_p_Program_eq k_p_Program_eq
  have b_p_Program_eq := F_p_Program_eq.binds (ps := ["self", "other"]) fun _ _ _ _ _ _ us hl => match us, hl with | [_, _], _ => rfl
  refine ⟨["_law_script"], fun base _ _ => ?_⟩
  have C_l_start := ok_l_start (P := l.prog) (w := w) (base := base) F_l_start b_l_start (PySem.W.mg_of X G a_l_start) T 
  have C_l_draw := ok_l_draw (P := l.prog) (w := w) (base := base) F_l_draw b_l_draw (PySem.W.mg_of X G a_l_draw) T 
  have C_l_pick := ok_l_pick (P := l.prog) (w := w) (base := base) F_l_pick b_l_pick (PySem.W.mg_of X G a_l_pick) T C_l_draw
  have C_l_mixed := ok_l_mixed (P := l.prog) (w := w) (base := base) F_l_mixed b_l_mixed (PySem.W.mg_of X G a_l_mixed) T C_l_draw
  have C_p_is_list := ok_p_is_list (P := l.prog) (w := w) (base := base) F_p_is_list b_p_is_list (PySem.W.mg_of X G a_p_is_list) T 
  have C_p_is_integer := ok_p_is_integer (P := l.prog) (w := w) (base := base) F_p_is_integer b_p_is_integer (PySem.W.mg_of X G a_p_is_integer) T 
  have C_p_is_name := ok_p_is_name (P := l.prog) (w := w) (base := base) F_p_is_name b_p_is_name (PySem.W.mg_of X G a_p_is_name) T 
  have C_p_is_cell := ok_p_is_cell (P := l.prog) (w := w) (base := base) F_p_is_cell b_p_is_cell (PySem.W.mg_of X G a_p_is_cell) T C_p_is_integer
  have C_p_is_pair := ok_p_is_pair (P := l.prog) (w := w) (base := base) F_p_is_pair b_p_is_pair (PySem.W.mg_of X G a_p_is_pair) T C_p_is_list C_p_is_name C_p_is_cell
  have C_p_is_instruction := ok_p_is_instruction (P := l.prog) (w := w) (base := base) F_p_is_instruction b_p_is_instruction (PySem.W.mg_of X G a_p_is_instruction) T C_p_is_list C_p_is_cell C_p_is_name
  have C_p_is_hour := ok_p_is_hour (P := l.prog) (w := w) (base := base) F_p_is_hour b_p_is_hour (PySem.W.mg_of X G a_p_is_hour) T C_p_is_list C_p_is_instruction
  have C_p_as_tuples : Cal l.prog w K mg base 31 "as_tuples" (spAsTuples 30) [] := okr_p_as_tuples F_p_as_tuples b_p_as_tuples (PySem.W.mg_of X G a_p_as_tuples) T C_p_is_list 30
  have C_l_is_name := ok_l_is_name (P := l.prog) (w := w) (base := base) F_l_is_name b_l_is_name (PySem.W.mg_of X G a_l_is_name) T 
  have C_l_is_cell := ok_l_is_cell (P := l.prog) (w := w) (base := base) F_l_is_cell b_l_is_cell (PySem.W.mg_of X G a_l_is_cell) T 
  have C_l_is_pair := ok_l_is_pair (P := l.prog) (w := w) (base := base) F_l_is_pair b_l_is_pair (PySem.W.mg_of X G a_l_is_pair) T C_l_is_name C_l_is_cell
  have C_l_is_row := ok_l_is_row (P := l.prog) (w := w) (base := base) F_l_is_row b_l_is_row (PySem.W.mg_of X G a_l_is_row) T C_l_is_cell C_l_is_name
  have C_l_pairs_fault := ok_l_pairs_fault (P := l.prog) (w := w) (base := base) F_l_pairs_fault b_l_pairs_fault (PySem.W.mg_of X G a_l_pairs_fault) T C_l_is_pair
  have C_l_fault := ok_l_fault (P := l.prog) (w := w) (base := base) F_l_fault b_l_fault (PySem.W.mg_of X G a_l_fault) T C_l_pairs_fault C_l_is_row
  have C_l_each_once := ok_l_each_once (P := l.prog) (w := w) (base := base) F_l_each_once b_l_each_once (PySem.W.mg_of X G a_l_each_once) T 
  have C_l_a_name := ok_l_a_name (P := l.prog) (w := w) (base := base) F_l_a_name b_l_a_name (PySem.W.mg_of X G a_l_a_name) T C_l_pick
  have C_l_a_expr : Cal l.prog w K mg base 8 "_law_a_expr" (spAExpr 5) [] := okr_l_a_expr F_l_a_expr b_l_a_expr (PySem.W.mg_of X G a_l_a_expr) T C_l_draw C_l_pick 5
  have C_l_a_lines := ok_l_a_lines (P := l.prog) (w := w) (base := base) F_l_a_lines b_l_a_lines (PySem.W.mg_of X G a_l_a_lines) T C_l_mixed C_l_draw C_l_a_name C_l_pick C_l_a_expr C_l_each_once
  have C_l_a_term : Cal l.prog w K mg base 10 "_law_a_term" (spATerm 9) [] := okr_l_a_term F_l_a_term b_l_a_term (PySem.W.mg_of X G a_l_a_term) T  9
  have C_l_a_terms := ok_l_a_terms (P := l.prog) (w := w) (base := base) F_l_a_terms b_l_a_terms (PySem.W.mg_of X G a_l_a_terms) T C_l_a_term
  have C_l_a_needed := ok_l_a_needed (P := l.prog) (w := w) (base := base) F_l_a_needed b_l_a_needed (PySem.W.mg_of X G a_l_a_needed) T 
  have C_l_a_program := ok_l_a_program (P := l.prog) (w := w) (base := base) F_l_a_program b_l_a_program (PySem.W.mg_of X G a_l_a_program) T C_l_a_terms C_l_mixed C_l_a_needed C_l_pick
  have C_l_same : Cal l.prog w K mg base 21 "_law_same" (spSame 20) [] := okr_l_same F_l_same b_l_same (PySem.W.mg_of X G a_l_same) T  20
  have C_l_loose : Cal l.prog w K mg base 22 "_law_loose" (spLoose 20) [] := okr_l_loose F_l_loose b_l_loose (PySem.W.mg_of X G a_l_loose) T C_l_draw 20
  have C_l_odd_pairs := ok_l_odd_pairs (P := l.prog) (w := w) (base := base) F_l_odd_pairs b_l_odd_pairs (PySem.W.mg_of X G a_l_odd_pairs) T C_l_pick
  have C_l_odd_hours := ok_l_odd_hours (P := l.prog) (w := w) (base := base) F_l_odd_hours b_l_odd_hours (PySem.W.mg_of X G a_l_odd_hours) T 
  have M_BadReads := okm_p_BadReads_init (P := l.prog) (w := w) (mg := mg) (base := base) F_p_BadReads_init T
  have B_BadReads : OwnErr l.prog w K mg base 1 "BadReads" cR (spOneF "index" cR) := ⟨T.oexcR, ⟨_, _, _, a_p_BadReads_init, t_p_BadReads_init, M_BadReads, b_p_BadReads_init⟩, PySem.W.mg_of X G acR⟩
  have M_BadHours := okm_p_BadHours_init (P := l.prog) (w := w) (mg := mg) (base := base) F_p_BadHours_init T
  have B_BadHours : OwnErr l.prog w K mg base 1 "BadHours" cH (spOneF "index" cH) := ⟨T.oexcH, ⟨_, _, _, a_p_BadHours_init, t_p_BadHours_init, M_BadHours, b_p_BadHours_init⟩, PySem.W.mg_of X G acH⟩
  have M_BadTells := okm_p_BadTells_init (P := l.prog) (w := w) (mg := mg) (base := base) F_p_BadTells_init T
  have B_BadTells : OwnErr l.prog w K mg base 1 "BadTells" cT (spOneF "index" cT) := ⟨T.oexcT, ⟨_, _, _, a_p_BadTells_init, t_p_BadTells_init, M_BadTells, b_p_BadTells_init⟩, PySem.W.mg_of X G acT⟩
  have M_prg : Mk K cS f_p_Program_init := ⟨mk, a_p_Program_init, i_p_Program_init, kS⟩
  have I_init := okm_p_Program_init (P := l.prog) (w := w) (mg := mg) (base := base) F_p_Program_init T C_p_is_list C_p_is_pair C_p_is_hour C_p_as_tuples B_BadReads B_BadHours B_BadTells
  have I_reads := okm_p_Program_reads (P := l.prog) (w := w) (mg := mg) (base := base) F_p_Program_reads T
  have I_hours := okm_p_Program_hours (P := l.prog) (w := w) (mg := mg) (base := base) F_p_Program_hours T
  have I_tells := okm_p_Program_tells (P := l.prog) (w := w) (mg := mg) (base := base) F_p_Program_tells T
  have I_eq := okm_p_Program_eq (P := l.prog) (w := w) (mg := mg) (base := base) F_p_Program_eq T
  have C_l_met := ok_l_met (P := l.prog) (w := w) (base := base) F_l_met b_l_met (PySem.W.mg_of X G a_l_met) T B_BadReads B_BadHours B_BadTells M_prg I_init b_p_Program_init
  have kb_init := kb_of F_p_Program_init
  have G_told := ok_l_told_right (P := l.prog) (w := w) (base := base) F_l_told_right b_l_told_right T C_l_loose C_l_same B_BadReads B_BadHours B_BadTells M_prg I_init b_p_Program_init kb_init ⟨a_p_Program_reads, i_p_Program_reads, k_p_Program_reads⟩ I_reads b_p_Program_reads ⟨a_p_Program_hours, i_p_Program_hours, k_p_Program_hours⟩ I_hours b_p_Program_hours ⟨a_p_Program_tells, i_p_Program_tells, k_p_Program_tells⟩ I_tells b_p_Program_tells ⟨a_p_Program_eq, i_p_Program_eq, ne, hm⟩ I_eq b_p_Program_eq
  have C_l_told_right : CalG l.prog w K mg base 34 "_law_told_right" spTold5 := ⟨⟨_, _, G_told, PySem.W.mg_of X G a_l_told_right, k_l_told_right⟩⟩
  have C_l_bent_right := ok_l_bent_right (P := l.prog) (w := w) (base := base) F_l_bent_right b_l_bent_right (PySem.W.mg_of X G a_l_bent_right) T C_l_odd_pairs C_l_mixed C_l_odd_hours C_l_draw C_l_fault C_l_met C_l_same
  exact ok_law F_law b_law T C_l_start C_l_draw C_l_a_lines C_l_a_program C_l_fault C_l_told_right C_l_bent_right B_BadReads B_BadHours B_BadTells M_prg I_init b_p_Program_init kb_init ⟨a_p_Program_reads, i_p_Program_reads, k_p_Program_reads⟩ I_reads b_p_Program_reads ⟨a_p_Program_hours, i_p_Program_hours, k_p_Program_hours⟩ I_hours b_p_Program_hours ⟨a_p_Program_tells, i_p_Program_tells, k_p_Program_tells⟩ I_tells b_p_Program_tells ⟨a_p_Program_eq, i_p_Program_eq, ne, hm⟩ I_eq b_p_Program_eq
end Tw
end

section
open PySem PySem.W PyProof.Rows
set_option Elab.async false
set_option maxRecDepth 100000 in
set_option maxHeartbeats 0 in
theorem PySem.Challenge.cw_twoslots_k05_whole_programs_holds : PySem.Challenge.rw_twoslots_k05_whole_programs.Holds := by
  w_on; o_law; k_head; (case hw => w_witness2)
  k_fill
  refine Tw.walkG (l := PySem.Challenge.rw_twoslots_k05_whole_programs) (n := 63) (k := 36) (sp := fun w => Tw.spLaw5 _) rfl (by decide) rfl ⟨rfl, by decide, by decide⟩ (fun w h Y => PySem.W.kIn_of Y) ?F (fun w H a ns hl _ hS => ⟨a, ns, rfl, hS, Nat.le_trans hl (by decide), fun _ => rfl⟩)
  case F =>
    intro w mg fa h KX G hmg
    refine' Tw.all_mk KX G hmg ?aS ?acR ?acH ?acT ?a_l_start ?l_l_start ?c_l_start ?k_l_start ?a_l_draw ?l_l_draw ?c_l_draw ?k_l_draw ?a_l_pick ?l_l_pick ?c_l_pick ?k_l_pick ?a_l_mixed ?l_l_mixed ?c_l_mixed ?k_l_mixed ?a_p_is_list ?l_p_is_list ?c_p_is_list ?k_p_is_list ?a_p_is_integer ?l_p_is_integer ?c_p_is_integer ?k_p_is_integer ?a_p_is_name ?l_p_is_name ?c_p_is_name ?k_p_is_name ?a_p_is_cell ?l_p_is_cell ?c_p_is_cell ?k_p_is_cell ?a_p_is_pair ?l_p_is_pair ?c_p_is_pair ?k_p_is_pair ?a_p_is_instruction ?l_p_is_instruction ?c_p_is_instruction ?k_p_is_instruction ?a_p_is_hour ?l_p_is_hour ?c_p_is_hour ?k_p_is_hour ?a_p_as_tuples ?l_p_as_tuples ?c_p_as_tuples ?k_p_as_tuples ?a_l_is_name ?l_l_is_name ?c_l_is_name ?k_l_is_name ?a_l_is_cell ?l_l_is_cell ?c_l_is_cell ?k_l_is_cell ?a_l_is_pair ?l_l_is_pair ?c_l_is_pair ?k_l_is_pair ?a_l_is_row ?l_l_is_row ?c_l_is_row ?k_l_is_row ?a_l_pairs_fault ?l_l_pairs_fault ?c_l_pairs_fault ?k_l_pairs_fault ?a_l_fault ?l_l_fault ?c_l_fault ?k_l_fault ?a_l_each_once ?l_l_each_once ?c_l_each_once ?k_l_each_once ?a_l_a_name ?l_l_a_name ?c_l_a_name ?k_l_a_name ?a_l_a_expr ?l_l_a_expr ?c_l_a_expr ?k_l_a_expr ?a_l_a_lines ?l_l_a_lines ?c_l_a_lines ?k_l_a_lines ?a_l_a_term ?l_l_a_term ?c_l_a_term ?k_l_a_term ?a_l_a_terms ?l_l_a_terms ?c_l_a_terms ?k_l_a_terms ?a_l_a_needed ?l_l_a_needed ?c_l_a_needed ?k_l_a_needed ?a_l_a_program ?l_l_a_program ?c_l_a_program ?k_l_a_program ?a_l_same ?l_l_same ?c_l_same ?k_l_same ?a_l_loose ?l_l_loose ?c_l_loose ?k_l_loose ?a_l_odd_pairs ?l_l_odd_pairs ?c_l_odd_pairs ?k_l_odd_pairs ?a_l_odd_hours ?l_l_odd_hours ?c_l_odd_hours ?k_l_odd_hours ?a_l_met ?l_l_met ?c_l_met ?k_l_met ?a_l_told_right ?l_l_told_right ?c_l_told_right ?k_l_told_right ?a_l_bent_right ?l_l_bent_right ?c_l_bent_right ?k_l_bent_right ?a_law ?l_law ?c_law ?k_law ?a_p_BadReads_init ?l_p_BadReads_init ?c_p_BadReads_init ?k_p_BadReads_init ?t_p_BadReads_init ?a_p_BadHours_init ?l_p_BadHours_init ?c_p_BadHours_init ?k_p_BadHours_init ?t_p_BadHours_init ?a_p_BadTells_init ?l_p_BadTells_init ?c_p_BadTells_init ?k_p_BadTells_init ?t_p_BadTells_init ?a_p_Program_init ?l_p_Program_init ?c_p_Program_init ?k_p_Program_init ?i_p_Program_init ?a_p_Program_reads ?l_p_Program_reads ?c_p_Program_reads ?k_p_Program_reads ?i_p_Program_reads ?a_p_Program_hours ?l_p_Program_hours ?c_p_Program_hours ?k_p_Program_hours ?i_p_Program_hours ?a_p_Program_tells ?l_p_Program_tells ?c_p_Program_tells ?k_p_Program_tells ?i_p_Program_tells ?a_p_Program_eq ?l_p_Program_eq ?c_p_Program_eq ?k_p_Program_eq ?i_p_Program_eq ?pg ?hd ?po ?sa ?mk ?kS ?ha ?hn ?htk ?hm ?icS ?tyS ?noR ?noH ?noT ?sbLi ?sbTu ?ne ?xR ?saR ?exR ?tyR ?kkR ?gaR ?ggR ?hdR ?nxR ?icR ?suR ?xH ?saH ?exH ?tyH ?kkH ?gaH ?ggH ?hdH ?nxH ?icH ?suH ?xT ?saT ?exT ?tyT ?kkT ?gaT ?ggT ?hdT ?nxT ?icT ?suT ?suHR ?suTR ?suTH ?aSm ?aFi ?aWo ?lWo ?z_all ?z_bool ?z_dict ?z_enumerate ?z_int ?z_isinstance ?z_len ?z_list ?z_max ?z_range ?z_repr ?z_str ?z_tuple ?z_zip
    (case aS => k_is)
    (case acR => k_is)
    (case acH => k_is)
    (case acT => k_is)
    (case a_l_start => k_is)
    (case l_l_start => k_is)
    (case c_l_start => k_is)
    (case k_l_start => k_is)
    (case a_l_draw => k_is)
    (case l_l_draw => k_is)
    (case c_l_draw => k_is)
    (case k_l_draw => k_is)
    (case a_l_pick => k_is)
    (case l_l_pick => k_is)
    (case c_l_pick => k_is)
    (case k_l_pick => k_is)
    (case a_l_mixed => k_is)
    (case l_l_mixed => k_is)
    (case c_l_mixed => k_is)
    (case k_l_mixed => k_is)
    (case a_p_is_list => k_is)
    (case l_p_is_list => k_is)
    (case c_p_is_list => k_is)
    (case k_p_is_list => k_is)
    (case a_p_is_integer => k_is)
    (case l_p_is_integer => k_is)
    (case c_p_is_integer => k_is)
    (case k_p_is_integer => k_is)
    (case a_p_is_name => k_is)
    (case l_p_is_name => k_is)
    (case c_p_is_name => k_is)
    (case k_p_is_name => k_is)
    (case a_p_is_cell => k_is)
    (case l_p_is_cell => k_is)
    (case c_p_is_cell => k_is)
    (case k_p_is_cell => k_is)
    (case a_p_is_pair => k_is)
    (case l_p_is_pair => k_is)
    (case c_p_is_pair => k_is)
    (case k_p_is_pair => k_is)
    (case a_p_is_instruction => k_is)
    (case l_p_is_instruction => k_is)
    (case c_p_is_instruction => k_is)
    (case k_p_is_instruction => k_is)
    (case a_p_is_hour => k_is)
    (case l_p_is_hour => k_is)
    (case c_p_is_hour => k_is)
    (case k_p_is_hour => k_is)
    (case a_p_as_tuples => k_is)
    (case l_p_as_tuples => k_is)
    (case c_p_as_tuples => k_is)
    (case k_p_as_tuples => k_is)
    (case a_l_is_name => k_is)
    (case l_l_is_name => k_is)
    (case c_l_is_name => k_is)
    (case k_l_is_name => k_is)
    (case a_l_is_cell => k_is)
    (case l_l_is_cell => k_is)
    (case c_l_is_cell => k_is)
    (case k_l_is_cell => k_is)
    (case a_l_is_pair => k_is)
    (case l_l_is_pair => k_is)
    (case c_l_is_pair => k_is)
    (case k_l_is_pair => k_is)
    (case a_l_is_row => k_is)
    (case l_l_is_row => k_is)
    (case c_l_is_row => k_is)
    (case k_l_is_row => k_is)
    (case a_l_pairs_fault => k_is)
    (case l_l_pairs_fault => k_is)
    (case c_l_pairs_fault => k_is)
    (case k_l_pairs_fault => k_is)
    (case a_l_fault => k_is)
    (case l_l_fault => k_is)
    (case c_l_fault => k_is)
    (case k_l_fault => k_is)
    (case a_l_each_once => k_is)
    (case l_l_each_once => k_is)
    (case c_l_each_once => k_is)
    (case k_l_each_once => k_is)
    (case a_l_a_name => k_is)
    (case l_l_a_name => k_is)
    (case c_l_a_name => k_is)
    (case k_l_a_name => k_is)
    (case a_l_a_expr => k_is)
    (case l_l_a_expr => k_is)
    (case c_l_a_expr => k_is)
    (case k_l_a_expr => k_is)
    (case a_l_a_lines => k_is)
    (case l_l_a_lines => k_is)
    (case c_l_a_lines => k_is)
    (case k_l_a_lines => k_is)
    (case a_l_a_term => k_is)
    (case l_l_a_term => k_is)
    (case c_l_a_term => k_is)
    (case k_l_a_term => k_is)
    (case a_l_a_terms => k_is)
    (case l_l_a_terms => k_is)
    (case c_l_a_terms => k_is)
    (case k_l_a_terms => k_is)
    (case a_l_a_needed => k_is)
    (case l_l_a_needed => k_is)
    (case c_l_a_needed => k_is)
    (case k_l_a_needed => k_is)
    (case a_l_a_program => k_is)
    (case l_l_a_program => k_is)
    (case c_l_a_program => k_is)
    (case k_l_a_program => k_is)
    (case a_l_same => k_is)
    (case l_l_same => k_is)
    (case c_l_same => k_is)
    (case k_l_same => k_is)
    (case a_l_loose => k_is)
    (case l_l_loose => k_is)
    (case c_l_loose => k_is)
    (case k_l_loose => k_is)
    (case a_l_odd_pairs => k_is)
    (case l_l_odd_pairs => k_is)
    (case c_l_odd_pairs => k_is)
    (case k_l_odd_pairs => k_is)
    (case a_l_odd_hours => k_is)
    (case l_l_odd_hours => k_is)
    (case c_l_odd_hours => k_is)
    (case k_l_odd_hours => k_is)
    (case a_l_met => k_is)
    (case l_l_met => k_is)
    (case c_l_met => k_is)
    (case k_l_met => k_is)
    (case a_l_told_right => k_is)
    (case l_l_told_right => k_is)
    (case c_l_told_right => k_is)
    (case k_l_told_right => k_is)
    (case a_l_bent_right => k_is)
    (case l_l_bent_right => k_is)
    (case c_l_bent_right => k_is)
    (case k_l_bent_right => k_is)
    (case a_law => k_is)
    (case l_law => k_is)
    (case c_law => k_is)
    (case k_law => k_is)
    (case a_p_BadReads_init => k_is)
    (case l_p_BadReads_init => k_is)
    (case c_p_BadReads_init => k_is)
    (case k_p_BadReads_init => k_is)
    (case t_p_BadReads_init => k_is)
    (case a_p_BadHours_init => k_is)
    (case l_p_BadHours_init => k_is)
    (case c_p_BadHours_init => k_is)
    (case k_p_BadHours_init => k_is)
    (case t_p_BadHours_init => k_is)
    (case a_p_BadTells_init => k_is)
    (case l_p_BadTells_init => k_is)
    (case c_p_BadTells_init => k_is)
    (case k_p_BadTells_init => k_is)
    (case t_p_BadTells_init => k_is)
    (case a_p_Program_init => k_is)
    (case l_p_Program_init => k_is)
    (case c_p_Program_init => k_is)
    (case k_p_Program_init => k_is)
    (case i_p_Program_init => k_is)
    (case a_p_Program_reads => k_is)
    (case l_p_Program_reads => k_is)
    (case c_p_Program_reads => k_is)
    (case k_p_Program_reads => k_is)
    (case i_p_Program_reads => k_is)
    (case a_p_Program_hours => k_is)
    (case l_p_Program_hours => k_is)
    (case c_p_Program_hours => k_is)
    (case k_p_Program_hours => k_is)
    (case i_p_Program_hours => k_is)
    (case a_p_Program_tells => k_is)
    (case l_p_Program_tells => k_is)
    (case c_p_Program_tells => k_is)
    (case k_p_Program_tells => k_is)
    (case i_p_Program_tells => k_is)
    (case a_p_Program_eq => k_is)
    (case l_p_Program_eq => k_is)
    (case c_p_Program_eq => k_is)
    (case k_p_Program_eq => k_is)
    (case i_p_Program_eq => k_is)
    (case pg => k_is)
    (case hd => k_is)
    (case po => k_is)
    (case sa => k_is)
    (case mk => k_is)
    (case kS => k_is)
    (case ha => k_is)
    (case hn => k_is)
    (case htk => k_is)
    (case hm => k_is)
    (case icS => k_is)
    (case tyS => k_is)
    (case noR => k_is)
    (case noH => k_is)
    (case noT => k_is)
    (case sbLi => k_is)
    (case sbTu => k_is)
    (case ne => k_is)
    (case xR => k_is)
    (case saR => k_is)
    (case exR => k_is)
    (case tyR => k_is)
    (case kkR => k_is)
    (case gaR => k_is)
    (case ggR => k_is)
    (case hdR => k_is)
    (case nxR => k_is)
    (case icR => k_is)
    (case suR => k_is)
    (case xH => k_is)
    (case saH => k_is)
    (case exH => k_is)
    (case tyH => k_is)
    (case kkH => k_is)
    (case gaH => k_is)
    (case ggH => k_is)
    (case hdH => k_is)
    (case nxH => k_is)
    (case icH => k_is)
    (case suH => k_is)
    (case xT => k_is)
    (case saT => k_is)
    (case exT => k_is)
    (case tyT => k_is)
    (case kkT => k_is)
    (case gaT => k_is)
    (case ggT => k_is)
    (case hdT => k_is)
    (case nxT => k_is)
    (case icT => k_is)
    (case suT => k_is)
    (case suHR => k_is)
    (case suTR => k_is)
    (case suTH => k_is)
    (case aSm => k_is)
    (case aFi => k_is)
    (case aWo => k_is)
    (case lWo => k_is)
    (case z_all => k_is)
    (case z_bool => k_is)
    (case z_dict => k_is)
    (case z_enumerate => k_is)
    (case z_int => k_is)
    (case z_isinstance => k_is)
    (case z_len => k_is)
    (case z_list => k_is)
    (case z_max => k_is)
    (case z_range => k_is)
    (case z_repr => k_is)
    (case z_str => k_is)
    (case z_tuple => k_is)
    (case z_zip => k_is)
end
