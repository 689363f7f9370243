import PyProof.Rows.All
import Wide.All
import OpenK.AllK
import Wide.FinOn
import HandS.ForMost
import HandS.IsInst
import HandS.Deep
import HandS.Conv
import HandS.TupAny
import HandS.Style
import HandS.Zip
import HandS.ExcInit
import HandS.WordsExc
import HandS.OwnEq
import HandS.ListItems
import HandS.More
import KE.GoesMore
import PyProof.P3In
import HandS.Small
import HandS.Walk
import HandS.MakeKw
import HandS.ExcField
import HandS.Ends
import HandS.MakeKwOnly
import PySem.Challenge.RW_twoslots_k01_whole_sources
section
set_option Elab.async false
set_option linter.all false
set_option maxRecDepth 100000
set_option maxHeartbeats 4000000
/-! Rules of any kind of operand, data over the heap, and what stays. -/
namespace Tw
open PySem L2 PyProof.Rows

/-! ### unions: a rule holds if one of two does -/
section
variable {X : Cx} {e a b : Expr} {t u : TE} {r q : R2} {f : Value → Value → Sem Value}
theorem pe_or (h : PE X e t) (k : PE X e u) : PE X e (fun σ H Q => t σ H Q ∨ u σ H Q) :=
  ⟨fun pins s σ H Q I z => z.elim (h.run pins s σ H Q I) (k.run pins s σ H Q I)⟩
theorem op_or (h : OpR X f r) (k : OpR X f q) : OpR X f (fun x y H Q => r x y H Q ∨ q x y H Q) :=
  fun pins s σ H x y v u Q I rx ry z => z.elim (h pins s σ H x y v u Q I rx ry) (k pins s σ H x y v u Q I rx ry)
theorem call_or {f : Value} {r q : List V → Hp → VK → Prop} (h : CallR X f r) (k : CallR X f q) : CallR X f (fun xs H Q => r xs H Q ∨ q xs H Q) :=
  fun pins s σ H xs us Q I rx z => z.elim (h pins s σ H xs us Q I rx) (k pins s σ H xs us Q I rx)
theorem mt_or {id : String} {r q : V → List V → Hp → VK → Prop} (h : MtR X id r) (k : MtR X id q) : MtR X id (fun x xs H Q => r x xs H Q ∨ q x xs H Q) := by
  intro pins s σ H x xs u us Q I rx rs z
  exact z.elim (h pins s σ H x xs u us Q I rx rs) (k pins s σ H x xs u us Q I rx rs)
theorem pi_or {tg it : Expr} {w1 w2 : TI} (h : PI X tg it w1) (k : PI X tg it w2) : PI X tg it (fun σ H R => w1 σ H R ∨ w2 σ H R) :=
  ⟨fun pins s σ H R I z => z.elim (h.run pins s σ H R I) (k.run pins s σ H R I)⟩
end

/-! ### list.extend by a tuple -/
theorem list_extend_tup (l : Addr) (items : Array Value) (n : Nat) (b : Addr) (items2 : Array Value) (n2 : Nat) (dd : Option Addr) (sl : Array (Option Value)) (hs0 : ¬(!items.isEmpty && Builtin.List.listTooLong (items.size + items2.size)) = true) (hs1 : items.size ≤ sizeLine) (hs2 : items.size + items2.size ≤ sizeLine + 1) :
    Meets (Builtin.«list.extend» ⟨[.ref l, .ref b], []⟩) (fun _ R s => s.heap.get? l = some { cls := .type "list", dict := none, data := .seq items n, slots := #[] } ∧ s.heap.get? b = some { cls := .type "tuple", dict := dd, data := .seq items2 n2, slots := sl } ∧ R (.ok (.ret Value.none)) { s with heap := s.heap.update l (Obj.mapSeq fun x => x ++ items2), toks := s.toks }) :=
  .of_wp fun prog w A R s h => by
    obtain ⟨hp, g, d, tk, os⟩ := s; obtain ⟨hl, hb, h⟩ := h; have f1 := AutoSeq1.idx_int; have f2 := AutoSeq1.sub_tuple_tuple; have f3 := AutoSeq1.sub_list_list; have f4 := AutoSeq1.sub_tuple_list; have f5 := AutoSeq1.sub_list_tuple;
    have hz' : (items ++ items2).size ≤ sizeLine + 1 := by rw [Array.size_append]; exact hs2
    wp_walk using (wpAny_updateSeq hl rfl (hz := hs1) (_hz' := hz')), AutoSeq1.wpAny_loadPart' hl, AutoSeq1.wpAny_loadPart' hb; exact ⟨_, rfl, h⟩
section
variable {X : Cx}
def rExtT (K : PySem.W.Frag) : V → List V → Hp → VK → Prop := fun x vs H Q => ∃ l b xs zs, x = .ref l ∧ vs = [.ref b] ∧ H l = some (.lst xs) ∧ SqT K H b zs ∧ xs.length + zs.length ≤ sizeLine ∧ Q .non (upd H l (.lst (xs ++ zs)))
theorem mt_extendT : MtR X "list.extend" (rExtT X.K) := by
  intro pins s σ H x vs v us Q I rx rv h
  obtain ⟨l, b, xs, zs, rfl, rfl, hH, hB, hz, q⟩ := h
  cases rx
  obtain ⟨u, rfl, ru⟩ := rv.one
  cases ru
  obtain ⟨z, its, n, r, hl, e⟩ := I.lstM hH
  obtain ⟨its2, r2, p2, hl2⟩ := I.tuple hB
  obtain ⟨⟨oc, od, odt, osl⟩, e2, c2, n2, d2⟩ := p2
  replace c2 : oc = .type "tuple" := c2
  replace d2 : odt = .seq its2.toArray n2 := d2
  subst c2 d2
  have hsz : its.toArray.size + its2.toArray.size ≤ sizeLine := by
    rw [List.size_toArray, List.size_toArray]
    have h1 := r.length
    have h2 := r2.length
    omega
  have hlong : ¬ (!its.toArray.isEmpty && Builtin.List.listTooLong (its.toArray.size + its2.toArray.size)) = true := by
    rw [notLongL hsz, Bool.and_false]
    exact Bool.false_ne_true
  refine call_meets F.slot_list_extend ⟨_, e, rfl⟩ F.entry_list_extend (F.args_list_extend_2 _ _)
    (list_extend_tup l its.toArray n b its2.toArray n2 od osl hlong (by omega) (by omega)) ⟨e, e2, ?_⟩
  refine ⟨.non, _, I.lset (its' := its ++ its2) hH e (by simp) (r.append r2) ?_, rfl, q⟩
  rw [List.length_append]
  omega
/-- extend by a list or a tuple -/
theorem mt_extU : MtR X "list.extend" (fun x xs H Q => rExtend x xs H Q ∨ rExtT X.K x xs H Q) := mt_or (fun pins s σ H x xs v us Q I rx rs z => mt_extend pins s σ H x xs v us Q I rx rs z) mt_extendT

/-! ### in, not in: lists and tuples of data -/
def rInT (K : PySem.W.Frag) : R2 := fun x y H Q => ∃ d ds, Dp K H x d ∧ Dp K H y (.tuple ds) ∧ SeqAt.shaped d = true ∧ SeqAt.shaped (.tuple ds) = true ∧ Q (.bl (ds.any fun z => PyData.eqv z d)) H
def rNotInT (K : PySem.W.Frag) : R2 := fun x y H Q => ∃ d ds, Dp K H x d ∧ Dp K H y (.tuple ds) ∧ SeqAt.shaped d = true ∧ SeqAt.shaped (.tuple ds) = true ∧ Q (.bl (!ds.any fun z => PyData.eqv z d)) H
theorem room_inT {A : Around} {ds : List PyData} {d : PyData} (h : SeqAt.shaped d = true) (hu : A.units + 65 < cLine) : A.units + 1 + min (PyData.depthAll ds) d.depth < cLine := by
  have h1 := SeqAt.depth_of_shaped h
  have h2 : min (PyData.depthAll ds) d.depth ≤ d.depth := Nat.min_le_right _ _
  omega
theorem op_inT (hu : X.A.units + 65 < cLine) : OpR X (compareOp .In) (rInT X.K) := by
  intro pins s σ H x y v u Q I rx ry h
  obtain ⟨d, ds, hd, he, sd, se, q⟩ := h
  obtain ⟨as, r1⟩ := Dp.reads I d x v hd rx
  obtain ⟨bs, r2⟩ := Dp.reads I (.tuple ds) y u he ry
  exact SeqAt.in_tuple_reads r2 r1 (SeqAt.canLay_of_shaped se) (SeqAt.canLay_of_shaped sd) (room_inT sd hu) ⟨.bl _, H, I, rfl, q⟩
theorem op_notInT (hu : X.A.units + 65 < cLine) : OpR X (compareOp .NotIn) (rNotInT X.K) := by
  intro pins s σ H x y v u Q I rx ry h
  obtain ⟨d, ds, hd, he, sd, se, q⟩ := h
  obtain ⟨as, r1⟩ := Dp.reads I d x v hd rx
  obtain ⟨bs, r2⟩ := Dp.reads I (.tuple ds) y u he ry
  exact SeqAt.notIn_tuple_reads r2 r1 (SeqAt.canLay_of_shaped se) (SeqAt.canLay_of_shaped sd) (room_inT sd hu) ⟨.bl _, H, I, rfl, q⟩
end

/-! ### enumerate of a tuple -/
theorem meets_enumerate_newT (l : Addr) (items : Array Value) (n : Nat) (dct : Option Addr) (sl : Array (Option Value)) :
    Meets (Builtin.«enumerate.__new__» ⟨[.type "enumerate", .ref l], []⟩) (fun _ R s => s.heap.get? l = some { cls := .type "tuple", dict := dct, data := .seq items n, slots := sl } ∧
      R (.ok (.ret (.ref (s.heap.push { cls := .type "tuple_iterator", data := .fields #[.ref l, .int 0 0] }).objs.size)))
        { s with heap := (s.heap.push { cls := .type "tuple_iterator", data := .fields #[.ref l, .int 0 0] }).push { cls := .type "enumerate", data := .fields #[.none, .bool false, .ref s.heap.objs.size, rawInt 0, .none, .none] } }) :=
  .of_wp fun prog w A R s h => by
    obtain ⟨hp, g, d, tk, os⟩ := s; obtain ⟨hl, h⟩ := h
    have hsub := sub_enumerate
    have hL : Heap.IsTuple (Shared.heap ⟨hp, g, d, tk, os⟩) l items := ⟨_, hl, rfl, n, rfl⟩
    wp_walk using AutoSeq1.wpAny_loadPart' hl
    refine wpAny_stack_any fun st => wpAny_pure ?_
    split
    · rename_i c _ _ _ _ _
      cases (c == Value.type "enumerate")
      · wp_walk using AutoSeq1.wpAny_loadPart' hl, wpAny_pyIter_tuple hL
        exact ⟨_, rfl, h⟩
      · wp_walk using AutoSeq1.wpAny_loadPart' hl, wpAny_pyIter_tuple hL
        exact ⟨_, rfl, h⟩
    · wp_walk using AutoSeq1.wpAny_loadPart' hl, wpAny_pyIter_tuple hL
      exact ⟨_, rfl, h⟩
theorem call_enumerate_tuple {prog : Program} {w : World} {A : Around} {E : Value → Shared → Prop} {s : Shared} {l : Addr} {items : Array Value} {Q : Value → Shared → Prop} (hL : s.heap.IsTuple l items)
    (h : ∀ h', IsEnum h' (s.heap.objs.size + 1) s.heap.objs.size 0 .none → h'.IsTupleIter s.heap.objs.size l 0 → h'.objs.size = s.heap.objs.size + 2 →
      (∀ b o, s.heap.get? b = some o → h'.get? b = some o) → Q (.ref (s.heap.objs.size + 1)) { s with heap := h' }) :
    wpAny (model prog w) A (call (.type "enumerate") [.ref l]) Q E s := by
  obtain ⟨⟨c, dct, dt, sl⟩, hl, hc, n, hd⟩ := hL
  replace hc : c = .type "tuple" := hc
  replace hd : dt = .seq items n := hd
  subst hc hd
  refine callType_new F.called_enumerate (by decide) (F.typeCall_enumerate_1 _) (F.newCall_enumerate_1 _) (fun obj => F.args_object_init_2 obj _) F.entry_enumerate_new
    (meets_enumerate_newT l items n dct sl) ⟨hl, ?_⟩
  have hz : (s.heap.push { cls := .type "tuple_iterator", data := .fields #[.ref l, .int 0 0] }).objs.size = s.heap.objs.size + 1 := Heap.size_push ..
  show _ ∧ _
  rw [hz]
  have he : IsEnum ((s.heap.push { cls := .type "tuple_iterator", data := .fields #[.ref l, .int 0 0] }).push
      { cls := .type "enumerate", data := .fields #[.none, .bool false, .ref s.heap.objs.size, rawInt 0, .none, .none] }) (s.heap.objs.size + 1) s.heap.objs.size 0 .none := by
    have := Heap.get?_push_size (s.heap.push { cls := .type "tuple_iterator", data := .fields #[.ref l, .int 0 0] })
      (o := { cls := .type "enumerate", data := .fields #[.none, .bool false, .ref s.heap.objs.size, rawInt 0, .none, .none] }) rfl
    rw [hz] at this; exact this
  refine ⟨⟨_, he, rfl⟩, h _ he ⟨_, Heap.get?_push_of_some _ (Heap.get?_push_size _ rfl), rfl, rfl⟩ (by rw [Heap.size_push, hz]) fun b o x => Heap.get?_push_of_some _ (Heap.get?_push_of_some _ x)⟩
/-- the tuple at a, each item in a new pair -/
def IteT (K : PySem.W.Frag) (a : Addr) : It :=
  ⟨fun i H => ∃ (xs : List V) (x : V), SqT K H a xs ∧ xs[i]? = some x, fun i H v H' => ∃ T x, v = .ref T ∧ H T = none ∧ H' = upd H T (.tup [.int (i : Nat), x]) ∧ ∀ xs, SqT K H a xs → xs[i]? = some x, fun i H => ∃ xs : List V, SqT K H a xs ∧ xs.length = i⟩
theorem turn_enumT {P : Program} {w : World} {K : PySem.W.Frag} {elts : List Expr} {kk : Nat} {tpos : Pos} (a e it : Addr) :
    Turn P w K (.Tuple elts kk tpos) (IteT K a) [e, it] e (fun i h => (∃ old, IsEnum h e it ((i : Nat) : Int) old) ∧ h.IsTupleIter it a i ∧ e ≠ it) where
  mem := by simp
  obj := fun i h st b hb => by
    obtain ⟨⟨old, he⟩, ⟨o, ho, hc, hd⟩, _⟩ := st
    have e' : b = e ∨ b = it := by simpa using hb
    rcases e' with z | z
    · rw [z]; exact ⟨_, he, fun v q => nomatch q⟩
    · rw [z]; exact ⟨o, ho, fun v q => by rw [hd] at q; cases q⟩
  keep := fun i h h' st k => let ⟨⟨old, he⟩, hi, hne⟩ := st; ⟨⟨old, k e (by simp) _ he⟩, hi.at fun o q => k it (by simp) o q, hne⟩
  item := by
    intro X hP hw hK hc i pins s σ H E I hf st hg
    subst hP hw hK
    obtain ⟨⟨old, he⟩, hit, hne⟩ := st
    obtain ⟨xs, x, hq, hx⟩ := hg
    obtain ⟨its, rv, p, hz⟩ := I.tuple hq
    obtain ⟨u, hu, ru⟩ := rv.get hx
    have hel : e < s.heap.objs.size := Heap.lt_size he
    have hil : it < s.heap.objs.size := by obtain ⟨_, q, _⟩ := hit; exact Heap.lt_size q
    have hai : a ≠ it := fun z => by
      obtain ⟨o1, q1, c1, _⟩ := p
      obtain ⟨o2, q2, c2, _⟩ := hit
      rw [z, q2] at q1
      cases q1
      rw [c2] at c1
      exact absurd c1 (by decide)
    have hae : e ∉ [it, a] := by
      intro z
      have z' : e = it ∨ e = a := by simpa using z
      rcases z' with z' | z'
      · exact hne z'
      · obtain ⟨o1, q1, c1, _⟩ := p
        rw [← z'] at q1
        have q2 : s.heap.get? e = _ := he
        rw [q2] at q1
        cases q1
        exact absurd (show Value.type "enumerate" = Value.type "tuple" from c1) (by decide)
    have hilt : i < its.toArray.size := by
      rw [List.size_toArray]
      exact (List.getElem?_eq_some_iff.mp hu).1
    refine wpAny_pyNext_enum_itemD (Draws.tuple (A := X.A.in1) (I.ok.hd hc) it a hai its.toArray) he ⟨hit, p⟩ hilt hne hae fun x' h' tk hx' ho hst' hT hsz hk => ?_
    have ex' : x' = u := by
      have z : its[i]? = some x' := by simpa using hx'
      rw [hu] at z
      exact (Option.some.inj z).symm
    subst ex'
    have hit' := hst'.1
    refine ⟨_, rfl, wpAny_letOwnedTupleGo_enum (s := { s with heap := h', toks := tk + 1 }) ho fun h'' he' sb => ?_⟩
    have hT2 : h''.get? s.heap.objs.size = some { cls := .type "tuple", data := .seq #[.int i tk, x'] } := (sb.2 _ (Nat.ne_of_gt hel)).trans hT
    have new : ObjOk X.prog X.w (upd H s.heap.objs.size (.tup [.int (i : Nat), x])) h'' s.heap.objs.size (.tup [.int (i : Nat), x]) :=
      ⟨by show 2 ≤ sizeLine; decide, [.int i tk, x'], .cons ⟨_, rfl⟩ (.cons ru .nil), ⟨_, hT2, rfl, _, rfl⟩⟩
    have I1 : Inv X pins σ (upd H s.heap.objs.size (.tup [.int (i : Nat), x])) { s with heap := h'', toks := tk + 1 } :=
      I.turnedNew (ch := [e, it]) (fun b ob hb q => (sb.2 b (fun z => hb (by simp [z]))).trans (hk b ob (fun z => hb (by simp [z])) (fun z => hb (by simp [z])) q)) hf (Nat.le_refl _) new
    refine ⟨.ref s.heap.objs.size, _, I1, rfl, ⟨_, x, rfl, I.hok.fresh (Nat.le_refl _), rfl, fun ys hy => by rw [I.tuple_inj hy hq]; exact hx⟩, ⟨⟨x', ?_⟩, hit'.at fun o q => (sb.2 it (Ne.symm hne)).trans q, hne⟩, fun b hb => ?_⟩
    · have e1 : ((i + 1 : Nat) : Int) = (i : Int) + 1 := by omega
      rw [e1]; exact he'
    · have hb' : b < s.heap.objs.size := by
        have e' : b = e ∨ b = it := by simpa using hb
        rcases e' with z | z
        · rw [z]; exact hel
        · rw [z]; exact hil
      rw [upd_ne (Nat.ne_of_lt hb')]
      exact (hf b hb).1
  done := by
    intro X hP hw hK hc i pins s σ H E I hf st hg
    subst hP hw hK
    obtain ⟨⟨old, he⟩, hit, hne⟩ := st
    obtain ⟨xs, hq, hx⟩ := hg
    obtain ⟨its, rv, p, hz⟩ := I.tuple hq
    obtain ⟨f0, f1, f2, f3, f4, f5⟩ := hf it (by simp)
    have hl := rv.length
    have hai : a ≠ it := fun z => by
      obtain ⟨o1, q1, c1, _⟩ := p
      obtain ⟨o2, q2, c2, _⟩ := hit
      rw [z, q2] at q1
      cases q1
      rw [c2] at c1
      exact absurd c1 (by decide)
    have hsi : i = its.toArray.size := by
      rw [List.size_toArray]
      omega
    subst hsi
    exact wpAny_pyNext_enum_endD (Draws.tuple (A := X.A.in1) (I.ok.hd hc) it a hai its.toArray) he ⟨hit, p⟩ fun h' eb => ⟨rfl, I.turned (t' := s.toks) (fun b o hb q => eb b o hb q) f0 f1 f3 f4 f5⟩
  self := fun A i s Q E st h => let ⟨⟨_, he⟩, _⟩ := st; wpAny_pyIter_enum he h
def iEnumT (K : PySem.W.Frag) (ta : TA) : TI := fun σ H R => ta σ H fun vs H1 => ∃ a xs, vs = [.ref a] ∧ SqT K H1 a xs ∧ R (IteT K a) H1
theorem pi_enumT {X : Cx} {e : Expr} {ta : TA} {p pos tpos : Pos} {elts : List Expr} {kk : Nat} (hg : Gl X "enumerate") (hm : X.mg "enumerate" = none) (ha : PA X [e] ta) (hs : starEach [e] X.env = [(false, eval e X.env)] := by rfl) :
    PI X (.Tuple elts kk tpos) (.Call (.Name "enumerate" p) [e] [] pos) (iEnumT X.K ta) := by
  refine ⟨fun pins s σ H R I h => ?_⟩
  refine Call_ (ld_blt I hg hm boot_enumerate (PyProof.Rows.callWith_type1 (thn (ha.run pos pins s σ H _ I h) fun us s1 ⟨vs, H1, I1, r1, q1⟩ => ?_) hs rfl))
  obtain ⟨a, xs, ex, hq, q⟩ := q1
  subst ex
  cases r1 with
  | cons r rr =>
    cases rr
    cases r
    obtain ⟨its, rv, p', hz⟩ := I1.tuple hq
    refine call_enumerate_tuple p' fun h' he hit hsz hk => wpAny_pyIter_enum he ?_
    have I2 : Inv X pins σ H1 { s1 with heap := h' } := I1.kept (t' := s1.toks) hk
    refine ⟨s1.heap.objs.size + 1, [s1.heap.objs.size + 1, s1.heap.objs.size], _, _, H1, rfl, I2, turn_enumT a (s1.heap.objs.size + 1) s1.heap.objs.size, ⟨⟨.none, he⟩, hit, Nat.succ_ne_self _⟩, fun b hb => ?_, q⟩
    have e' : b = s1.heap.objs.size + 1 ∨ b = s1.heap.objs.size := by simpa using hb
    have hle : s1.heap.objs.size ≤ b := by
      rcases e' with z | z
      · rw [z]; exact Nat.le_add_right _ _
      · rw [z]; exact Nat.le_refl _
    exact I1.fpOk hle (I1.hok.fresh hle)
/-- enumerate of a list or a tuple -/
theorem pi_enumU {X : Cx} {e : Expr} {ta : TA} {p pos tpos : Pos} {elts : List Expr} {kk : Nat} (hg : Gl X "enumerate") (hm : X.mg "enumerate" = none) (ha : PA X [e] ta) (hs : starEach [e] X.env = [(false, eval e X.env)] := by rfl) :
    PI X (.Tuple elts kk tpos) (.Call (.Name "enumerate" p) [e] [] pos) (fun σ H R => iEnum X.K ta σ H R ∨ iEnumT X.K ta σ H R) := pi_or (pi_enum hg hm ha hs) (pi_enumT hg hm ha hs)
/-- a list, a tuple, a text -/
def iSeq (K : PySem.W.Frag) (tl : TE) : TI := fun σ H R => iList K tl σ H R ∨ iTup K tl σ H R ∨ iStr tl σ H R
end Tw
end

section
set_option Elab.async false
set_option linter.all false
set_option maxRecDepth 100000
set_option maxHeartbeats 4000000
namespace Tw
open PySem L2 PyProof.Rows

/-! ### rules of any kind of operand -/
section
variable {X : Cx}
def rAddStr : R2 := fun x y H Q => ∃ i j : Str, x = .str i ∧ y = .str j ∧ i.length + j.length ≤ sizeLine ∧ Q (.str (i ++ j)) H
@[irreducible] def rAddU (K : PySem.W.Frag) : R2 := fun x y H Q => rI0 (fun i j => .int (i + j)) x y H Q ∨ rAddStr x y H Q ∨ rCat x y H Q ∨ rCatA K x y H Q
theorem op_addU : OpR X (binaryOp .Add) (rAddU X.K) := by
  unfold rAddU
  exact op_or op_add (op_or op_add_str (op_or op_cat op_catA))
@[irreducible] def rMulU : R2 := fun x y H Q => rI CMul (fun i j => .int (i * j)) x y H Q ∨ rRep x y H Q
theorem op_mulU : OpR X (binaryOp .Mult) rMulU := by
  unfold rMulU
  exact op_or op_mul op_rep
def rInStr : R2 := fun x y H Q => ∃ i j : Str, x = .str i ∧ y = .str j ∧ Q (.bl (!(Builtin.Str.occurrences j i 0 j.length 1).isEmpty)) H
def rNotInStr : R2 := fun x y H Q => ∃ i j : Str, x = .str i ∧ y = .str j ∧ Q (.bl (!(!(Builtin.Str.occurrences j i 0 j.length 1).isEmpty))) H
@[irreducible] def rInU (K : PySem.W.Frag) : R2 := fun x y H Q => rInD K x y H Q ∨ rInT K x y H Q ∨ rInStr x y H Q ∨ rIn K false x y H Q
@[irreducible] def rNotInU (K : PySem.W.Frag) : R2 := fun x y H Q => rNotInD K x y H Q ∨ rNotInT K x y H Q ∨ rNotInStr x y H Q ∨ rIn K true x y H Q
theorem op_inU (hu : X.A.units + 65 < cLine) : OpR X (compareOp .In) (rInU X.K) := by
  unfold rInU
  exact op_or (op_inD hu) (op_or (op_inT hu) (op_or op_in_str op_in_seq))
theorem op_notInU (hu : X.A.units + 65 < cLine) : OpR X (compareOp .NotIn) (rNotInU X.K) := by
  unfold rNotInU
  exact op_or (op_notInD hu) (op_or (op_notInT hu) (op_or op_notin_str op_notIn_seq))
/-- a list of anything beside an empty list -/
def rEqE : R2 := fun x y H Q => ∃ a b xs, x = .ref a ∧ y = .ref b ∧ H a = some (.lst xs) ∧ H b = some (.lst []) ∧ Q (.bl xs.isEmpty) H
def rNeE : R2 := fun x y H Q => ∃ a b xs, x = .ref a ∧ y = .ref b ∧ H a = some (.lst xs) ∧ H b = some (.lst []) ∧ Q (.bl (!xs.isEmpty)) H
theorem op_eqE (hu : X.A.units < cLine) : OpR X (compareOp .Eq) rEqE := by
  intro pins s σ H x y v u Q I rx ry h
  obtain ⟨a, b, xs, rfl, rfl, ha, hb, q⟩ := h
  cases rx
  cases ry
  obtain ⟨its, r, p, _⟩ := I.list (.inl (.inl ha))
  obtain ⟨its2, r2, p2, _⟩ := I.list (.inl (.inl hb))
  cases r2
  cases xs with
  | nil =>
    cases r
    refine SeqAt.RcAt.lists (A := X.A) (e := fun _ => true) p.isList p2.isList rfl hu (fun j h1 _ => ?_) X.prog X.w X.xe _ ⟨.bl true, H, I, rfl, q⟩
    exact absurd h1 (by simp)
  | cons x xs =>
    cases r with
    | cons r1 r2 =>
      exact SeqAt.RcAt.lists_lengths (A := X.A) p.isList p2.isList (by simp) hu X.prog X.w X.xe _ ⟨.bl false, H, I, rfl, q⟩
theorem op_neE (hu : X.A.units < cLine) : OpR X (compareOp .NotEq) rNeE := by
  intro pins s σ H x y v u Q I rx ry h
  obtain ⟨a, b, xs, rfl, rfl, ha, hb, q⟩ := h
  cases rx
  cases ry
  obtain ⟨its, r, p, _⟩ := I.list (.inl (.inl ha))
  obtain ⟨its2, r2, p2, _⟩ := I.list (.inl (.inl hb))
  cases r2
  cases xs with
  | nil =>
    cases r
    refine SeqAt.RcNeAt.lists (A := X.A) (e := fun _ => true) p.isList p2.isList rfl hu (fun j h1 _ => ?_) X.prog X.w X.xe _ ⟨.bl false, H, I, rfl, q⟩
    exact absurd h1 (by simp)
  | cons x xs =>
    cases r with
    | cons r1 r2 =>
      exact SeqAt.RcNeAt.lists_lengths (A := X.A) p.isList p2.isList (by simp) hu X.prog X.w X.xe _ ⟨.bl true, H, I, rfl, q⟩
@[irreducible] def rEqU (K : PySem.W.Frag) : R2 := fun x y H Q => rEq x y H Q ∨ rEqD K x y H Q ∨ rEqE x y H Q
@[irreducible] def rNeU (K : PySem.W.Frag) : R2 := fun x y H Q => rNe x y H Q ∨ rNeD K x y H Q ∨ rNeE x y H Q
theorem op_eqU (hu : X.A.units + 64 < cLine) : OpR X (compareOp .Eq) (rEqU X.K) := by
  unfold rEqU
  exact op_or op_eq (op_or (op_eqD hu) (op_eqE (by omega)))
theorem op_neU (hu : X.A.units + 64 < cLine) : OpR X (compareOp .NotEq) (rNeU X.K) := by
  unfold rNeU
  exact op_or op_ne (op_or (op_neD hu) (op_neE (by omega)))
def rLenD : List V → Hp → VK → Prop := fun xs H Q => ∃ a kvs, xs = [V.ref a] ∧ H a = some (.dK kvs) ∧ Q (.int kvs.length) H
def rLenA (K : PySem.W.Frag) : List V → Hp → VK → Prop := fun xs H Q => ∃ x n, xs = [x] ∧ LenV K x H n ∧ Q (.int n) H
@[irreducible] def rLenU (K : PySem.W.Frag) : List V → Hp → VK → Prop := fun xs H Q => rLenA K xs H Q ∨ rLenD xs H Q
theorem call_lenU : CallR X (.builtin "len") (rLenU X.K) := by
  unfold rLenU
  exact call_or call_len call_lenD
@[irreducible] def rLstOf (K : PySem.W.Frag) : List V → Hp → VK → Prop := fun xs H Q => ∃ p ys, xs = [V.ref p] ∧ (SqL K H p ys ∨ SqT K H p ys) ∧ ∀ (l : Addr), H l = none → Q (V.ref l) (upd H l (.lst ys))
theorem call_lstOf : CallR X (.type "list") (rLstOf X.K) := by
  unfold rLstOf
  exact call_list_of
@[irreducible] def rTupOf (K : PySem.W.Frag) : List V → Hp → VK → Prop := fun xs H Q => ∃ p ys, xs = [.ref p] ∧ ((SqL K H p ys ∧ ∀ l, H l = none → Q (.ref l) (upd H l (.tup ys))) ∨ (SqT K H p ys ∧ Q (.ref p) H))
theorem call_tupOf : CallR X (.type "tuple") (rTupOf X.K) := by
  unfold rTupOf
  exact call_tuple_of
@[irreducible] def rMax2 : List V → Hp → VK → Prop := fun xs H Q => ∃ i j, xs = [.int i, .int j] ∧ Q (.int (if j > i then j else i)) H
theorem call_mx2 (hc : X.calm = true) : CallR X (.builtin "max") rMax2 := by
  unfold rMax2
  exact call_max2 hc
@[irreducible] def rInt1 : List V → Hp → VK → Prop := fun xs H Q => (∃ i, xs = [.int i] ∧ Q (.int i) H) ∨ ∃ k, xs = [.bl k] ∧ Q (.int (if k then 1 else 0)) H
theorem call_in1 : CallR X (.type "int") rInt1 := by
  unfold rInt1
  exact call_int1
@[irreducible] def rStr1 : List V → Hp → VK → Prop := fun xs H Q => ∃ i, xs = [V.int i] ∧ i.natAbs.log2 < 1920 ∧ Q (V.str (Str.ofString (toString i))) H
theorem call_st1 : CallR X (.type "str") rStr1 := by
  unfold rStr1
  exact call_str_int
theorem sl_or {r q : V → Option Int → Option Int → Hp → VK → Prop} (h : SlR X r) (k : SlR X q) : SlR X (fun x lo hi H Q => r x lo hi H Q ∨ q x lo hi H Q) :=
  fun pins s σ H x v vl vu lo hi sl Q I rx hs pl pu z => z.elim (h pins s σ H x v vl vu lo hi sl Q I rx hs pl pu) (k pins s σ H x v vl vu lo hi sl Q I rx hs pl pu)
@[irreducible] def rSlU (K : PySem.W.Frag) : V → Option Int → Option Int → Hp → VK → Prop := fun x lo hi H Q => rSlL K x lo hi H Q ∨ rSlA K x lo hi H Q ∨ rSlS x lo hi H Q
theorem sl_U : SlR X (rSlU X.K) := by
  unfold rSlU
  exact sl_or sl_list (sl_or sl_tupA sl_str)
def iSeqU (K : PySem.W.Frag) (tl : TE) : TI := fun σ H R => iList K tl σ H R ∨ iTup K tl σ H R ∨ iStr tl σ H R
theorem pi_U {tg l : Expr} {tl : TE} (h : PE X l tl) : PI X tg l (iSeqU X.K tl) := pi_or (pi_list h) (pi_or (pi_tup h) (pi_str h))
def iEnumU (K : PySem.W.Frag) (ta : TA) : TI := fun σ H R => iEnum K ta σ H R ∨ iEnumT K ta σ H R
@[irreducible] def rIsiU (K : PySem.W.Frag) : List V → Hp → VK → Prop := fun xs H Q => rIsi K xs H Q ∨ rIsiT K xs H Q
theorem call_isiU : CallR X (.builtin "isinstance") (rIsiU X.K) := by
  unfold rIsiU
  exact call_or call_isi call_isiT
@[irreducible] def rExtU (K : PySem.W.Frag) : V → List V → Hp → VK → Prop := fun x xs H Q => rExtend x xs H Q ∨ rExtT K x xs H Q
@[irreducible] def rInsert : V → List V → Hp → VK → Prop := fun x vs H Q => ∃ (l : Addr) (xs : List V) (i : Int) (y : V), x = .ref l ∧ vs = [.int i, y] ∧ H l = some (.lst xs) ∧ xs.length < sizeLine ∧ 0 ≤ i ∧ i < 2 ^ 63 ∧
    Q .non (upd H l (.lst (xs.take i.toNat ++ [y] ++ xs.drop i.toNat)))
theorem mt_extendU : MtR X "list.extend" (rExtU X.K) := by
  unfold rExtU
  exact mt_extU
theorem mt_insertU : MtR X "list.insert" rInsert := by
  unfold rInsert
  exact mt_insert
@[irreducible] def rAppendU : V → List V → Hp → VK → Prop := rAppend
theorem mt_appendU : MtR X "list.append" rAppendU := by
  unfold rAppendU
  exact fun pins s σ H x xs v us Q I rx rs z => mt_append pins s σ H x xs v us Q I rx rs z
@[irreducible] def rPopU : V → List V → Hp → VK → Prop := rPop
theorem mt_popU : MtR X "list.pop" rPopU := by
  unfold rPopU
  exact fun pins s σ H x xs v us Q I rx rs z => mt_pop pins s σ H x xs v us Q I rx rs z
@[irreducible] def rPopAtU : V → List V → Hp → VK → Prop := rPopAt
theorem mt_popAtU : MtR X "list.pop" rPopAtU := by
  unfold rPopAtU
  exact fun pins s σ H x xs v us Q I rx rs z => mt_popAt pins s σ H x xs v us Q I rx rs z
@[irreducible] def rAllU (K : PySem.W.Frag) : List V → Hp → VK → Prop := rAll K
theorem call_allU (hc : X.calm = true) : CallR X (.builtin "all") (rAllU X.K) := by
  unfold rAllU
  exact cr_all hc
@[irreducible] def rAnyU (K : PySem.W.Frag) : List V → Hp → VK → Prop := rAny K
theorem call_anyU (hc : X.calm = true) : CallR X (.builtin "any") (rAnyU X.K) := by
  unfold rAnyU
  exact cr_any hc
@[irreducible] def rIxU (K : PySem.W.Frag) : R2 := rIx K
theorem ix_U : IxR X (rIxU X.K) := by
  unfold rIxU
  exact ix_seq
/-- a comparison by any of two readings: as a value, as a test -/
theorem pt_or {e : Expr} {t u : TT} (h : PT X e t) (k : PT X e u) : PT X e (fun σ H Q => t σ H Q ∨ u σ H Q) :=
  ⟨fun pins s σ H Q I z => z.elim (h.run pins s σ H Q I) (k.run pins s σ H Q I)⟩
end
/-! ### new tuples and lists, the heap behind them a letter -/
def tTupU (t : TA) : TE := fun σ H Q => t σ H fun xs H1 => xs.length ≤ sizeLine ∧ ∀ p H', H1 p = none → H' = upd H1 p (.tup xs) → Q (.ref p) H'
def tLstU (t : TA) : TE := fun σ H Q => t σ H fun xs H1 => xs.length ≤ sizeLine ∧ ∀ p H', H1 p = none → H' = upd H1 p (.lst xs) → Q (.ref p) H'
theorem all_eq {H : Hp} {Q : VK} {o : HO} : (∀ p H', H p = none → H' = upd H p o → Q (.ref p) H') = ∀ p, H p = none → Q (.ref p) (upd H p o) :=
  propext ⟨fun h p hp => h p _ hp rfl, fun h p H' hp e => by rw [e]; exact h p hp⟩
theorem tTupU_eq (t : TA) : tTupU t = tTup t := by
  funext σ H Q
  unfold tTupU tTup
  congr
  funext xs H1
  rw [all_eq]
theorem tLstU_eq (t : TA) : tLstU t = tLst t := by
  funext σ H Q
  unfold tLstU tLst
  congr
  funext xs H1
  rw [all_eq]
theorem pe_tupU {X : Cx} {es : List Expr} {x1 : Nat} {t : TA} {pos : Pos} (h : PA X es t) : PE X (.Tuple es x1 pos) (tTupU t) := by
  rw [tTupU_eq]
  exact pe_tup h
theorem pe_lstU {X : Cx} {es : List Expr} {t : TA} {pos : Pos} (h : PA X es t) : PE X (.List es pos) (tLstU t) := by
  rw [tLstU_eq]
  exact pe_lst h
/-! ### comprehensions and loops under names that stay folded -/
@[irreducible] def tLcU (wi : TI) (g : TG) (tt : TT) (te : TE) (vs : List Nat) : TE := tLc wi g tt te vs
@[irreducible] def tForU (wi : TI) (g : TG) (tb : TS) : TS := tFor wi g tb
section
variable {X : Cx}
theorem pe_lcU {elt tg iter : Expr} {ifs : List Expr} {scope : Scope} {own : List (Str × Nat)} {pos : Pos} {wi : TI} {g : TG} {tt : TT} {te : TE} (hc : X.calm = true) (hN : X.N.Nodup) (hi : PI X tg iter wi) (ok : BlkOk X.N X.env.scope scope own)
    (hg : ∀ (s : Shared) (H : Hp) (C : Addr) (cl : List (Str × Addr)) (fp : List Addr), PG (X.blk s H scope (compEnvC scope cl C X.env) fp) tg g) (ht : ∀ (s : Shared) (H : Hp) (C : Addr) (cl : List (Str × Addr)) (fp : List Addr), PTs (X.blk s H scope (compEnvC scope cl C X.env) fp) ifs tt)
    (he : ∀ (s : Shared) (H : Hp) (C : Addr) (cl : List (Str × Addr)) (fp : List Addr), PE (X.blk s H scope (compEnvC scope cl C X.env) fp) elt te) (hs : ∀ x, foldedSetIterable iter X.env x = pure x := by intro _; rfl) :
    PE X (.ListComp elt [⟨tg, iter, ifs, 0⟩] scope pos) (tLcU wi g tt te (own.map (·.2))) := by
  unfold tLcU
  exact pe_lc hc hN hi ok hg ht he hs
theorem ps_setLcU {i : Nat} {y : Str} {py : Pos} {elt tg iter : Expr} {ifs : List Expr} {scope : Scope} {own : List (Str × Nat)} {pos spos : Pos} {wi : TI} {g : TG} {tt : TT} {te : TE} (hc : X.calm = true) (hN : X.N.Nodup) (hy : X.N[i]? = some y) (hyl : X.env.scope.names.lookup y = some .local)
    (hsw : swapsWith (.ListComp elt [⟨tg, iter, ifs, 0⟩] scope pos) (some (.Name y py)) spos.line X.env = pure true) (hi : PI X tg iter wi) (ok : BlkOk X.N X.env.scope scope own)
    (hg : ∀ (s : Shared) (H : Hp) (C : Addr) (cl : List (Str × Addr)) (fp : List Addr), PG (X.blk s H scope (compEnvC scope cl C X.env) fp) tg g) (ht : ∀ (s : Shared) (H : Hp) (C : Addr) (cl : List (Str × Addr)) (fp : List Addr), PTs (X.blk s H scope (compEnvC scope cl C X.env) fp) ifs tt)
    (he : ∀ (s : Shared) (H : Hp) (C : Addr) (cl : List (Str × Addr)) (fp : List Addr), PE (X.blk s H scope (compEnvC scope cl C X.env) fp) elt te) (hs : ∀ x, foldedSetIterable iter X.env x = pure x := by intro _; rfl) :
    PS X (.Assign [.Name y py] (.ListComp elt [⟨tg, iter, ifs, 0⟩] scope pos) spos) (tAsg (tLcU wi g tt te (own.map (·.2))) (gName i)) := by
  unfold tLcU
  exact ps_setLc hc hN hy hyl hsw hi ok hg ht he hs
theorem ps_forU {tg iter : Expr} {body : List Stmt} {wi : TI} {g : TG} {tb : TS} {pos : Pos} (hp : PassesOwn (model X.prog X.w) X.A X.env X.xe) (hc : X.calm = true) (hi : PI X tg iter wi) (hg : PG X tg g) (hb : PSs X body tb)
    (hs : ∀ x, foldedSetIterable iter X.env x = pure x := by intro _; rfl) : PS X (.For tg iter body [] pos) (tForU wi g tb) := by
  unfold tForU
  exact ps_for hp hc hi hg hb hs
end
/-- in, not in: lists, tuples, texts, dicts -/
def tInU (K : PySem.W.Frag) (ta tb : TE) : TE := fun σ H Q => tOp (rInU K) ta tb σ H Q ∨ tDIn ta tb σ H Q
def tNotInU (K : PySem.W.Frag) (ta tb : TE) : TE := fun σ H Q => tOp (rNotInU K) ta tb σ H Q ∨ tDNotIn ta tb σ H Q
section
variable {X : Cx} {a b : Expr} {ta tb : TE} {pos : Pos}
theorem pe_inU (hu : X.A.units + 65 < cLine) (ha : PE X a ta) (hb : PE X b tb) (hm : behindInMarks .In b = false := by rfl) : PE X (.Compare a [.In] [b] pos) (tInU X.K ta tb) :=
  pe_or (pe_cmpR (op_inU hu) ha hb hm) (pe_cmp (pc_din (by omega) ha hb) hm)
theorem pe_notInU (hu : X.A.units + 65 < cLine) (ha : PE X a ta) (hb : PE X b tb) (hm : behindInMarks .NotIn b = false := by rfl) : PE X (.Compare a [.NotIn] [b] pos) (tNotInU X.K ta tb) :=
  pe_or (pe_cmpR (op_notInU hu) ha hb hm) (pe_cmp (pc_dnotin (by omega) ha hb) hm)
/-- a comparison that is a PE as a test -/
theorem pt_inU (hu : X.A.units + 65 < cLine) (ha : PE X a ta) (hb : PE X b tb) (hm : behindInMarks .In b = false := by rfl) : PT X (.Compare a [.In] [b] pos) (tB (tInU X.K ta tb)) :=
  ⟨fun pins s σ H Q I z => z.elim ((pt_cmpR (op_inU hu) ha hb hm).run pins s σ H Q I) ((pt_cmp (pc_din (by omega) ha hb) hm).run pins s σ H Q I)⟩
theorem pt_notInU (hu : X.A.units + 65 < cLine) (ha : PE X a ta) (hb : PE X b tb) (hm : behindInMarks .NotIn b = false := by rfl) : PT X (.Compare a [.NotIn] [b] pos) (tB (tNotInU X.K ta tb)) :=
  ⟨fun pins s σ H Q I z => z.elim ((pt_cmpR (op_notInU hu) ha hb hm).run pins s σ H Q I) ((pt_cmp (pc_dnotin (by omega) ha hb) hm).run pins s σ H Q I)⟩
end
end Tw
end

section
set_option Elab.async false
set_option linter.all false
set_option maxRecDepth 100000
set_option maxHeartbeats 4000000
namespace Tw
open PySem L2 PyProof.Rows

/-! ### what stays: all tracked objects but those at F; nothing is forgotten -/
structure ExF (F : List Addr) (H H' : Hp) : Prop where
  at_ : ∀ a o, a ∉ F → H a = some o → H' a = some o
  kept : ∀ a, H a ≠ none → H' a ≠ none
section
variable {F G : List Addr} {H H' H1 H2 : Hp} {p a : Addr} {o : HO}
theorem ExF.refl : ExF F H H := ⟨fun _ _ _ h => h, fun _ h => h⟩
theorem ExF.trans (h : ExF F H H1) (k : ExF F H1 H2) : ExF F H H2 := ⟨fun a o n e => k.at_ a o n (h.at_ a o n e), fun a e => k.kept a (h.kept a e)⟩
theorem ExF.sub (h : ExF F H H') (k : ∀ a ∈ F, a ∈ G) : ExF G H H' := ⟨fun a o n e => h.at_ a o (fun z => n (k a z)) e, h.kept⟩
theorem ExF.of (h : ExF [] H H') : ExF G H H' := h.sub fun a z => absurd z (by simp)
theorem ExF.free (h : ExF F H H') (e : H' p = none) : H p = none := by
  cases q : H p with
  | none => rfl
  | some o => exact absurd e (h.kept p (by rw [q]; exact fun z => nomatch z))
theorem upd_kept (h : H a ≠ none) : upd H p o a ≠ none := by
  by_cases e : a = p
  · subst e
    rw [upd_same]
    exact fun z => nomatch z
  · rw [upd_ne e]
    exact h
theorem ExF.new (e : H p = none) : ExF F H (upd H p o) := ⟨fun a u _ q => by rw [upd_ne (ne_of_none q e)]; exact q, fun a q => upd_kept q⟩
/-- an object that was not there ahead, or is one of F, may change -/
theorem ExF.mut (h : ExF F H H') (e : H p = none ∨ p ∈ F) : ExF F H (upd H' p o) := ⟨fun a u n q => by
  rw [upd_ne]
  · exact h.at_ a u n q
  · intro z
    subst z
    rcases e with e | e
    · rw [e] at q; cases q
    · exact n e, fun a q => upd_kept (h.kept a q)⟩
/-- F's new ones may be left out: they were not there ahead -/
theorem ExF.drop (h : ExF (p :: F) H H') (e : H p = none) : ExF F H H' := ⟨fun a u n q => h.at_ a u (fun z => by
  rcases List.mem_cons.mp z with z | z
  · subst z; rw [e] at q; cases q
  · exact n z) q, h.kept⟩
theorem ExF.add (h : ExF F H H') : ExF (p :: F) H H' := h.sub fun a z => List.mem_cons_of_mem _ z
theorem ExF.same (h : Same H H') : ExF F H H' := ⟨fun a o _ e => h a o e, fun a e => by
  cases q : H a with
  | none => exact absurd q e
  | some o => rw [h a o q]; exact fun z => nomatch z⟩
theorem ExF.toSame (h : ExF [] H H') : Same H H' := fun a o e => h.at_ a o (by simp) e
/-- all of F is tracked -/
def Trk (F : List Addr) (H : Hp) : Prop := ∀ a ∈ F, H a ≠ none
theorem Trk.ex (t : Trk F H) (h : ExF G H H') : Trk F H' := fun a z => h.kept a (t a z)
theorem Trk.nin (t : Trk F H) (e : H p = none) : p ∉ F := fun z => t p z e
theorem Trk.nil : Trk [] H := fun a z => absurd z (by simp)
theorem Trk.cons (t : Trk F H) (e : H p = some o) : Trk (p :: F) H := fun a z => by
  rcases List.mem_cons.mp z with z | z
  · subst z; rw [e]; exact fun z => nomatch z
  · exact t a z
end

/-! ### data over the heap, none of it at F -/
inductive Rp (F : List Addr) (H : Hp) : V → PyData → Prop
  | non : Rp F H .non .none
  | bl (b : Bool) : Rp F H (.bl b) (.bool b)
  | int (i : Int) : Rp F H (.int i) (.int i)
  | str (x : Str) : Rp F H (.str x) (.str x)
  | lst {a : Addr} {xs : List V} {ds : List PyData} : a ∉ F → H a = some (.lst xs) → xs.length = ds.length → (∀ (i : Nat) v d, xs[i]? = some v → ds[i]? = some d → Rp F H v d) → Rp F H (.ref a) (.list ds)
  | tup {a : Addr} {xs : List V} {ds : List PyData} : a ∉ F → H a = some (.tup xs) → xs.length = ds.length → (∀ (i : Nat) v d, xs[i]? = some v → ds[i]? = some d → Rp F H v d) → Rp F H (.ref a) (.tuple ds)
  | dct {a : Addr} : a ∉ F → H a = some (.dK []) → Rp F H (.ref a) (.dict [])
/-- a row of data -/
def RpL (F : List Addr) (H : Hp) (xs : List V) (ds : List PyData) : Prop := xs.length = ds.length ∧ ∀ (i : Nat) v d, xs[i]? = some v → ds[i]? = some d → Rp F H v d
section
variable {F G : List Addr} {H H' H1 H2 : Hp} {p a : Addr} {o : HO} {v : V} {d : PyData} {xs ys : List V} {ds es : List PyData}
theorem Rp.list (n : a ∉ F) (h : H a = some (.lst xs)) (r : RpL F H xs ds) : Rp F H (.ref a) (.list ds) := .lst n h r.1 r.2
theorem Rp.tuple (n : a ∉ F) (h : H a = some (.tup xs)) (r : RpL F H xs ds) : Rp F H (.ref a) (.tuple ds) := .tup n h r.1 r.2
theorem Rp.ex (x : ExF F H H') (r : Rp F H v d) : Rp F H' v d := by
  induction r with
  | non => exact .non
  | bl b => exact .bl b
  | int i => exact .int i
  | str s => exact .str s
  | lst n h l _ ih => exact .lst n (x.at_ _ _ n h) l ih
  | tup n h l _ ih => exact .tup n (x.at_ _ _ n h) l ih
  | dct n h => exact .dct n (x.at_ _ _ n h)
theorem Rp.sub (k : ∀ a ∈ G, a ∈ F) (r : Rp F H v d) : Rp G H v d := by
  induction r with
  | non => exact .non
  | bl b => exact .bl b
  | int i => exact .int i
  | str s => exact .str s
  | lst n h l _ ih => exact .lst (fun z => n (k _ z)) h l ih
  | tup n h l _ ih => exact .tup (fun z => n (k _ z)) h l ih
  | dct n h => exact .dct (fun z => n (k _ z)) h
/-- a place that is free now is none of it -/
theorem Rp.add (e : H p = none) (r : Rp F H v d) : Rp (p :: F) H v d := by
  have ne : ∀ {b : Addr} {u : HO}, b ∉ F → H b = some u → b ∉ p :: F := fun n h z => by
    rcases List.mem_cons.mp z with z | z
    · subst z; rw [e] at h; cases h
    · exact n z
  induction r with
  | non => exact .non
  | bl b => exact .bl b
  | int i => exact .int i
  | str s => exact .str s
  | lst n h l _ ih => exact .lst (ne n h) h l ih
  | tup n h l _ ih => exact .tup (ne n h) h l ih
  | dct n h => exact .dct (ne n h) h
theorem Rp.drop (r : Rp (p :: F) H v d) : Rp F H v d := r.sub fun a z => List.mem_cons_of_mem _ z
theorem RpL.ex (x : ExF F H H') (r : RpL F H xs ds) : RpL F H' xs ds := ⟨r.1, fun i v d h k => (r.2 i v d h k).ex x⟩
theorem RpL.sub (k : ∀ a ∈ G, a ∈ F) (r : RpL F H xs ds) : RpL G H xs ds := ⟨r.1, fun i v d h e => (r.2 i v d h e).sub k⟩
theorem RpL.add (e : H p = none) (r : RpL F H xs ds) : RpL (p :: F) H xs ds := ⟨r.1, fun i v d h k => (r.2 i v d h k).add e⟩
theorem RpL.drop (r : RpL (p :: F) H xs ds) : RpL F H xs ds := r.sub fun a z => List.mem_cons_of_mem _ z
theorem RpL.nil : RpL F H [] [] := ⟨rfl, fun i v d h _ => by simp at h⟩
theorem RpL.cons (h : Rp F H v d) (r : RpL F H xs ds) : RpL F H (v :: xs) (d :: ds) := by
  refine ⟨by simp [r.1], fun i u e h1 h2 => ?_⟩
  cases i with
  | zero => simp at h1 h2; subst h1 h2; exact h
  | succ i => exact r.2 i u e (by simpa using h1) (by simpa using h2)
theorem RpL.nil_inv (r : RpL F H xs []) : xs = [] := List.eq_nil_of_length_eq_zero (by rw [r.1]; rfl)
theorem RpL.cons_inv (r : RpL F H xs (d :: ds)) : ∃ v vs, xs = v :: vs ∧ Rp F H v d ∧ RpL F H vs ds := by
  cases xs with
  | nil => exact absurd r.1 (by simp)
  | cons v vs => exact ⟨v, vs, rfl, r.2 0 v d rfl rfl, by simpa using r.1, fun i u e h k => r.2 (i + 1) u e (by simpa using h) (by simpa using k)⟩
theorem RpL.get (r : RpL F H xs ds) {i : Nat} (h : ds[i]? = some d) : ∃ v, xs[i]? = some v ∧ Rp F H v d := by
  have hl := (List.getElem?_eq_some_iff.mp h).1
  have hx : i < xs.length := by rw [r.1]; exact hl
  exact ⟨xs[i], by simp [hx], r.2 i _ d (by simp [hx]) h⟩
theorem RpL.get' (r : RpL F H xs ds) {i : Nat} (h : xs[i]? = some v) : ∃ d, ds[i]? = some d ∧ Rp F H v d := by
  have hl := (List.getElem?_eq_some_iff.mp h).1
  have hx : i < ds.length := by rw [← r.1]; exact hl
  exact ⟨ds[i], by simp [hx], r.2 i v _ h (by simp [hx])⟩
theorem RpL.append (r : RpL F H xs ds) (q : RpL F H ys es) : RpL F H (xs ++ ys) (ds ++ es) := by
  refine ⟨by simp [r.1, q.1], fun i u e h1 h2 => ?_⟩
  by_cases hi : i < xs.length
  · rw [List.getElem?_append_left hi] at h1
    rw [List.getElem?_append_left (by rw [← r.1]; exact hi)] at h2
    exact r.2 i u e h1 h2
  · rw [List.getElem?_append_right (by omega)] at h1
    rw [List.getElem?_append_right (by have := r.1; omega), ← r.1] at h2
    exact q.2 _ u e h1 h2
theorem RpL.one (h : Rp F H v d) : RpL F H [v] [d] := .cons h .nil
theorem RpL.snoc (r : RpL F H xs ds) (h : Rp F H v d) : RpL F H (xs ++ [v]) (ds ++ [d]) := r.append (.one h)
theorem RpL.take (n : Nat) (r : RpL F H xs ds) : RpL F H (xs.take n) (ds.take n) := ⟨by simp [r.1], fun i u e h1 h2 => by
  rw [List.getElem?_take] at h1 h2
  split at h1
  · rename_i hi; rw [if_pos hi] at h2; exact r.2 i u e h1 h2
  · cases h1⟩
theorem RpL.dropN (n : Nat) (r : RpL F H xs ds) : RpL F H (xs.drop n) (ds.drop n) := ⟨by simp [r.1], fun i u e h1 h2 => by
  rw [List.getElem?_drop] at h1 h2
  exact r.2 _ u e h1 h2⟩
theorem RpL.eraseIdx (n : Nat) (r : RpL F H xs ds) : RpL F H (xs.eraseIdx n) (ds.eraseIdx n) := by
  rw [List.eraseIdx_eq_take_drop_succ, List.eraseIdx_eq_take_drop_succ]
  exact (r.take n).append (r.dropN (n + 1))
theorem RpL.reverse (r : RpL F H xs ds) : RpL F H xs.reverse ds.reverse := by
  refine ⟨by simp [r.1], fun i u e h1 h2 => ?_⟩
  have hi : i < xs.length := by simpa using (List.getElem?_eq_some_iff.mp h1).1
  rw [List.getElem?_reverse hi] at h1
  rw [List.getElem?_reverse (by rw [← r.1]; exact hi), ← r.1] at h2
  exact r.2 _ u e h1 h2
theorem RpL.all_str {zs : List Str} (r : RpL F H xs (zs.map PyData.str)) : xs = zs.map V.str := by
  apply List.ext_getElem?
  intro i
  cases e : zs[i]? with
  | none =>
    have hz := List.getElem?_eq_none_iff.mp e
    have hx := r.1
    rw [List.length_map] at hx
    rw [List.getElem?_eq_none (by omega), List.getElem?_eq_none (by rw [List.length_map]; omega)]
  | some z =>
    obtain ⟨v, h1, h2⟩ := r.get (i := i) (d := .str z) (by rw [List.getElem?_map, e]; rfl)
    cases h2
    rw [h1, List.getElem?_map, e]
    rfl
theorem RpL.strs (zs : List Str) : RpL F H (zs.map V.str) (zs.map PyData.str) := ⟨by simp, fun i v d h1 h2 => by
  rw [List.getElem?_map] at h1 h2
  cases e : zs[i]? with
  | none => rw [e] at h1; cases h1
  | some z =>
    rw [e] at h1 h2
    cases h1; cases h2
    exact .str z⟩
theorem RpL.all_int {zs : List Int} (r : RpL F H xs (zs.map PyData.int)) : xs = zs.map V.int := by
  apply List.ext_getElem?
  intro i
  cases e : zs[i]? with
  | none =>
    have hz := List.getElem?_eq_none_iff.mp e
    have hx := r.1
    rw [List.length_map] at hx
    rw [List.getElem?_eq_none (by omega), List.getElem?_eq_none (by rw [List.length_map]; omega)]
  | some z =>
    obtain ⟨v, h1, h2⟩ := r.get (i := i) (d := .int z) (by rw [List.getElem?_map, e]; rfl)
    cases h2
    rw [h1, List.getElem?_map, e]
    rfl
theorem RpL.ints (zs : List Int) : RpL F H (zs.map V.int) (zs.map PyData.int) := ⟨by simp, fun i v d h1 h2 => by
  rw [List.getElem?_map] at h1 h2
  cases e : zs[i]? with
  | none => rw [e] at h1; cases h1
  | some z =>
    rw [e] at h1 h2
    cases h1; cases h2
    exact .int z⟩
theorem Rp.str_inv {z : Str} (r : Rp F H v (.str z)) : v = .str z := by cases r; rfl
theorem Rp.list_inv (r : Rp F H v (.list ds)) : ∃ a xs, v = .ref a ∧ a ∉ F ∧ H a = some (.lst xs) ∧ RpL F H xs ds := by
  cases r with
  | lst n h l k => exact ⟨_, _, rfl, n, h, l, k⟩
theorem Rp.tuple_inv (r : Rp F H v (.tuple ds)) : ∃ a xs, v = .ref a ∧ a ∉ F ∧ H a = some (.tup xs) ∧ RpL F H xs ds := by
  cases r with
  | tup n h l k => exact ⟨_, _, rfl, n, h, l, k⟩
end

/-! ### the reading of data by the layer's own relation -/
mutual
/-- without dicts -/
def plain : PyData → Bool
  | .none => true | .bool _ => true | .int _ => true | .str _ => true
  | .list ds => plains ds
  | .tuple ds => plains ds
  | .dict _ => false
def plains : List PyData → Bool
  | [] => true
  | d :: ds => plain d && plains ds
end
section
variable {F : List Addr} {K : PySem.W.Frag} {H : Hp}
mutual
theorem Rp.dp : ∀ {v : V} {d : PyData}, plain d = true → Rp F H v d → Dp K H v d
  | _, .none, _, r => by cases r; exact .non
  | _, .bool b, _, r => by cases r; exact .bl b
  | _, .int i, _, r => by cases r; exact .int i
  | _, .str s, _, r => by cases r; exact .str s
  | _, .list ds, p, r => by
    obtain ⟨a, xs, rfl, n, h, q⟩ := r.list_inv
    exact .lst (.inl (.inl h)) (RpL.dp (by simpa [plain] using p) q)
  | _, .tuple ds, p, r => by
    obtain ⟨a, xs, rfl, n, h, q⟩ := r.tuple_inv
    exact .tup (.inl (.inl h)) (RpL.dp (by simpa [plain] using p) q)
  | _, .dict _, p, _ => by simp [plain] at p
theorem RpL.dp : ∀ {xs : List V} {ds : List PyData}, plains ds = true → RpL F H xs ds → DpAll K H xs ds
  | xs, [], _, r => by rw [r.nil_inv]; exact .nil
  | xs, d :: ds, p, r => by
    obtain ⟨v, vs, rfl, h, q⟩ := r.cons_inv
    have p' : plain d = true ∧ plains ds = true := by simpa [plains] using p
    exact .cons (Rp.dp p'.1 h) (RpL.dp p'.2 q)
end
end
end Tw
end

section
set_option Elab.async false
set_option linter.all false
set_option maxRecDepth 100000
set_option maxHeartbeats 4000000
namespace Tw
open PySem L2 PyProof.Rows

theorem hu65 {A : Around} {k : Nat} (hr : Room k A) : A.units + 65 < cLine := by
  have := hr.un
  omega
def rSetU : V → V → V → Hp → (Hp → Prop) → Prop := fun o i v H Q => rSetL o i v H Q ∨ rSetD o i v H Q
theorem set_U {X : Cx} (hu : X.A.units + 1 < cLine) : PSet X rSetU := by
  intro pins s σ H o i v ov iv u Q I ro ri rv h
  exact h.elim (set_list pins s σ H o i v ov iv u Q I ro ri rv) (set_dict hu pins s σ H o i v ov iv u Q I ro ri rv)
def rIsN : R2 := fun x y H Q => y = .non ∧ Q (.bl (decide (x = .non))) H
def rNotN : R2 := fun x y H Q => y = .non ∧ Q (.bl (!decide (x = .non))) H

/-! ### isinstance -/
def tyName : PyData → String
  | .none => "NoneType" | .bool _ => "bool" | .int _ => "int" | .str _ => "str" | .list _ => "list" | .tuple _ => "tuple" | .dict _ => "dict"
def isStr : PyData → Bool | .str _ => true | _ => false
def isInt : PyData → Bool | .int _ => true | .bool _ => true | _ => false
def isBool : PyData → Bool | .bool _ => true | _ => false
def isList : PyData → Bool | .list _ => true | _ => false
def isTup : PyData → Bool | .tuple _ => true | _ => false
def isDict : PyData → Bool | .dict _ => true | _ => false
def isSeq : PyData → Bool | .list _ => true | .tuple _ => true | _ => false
section
variable {F : List Addr} {K : PySem.W.Frag} {H : Hp} {v : V} {d : PyData} {Q : VK} {b : Bool} {c : String} {p : Addr} {x y : Str}
theorem Rp.ty (r : Rp F H v d) : TyX K H v (.type (tyName d)) := by
  cases r with
  | non => exact .base .non
  | bl b => exact .base (.bl b)
  | int i => exact .base (.int i)
  | str s => exact .base (.str s)
  | lst n h l _ => exact .base (.lst h)
  | tup n h l _ => exact .base (.tup h)
  | dct n h => exact .base (.dK h)
theorem isi1 (r : Rp F H v d) (h : kitB (tyName d) c = some b) (q : Q (.bl b) H) : rIsiU K [v, .ty c] H Q := by
  unfold rIsiU
  exact .inl ⟨v, .ty c, _, _, b, rfl, .ty c, r.ty, kit_ty h, q⟩
theorem isi_str (r : Rp F H v d) (q : Q (.bl (isStr d)) H) : rIsiU K [v, .ty "str"] H Q := isi1 (b := isStr d) r (by cases d <;> (simp only [tyName, isStr]; decide +kernel)) q
theorem isi_int (r : Rp F H v d) (q : Q (.bl (isInt d)) H) : rIsiU K [v, .ty "int"] H Q := isi1 (b := isInt d) r (by cases d <;> (simp only [tyName, isInt]; decide +kernel)) q
theorem isi_bool (r : Rp F H v d) (q : Q (.bl (isBool d)) H) : rIsiU K [v, .ty "bool"] H Q := isi1 (b := isBool d) r (by cases d <;> (simp only [tyName, isBool]; decide +kernel)) q
theorem isi_list (r : Rp F H v d) (q : Q (.bl (isList d)) H) : rIsiU K [v, .ty "list"] H Q := isi1 (b := isList d) r (by cases d <;> (simp only [tyName, isList]; decide +kernel)) q
theorem isi_tuple (r : Rp F H v d) (q : Q (.bl (isTup d)) H) : rIsiU K [v, .ty "tuple"] H Q := isi1 (b := isTup d) r (by cases d <;> (simp only [tyName, isTup]; decide +kernel)) q
theorem isi_dict (r : Rp F H v d) (q : Q (.bl (isDict d)) H) : rIsiU K [v, .ty "dict"] H Q := isi1 (b := isDict d) r (by cases d <;> (simp only [tyName, isDict]; decide +kernel)) q
theorem isi_seq (r : Rp F H v d) (hp : H p = some (.tup [.ty "list", .ty "tuple"])) (q : Q (.bl (isSeq d)) H) : rIsiU K [v, .ref p] H Q := by
  unfold rIsiU
  exact .inr ⟨v, p, _, _, [.type "list", .type "tuple"], isSeq d, rfl, hp, .cons (.ty _) (.cons (.ty _) .nil), r.ty,
      kitAny_cons (b := isList d) (kit_ty (a := tyName d) (by cases d <;> (simp only [tyName, isList]; decide +kernel))) (fun hl => kitAny_cons (b := isTup d) (kit_ty (a := tyName d) (by cases d <;> (simp only [tyName, isTup]; decide +kernel))) (fun ht => by
        rw [kitAny_nil]; cases d <;> simp_all [isList, isTup, isSeq]) (fun ht => by cases d <;> simp_all [isList, isTup, isSeq])) (fun hl => by cases d <;> simp_all [isList, isTup, isSeq]), q⟩
theorem isi_iltd (r : Rp F H v d) (hp : H p = some (.tup [.ty "int", .ty "list", .ty "tuple", .ty "dict"])) (q : Q (.bl (isInt d || isSeq d || isDict d)) H) : rIsiU K [v, .ref p] H Q := by
  unfold rIsiU
  exact .inr ⟨v, p, _, _, [.type "int", .type "list", .type "tuple", .type "dict"], isInt d || isSeq d || isDict d, rfl, hp, .cons (.ty _) (.cons (.ty _) (.cons (.ty _) (.cons (.ty _) .nil))), r.ty,
      kitAny_cons (b := isInt d) (kit_ty (a := tyName d) (by cases d <;> (simp only [tyName, isInt]; decide +kernel))) (fun h1 => kitAny_cons (b := isList d) (kit_ty (a := tyName d) (by cases d <;> (simp only [tyName, isList]; decide +kernel))) (fun h2 => kitAny_cons (b := isTup d) (kit_ty (a := tyName d) (by cases d <;> (simp only [tyName, isTup]; decide +kernel)))
        (fun h3 => kitAny_cons (b := isDict d) (kit_ty (a := tyName d) (by cases d <;> (simp only [tyName, isDict]; decide +kernel))) (fun h4 => by rw [kitAny_nil]; cases d <;> simp_all [isInt, isList, isTup, isSeq, isDict]) (fun h4 => by cases d <;> simp_all [isInt, isList, isTup, isSeq, isDict]))
          (fun h3 => by cases d <;> simp_all [isInt, isList, isTup, isSeq, isDict])) (fun h2 => by cases d <;> simp_all [isInt, isList, isTup, isSeq, isDict])) (fun h1 => by cases d <;> simp_all [isInt, isList, isTup, isSeq, isDict]), q⟩

/-! ### operators at known operands -/
theorem addI {i j : Int} (q : Q (.int (i + j)) H) : rAddU K (.int i) (.int j) H Q := by
  unfold rAddU
  exact .inl ⟨i, j, rfl, rfl, q⟩
theorem addS (h : x.length + y.length ≤ sizeLine) (q : Q (.str (x ++ y)) H) : rAddU K (.str x) (.str y) H Q := by
  unfold rAddU
  exact .inr (.inl ⟨x, y, rfl, rfl, h, q⟩)
theorem addL {a b : Addr} {xs ys : List V} (ha : H a = some (.lst xs)) (hb : H b = some (.lst ys)) (h : xs.length + ys.length ≤ sizeLine) (q : ∀ p, H p = none → Q (.ref p) (upd H p (.lst (xs ++ ys)))) : rAddU K (.ref a) (.ref b) H Q := by
  unfold rAddU
  exact .inr (.inr (.inl ⟨a, b, xs, ys, rfl, rfl, ha, hb, h, q⟩))
theorem mulI {i j : Int} (h : CMul i j) (q : Q (.int (i * j)) H) : rMulU (.int i) (.int j) H Q := by
  unfold rMulU
  exact .inl ⟨i, j, rfl, rfl, h, q⟩
theorem eqI {i j : Int} (q : Q (.bl (decide (i = j))) H) : rEqU K (.int i) (.int j) H Q := by
  unfold rEqU
  exact .inl ⟨rfl, by
    have e : decide (V.int i = V.int j) = decide (i = j) := by simp
    rw [e]; exact q⟩
theorem neI {i j : Int} (q : Q (.bl (!decide (i = j))) H) : rNeU K (.int i) (.int j) H Q := by
  unfold rNeU
  exact .inl ⟨rfl, by
    have e : decide (V.int i = V.int j) = decide (i = j) := by simp
    rw [e]; exact q⟩
theorem eqS (q : Q (.bl (decide (x = y))) H) : rEqU K (.str x) (.str y) H Q := by
  unfold rEqU
  exact .inl ⟨rfl, by
    have e : decide (V.str x = V.str y) = decide (x = y) := by simp
    rw [e]; exact q⟩
theorem neS (q : Q (.bl (!decide (x = y))) H) : rNeU K (.str x) (.str y) H Q := by
  unfold rNeU
  exact .inl ⟨rfl, by
    have e : decide (V.str x = V.str y) = decide (x = y) := by simp
    rw [e]; exact q⟩
theorem neB {a b : Bool} (q : Q (.bl (a != b)) H) : rNeU K (.bl a) (.bl b) H Q := by
  unfold rNeU
  exact .inl ⟨rfl, by
    have e : (!decide (V.bl a = V.bl b)) = (a != b) := by cases a <;> cases b <;> rfl
    rw [e]; exact q⟩
theorem eqB {a b : Bool} (q : Q (.bl (a == b)) H) : rEqU K (.bl a) (.bl b) H Q := by
  unfold rEqU
  exact .inl ⟨rfl, by
    have e : (decide (V.bl a = V.bl b)) = (a == b) := by cases a <;> cases b <;> rfl
    rw [e]; exact q⟩
theorem eqD {u : V} {e : PyData} (r : Rp F H v d) (r' : Rp F H u e) (pd : plain d = true) (pe : plain e = true) (sd : SeqAt.shaped d = true) (se : SeqAt.shaped e = true) (q : Q (.bl (PyData.eqv d e)) H) : rEqU K v u H Q := by
  unfold rEqU
  exact .inr (.inl ⟨d, e, r.dp pd, r'.dp pe, sd, se, q⟩)
theorem neD {u : V} {e : PyData} (r : Rp F H v d) (r' : Rp F H u e) (pd : plain d = true) (pe : plain e = true) (sd : SeqAt.shaped d = true) (se : SeqAt.shaped e = true) (q : Q (.bl (!PyData.eqv d e)) H) : rNeU K v u H Q := by
  unfold rNeU
  exact .inr (.inl ⟨d, e, r.dp pd, r'.dp pe, sd, se, q⟩)
theorem eqE {a b : Addr} {xs : List V} (ha : H a = some (.lst xs)) (hb : H b = some (.lst [])) (q : Q (.bl xs.isEmpty) H) : rEqU K (.ref a) (.ref b) H Q := by
  unfold rEqU
  exact .inr (.inr ⟨a, b, xs, rfl, rfl, ha, hb, q⟩)
theorem neE {a b : Addr} {xs : List V} (ha : H a = some (.lst xs)) (hb : H b = some (.lst [])) (q : Q (.bl (!xs.isEmpty)) H) : rNeU K (.ref a) (.ref b) H Q := by
  unfold rNeU
  exact .inr (.inr ⟨a, b, xs, rfl, rfl, ha, hb, q⟩)
theorem ixL {a : Addr} {xs : List V} {i : Int} (ha : H a = some (.lst xs)) (h : atI xs i = some v) (q : Q v H) : rIxU K (.ref a) (.int i) H Q := by
  unfold rIxU
  exact .inl ⟨a, xs, i, v, rfl, rfl, .inl (.inl ha), h, q⟩
theorem ixT {a : Addr} {xs : List V} {i : Int} (ha : H a = some (.tup xs)) (h : atI xs i = some v) (q : Q v H) : rIxU K (.ref a) (.int i) H Q := by
  unfold rIxU
  exact .inr (.inl ⟨a, xs, i, v, rfl, rfl, .inl (.inl ha), h, q⟩)
theorem ixS {i : Int} {c : Nat} (hz : x.length ≤ sizeLine) (h : atI x.cps.toList i = some c) (q : Q (.str ⟨#[c]⟩) H) : rIxU K (.str x) (.int i) H Q := by
  unfold rIxU
  exact .inr (.inr ⟨x, i, c, rfl, rfl, hz, h, q⟩)
theorem lenS (hz : x.length ≤ sizeLine) (q : Q (.int (x.length : Int)) H) : rLenU K [.str x] H Q := by
  unfold rLenU
  exact .inl ⟨_, _, rfl, ⟨hz, rfl⟩, q⟩
theorem lenL {a : Addr} {xs : List V} (ha : H a = some (.lst xs)) (q : Q (.int (xs.length : Int)) H) : rLenU K [.ref a] H Q := by
  unfold rLenU
  exact .inl ⟨_, _, rfl, .inl ⟨xs, .inl (.inl ha), rfl⟩, q⟩
theorem lenT {a : Addr} {xs : List V} (ha : H a = some (.tup xs)) (q : Q (.int (xs.length : Int)) H) : rLenU K [.ref a] H Q := by
  unfold rLenU
  exact .inl ⟨_, _, rfl, .inr ⟨xs, .inl (.inl ha), rfl⟩, q⟩
theorem inStr (q : Q (.bl (!(Builtin.Str.occurrences y x 0 y.length 1).isEmpty)) H) : rInU K (.str x) (.str y) H Q := by
  unfold rInU
  exact .inr (.inr (.inl ⟨x, y, rfl, rfl, q⟩))
theorem notInStr (q : Q (.bl (!(!(Builtin.Str.occurrences y x 0 y.length 1).isEmpty))) H) : rNotInU K (.str x) (.str y) H Q := by
  unfold rNotInU
  exact .inr (.inr (.inl ⟨x, y, rfl, rfl, q⟩))
theorem inV_str : ∀ zs : List Str, inV (.str x) (zs.map V.str) = decide (x ∈ zs)
  | [] => by simp [inV]
  | z :: zs => by
    have ih := inV_str zs
    unfold inV at ih ⊢
    rw [List.map_cons, List.any_cons, ih]
    have e : eqV (V.str z) (V.str x) = decide (z = x) := by
      show (z == x) = decide (z = x)
      rw [Bool.eq_iff_iff]
      simp
    rw [e, Bool.eq_iff_iff]
    simp only [Bool.or_eq_true, decide_eq_true_eq, List.mem_cons]
    exact ⟨fun h => h.elim (fun h => .inl h.symm) .inr, fun h => h.elim (fun h => .inl h.symm) .inr⟩
theorem flat_str : ∀ zs : List Str, (zs.map V.str).all flatV = true
  | [] => rfl
  | z :: zs => by rw [List.map_cons, List.all_cons, flat_str zs]; rfl
theorem inStrs {a : Addr} {zs : List Str} (ha : H a = some (.lst (zs.map V.str))) (q : Q (.bl (decide (x ∈ zs))) H) : rInU K (.str x) (.ref a) H Q := by
  unfold rInU
  exact .inr (.inr (.inr ⟨a, zs.map V.str, rfl, .inl (.inl (.inl ha)), rfl, flat_str zs, by rw [inV_str]; exact q⟩))
theorem notInStrs {a : Addr} {zs : List Str} (ha : H a = some (.lst (zs.map V.str))) (q : Q (.bl (!decide (x ∈ zs))) H) : rNotInU K (.str x) (.ref a) H Q := by
  unfold rNotInU
  exact .inr (.inr (.inr ⟨a, zs.map V.str, rfl, .inl (.inl (.inl ha)), rfl, flat_str zs, by rw [inV_str]; exact q⟩))
theorem inStrsT {a : Addr} {zs : List Str} (ha : SqT K H a (zs.map V.str)) (q : Q (.bl (decide (x ∈ zs))) H) : rInU K (.str x) (.ref a) H Q := by
  unfold rInU
  exact .inr (.inr (.inr ⟨a, zs.map V.str, rfl, .inr ha, rfl, flat_str zs, by rw [inV_str]; exact q⟩))
theorem inDat {u : V} {ds : List PyData} (r : Rp F H v d) (r' : Rp F H u (.list ds)) (pd : plain d = true) (pe : plain (.list ds) = true) (sd : SeqAt.shaped d = true) (se : SeqAt.shaped (.list ds) = true) (q : Q (.bl (ds.any fun z => PyData.eqv z d)) H) : rInU K v u H Q := by
  unfold rInU
  exact .inl ⟨d, ds, r.dp pd, r'.dp pe, sd, se, q⟩
theorem notInDat {u : V} {ds : List PyData} (r : Rp F H v d) (r' : Rp F H u (.list ds)) (pd : plain d = true) (pe : plain (.list ds) = true) (sd : SeqAt.shaped d = true) (se : SeqAt.shaped (.list ds) = true) (q : Q (.bl (!ds.any fun z => PyData.eqv z d)) H) : rNotInU K v u H Q := by
  unfold rNotInU
  exact .inl ⟨d, ds, r.dp pd, r'.dp pe, sd, se, q⟩
theorem inDatT {u : V} {ds : List PyData} (r : Rp F H v d) (r' : Rp F H u (.tuple ds)) (pd : plain d = true) (pe : plain (.tuple ds) = true) (sd : SeqAt.shaped d = true) (se : SeqAt.shaped (.tuple ds) = true) (q : Q (.bl (ds.any fun z => PyData.eqv z d)) H) : rInU K v u H Q := by
  unfold rInU
  exact .inr (.inl ⟨d, ds, r.dp pd, r'.dp pe, sd, se, q⟩)
theorem notInDatT {u : V} {ds : List PyData} (r : Rp F H v d) (r' : Rp F H u (.tuple ds)) (pd : plain d = true) (pe : plain (.tuple ds) = true) (sd : SeqAt.shaped d = true) (se : SeqAt.shaped (.tuple ds) = true) (q : Q (.bl (!ds.any fun z => PyData.eqv z d)) H) : rNotInU K v u H Q := by
  unfold rNotInU
  exact .inr (.inl ⟨d, ds, r.dp pd, r'.dp pe, sd, se, q⟩)
end

/-! ### the spring of draws -/
/-- the list at st: the cells left (at cl), what is left of a great one, how many were drawn, the mix -/
structure Strm (st cl : Addr) (H : Hp) (c : Nat) : Prop where
  ex : ∃ (a b : Int) (ns : List Int), H st = some (.lst [.ref cl, .int a, .int (c : Int), .int b]) ∧ H cl = some (.lst (ns.map V.int)) ∧ 0 ≤ a ∧ 0 ≤ b ∧ b < 2147483647 ∧ ns.length ≤ 1000
theorem Strm.ne {st cl : Addr} {H : Hp} {c : Nat} (s : Strm st cl H c) : st ≠ cl := by
  obtain ⟨a, b, ns, h1, h2, _⟩ := s.ex
  intro e
  rw [e, h2] at h1
  have h3 := Option.some.inj h1
  injection h3 with h3
  cases ns with
  | nil => cases h3
  | cons n ns => injection h3 with h4 _; cases h4
theorem Strm.ex' {st cl : Addr} {H H' : Hp} {c : Nat} {F : List Addr} (s : Strm st cl H c) (h1 : st ∉ F) (h2 : cl ∉ F) (x : ExF F H H') : Strm st cl H' c := by
  obtain ⟨a, b, ns, k1, k2, r⟩ := s.ex
  exact ⟨a, b, ns, x.at_ _ _ h1 k1, x.at_ _ _ h2 k2, r⟩
theorem Strm.trk {st cl : Addr} {H : Hp} {c : Nat} (s : Strm st cl H c) : Trk [st, cl] H := by
  obtain ⟨a, b, ns, k1, k2, r⟩ := s.ex
  exact (Trk.nil.cons k2).cons k1
def spDraw : Sp := fun vs H Q _ => ∃ (st cl : Addr) (c : Nat) (m : Int), vs = [.ref st, .int m] ∧ Strm st cl H c ∧ c < 2 ^ 48 ∧ 0 < m ∧ m < 2 ^ 30 ∧
  ∀ (k : Int) H', 0 ≤ k → k < m → Strm st cl H' (c + 1) → ExF [st, cl] H H' → Q (.int k) H'
end Tw
end

section
set_option Elab.async false
set_option linter.all false
set_option maxRecDepth 100000
set_option maxHeartbeats 4000000
namespace Tw
open PySem L2 PyProof.Rows

/-! ### good data: no dicts, short texts of real signs, n deep at most -/
def okS (s : Str) : Bool := PyData.strOk s && decide (s.length ≤ 200)
mutual
def ok : Nat → PyData → Bool
  | _, .none => true
  | _, .bool _ => true
  | _, .int _ => true
  | _, .str s => okS s
  | 0, .list _ => false
  | 0, .tuple _ => false
  | n + 1, .list ds => oks n ds && decide (ds.length ≤ 100000)
  | n + 1, .tuple ds => oks n ds && decide (ds.length ≤ 100000)
  | _, .dict _ => false
def oks : Nat → List PyData → Bool
  | _, [] => true
  | n, d :: ds => ok n d && oks n ds
end
theorem oks_iff {n : Nat} : ∀ {ds : List PyData}, oks n ds = true ↔ ∀ d ∈ ds, ok n d = true
  | [] => by simp [oks]
  | d :: ds => by rw [oks, Bool.and_eq_true, oks_iff (ds := ds)]; simp
theorem oks_cons {n : Nat} {d : PyData} {ds : List PyData} : oks n (d :: ds) = true ↔ ok n d = true ∧ oks n ds = true := by rw [oks, Bool.and_eq_true]
theorem ok_list {n : Nat} {ds : List PyData} : ok (n + 1) (.list ds) = true ↔ oks n ds = true ∧ ds.length ≤ 100000 := by rw [ok, Bool.and_eq_true, decide_eq_true_eq]
theorem ok_tuple {n : Nat} {ds : List PyData} : ok (n + 1) (.tuple ds) = true ↔ oks n ds = true ∧ ds.length ≤ 100000 := by rw [ok, Bool.and_eq_true, decide_eq_true_eq]
theorem ok_str {n : Nat} {s : Str} : ok n (.str s) = okS s := by cases n <;> rw [ok]
theorem ok_int {n : Nat} {i : Int} : ok n (.int i) = true := by cases n <;> rw [ok]
theorem ok_bool {n : Nat} {b : Bool} : ok n (.bool b) = true := by cases n <;> rw [ok]
theorem ok_none {n : Nat} : ok n .none = true := by cases n <;> rw [ok]
theorem oks_ints {n : Nat} (ns : List Int) : oks n (ns.map PyData.int) = true := oks_iff.mpr fun d hd => by
  obtain ⟨i, _, rfl⟩ := List.mem_map.mp hd
  exact ok_int
theorem oks_append {n : Nat} {ds es : List PyData} : oks n (ds ++ es) = true ↔ oks n ds = true ∧ oks n es = true := by
  rw [oks_iff, oks_iff, oks_iff]
  exact ⟨fun h => ⟨fun d k => h d (List.mem_append_left _ k), fun d k => h d (List.mem_append_right _ k)⟩, fun h d k => (List.mem_append.mp k).elim (h.1 d) (h.2 d)⟩
mutual
theorem ok_succ : ∀ {n : Nat} {d : PyData}, ok n d = true → ok (n + 1) d = true
  | n, .none, _ => ok_none
  | n, .bool _, _ => ok_bool
  | n, .int _, _ => ok_int
  | n, .str s, h => by rw [ok_str] at h ⊢; exact h
  | 0, .list _, h => by simp [ok] at h
  | 0, .tuple _, h => by simp [ok] at h
  | n + 1, .list ds, h => by rw [ok_list] at h ⊢; exact ⟨oks_succ h.1, h.2⟩
  | n + 1, .tuple ds, h => by rw [ok_tuple] at h ⊢; exact ⟨oks_succ h.1, h.2⟩
  | n, .dict _, h => by cases n <;> simp [ok] at h
theorem oks_succ : ∀ {n : Nat} {ds : List PyData}, oks n ds = true → oks (n + 1) ds = true
  | n, [], _ => by rw [oks]
  | n, d :: ds, h => by rw [oks_cons] at h ⊢; exact ⟨ok_succ h.1, oks_succ h.2⟩
end
theorem ok_le {n m : Nat} {d : PyData} (h : ok n d = true) (k : n ≤ m) : ok m d = true := by
  induction k with
  | refl => exact h
  | step _ ih => exact ok_succ ih
theorem oks_le {n m : Nat} {ds : List PyData} (h : oks n ds = true) (k : n ≤ m) : oks m ds = true := by
  induction k with
  | refl => exact h
  | step _ ih => exact oks_succ ih
mutual
theorem ok_plain : ∀ {n : Nat} {d : PyData}, ok n d = true → plain d = true
  | _, .none, _ => by rw [plain]
  | _, .bool _, _ => by rw [plain]
  | _, .int _, _ => by rw [plain]
  | _, .str _, _ => by rw [plain]
  | 0, .list _, h => by simp [ok] at h
  | 0, .tuple _, h => by simp [ok] at h
  | n + 1, .list ds, h => by rw [ok_list] at h; rw [plain]; exact oks_plain h.1
  | n + 1, .tuple ds, h => by rw [ok_tuple] at h; rw [plain]; exact oks_plain h.1
  | n, .dict _, h => by cases n <;> simp [ok] at h
theorem oks_plain : ∀ {n : Nat} {ds : List PyData}, oks n ds = true → plains ds = true
  | n, [], _ => by rw [plains]
  | n, d :: ds, h => by rw [oks_cons] at h; rw [plains, ok_plain h.1, oks_plain h.2]; rfl
end
mutual
theorem ok_lay : ∀ {n : Nat} {d : PyData}, ok n d = true → d.canLay0 = true ∧ d.depth ≤ n
  | _, .none, _ => ⟨by rw [PyData.canLay0], by rw [PyData.depth]; exact Nat.zero_le _⟩
  | _, .bool _, _ => ⟨by rw [PyData.canLay0], by rw [PyData.depth]; exact Nat.zero_le _⟩
  | _, .int _, _ => ⟨by rw [PyData.canLay0], by rw [PyData.depth]; exact Nat.zero_le _⟩
  | _, .str s, h => by
    rw [ok_str] at h
    unfold okS at h
    rw [Bool.and_eq_true] at h
    exact ⟨by rw [PyData.canLay0]; exact h.1, by rw [PyData.depth]; exact Nat.zero_le _⟩
  | 0, .list _, h => by simp [ok] at h
  | 0, .tuple _, h => by simp [ok] at h
  | n + 1, .list ds, h => by
    rw [ok_list] at h
    have q := oks_lay h.1
    exact ⟨by rw [PyData.canLay0]; exact q.1, by rw [PyData.depth]; exact Nat.succ_le_succ q.2⟩
  | n + 1, .tuple ds, h => by
    rw [ok_tuple] at h
    have q := oks_lay h.1
    exact ⟨by rw [PyData.canLay0]; exact q.1, by rw [PyData.depth]; exact Nat.succ_le_succ q.2⟩
  | n, .dict _, h => by cases n <;> simp [ok] at h
theorem oks_lay : ∀ {n : Nat} {ds : List PyData}, oks n ds = true → PyData.canLayAll0 ds = true ∧ PyData.depthAll ds ≤ n
  | n, [], _ => ⟨by rw [PyData.canLayAll0], by rw [PyData.depthAll]; exact Nat.zero_le _⟩
  | n, d :: ds, h => by
    rw [oks_cons] at h
    have q := ok_lay h.1
    have q2 := oks_lay h.2
    exact ⟨by rw [PyData.canLayAll0, q.1, q2.1]; rfl, by rw [PyData.depthAll]; exact Nat.max_le.mpr ⟨q.2, q2.2⟩⟩
end
theorem ok_shaped {n : Nat} {d : PyData} (h : ok n d = true) (k : n ≤ 64 := by decide) : SeqAt.shaped d = true := by
  have q := ok_lay h
  unfold SeqAt.shaped
  rw [q.1, decide_eq_true (Nat.le_trans q.2 k)]
  rfl
section
variable {F G : List Addr} {K : PySem.W.Frag} {H : Hp} {v u : V} {d e : PyData} {ds : List PyData} {Q : VK}
theorem eqO {n m : Nat} (r : Rp F H v d) (r' : Rp G H u e) (hd : ok n d = true) (he : ok m e = true) (q : Q (.bl (PyData.eqv d e)) H) (hn : n ≤ 64 := by decide) (hm : m ≤ 64 := by decide) : rEqU K v u H Q :=
  eqD (r.sub (G := []) fun a z => absurd z (by simp)) (r'.sub (G := []) fun a z => absurd z (by simp)) (ok_plain hd) (ok_plain he) (ok_shaped hd hn) (ok_shaped he hm) q
theorem neO {n m : Nat} (r : Rp F H v d) (r' : Rp G H u e) (hd : ok n d = true) (he : ok m e = true) (q : Q (.bl (!PyData.eqv d e)) H) (hn : n ≤ 64 := by decide) (hm : m ≤ 64 := by decide) : rNeU K v u H Q :=
  neD (r.sub (G := []) fun a z => absurd z (by simp)) (r'.sub (G := []) fun a z => absurd z (by simp)) (ok_plain hd) (ok_plain he) (ok_shaped hd hn) (ok_shaped he hm) q
theorem inO {n m : Nat} (r : Rp F H v d) (r' : Rp G H u (.list ds)) (hd : ok n d = true) (he : ok m (.list ds) = true) (q : Q (.bl (ds.any fun z => PyData.eqv z d)) H) (hn : n ≤ 64 := by decide) (hm : m ≤ 64 := by decide) : rInU K v u H Q :=
  inDat (r.sub (G := []) fun a z => absurd z (by simp)) (r'.sub (G := []) fun a z => absurd z (by simp)) (ok_plain hd) (ok_plain he) (ok_shaped hd hn) (ok_shaped he hm) q
theorem notInO {n m : Nat} (r : Rp F H v d) (r' : Rp G H u (.list ds)) (hd : ok n d = true) (he : ok m (.list ds) = true) (q : Q (.bl (!ds.any fun z => PyData.eqv z d)) H) (hn : n ≤ 64 := by decide) (hm : m ≤ 64 := by decide) : rNotInU K v u H Q :=
  notInDat (r.sub (G := []) fun a z => absurd z (by simp)) (r'.sub (G := []) fun a z => absurd z (by simp)) (ok_plain hd) (ok_plain he) (ok_shaped hd hn) (ok_shaped he hm) q
theorem notInOT {n m : Nat} (r : Rp F H v d) (r' : Rp G H u (.tuple ds)) (hd : ok n d = true) (he : ok m (.tuple ds) = true) (q : Q (.bl (!ds.any fun z => PyData.eqv z d)) H) (hn : n ≤ 64 := by decide) (hm : m ≤ 64 := by decide) : rNotInU K v u H Q :=
  notInDatT (r.sub (G := []) fun a z => absurd z (by simp)) (r'.sub (G := []) fun a z => absurd z (by simp)) (ok_plain hd) (ok_plain he) (ok_shaped hd hn) (ok_shaped he hm) q
end
theorem int1 {H : Hp} {Q : VK} {i : Int} (q : Q (.int i) H) : rInt1 [.int i] H Q := by
  unfold rInt1
  exact .inl ⟨i, rfl, q⟩
theorem str1 {H : Hp} {Q : VK} {i : Int} (h : i.natAbs.log2 < 1920) (q : Q (.str (Str.ofString (toString i))) H) : rStr1 [.int i] H Q := by
  unfold rStr1
  exact ⟨i, rfl, h, q⟩
theorem max2 {H : Hp} {Q : VK} {i j : Int} (q : Q (.int (if j > i then j else i)) H) : rMax2 [.int i, .int j] H Q := by
  unfold rMax2
  exact ⟨i, j, rfl, q⟩
theorem allB {K : PySem.W.Frag} {H : Hp} {Q : VK} {a : Addr} {bs : List Bool} (h : H a = some (.lst (bs.map V.bl))) (q : Q (.bl (bs.all id)) H) : rAllU K [.ref a] H Q := by
  unfold rAllU
  exact ⟨a, bs, rfl, .inl (.inl h), q⟩
theorem anyB {K : PySem.W.Frag} {H : Hp} {Q : VK} {a : Addr} {bs : List Bool} (h : H a = some (.lst (bs.map V.bl))) (q : Q (.bl (bs.any id)) H) : rAnyU K [.ref a] H Q := by
  unfold rAnyU
  exact ⟨a, bs, rfl, .inl (.inl h), q⟩
/-! ### stores, the heap behind them a letter -/
section
variable {F G : List Addr} {K : PySem.W.Frag} {H : Hp} {v u y : V} {d e : PyData} {Q : VK} {l b : Addr} {xs ys : List V}
theorem setU {k : Int} {j : Nat} {R : Hp → Prop} (h : H l = some (.lst xs)) (hj : ixN xs.length k = some j) (q : ∀ H', H' = upd H l (.lst (xs.set j v)) → R H') : rSetU (.ref l) (.int k) v H R := .inl ⟨l, xs, k, j, rfl, rfl, h, hj, q _ rfl⟩
theorem setD {k : Str} {kvs : List (Key × V)} {R : Hp → Prop} (h : H l = some (.dK kvs)) (hz : kvs.length < sizeLine) (q : ∀ H', H' = upd H l (.dK (putK kvs (.inr k) v)) → R H') : rSetU (.ref l) (.str k) v H R := .inr ⟨l, _, rfl, .k (k := .inr k) h hz, q _ rfl⟩
theorem tyL (h : H l = some (.lst xs)) : tyV K "list" (.ref l) H := .inl ⟨rfl, _, .inl (.inl h)⟩
theorem popAt {i : Int} {k : Nat} (h : H l = some (.lst xs)) (h0 : 0 ≤ i) (h1 : i < 2 ^ 63) (hk : i = (k : Int)) (hy : xs[k]? = some y) (q : ∀ H', H' = upd H l (.lst (xs.eraseIdx k)) → Q y H') : rPopAtU (.ref l) [.int i] H Q := by
  unfold rPopAtU
  exact ⟨l, xs, i, k, y, rfl, rfl, h, by omega, h1, by
    subst hk
    unfold seqIndex?
    have hl := (List.getElem?_eq_some_iff.mp hy).1
    have h0 : ¬ ((k : Int) < 0) := by omega
    simp only [if_neg h0]
    rw [if_pos (by simp; exact hl)]
    simp, hy, q _ rfl⟩
theorem popL (h : H l = some (.lst (xs ++ [y]))) (q : ∀ H', H' = upd H l (.lst xs) → Q y H') : rPopU (.ref l) [] H Q := by
  unfold rPopU
  exact ⟨l, xs ++ [y], y, rfl, rfl, h, by simp, by rw [List.dropLast_concat]; exact q _ rfl⟩
theorem app (h : H l = some (.lst xs)) (hz : xs.length < sizeLine) (q : ∀ H', H' = upd H l (.lst (xs ++ [y])) → Q .non H') : rAppendU (.ref l) [y] H Q := by
  unfold rAppendU
  exact ⟨l, xs, y, rfl, rfl, h, hz, q _ rfl⟩
theorem extL (h : H l = some (.lst xs)) (hb : H b = some (.lst ys)) (hz : xs.length + ys.length ≤ sizeLine) (q : ∀ H', H' = upd H l (.lst (xs ++ ys)) → Q .non H') : rExtU K (.ref l) [.ref b] H Q := by
  unfold rExtU
  exact .inl ⟨l, b, xs, ys, rfl, rfl, h, hb, hz, q _ rfl⟩
theorem extT (h : H l = some (.lst xs)) (hb : H b = some (.tup ys)) (hz : xs.length + ys.length ≤ sizeLine) (q : ∀ H', H' = upd H l (.lst (xs ++ ys)) → Q .non H') : rExtU K (.ref l) [.ref b] H Q := by
  unfold rExtU
  exact .inr ⟨l, b, xs, ys, rfl, rfl, h, .inl (.inl hb), hz, q _ rfl⟩
theorem lstOfQ (h : SqL K H b ys ∨ SqT K H b ys) (q : ∀ p H', H p = none → H' = upd H p (.lst ys) → Q (.ref p) H') : rLstOf K [.ref b] H Q := by
  unfold rLstOf
  exact ⟨b, ys, rfl, h, fun p hp => q p _ hp rfl⟩
theorem lstOfL (h : H b = some (.lst ys)) (q : ∀ p H', H p = none → H' = upd H p (.lst ys) → Q (.ref p) H') : rLstOf K [.ref b] H Q := by
  unfold rLstOf
  exact ⟨b, ys, rfl, .inl (.inl (.inl h)), fun p hp => q p _ hp rfl⟩
theorem lstOfT (h : H b = some (.tup ys)) (q : ∀ p H', H p = none → H' = upd H p (.lst ys) → Q (.ref p) H') : rLstOf K [.ref b] H Q := by
  unfold rLstOf
  exact ⟨b, ys, rfl, .inr (.inl (.inl h)), fun p hp => q p _ hp rfl⟩
theorem tupOfL (h : H b = some (.lst ys)) (q : ∀ p H', H p = none → H' = upd H p (.tup ys) → Q (.ref p) H') : rTupOf K [.ref b] H Q := by
  unfold rTupOf
  exact ⟨b, ys, rfl, .inl ⟨.inl (.inl h), fun p hp => q p _ hp rfl⟩⟩
theorem tupOfT (h : H b = some (.tup ys)) (q : Q (.ref b) H) : rTupOf K [.ref b] H Q := by
  unfold rTupOf
  exact ⟨b, ys, rfl, .inr ⟨.inl (.inl h), q⟩⟩
theorem catL {a : Addr} (ha : H a = some (.lst xs)) (hb : H b = some (.lst ys)) (h : xs.length + ys.length ≤ sizeLine) (q : ∀ p H', H p = none → H' = upd H p (.lst (xs ++ ys)) → Q (.ref p) H') : rAddU K (.ref a) (.ref b) H Q := addL ha hb h fun p hp => q p _ hp rfl
theorem mkT (hz : xs.length ≤ sizeLine) (q : ∀ p H', H p = none → H' = upd H p (.tup xs) → Q (.ref p) H') : xs.length ≤ sizeLine ∧ ∀ p, H p = none → Q (.ref p) (upd H p (.tup xs)) := ⟨hz, fun p hp => q p _ hp rfl⟩
theorem mkL (hz : xs.length ≤ sizeLine) (q : ∀ p H', H p = none → H' = upd H p (.lst xs) → Q (.ref p) H') : xs.length ≤ sizeLine ∧ ∀ p, H p = none → Q (.ref p) (upd H p (.lst xs)) := ⟨hz, fun p hp => q p _ hp rfl⟩
/-- a new list, a new tuple: the heap behind it a letter -/
theorem newL {R : Addr → Hp → Prop} (q : ∀ p H', H p = none → H' = upd H p (.lst xs) → R p H') : ∀ p, H p = none → R p (upd H p (.lst xs)) := fun p hp => q p _ hp rfl
theorem newT {R : Addr → Hp → Prop} (q : ∀ p H', H p = none → H' = upd H p (.tup xs) → R p H') : ∀ p, H p = none → R p (upd H p (.tup xs)) := fun p hp => q p _ hp rfl
end
section
variable {F : List Addr} {H H' H0 : Hp} {p a : Addr} {o u : HO}
theorem eqs (e : H' = upd H p o) : H' p = some o := by rw [e, upd_same]
theorem eqn (e : H' = upd H p o) (n : a ≠ p) (h : H a = some u) : H' a = some u := by rw [e, upd_ne n]; exact h
/-- at a new place -/
theorem eqf (e : H' = upd H p o) (n : H p = none) (h : H a = some u) : H' a = some u := eqn e (ne_of_none h n) h
theorem exn (e : H' = upd H p o) (n : H p = none) : ExF F H H' := by rw [e]; exact ExF.new n
theorem exm (e : H' = upd H p o) (n : H0 p = none ∨ p ∈ F) (x : ExF F H0 H) : ExF F H0 H' := by rw [e]; exact x.mut n
end
end Tw
end

section
set_option Elab.async false
set_option linter.all false
set_option maxRecDepth 100000
set_option maxHeartbeats 4000000
namespace Tw
open PySem L2 PyProof.Rows

/-! ### defs called by their names -/
structure Cal (P : Program) (w : World) (K : PySem.W.Frag) (mg : Str → Option Value) (base : Heap) (k : Nat) (x : Str) (sp : Sp) (dvs : List V) : Prop where
  ex : ∃ (f : Addr) (fd : FuncData) (ps : List Str) (ds : List Value), FnOk P w K mg base CX0 k f fd ps sp ∧ mg x = some (.ref f) ∧ PySem.W.keepIn K (.ref f) = true ∧ Binds K fd ps ds ∧ Vals dvs ds
theorem Cal.mk' {P : Program} {w : World} {K : PySem.W.Frag} {mg : Str → Option Value} {base : Heap} {k : Nat} {x : Str} {sp : Sp} {f : Addr} {fd : FuncData} {ps : List Str}
    (F : FnOk P w K mg base CX0 k f fd ps sp) (hf : mg x = some (.ref f)) (kp : PySem.W.keepIn K (.ref f) = true) (b : Binds K fd ps []) : Cal P w K mg base k x sp [] := ⟨f, fd, ps, [], F, hf, kp, b, .nil⟩
theorem Cal.mono {P : Program} {w : World} {K : PySem.W.Frag} {mg : Str → Option Value} {base : Heap} {j k : Nat} {x : Str} {sp : Sp} {dvs : List V} (c : Cal P w K mg base j x sp dvs) (h : j ≤ k) : Cal P w K mg base k x sp dvs := by
  obtain ⟨f, fd, ps, ds, F, r⟩ := c.ex
  exact ⟨f, fd, ps, ds, F.mono h, r⟩
section
variable {X : Cx} {x : Str} {sp : Sp} {dvs : List V} {j k : Nat} {e : Expr} {es : List Expr} {t : TA} {p pos : Pos} {v : V}
theorem pe_c (c : Cal X.prog X.w X.K X.mg X.base k x sp dvs) (hr : Room j X.A) (hk : k ≤ j) (hg : Gl X x) (ha : PA X (e :: es) t)
    (hdb : (x == ("__debug__" : Str)) = false := by decide) (he : starEach (e :: es) X.env = (false, eval e X.env) :: starEach es X.env := by rfl) (hpl : (backTo pos (starEach es X.env)).any (·.1) = false := by rfl) :
    PE X (.Call (.Name x p) (e :: es) [] pos) (tCall sp dvs E0 t) := by
  obtain ⟨f, fd, ps, ds, F, hm, kp, b, d⟩ := c.ex
  exact pe_call F (hr.mono hk) hg hm kp b d pass0 ha hdb he hpl
theorem pe_gc (hg : Gl X x) (h : ∃ u, X.mg x = some u ∧ RelV v u) (hd : (x == ("__debug__" : Str)) = false := by decide) : PE X (.Name x pos) (tC v) := by
  obtain ⟨u, h1, h2⟩ := h
  exact pe_glob hg h1 h2 hd
end
/-- what stands at a: a list or a tuple of these -/
def Sq (H : Hp) (a : Addr) (xs : List V) : Prop := H a = some (.lst xs) ∨ H a = some (.tup xs)
theorem Sq.eqf {H H' : Hp} {a p : Addr} {o : HO} {xs : List V} (h : Sq H a xs) (e : H' = upd H p o) (n : H p = none) : Sq H' a xs := h.elim (fun h => .inl (Tw.eqf e n h)) fun h => .inr (Tw.eqf e n h)
theorem Sq.ex {H H' : Hp} {a : Addr} {F : List Addr} {xs : List V} (h : Sq H a xs) (x : ExF F H H') (n : a ∉ F) : Sq H' a xs := h.elim (fun h => .inl (x.at_ _ _ n h)) fun h => .inr (x.at_ _ _ n h)
theorem Sq.ne {H : Hp} {a : Addr} {xs : List V} (h : Sq H a xs) : H a ≠ none := by
  rcases h with h | h <;> (rw [h]; exact fun z => nomatch z)
section
variable {K : PySem.W.Frag} {i : Nat} {a : Addr} {xs : List V} {g : TG} {tt : TT} {te : TE} {vs : List Nat} {σ : L2.St} {H : Hp} {Q : VK}
/-- [te for g in range(n)], n known -/
theorem lcR {n : Nat} (Pv : Addr → Nat → Hp → Prop)
    (h0 : ∀ D H', H D = none → H' = upd H D (.lst []) → Pv D 0 H')
    (hs : ∀ D i H', H D = none → i < n → Pv D i H' → g (.int (0 + (i : Nat))) (wipe σ vs) H' fun σ2 H2 => wipe σ2 vs = wipe σ vs ∧ tt σ2 H2 fun b H3 =>
      if b = true then te σ2 H3 fun y H4 => ∃ acc, H4 D = some (.lst acc) ∧ acc.length < sizeLine ∧ Pv D (i + 1) (upd H4 D (.lst (acc ++ [y]))) else Pv D (i + 1) H3)
    (hd : ∀ D H', H D = none → Pv D n H' → Q (.ref D) H') :
    ∀ D, H D = none → ∃ W : Nat → Nat → Hp → Prop, (∃ m, W 0 m (upd H D (.lst []))) ∧ ∀ i m H, W i m H →
      ((Itr 0 n).stop i H ∧ Q (.ref D) H) ∨ ((Itr 0 n).go i H ∧ ∃ Nx : Hp → Prop, (∀ H', Nx H' → ∃ m', m' < m ∧ W (i + 1) m' H') ∧ ∀ x H', (Itr 0 n).yld i H x H' → g x (wipe σ vs) H' fun σ2 H2 => wipe σ2 vs = wipe σ vs ∧ tt σ2 H2 fun b H3 =>
        if b = true then te σ2 H3 fun y H4 => ∃ acc, H4 D = some (.lst acc) ∧ acc.length < sizeLine ∧ Nx (upd H4 D (.lst (acc ++ [y]))) else Nx H3) :=
  fun D hD => lc_range (Pv D) (h0 D _ hD rfl) (fun i H' hi p => hs D i H' hD hi p) fun H' p => hd D H' hD p
end
theorem lenSq {K : PySem.W.Frag} {H : Hp} {a : Addr} {xs : List V} {Q : VK} (ha : Sq H a xs) (q : Q (.int (xs.length : Int)) H) : rLenU K [.ref a] H Q := ha.elim (fun h => lenL h q) fun h => lenT h q
theorem ixSq {K : PySem.W.Frag} {H : Hp} {a : Addr} {xs : List V} {v : V} {i : Int} {Q : VK} (ha : Sq H a xs) (h : atI xs i = some v) (q : Q v H) : rIxU K (.ref a) (.int i) H Q := ha.elim (fun k => ixL k h q) fun k => ixT k h q
theorem lstOfSq {K : PySem.W.Frag} {H : Hp} {b : Addr} {ys : List V} {Q : VK} (h : Sq H b ys) (q : ∀ p H', H p = none → H' = upd H p (.lst ys) → Q (.ref p) H') : rLstOf K [.ref b] H Q := h.elim (fun h => lstOfL h q) fun h => lstOfT h q
theorem atN {α : Type} {xs : List α} {k : Int} {v : α} (h0 : 0 ≤ k) (h : xs[k.toNat]? = some v) : atI xs k = some v := by
  have hl := (List.getElem?_eq_some_iff.mp h).1
  unfold atI ixN
  rw [if_pos h0, if_pos (by omega)]
  exact h
/-- rows of data and their arrangements -/
theorem RpL.perm {F : List Addr} {H : Hp} {xs ys : List V} (p : ys.Perm xs) : ∀ {ds : List PyData}, RpL F H xs ds → ∃ es, es.Perm ds ∧ RpL F H ys es := by
  induction p with
  | nil => intro ds r; exact ⟨ds, .refl _, r⟩
  | cons x p ih =>
    intro ds r
    cases ds with
    | nil => exact absurd r.1 (by simp)
    | cons d ds =>
      obtain ⟨v, vs, e, h, q⟩ := r.cons_inv
      cases e
      obtain ⟨es, p', q'⟩ := ih q
      exact ⟨d :: es, p'.cons d, .cons h q'⟩
  | swap x y l =>
    intro ds r
    cases ds with
    | nil => exact absurd r.1 (by simp)
    | cons d ds =>
      obtain ⟨v, vs, e, h, q⟩ := r.cons_inv
      cases ds with
      | nil => cases e; exact absurd q.1 (by simp)
      | cons d' ds =>
        obtain ⟨v', vs', e', h', q'⟩ := q.cons_inv
        cases e
        cases e'
        exact ⟨d' :: d :: ds, .swap _ _ _, .cons h' (.cons h q')⟩
  | trans p1 p2 ih1 ih2 =>
    intro ds r
    obtain ⟨es, p', q'⟩ := ih2 r
    obtain ⟨fs, p'', q''⟩ := ih1 q'
    exact ⟨fs, p''.trans p', q''⟩
theorem erase_perm {α : Type} : ∀ {l : List α} {k : Nat} {y : α}, l[k]? = some y → (y :: l.eraseIdx k).Perm l
  | [], k, y, h => by simp at h
  | x :: l, 0, y, h => by
    have e : x = y := by simpa using h
    subst e
    exact .refl _
  | x :: l, k + 1, y, h => by
    have ih := erase_perm (l := l) (k := k) (y := y) (by simpa using h)
    show (y :: x :: l.eraseIdx k).Perm (x :: l)
    exact (List.Perm.swap x y _).trans (ih.cons x)

/-! ### promises of the draws -/
/-- some[draw]: an item at a drawn place -/
def spPick : Sp := fun vs H Q _ => ∃ (st cl : Addr) (c : Nat) (l : Addr) (xs : List V), vs = [.ref st, .ref l] ∧ Strm st cl H c ∧ c < 2 ^ 48 ∧ Sq H l xs ∧ l ≠ st ∧ l ≠ cl ∧ 0 < xs.length ∧ xs.length < 2 ^ 30 ∧
  ∀ (k : Nat) (v : V) H', xs[k]? = some v → Strm st cl H' (c + 1) → ExF [st, cl] H H' → Q v H'
/-- the things in a drawn order, a new list -/
def spMixed : Sp := fun vs H Q _ => ∃ (st cl : Addr) (c : Nat) (l : Addr) (xs : List V), vs = [.ref st, .ref l] ∧ Strm st cl H c ∧ c + xs.length < 2 ^ 48 ∧ Sq H l xs ∧ xs.length < 2 ^ 20 ∧
  ∀ (r : Addr) (ys : List V) H', ys.Perm xs → H r = none → H' r = some (.lst ys) → Strm st cl H' (c + xs.length) → ExF [st, cl] H H' → Q (.ref r) H'
/-- the spring: from the script -/
def spStart (K : PySem.W.Frag) : Sp := fun vs H Q _ => ∃ (a : Addr) (ns : List Int), vs = [.ref a] ∧ SqL K H a (ns.map V.int) ∧ ns.length ≤ 1000 ∧
  ∀ st cl H', Strm st cl H' 0 → H st = none → H cl = none → ExF [] H H' → Q (.ref st) H'
end Tw
end

section
set_option Elab.async false
set_option linter.all false
set_option maxRecDepth 100000
set_option maxHeartbeats 4000000
namespace Tw
open PySem L2 PyProof.Rows

/-! ### what is walked: a row of values that stands still, at a place that is none of M -/
def IterS (M : List Addr) (wi : TI) (σ : L2.St) (H : Hp) (xs : List V) : Prop :=
  ∀ R : It → Hp → Prop, (∀ J a o H1, L2.Walk J xs.length (fun H' => H' a = some o) (YAt xs) → H1 a = some o → a ∉ M → ExF [] H H1 → R J H1) → wi σ H R
theorem wkL {K : PySem.W.Frag} {a : Addr} {xs : List V} : L2.Walk (Itl K a) xs.length (fun H' => H' a = some (.lst xs)) (YAt xs) :=
  (walk_list (K := K) (a := a) (xs := xs)).mono (fun H h => .inl (.inl h)) fun _ _ _ _ _ _ y => y
theorem wkT {K : PySem.W.Frag} {a : Addr} {xs : List V} : L2.Walk (Itt K a) xs.length (fun H' => H' a = some (.tup xs)) (YAt xs) :=
  (walk_tup (K := K) (a := a) (xs := xs)).mono (fun H h => .inl (.inl h)) fun _ _ _ _ _ _ y => y
section
variable {K : PySem.W.Frag} {M F : List Addr} {wi : TI} {i : Nat} {a : Addr} {xs : List V} {g : TG} {tt : TT} {te : TE} {vs : List Nat} {σ : L2.St} {H : Hp} {Q : VK}
theorem iter_var (hv : σ[i]? = some (some (.ref a))) (ha : Sq H a xs) (hM : a ∉ M) : IterS M (iSeqU K (tVar i)) σ H xs := fun R h => by
  rcases ha with ha | ha
  · exact .inl ⟨_, hv, a, rfl, ⟨xs, .inl (.inl ha)⟩, h _ a _ H wkL ha hM ExF.refl⟩
  · exact .inr (.inl ⟨_, hv, a, rfl, ⟨xs, .inl (.inl ha)⟩, h _ a _ H wkT ha hM ExF.refl⟩)
/-- a list that te gives -/
theorem iter_L (h : ∀ Qc : VK, (∀ p H1, H1 p = some (.lst xs) → p ∉ M → ExF [] H H1 → Qc (.ref p) H1) → te σ H Qc) : IterS M (iSeqU K te) σ H xs := fun R k =>
  .inl (h _ fun p H1 hp hM x => ⟨p, rfl, ⟨xs, .inl (.inl hp)⟩, k _ p _ H1 wkL hp hM x⟩)
theorem iter_T (h : ∀ Qc : VK, (∀ p H1, H1 p = some (.tup xs) → p ∉ M → ExF [] H H1 → Qc (.ref p) H1) → te σ H Qc) : IterS M (iSeqU K te) σ H xs := fun R k =>
  .inr (.inl (h _ fun p H1 hp hM x => ⟨p, rfl, ⟨xs, .inl (.inl hp)⟩, k _ p _ H1 wkT hp hM x⟩))
theorem lcS (hi : IterS M wi σ H xs) (Pv : Hp → Addr → Nat → Hp → Prop)
    (h0 : ∀ H1 D H2, ExF [] H H1 → H1 D = none → H2 = upd H1 D (.lst []) → Pv H1 D 0 H2) (hk : ∀ H1 D i H', H1 D = none → Pv H1 D i H' → ExF (D :: M) H1 H')
    (hs : ∀ H1 D i x H', ExF [] H H1 → H1 D = none → xs[i]? = some x → Pv H1 D i H' → g x (wipe σ vs) H' fun σ2 H2 => wipe σ2 vs = wipe σ vs ∧ tt σ2 H2 fun b H3 =>
      if b = true then te σ2 H3 fun y H4 => ∃ acc, H4 D = some (.lst acc) ∧ acc.length < sizeLine ∧ Pv H1 D (i + 1) (upd H4 D (.lst (acc ++ [y]))) else Pv H1 D (i + 1) H3)
    (hd : ∀ H1 D H', ExF [] H H1 → H1 D = none → Pv H1 D xs.length H' → Q (.ref D) H') : tLcU wi g tt te vs σ H Q := by
  unfold tLcU
  exact hi _ fun J a o H1 w ho hM x D hD => lc_it w (Pv H1 D) (h0 H1 D _ x hD rfl) (fun i H' _ p => (hk H1 D i H' hD p).at_ a o (by
      intro z
      rcases List.mem_cons.mp z with z | z
      · subst z; rw [hD] at ho; cases ho
      · exact hM z) ho) (fun i v H' H'' _ p y => by
      obtain ⟨e, y⟩ := y
      subst e
      exact hs H1 D i v H'' x hD y p) fun H' p => hd H1 D H' x hD p
theorem forS {tb : TS} {D : Ends} (hi : IterS M wi σ H xs) (Pv : Hp → Nat → L2.St → Hp → Prop) (h0 : ∀ H1, ExF [] H H1 → Pv H1 0 σ H1) (hk : ∀ H1 i σ' H', Pv H1 i σ' H' → ExF M H1 H')
    (hs : ∀ H1 i x σ' H', ExF [] H H1 → xs[i]? = some x → Pv H1 i σ' H' → g x σ' H' fun σ2 H2 => tb { D with nx := Pv H1 (i + 1), ct := Pv H1 (i + 1), bk := D.nx } σ2 H2)
    (hd : ∀ H1 σ' H', ExF [] H H1 → Pv H1 xs.length σ' H' → D.nx σ' H') : tForU wi g tb D σ H := by
  unfold tForU
  exact hi _ fun J a o H1 w ho hM x => for_it w (Pv H1) (h0 H1 x) (fun i σ' H' _ p => (hk H1 i σ' H' p).at_ a o hM ho) (fun i v σ' H' H'' _ p y => by
      obtain ⟨e, y⟩ := y
      subst e
      exact hs H1 i v σ' H'' x y p) fun σ' H' p => hd H1 σ' H' x p
/-- [te for x in ..], te pure: data -/
theorem lcMap {k : Nat} (hi : IterS [] wi σ H xs) (es : List PyData) (hl : es.length = xs.length) (hz : xs.length < sizeLine) (hw : ∀ x, wipe ((wipe σ vs).set k (some x)) vs = wipe σ vs)
    (hs : ∀ (D : Addr) (i : Nat) (x : V) (e : PyData) (H' : Hp), xs[i]? = some x → es[i]? = some e → ExF [] H H' → H D = none → H' D ≠ none → ∀ Qc : VK, (∀ y H4, ExF [] H' H4 → Rp (D :: F) H4 y e → Qc y H4) → te ((wipe σ vs).set k (some x)) H' Qc)
    (hd : ∀ r ys H', H r = none → H' r = some (.lst ys) → RpL F H' ys es → ExF [] H H' → Q (.ref r) H') : tLcU wi (gName k) tYes te vs σ H Q := by
  refine lcS hi (fun H1 D i H' => ∃ acc, acc.length = i ∧ H' D = some (.lst acc) ∧ RpL (D :: F) H' acc (es.take i) ∧ ExF [D] H1 H') (fun H1 D H2 x hD e => ⟨[], rfl, eqs e, by simpa using RpL.nil, exn e hD⟩) (fun H1 D i H' hD ⟨_, _, _, _, x⟩ => x) ?_ ?_
  · rintro H1 D i x H' x1 hD hx ⟨acc, ha, hH, r, x2⟩
    have hi : i < xs.length := (List.getElem?_eq_some_iff.mp hx).1
    have he : es[i]? = some es[i] := by simp [hl, hi]
    have x3 : ExF [] H H' := x1.trans (x2.drop hD)
    refine ⟨hw x, ?_⟩
    unfold tYes
    dsimp only
    rw [if_pos rfl]
    refine hs D i x _ H' hx he x3 (x1.free hD) (by rw [hH]; exact fun z => nomatch z) _ fun y H4 x4 ry => ?_
    refine ⟨acc, x4.at_ _ _ (by simp) hH, by omega, acc ++ [y], by simp [ha], upd_same, ?_, ?_⟩
    · have e5 : ExF [D] H4 (upd H4 D (.lst (acc ++ [y]))) := ExF.refl.mut (.inr (by simp))
      have r' : RpL (D :: F) H4 (acc ++ [y]) (es.take (i + 1)) := by
        have q := (r.ex x4.of).snoc ry
        have et : es.take (i + 1) = es.take i ++ [es[i]] := by rw [List.take_succ, he]; rfl
        rw [et]; exact q
      exact ⟨r'.1, fun j v d h1 h2 => (r'.2 j v d h1 h2).ex (e5.sub fun a z => by rw [List.mem_singleton.mp z]; exact List.mem_cons_self)⟩
    · exact exm rfl (.inr (by simp)) (x2.trans x4.of)
  · rintro H1 D H' x1 hD ⟨acc, ha, hH, r, x2⟩
    rw [← hl, List.take_length] at r
    exact hd D acc H' (x1.free hD) hH r.drop (x1.trans (x2.drop hD))
/-- [te for x in ..], te pure: truths -/
theorem lcMapB {k : Nat} (hi : IterS [] wi σ H xs) (bs : List Bool) (hl : bs.length = xs.length) (hz : xs.length < sizeLine) (hw : ∀ x, wipe ((wipe σ vs).set k (some x)) vs = wipe σ vs)
    (hs : ∀ (i : Nat) (x : V) (b : Bool) (H' : Hp), xs[i]? = some x → bs[i]? = some b → ExF [] H H' → ∀ Qc : VK, (∀ H4, ExF [] H' H4 → Qc (.bl b) H4) → te ((wipe σ vs).set k (some x)) H' Qc)
    (hd : ∀ r H', H r = none → H' r = some (.lst (bs.map V.bl)) → ExF [] H H' → Q (.ref r) H') : tLcU wi (gName k) tYes te vs σ H Q := by
  refine lcS hi (fun H1 D i H' => H' D = some (.lst ((bs.take i).map V.bl)) ∧ ExF [D] H1 H') (fun H1 D H2 x hD e => ⟨eqs e, exn e hD⟩) (fun H1 D i H' hD ⟨_, x⟩ => x) ?_ ?_
  · rintro H1 D i x H' x1 hD hx ⟨hH, x2⟩
    have hi : i < xs.length := (List.getElem?_eq_some_iff.mp hx).1
    have he : bs[i]? = some bs[i] := by simp [hl, hi]
    have x3 : ExF [] H H' := x1.trans (x2.drop hD)
    refine ⟨hw x, ?_⟩
    unfold tYes
    dsimp only
    rw [if_pos rfl]
    refine hs i x _ H' hx he x3 _ fun H4 x4 => ?_
    refine ⟨_, x4.at_ _ _ (by simp) hH, by rw [List.length_map, List.length_take]; omega, ?_, ?_⟩
    · have et : bs.take (i + 1) = bs.take i ++ [bs[i]] := by rw [List.take_succ, he]; rfl
      rw [upd_same, et, List.map_append]
      rfl
    · exact exm rfl (.inr (by simp)) (x2.trans x4.of)
  · rintro H1 D H' x1 hD ⟨hH, x2⟩
    rw [← hl, List.take_length] at hH
    exact hd D H' (x1.free hD) hH (x1.trans (x2.drop hD))

theorem wkE {K : PySem.W.Frag} {a : Addr} {xs : List V} : L2.Walk (Ite K a) xs.length (fun H' => H' a = some (.lst xs)) (YPair (fun i => some (.int (i : Nat))) (fun i => xs[i]?)) :=
  (walk_enum (K := K) (a := a) (xs := xs)).mono (fun H h => .inl (.inl h)) fun _ _ _ _ _ _ y => y
theorem wkET {K : PySem.W.Frag} {a : Addr} {xs : List V} : L2.Walk (IteT K a) xs.length (fun H' => H' a = some (.tup xs)) (YPair (fun i => some (.int (i : Nat))) (fun i => xs[i]?)) := by
  refine ⟨fun i _ hi q => ⟨xs, xs[i], .inl (.inl q), by simp [hi]⟩, fun _ q => ⟨xs, .inl (.inl q), rfl⟩, fun i H v H' _ q y => ?_⟩
  obtain ⟨T, x, h1, h2, h3, h4⟩ := y
  exact ⟨T, .int (i : Nat), x, h1, h2, h3, rfl, h4 xs (.inl (.inl q))⟩
/-- for k1, k2 in enumerate(x): tb, x a name -/
theorem forE {tb : TS} {D : Ends} {k1 k2 : Nat} (hv : σ[i]? = some (some (.ref a))) (ha : Sq H a xs) (hM : a ∉ M) (Pv : Nat → L2.St → Hp → Prop) (h0 : Pv 0 σ H) (hk : ∀ i σ' H', Pv i σ' H' → ExF M H H')
    (hs : ∀ (i : Nat) (x : V) σ' H' H'', xs[i]? = some x → Pv i σ' H' → ExF [] H' H'' → tb { D with nx := Pv (i + 1), ct := Pv (i + 1), bk := D.nx } ((σ'.set k1 (some (.int (i : Nat)))).set k2 (some x)) H'') (hd : ∀ σ' H', Pv xs.length σ' H' → D.nx σ' H') :
    tForU (iEnumU K (tCons (tVar i) tNil)) (gTup K 2 (gCons (gName k1) (gCons (gName k2) gNil))) tb D σ H := by
  have body : ∀ (i : Nat) (v : V) σ' (H' H'' : Hp), Pv i σ' H' → YPair (fun i => some (.int (i : Nat))) (fun i => xs[i]?) i H' v H'' →
      gTup K 2 (gCons (gName k1) (gCons (gName k2) gNil)) v σ' H'' fun σ2 H2 => tb { D with nx := Pv (i + 1), ct := Pv (i + 1), bk := D.nx } σ2 H2 := by
    rintro i v σ' H' H'' p ⟨T, x, y, rfl, hT, rfl, ex, hy⟩
    cases ex
    exact ⟨T, _, rfl, .inl (.inl upd_same), rfl, _, _, rfl, _, _, rfl, rfl, hs i y σ' H' _ hy p (ExF.new hT)⟩
  unfold tForU
  rcases ha with ha | ha
  · exact .inl ⟨_, hv, a, xs, rfl, .inl (.inl ha), for_it wkE Pv h0 (fun i σ' H' _ p => (hk i σ' H' p).at_ a _ hM ha) (fun i v σ' H' H'' _ p y => body i v σ' H' H'' p y) hd⟩
  · exact .inr ⟨_, hv, a, xs, rfl, .inl (.inl ha), for_it wkET Pv h0 (fun i σ' H' _ p => (hk i σ' H' p).at_ a _ hM ha) (fun i v σ' H' H'' _ p y => body i v σ' H' H'' p y) hd⟩
/-! ### slices -/
theorem sIx_from {n i : Nat} (h : i ≤ n) : HT.sIx n 0 (some (i : Int)) = i := by
  show (if (i : Int) < 0 then ((i : Int) + (n : Int)).toNat else min (i : Int).toNat n) = i
  rw [if_neg (by omega)]
  omega
theorem sIx_to {n i : Nat} : HT.sIx n n (some (i : Int)) = min i n := by
  show (if (i : Int) < 0 then ((i : Int) + (n : Int)).toNat else min (i : Int).toNat n) = _
  rw [if_neg (by omega)]
  omega
theorem cut_from {i : Nat} (h : i ≤ xs.length) : cutV xs (some (i : Int)) none = xs.drop i := by
  unfold cutV
  rw [sIx_from h]
  show (xs.drop i).take (xs.length - i) = xs.drop i
  exact List.take_of_length_le (by simp)
theorem cut_to {i : Nat} : cutV xs none (some (i : Int)) = xs.take i := by
  unfold cutV
  rw [sIx_to]
  show (xs.drop 0).take (min i xs.length - 0) = xs.take i
  rw [List.drop_zero, Nat.sub_zero]
  by_cases h : i ≤ xs.length
  · rw [Nat.min_eq_left h]
  · rw [Nat.min_eq_right (by omega), List.take_of_length_le (Nat.le_refl _), List.take_of_length_le (by omega)]
/-- x[i:] of a list or a tuple, i from 1 to its length -/
theorem slFrom {j : Int} (i : Nat) (hj : j = (i : Int)) (ha : Sq H a xs) (h : i ≤ xs.length) (h0 : 0 < i) (q : ∀ p H', H p = none → Sq H' p (xs.drop i) → ExF [] H H' → Q (.ref p) H') : rSlU K (.ref a) (some j) none H Q := by
  subst hj
  unfold rSlU
  rcases ha with ha | ha
  · refine .inl ⟨a, xs, rfl, .inl (.inl ha), fun p hp => ?_⟩
    rw [cut_from h]
    exact q p _ hp (.inl upd_same) (ExF.new hp)
  · refine .inr (.inl ⟨a, xs, rfl, .inl (.inl ha), fun ⟨w, _⟩ => ?_, fun _ p hp => ?_⟩)
    · rw [sIx_from h] at w
      omega
    · rw [cut_from h]
      exact q p _ hp (.inr upd_same) (ExF.new hp)
/-- x[:i] of a list -/
theorem slToL {j : Int} (i : Nat) (hj : j = (i : Int)) (ha : H a = some (.lst xs)) (q : ∀ p H', H p = none → H' = upd H p (.lst (xs.take i)) → Q (.ref p) H') : rSlU K (.ref a) none (some j) H Q := by
  subst hj
  unfold rSlU
  refine .inl ⟨a, xs, rfl, .inl (.inl ha), fun p hp => ?_⟩
  rw [cut_to]
  exact q p _ hp rfl
/-- x[i:] of a list -/
theorem slFromL {j : Int} (i : Nat) (hj : j = (i : Int)) (h : i ≤ xs.length) (ha : H a = some (.lst xs)) (q : ∀ p H', H p = none → H' = upd H p (.lst (xs.drop i)) → Q (.ref p) H') : rSlU K (.ref a) (some j) none H Q := by
  subst hj
  unfold rSlU
  refine .inl ⟨a, xs, rfl, .inl (.inl ha), fun p hp => ?_⟩
  rw [cut_from h]
  exact q p _ hp rfl
theorem slFromT {j : Int} (i : Nat) (hj : j = (i : Int)) (h : i ≤ xs.length) (h0 : 0 < i) (ha : H a = some (.tup xs)) (q : ∀ p H', H p = none → H' = upd H p (.tup (xs.drop i)) → Q (.ref p) H') : rSlU K (.ref a) (some j) none H Q := by
  subst hj
  unfold rSlU
  refine .inr (.inl ⟨a, xs, rfl, .inl (.inl ha), fun ⟨w, _⟩ => ?_, fun _ p hp => ?_⟩)
  · rw [sIx_from h] at w
    omega
  · rw [cut_from h]
    exact q p _ hp rfl
/-- the rest of a row behind its first thing -/
theorem iter_sl1 (hv : σ[i]? = some (some (.ref a))) (ha : Sq H a xs) (h : 0 < xs.length) (tM : Trk M H) : IterS M (iSeqU K (tSl (rSlU K) (tVar i) (tPart (tC (.int 1))) tNoPart)) σ H (xs.drop 1) := by
  rcases ha with ha | ha
  · exact iter_L fun Qc k => ⟨_, hv, _, rfl, slFromL 1 rfl (by omega) ha fun p H1 hp e1 => k p H1 (eqs e1) (tM.nin hp) (exn e1 hp)⟩
  · exact iter_T fun Qc k => ⟨_, hv, _, rfl, slFromT 1 rfl (by omega) (by decide) ha fun p H1 hp e1 => k p H1 (eqs e1) (tM.nin hp) (exn e1 hp)⟩
theorem extSq {l b : Addr} {ys : List V} (h : H l = some (.lst xs)) (hb : Sq H b ys) (hz : xs.length + ys.length ≤ sizeLine) (q : ∀ H', H' = upd H l (.lst (xs ++ ys)) → Q .non H') : rExtU K (.ref l) [.ref b] H Q :=
  hb.elim (fun hb => extL h hb hz q) fun hb => extT h hb hz q
theorem notInFlatT {x : V} {ys : List V} (h : H a = some (.tup ys)) (hx : flatV x = true) (hy : ys.all flatV = true) (q : Q (.bl (!inV x ys)) H) : rNotInU K x (.ref a) H Q := by
  unfold rNotInU
  exact .inr (.inr (.inr ⟨a, ys, rfl, .inr (.inl (.inl h)), hx, hy, q⟩))
theorem inFlatT {x : V} {ys : List V} (h : H a = some (.tup ys)) (hx : flatV x = true) (hy : ys.all flatV = true) (q : Q (.bl (inV x ys)) H) : rInU K x (.ref a) H Q := by
  unfold rInU
  exact .inr (.inr (.inr ⟨a, ys, rfl, .inr (.inl (.inl h)), hx, hy, q⟩))
end
end Tw
end

section
set_option Elab.async false
set_option linter.all false
set_option maxRecDepth 100000
set_option maxHeartbeats 4000000
namespace Tw
open PySem L2 PyProof.Rows

/-! ### literals -/
inductive Lt | non | bl (b : Bool) | int (i : Int) | str (s : Str) | var (k : Nat) | tup (ls : List Lt) | lst (ls : List Lt) | dct
mutual
def Lt.t : Lt → TE
  | .non => tC .non
  | .bl b => tC (.bl b)
  | .int i => tC (.int i)
  | .str s => tC (.str s)
  | .var k => tVar k
  | .tup ls => tTupU (Lt.ts ls)
  | .lst ls => tLstU (Lt.ts ls)
  | .dct => tDNewK
def Lt.ts : List Lt → TA
  | [] => tNil
  | l :: ls => tCons l.t (Lt.ts ls)
end
mutual
def Lt.d (dv : Nat → PyData) : Lt → PyData
  | .non => .none
  | .bl b => .bool b
  | .int i => .int i
  | .str s => .str s
  | .var k => dv k
  | .tup ls => .tuple (Lt.ds dv ls)
  | .lst ls => .list (Lt.ds dv ls)
  | .dct => .dict []
def Lt.ds (dv : Nat → PyData) : List Lt → List PyData
  | [] => []
  | l :: ls => l.d dv :: Lt.ds dv ls
end
mutual
def Lt.good (vs : List Nat) : Lt → Bool
  | .var k => vs.contains k
  | .tup ls => decide (ls.length ≤ 1000) && Lt.goods vs ls
  | .lst ls => decide (ls.length ≤ 1000) && Lt.goods vs ls
  | .non => true
  | .bl _ => true
  | .int _ => true
  | .str _ => true
  | .dct => true
def Lt.goods (vs : List Nat) : List Lt → Bool
  | [] => true
  | l :: ls => l.good vs && Lt.goods vs ls
end
theorem Lt.ds_len (dv : Nat → PyData) : ∀ ls : List Lt, (Lt.ds dv ls).length = ls.length
  | [] => by rw [Lt.ds]; rfl
  | l :: ls => by rw [Lt.ds, List.length_cons, List.length_cons, Lt.ds_len dv ls]
theorem Trk.eqf {F : List Addr} {H H' : Hp} {p : Addr} {o : HO} (t : Trk F H) (e : H' = upd H p o) : Trk F H' := fun a z => by rw [e]; exact upd_kept (t a z)
section
variable {σ : L2.St} {dv : Nat → PyData} {F : List Addr} {vs : List Nat}
mutual
theorem tLit : ∀ (L : Lt) {H : Hp} {Q : VK}, L.good vs = true → (∀ k, vs.contains k = true → ∃ v, σ[k]? = some (some v) ∧ Rp F H v (dv k)) → Trk F H →
    (∀ v H', ExF [] H H' → Rp F H' v (L.d dv) → Q v H') → L.t σ H Q
  | .non, H, Q, _, _, _, q => by rw [Lt.t]; exact q _ H ExF.refl (by rw [Lt.d]; exact .non)
  | .bl b, H, Q, _, _, _, q => by rw [Lt.t]; exact q _ H ExF.refl (by rw [Lt.d]; exact .bl b)
  | .int b, H, Q, _, _, _, q => by rw [Lt.t]; exact q _ H ExF.refl (by rw [Lt.d]; exact .int b)
  | .str b, H, Q, _, _, _, q => by rw [Lt.t]; exact q _ H ExF.refl (by rw [Lt.d]; exact .str b)
  | .var k, H, Q, g, hv, _, q => by
    rw [Lt.good] at g
    obtain ⟨v, h1, h2⟩ := hv k g
    rw [Lt.t]
    exact ⟨v, h1, q v H ExF.refl (by rw [Lt.d]; exact h2)⟩
  | .dct, H, Q, _, _, t, q => by
    rw [Lt.t]
    exact fun p hp => q _ _ (ExF.new hp) (by rw [Lt.d]; exact .dct (t.nin hp) upd_same)
  | .tup ls, H, Q, g, hv, t, q => by
    rw [Lt.good, Bool.and_eq_true] at g
    have hl := of_decide_eq_true g.1
    rw [Lt.t]
    refine tLits ls g.2 hv t fun xs H1 x1 r => ⟨?_, fun p H2 hp e2 => ?_⟩
    · rw [r.1, Lt.ds_len, sizeLine_eq]; omega
    · exact q _ _ (x1.trans (exn e2 hp)) (by rw [Lt.d]; exact .tuple ((t.ex x1).nin hp) (eqs e2) (r.ex (exn e2 hp)))
  | .lst ls, H, Q, g, hv, t, q => by
    rw [Lt.good, Bool.and_eq_true] at g
    have hl := of_decide_eq_true g.1
    rw [Lt.t]
    refine tLits ls g.2 hv t fun xs H1 x1 r => ⟨?_, fun p H2 hp e2 => ?_⟩
    · rw [r.1, Lt.ds_len, sizeLine_eq]; omega
    · exact q _ _ (x1.trans (exn e2 hp)) (by rw [Lt.d]; exact .list ((t.ex x1).nin hp) (eqs e2) (r.ex (exn e2 hp)))
theorem tLits : ∀ (ls : List Lt) {H : Hp} {Q : List V → Hp → Prop}, Lt.goods vs ls = true → (∀ k, vs.contains k = true → ∃ v, σ[k]? = some (some v) ∧ Rp F H v (dv k)) → Trk F H →
    (∀ xs H', ExF [] H H' → RpL F H' xs (Lt.ds dv ls) → Q xs H') → Lt.ts ls σ H Q
  | [], H, Q, _, _, _, q => by rw [Lt.ts]; exact q [] H ExF.refl (by rw [Lt.ds]; exact .nil)
  | l :: ls, H, Q, g, hv, t, q => by
    rw [Lt.goods, Bool.and_eq_true] at g
    rw [Lt.ts]
    refine tLit l g.1 hv t fun v H1 x1 r1 => ?_
    refine tLits ls g.2 (fun k hk => ?_) (t.ex x1) fun xs H2 x2 r2 => ?_
    · obtain ⟨v, h1, h2⟩ := hv k hk
      exact ⟨v, h1, h2.ex x1.of⟩
    · exact q _ _ (x1.trans x2) (by rw [Lt.ds]; exact .cons (r1.ex x2.of) r2)
end
end
theorem ltP : ∃ f : Lt → TE, f = Lt.t := ⟨Lt.t, rfl⟩
/-- a literal's reading, closed -/
noncomputable def tLt (L : Lt) : TE := Classical.choose ltP L
theorem tLt_eq (L : Lt) : tLt L = Lt.t L := by unfold tLt; rw [Classical.choose_spec ltP]
theorem pe_lt {X : Cx} {e : Expr} {L : Lt} (h : PE X e (Lt.t L)) : PE X e (tLt L) := by rw [tLt_eq]; exact h
theorem lit {σ : L2.St} (dv : Nat → PyData) (F : List Addr) (vs : List Nat) {L : Lt} {H : Hp} {Q : VK} (g : L.good vs = true) (hv : ∀ k, vs.contains k = true → ∃ v, σ[k]? = some (some v) ∧ Rp F H v (dv k)) (t : Trk F H)
    (q : ∀ v H', ExF [] H H' → Rp F H' v (L.d dv) → Q v H') : tLt L σ H Q := by rw [tLt_eq]; exact tLit L g hv t q
/-- without names -/
theorem lit0 {σ : L2.St} (F : List Addr) {L : Lt} {H : Hp} {Q : VK} (g : L.good [] = true) (t : Trk F H) (q : ∀ v H', ExF [] H H' → Rp F H' v (L.d fun _ => .none) → Q v H') : tLt L σ H Q :=
  lit (fun _ => .none) F [] g (fun k hk => by simp at hk) t q
/-! ### comprehensions with a test -/
def selD (sel : List (Bool × PyData)) : List PyData := (sel.filter (·.1)).map (·.2)
theorem selD_snoc (sel : List (Bool × PyData)) (b : Bool) (e : PyData) : selD (sel ++ [(b, e)]) = selD sel ++ if b then [e] else [] := by
  unfold selD
  rw [List.filter_append, List.map_append]
  cases b <;> rfl
theorem selD_map (p : Str → Bool) : ∀ zs : List Str, selD (zs.map fun z => (p z, PyData.str z)) = (zs.filter p).map PyData.str
  | [] => rfl
  | z :: zs => by
    have ih := selD_map p zs
    unfold selD at ih ⊢
    rw [List.map_cons, List.filter_cons, List.filter_cons]
    cases hp : p z
    · simpa [hp] using ih
    · simp only [hp, if_true]
      rw [List.map_cons, List.map_cons, ih]
section
variable {K : PySem.W.Frag} {M F : List Addr} {wi : TI} {i : Nat} {a : Addr} {xs : List V} {g : TG} {tt : TT} {te : TE} {vs : List Nat} {σ : L2.St} {H : Hp} {Q : VK}
/-- [te for x in .. if tt], both pure: data -/
theorem lcSel {k : Nat} (hi : IterS [] wi σ H xs) (sel : List (Bool × PyData)) (hl : sel.length = xs.length) (hz : xs.length < sizeLine) (hw : ∀ x, wipe ((wipe σ vs).set k (some x)) vs = wipe σ vs)
    (ht : ∀ (D : Addr) (i : Nat) (x : V) (b : Bool) (e : PyData) (H' : Hp), xs[i]? = some x → sel[i]? = some (b, e) → ExF [] H H' → H D = none → H' D ≠ none → ∀ Qc : Bool → Hp → Prop, (∀ H4, ExF [] H' H4 → Qc b H4) → tt ((wipe σ vs).set k (some x)) H' Qc)
    (hs : ∀ (D : Addr) (i : Nat) (x : V) (e : PyData) (H' : Hp), xs[i]? = some x → sel[i]? = some (true, e) → ExF [] H H' → H D = none → H' D ≠ none → ∀ Qc : VK, (∀ y H4, ExF [] H' H4 → Rp (D :: F) H4 y e → Qc y H4) → te ((wipe σ vs).set k (some x)) H' Qc)
    (hd : ∀ r ys H', H r = none → H' r = some (.lst ys) → RpL F H' ys (selD sel) → ExF [] H H' → Q (.ref r) H') : tLcU wi (gName k) tt te vs σ H Q := by
  refine lcS hi (fun H1 D i H' => ∃ acc, acc.length ≤ i ∧ H' D = some (.lst acc) ∧ RpL (D :: F) H' acc (selD (sel.take i)) ∧ ExF [D] H1 H') (fun H1 D H2 x hD e => ⟨[], Nat.le_refl _, eqs e, by simpa [selD] using RpL.nil, exn e hD⟩) (fun H1 D i H' hD ⟨_, _, _, _, x⟩ => x) ?_ ?_
  · rintro H1 D i x H' x1 hD hx ⟨acc, ha, hH, r, x2⟩
    have hi : i < xs.length := (List.getElem?_eq_some_iff.mp hx).1
    have he : sel[i]? = some sel[i] := by simp [hl, hi]
    have x3 : ExF [] H H' := x1.trans (x2.drop hD)
    have hDH : H D = none := x1.free hD
    have et : sel.take (i + 1) = sel.take i ++ [sel[i]] := by rw [List.take_succ, he]; rfl
    have n0 : H' D ≠ none := by rw [hH]; exact fun z => nomatch z
    refine ⟨hw x, ?_⟩
    refine ht D i x sel[i].1 sel[i].2 H' hx he x3 hDH n0 _ fun H4 x4 => ?_
    have h4 : H4 D = some (.lst acc) := x4.at_ _ _ (by simp) hH
    cases hb : sel[i].1 with
    | false =>
      rw [if_neg Bool.false_ne_true]
      refine ⟨acc, Nat.le_succ_of_le ha, h4, ?_, x2.trans x4.of⟩
      have e2 : sel[i] = (false, sel[i].2) := by rw [← hb]
      rw [et, e2, selD_snoc]
      simpa using r.ex x4.of
    | true =>
      rw [if_pos rfl]
      refine hs D i x sel[i].2 H4 hx (by rw [he, ← hb]) (x3.trans x4) hDH (by rw [h4]; exact fun z => nomatch z) _ fun y H5 x5 ry => ?_
      have h5 : H5 D = some (.lst acc) := x5.at_ _ _ (by simp) h4
      refine ⟨_, h5, by omega, acc ++ [y], by simp; omega, upd_same, ?_, ?_⟩
      · have e2 : sel[i] = (true, sel[i].2) := by rw [← hb]
        rw [et, e2, selD_snoc]
        have r5 : RpL (D :: F) H5 acc (selD (sel.take i)) := r.ex (x4.trans x5).of
        have mm : ExF (D :: F) H5 (upd H5 D (.lst (acc ++ [y]))) := exm rfl (.inr (by simp)) ExF.refl
        exact (r5.snoc ry).ex mm
      · exact exm rfl (.inr (by simp)) (x2.trans (x4.trans x5).of)
  · rintro H1 D H' x1 hD ⟨acc, ha, hH, r, x2⟩
    rw [← hl, List.take_length] at r
    exact hd D acc H' (x1.free hD) hH r.drop (x1.trans (x2.drop hD))
/-- [x for x in zs if tt], names -/
theorem lcFil {k : Nat} {zs : List Str} (p : Str → Bool) (hi : IterS [] wi σ H (zs.map V.str)) (hz : zs.length < sizeLine) (hk : k < σ.length) (hv : vs = [k])
    (ht : ∀ (D : Addr) (z : Str) (H' : Hp), z ∈ zs → ExF [] H H' → ∀ Qc : Bool → Hp → Prop, (∀ H4, ExF [] H' H4 → Qc (p z) H4) → tt ((wipe σ vs).set k (some (.str z))) H' Qc)
    (hd : ∀ r H', H r = none → H' r = some (.lst ((zs.filter p).map V.str)) → ExF [] H H' → Q (.ref r) H') : tLcU wi (gName k) tt (tVar k) vs σ H Q := by
  subst hv
  have hwk : ∀ x : V, ((wipe σ [k]).set k (some x))[k]? = some (some x) := fun x => by
    have e : wipe σ [k] = σ.set k none := rfl
    rw [e, List.getElem?_set_self (by rw [List.length_set]; exact hk)]
  have sel : ∀ {i : Nat} {x : V} {b : Bool} {e : PyData}, (zs.map V.str)[i]? = some x → (zs.map fun z => (p z, PyData.str z))[i]? = some (b, e) → ∃ z, z ∈ zs ∧ x = .str z ∧ b = p z ∧ e = .str z := fun {i x b e} h1 h2 => by
    rw [List.getElem?_map] at h1 h2
    cases hz : zs[i]? with
    | none => rw [hz] at h1; cases h1
    | some z =>
      rw [hz] at h1 h2
      cases h1; cases h2
      exact ⟨z, List.mem_of_getElem? hz, rfl, rfl, rfl⟩
  refine lcSel (F := []) hi (zs.map fun z => (p z, PyData.str z)) (by simp) (by simpa using hz) (fun x => ?_) ?_ ?_ ?_
  · show ((σ.set k none).set k (some x)).set k none = σ.set k none
    simp
  · intro D i x b e H' h1 h2 x1 hD hD2 Qc q
    obtain ⟨z, hm, rfl, rfl, rfl⟩ := sel h1 h2
    exact ht D z H' hm x1 Qc q
  · intro D i x e H' h1 h2 x1 hD hD2 Qc q
    obtain ⟨z, hm, rfl, _, rfl⟩ := sel h1 h2
    exact ⟨_, hwk _, q _ H' ExF.refl (.str z)⟩
  · intro r ys H' hr hy ry x
    have e : selD (zs.map fun z => (p z, PyData.str z)) = (zs.filter p).map PyData.str := by
      exact selD_map p zs
    rw [e] at ry
    rw [ry.all_str] at hy
    exact hd r H' hr hy x
end
end Tw
end

section
set_option Elab.async false
set_option linter.all false
set_option maxRecDepth 100000
set_option maxHeartbeats 4000000
namespace Tw
open PySem L2 PyProof.Rows
/-- what is never reached needs no reading -/
def tNoS : TS := fun _ _ _ => False
theorem ps_no {X : Cx} {s : Stmt} : PS X s tNoS := ⟨fun _ _ _ _ _ _ h => h.elim⟩
def tNoE : TE := fun _ _ _ => False
theorem pe_no {X : Cx} {e : Expr} : PE X e tNoE := ⟨fun _ _ _ _ _ _ h => h.elim⟩

/-- a new list of literals -/
theorem litL {σ : L2.St} (dv : Nat → PyData) (F : List Addr) (vs : List Nat) {ls : List Lt} {H : Hp} {Q : VK} (g : (Lt.lst ls).good vs = true) (hv : ∀ k, vs.contains k = true → ∃ v, σ[k]? = some (some v) ∧ Rp F H v (dv k)) (t : Trk F H)
    (q : ∀ p xs H', H p = none → H' p = some (.lst xs) → RpL (p :: F) H' xs (Lt.ds dv ls) → ExF [] H H' → Q (.ref p) H') : tLt (.lst ls) σ H Q := by
  rw [Lt.good, Bool.and_eq_true] at g
  have hl := of_decide_eq_true g.1
  rw [tLt_eq, Lt.t]
  refine tLits ls g.2 hv t fun xs H1 x1 r => ⟨?_, fun p H2 hp e2 => ?_⟩
  · rw [r.1, Lt.ds_len, sizeLine_eq]; omega
  · exact q p xs H2 (x1.free hp) (eqs e2) ((r.add hp).ex (exn e2 hp)) (x1.trans (exn e2 hp))
theorem litT {σ : L2.St} (dv : Nat → PyData) (F : List Addr) (vs : List Nat) {ls : List Lt} {H : Hp} {Q : VK} (g : (Lt.tup ls).good vs = true) (hv : ∀ k, vs.contains k = true → ∃ v, σ[k]? = some (some v) ∧ Rp F H v (dv k)) (t : Trk F H)
    (q : ∀ p xs H', H p = none → H' p = some (.tup xs) → RpL (p :: F) H' xs (Lt.ds dv ls) → ExF [] H H' → Q (.ref p) H') : tLt (.tup ls) σ H Q := by
  rw [Lt.good, Bool.and_eq_true] at g
  have hl := of_decide_eq_true g.1
  rw [tLt_eq, Lt.t]
  refine tLits ls g.2 hv t fun xs H1 x1 r => ⟨?_, fun p H2 hp e2 => ?_⟩
  · rw [r.1, Lt.ds_len, sizeLine_eq]; omega
  · exact q p xs H2 (x1.free hp) (eqs e2) ((r.add hp).ex (exn e2 hp)) (x1.trans (exn e2 hp))
theorem wkZ {K : PySem.W.Frag} {a b : Addr} {xs ys : List V} (hl : xs.length = ys.length) : L2.Walk (Itz K a b) xs.length (fun H => H a = some (.lst xs) ∧ H b = some (.lst ys)) (YPair (fun i => xs[i]?) (fun i => ys[i]?)) :=
  (walk_zip (K := K) (a := a) (b := b) (xs := xs) (ys := ys) (n := xs.length) (by omega)).mono (fun H h => ⟨.inl (.inl h.1), .inl (.inl h.2)⟩) fun _ _ _ _ _ _ y => y
theorem wkZT {K : PySem.W.Frag} {a b : Addr} {xs ys : List V} (hl : xs.length = ys.length) : L2.Walk (RZ.ItzT K a b) xs.length (fun H => H a = some (.tup xs) ∧ H b = some (.tup ys)) (YPair (fun i => xs[i]?) (fun i => ys[i]?)) := by
  refine ⟨fun i _ hi q => ?_, fun _ q => ⟨xs, ys, .inl (.inl q.1), .inl (.inl q.2), Or.inl (Nat.le_refl _)⟩, fun i H v H' _ q y => ?_⟩
  · have h2 : i < ys.length := by omega
    exact ⟨xs, ys, xs[i], ys[i], .inl (.inl q.1), .inl (.inl q.2), by simp [hi], by simp [h2]⟩
  · obtain ⟨T, x, z, h1, h2, h3, h4, h5⟩ := y
    exact ⟨T, x, z, h1, h2, h3, h4 xs (.inl (.inl q.1)), h5 ys (.inl (.inl q.2))⟩
section
variable {K : PySem.W.Frag} {te : TE} {vs : List Nat} {σ : L2.St} {H : Hp} {Q : VK} {a b : Addr} {xs ys : List V}
/-- two rows of one kind -/
def Sq2 (H : Hp) (a b : Addr) (xs ys : List V) : Prop := (H a = some (.lst xs) ∧ H b = some (.lst ys)) ∨ (H a = some (.tup xs) ∧ H b = some (.tup ys))
theorem Sq2.ex {H' : Hp} (h : Sq2 H a b xs ys) (x : ExF [] H H') : Sq2 H' a b xs ys := h.imp (fun h => ⟨x.at_ _ _ (by simp) h.1, x.at_ _ _ (by simp) h.2⟩) fun h => ⟨x.at_ _ _ (by simp) h.1, x.at_ _ _ (by simp) h.2⟩
theorem Sq2.l (h : Sq2 H a b xs ys) : Sq H a xs := h.elim (fun h => .inl h.1) fun h => .inr h.1
theorem Sq2.r (h : Sq2 H a b xs ys) : Sq H b ys := h.elim (fun h => .inl h.2) fun h => .inr h.2
/-- [te for x, y in zip(a, b)], te all True -/
theorem lcZipT {i j k l : Nat} (hi : σ[i]? = some (some (.ref a))) (hj : σ[j]? = some (some (.ref b))) (h2 : Sq2 H a b xs ys) (hl : xs.length = ys.length) (hz : xs.length < sizeLine)
    (hw : ∀ x y, wipe (((wipe σ vs).set k (some x)).set l (some y)) vs = wipe σ vs)
    (hs : ∀ (n : Nat) (x y : V) (H' : Hp), xs[n]? = some x → ys[n]? = some y → ExF [] H H' → ∀ Qc : VK, (∀ H4, ExF [] H' H4 → Qc (.bl true) H4) → te (((wipe σ vs).set k (some x)).set l (some y)) H' Qc)
    (hd : ∀ r H', H r = none → H' r = some (.lst ((List.replicate xs.length true).map V.bl)) → ExF [] H H' → Q (.ref r) H') :
    tLcU (RZ.iZipA K (tCons (tVar i) (tCons (tVar j) tNil))) (gTup K 2 (gCons (gName k) (gCons (gName l) gNil))) tYes te vs σ H Q := by
  have body : ∀ (D : Addr), H D = none → ∀ (n : Nat) (v : V) (H' H'' : Hp), n < xs.length → (H' D = some (.lst ((List.replicate n true).map V.bl)) ∧ ExF [D] H H') → YPair (fun i => xs[i]?) (fun i => ys[i]?) n H' v H'' →
      gTup K 2 (gCons (gName k) (gCons (gName l) gNil)) v (wipe σ vs) H'' fun σ2 H2 => wipe σ2 vs = wipe σ vs ∧ tYes σ2 H2 fun b H3 =>
        if b = true then te σ2 H3 fun y H4 => ∃ acc, H4 D = some (.lst acc) ∧ acc.length < sizeLine ∧ (fun n H' => H' D = some (.lst ((List.replicate n true).map V.bl)) ∧ ExF [D] H H') (n + 1) (upd H4 D (.lst (acc ++ [y]))) else (fun n H' => H' D = some (.lst ((List.replicate n true).map V.bl)) ∧ ExF [D] H H') (n + 1) H3 := by
    rintro D hD n v H' H'' hn ⟨hH, x2⟩ ⟨T, x, y, rfl, hT, rfl, ex, ey⟩
    refine ⟨T, _, rfl, .inl (.inl upd_same), rfl, _, _, rfl, _, _, rfl, rfl, hw x y, ?_⟩
    unfold tYes
    dsimp only
    rw [if_pos rfl]
    have x3 : ExF [] H' (upd H' T (.tup [x, y])) := ExF.new hT
    refine hs n x y _ ex ey ((x2.drop hD).trans x3) _ fun H4 x4 => ?_
    refine ⟨_, (x3.trans x4).at_ _ _ (by simp) hH, by rw [List.length_map, List.length_replicate]; omega, ?_, ?_⟩
    · rw [upd_same, List.replicate_succ', List.map_append]
      rfl
    · exact exm rfl (.inr (by simp)) (x2.trans (x3.trans x4).of)
  unfold tLcU
  refine ⟨_, hi, _, hj, a, b, xs, ys, rfl, ?_⟩
  rcases h2 with h | h
  · exact .inl ⟨.inl (.inl h.1), .inl (.inl h.2), fun D hD => lc_it (wkZ hl) (fun n H' => H' D = some (.lst ((List.replicate n true).map V.bl)) ∧ ExF [D] H H') ⟨upd_same, exn rfl hD⟩
      (fun n H' _ p => ⟨p.2.at_ _ _ (by intro z; rw [← List.mem_singleton.mp z, h.1] at hD; cases hD) h.1, p.2.at_ _ _ (by intro z; rw [← List.mem_singleton.mp z, h.2] at hD; cases hD) h.2⟩)
      (fun n v H' H'' hn p y => body D hD n v H' H'' hn p y) fun H' p => hd D H' hD p.1 (p.2.drop hD)⟩
  · exact .inr ⟨.inl (.inl h.1), .inl (.inl h.2), fun D hD => lc_it (wkZT hl) (fun n H' => H' D = some (.lst ((List.replicate n true).map V.bl)) ∧ ExF [D] H H') ⟨upd_same, exn rfl hD⟩
      (fun n H' _ p => ⟨p.2.at_ _ _ (by intro z; rw [← List.mem_singleton.mp z, h.1] at hD; cases hD) h.1, p.2.at_ _ _ (by intro z; rw [← List.mem_singleton.mp z, h.2] at hD; cases hD) h.2⟩)
      (fun n v H' H'' hn p y => body D hD n v H' H'' hn p y) fun H' p => hd D H' hD p.1 (p.2.drop hD)⟩
end
end Tw
end

section
set_option Elab.async false
set_option linter.all false
set_option maxRecDepth 100000
set_option maxHeartbeats 4000000
namespace Tw
open PySem L2 PyProof.Rows

/-! ### repr of a row: what the list or the tuple shows, where no repr is under way -/
@[irreducible] def rRepr (K : PySem.W.Frag) : List V → Hp → VK → Prop := fun xs H Q => ∃ (a : Addr) (d : PyData), xs = [.ref a] ∧ Dp K H (.ref a) d ∧ d.showable = true ∧ d.hasDict = false ∧ d.depth ≤ 64 ∧ d.shown.length ≤ sizeLine ∧ Q (.str d.shown) H
theorem call_repr {X : Cx} (hg : X.A.guards = some []) (hu : X.A.units + 65 < cLine) : CallR X (.builtin "repr") (rRepr X.K) := by
  intro pins s σ H xs us Q I r h
  unfold rRepr at h
  obtain ⟨a, d, rfl, hd, hs, hn, hdep, hz, q⟩ := h
  obtain ⟨u, rfl, ru⟩ := r.one
  obtain ⟨as, hr⟩ := Dp.reads I d _ u hd ru
  cases ru
  refine repr_of_reads' hr hs (fun h => absurd h (by rw [hn]; exact Bool.false_ne_true)) hg (by omega) (fun _ _ h => h) (fun h' u tk hk => ?_) hz
  exact ⟨.str _, H, I.kept hk, ⟨_, rfl⟩, q⟩

/-! ### an instance's own == and the != that comes of it -/
structure OwnE (K : PySem.W.Frag) (C f : Addr) : Prop where
  hs : PySem.W.findIn K (.ref C) "__eq__" = some (some (.ref f))
  hf : PySem.W.isFn K (.ref f) = true
  hn : PySem.W.findIn K (.ref C) "__ne__" = some (some (.builtin "object.__ne__"))
  hm : PySem.W.mroIn K C (.type "object") = some true
theorem ifBound_objNe {M : Model} {A : Around} {E : Value → Shared → Prop} {s : Shared} {K : PySem.W.Frag} {x C : Addr} {ox : Obj} {od : Option Obj} {args : List Value} {Q : Option Value → Shared → Prop} (X : K.In s.heap) (I : PySem.W.InstAt s.heap x ox C od)
    (hs : PySem.W.findIn K (.ref C) "__ne__" = some (some (.builtin "object.__ne__"))) (h : wpAny M A (call (.builtin "object.__ne__") (.ref x :: args)) (fun v => Q (some v)) E s) : wpAny M A (callSpecialIfBound? (.ref x) "__ne__" args) Q E s := by
  simp only [callSpecialIfBound?, bindSpecialIfBound?]
  refine wpAny_holding (wpAny_bind (wpAny_bind (wpAny_bind (I.type.here ((PySem.W.looks_findIn X hs).here ?_)))))
  refine wpAny_bind (wpAny_askSetting (wpAny_ite ?_))
  have fin : wpAny M A (call (.builtin "object.__ne__") ([.ref x] ++ args) >>= fun v => pure (some v)) Q E s := wpAny_bind (wpAny_mono h (fun v s' h' => wpAny_pure h') fun _ _ h' => h')
  split
  · exact wpAny_bind (wpAny_of_eq (PySem.F.cmp_object.ne.bind _) (wpAny_pure (by exact fin)))
  · exact wpAny_tryCatch (wpAny_bind (wpAny_of_eq (PySem.F.cmp_object.ne.bind _) (wpAny_pure (by exact fin))))
/-- what stands on the right: such an instance, a list, a tuple -/
def RightOk (H : Hp) (C : Addr) (y : V) : Prop := ∃ b, y = .ref b ∧ ((∃ dx fs, H b = some (.ins C dx fs)) ∨ (∃ xs, H b = some (.lst xs)) ∨ ∃ xs, H b = some (.tup xs))
theorem sub_seq {K : PySem.W.Frag} {C : Addr} {T : String} (h : T = "list" ∨ T = "tuple") : PySem.W.subIn K (.type T) (.ref C) = some false := by
  rcases h with h | h <;> subst h
  · have e : fastBuiltinMro "list" = some [.type "list", .type "object"] := by decide +kernel
    show (fastBuiltinMro "list").map (·.contains (.ref C)) = some false
    rw [e]
    simp
  · have e : fastBuiltinMro "tuple" = some [.type "tuple", .type "object"] := by decide +kernel
    show (fastBuiltinMro "tuple").map (·.contains (.ref C)) = some false
    rw [e]
    simp
section
variable {X : Cx} {pins : List (Addr × Obj)} {σ : L2.St} {H : Hp} {s : Shared} {C f : Addr}
theorem right_looks (I : Inv X pins σ H s) {b : Addr} (h : RightOk H C (.ref b)) : ∃ tb, PySem.W.Looks (model X.prog X.w) s.heap (typeOf (.ref b)) tb ∧ PySem.W.notFirst X.K C tb = true := by
  obtain ⟨_, e, h⟩ := h
  cases e
  rcases h with ⟨dx, fs, h⟩ | ⟨xs, h⟩ | ⟨xs, h⟩
  · obtain ⟨m, J, _⟩ := ins_get I.hok h
    obtain ⟨od, J, _⟩ := J.look
    exact ⟨_, J.type, by simp [PySem.W.notFirst]⟩
  · obtain ⟨its, n, _, e, _⟩ := I.lst h
    refine ⟨.type "list", fun A Q E s k q => wpAny_typeOf_ref (k _ _ e) q, ?_⟩
    unfold PySem.W.notFirst
    rw [sub_seq (.inl rfl)]
    simp
  · obtain ⟨its, _, ⟨o, e, hc, _⟩, _⟩ := I.tuple (.inl (.inl h))
    refine ⟨.type "tuple", fun A Q E s k q => wpAny_typeOf_ref (k _ _ e) (by rw [hc]; exact q), ?_⟩
    unfold PySem.W.notFirst
    rw [sub_seq (.inr rfl)]
    simp
/-- the call of the text's __eq__, somewhere below the running body -/
theorem run_eq {CX : CXT} {fd : FuncData} {ps : List Str} {sp : Sp} {n : Nat} (Fd : FnOk X.prog X.w X.K X.mg X.base CX n f fd ps sp) (hb : Binds X.K fd ps []) (hx : Passes CX X E0) {A : Around} (hr : Room n A) (fr : A.frames = X.A.frames)
    (I : Inv X pins σ H s) {x y : V} {u v : Value} (rx : RelV x u) (ry : RelV y v) {Q : VK} (h : sp [x, y] H Q E0) :
    wpAny (model X.prog X.w) A (call (.ref f) [u, v]) (EP X pins σ Q) X.xe s := by
  have e0 : Env0 X.prog X.w X.K X.mg X.base A X.stack s H := by
    have e := I.env0
    exact ⟨by rw [fr]; exact e.frames, e.mod, e.bs, e.bsz, e.funs, e.frf, e.hok, e.bare⟩
  have hl := Fd.len _ _ _ _ h
  have r2 : Vals [x, y] [u, v] := .cons rx (.cons ry .nil)
  refine wpAny_call (codeAny_mono (Fd.run A X.stack s H ⟨[u, v], []⟩ [u, v] [x, y] _ E0 hr e0 (by
    have := hb s [u, v] I.kIn (by simpa using hl)
    simpa using this) r2 h) fun r s' hq => ?_)
  cases r with
  | error e => exact hx pins σ H s e s' I hq
  | ok fl =>
    cases fl with
    | ret w => exact I.after hq
    | next => exact False.elim hq
    | brk => exact False.elim hq
    | cont => exact False.elim hq
end
/-- x == y, x an instance with an own == that keeps sp -/
def rEqOwn (C : Addr) (sp : Sp) : R2 := fun x y H Q => ∃ a dx fs, x = .ref a ∧ H a = some (.ins C dx fs) ∧ RightOk H C y ∧ sp [x, y] H (fun v H' => ∃ b, v = .bl b ∧ Q (.bl b) H') E0
def rNeOwn (C : Addr) (sp : Sp) : R2 := fun x y H Q => ∃ a dx fs, x = .ref a ∧ H a = some (.ins C dx fs) ∧ RightOk H C y ∧ sp [x, y] H (fun v H' => ∃ b, v = .bl b ∧ Q (.bl (!b)) H') E0
section
variable {X : Cx} {C f : Addr} {CX : CXT} {fd : FuncData} {ps : List Str} {sp : Sp} {n : Nat}
theorem op_eqOwn (O : OwnE X.K C f) (Fd : FnOk X.prog X.w X.K X.mg X.base CX n f fd ps sp) (hb : Binds X.K fd ps []) (hx : Passes CX X E0) (hr : Room n X.A) : OpR X (compareOp .Eq) (rEqOwn C sp) := by
  intro pins s σ H x y u v Q I rx ry h
  obtain ⟨a, dx, fs, rfl, ha, hR, h⟩ := h
  obtain ⟨b, rfl, _⟩ := id hR
  cases rx
  cases ry
  obtain ⟨mA, J, _⟩ := ins_get I.hok ha
  obtain ⟨od, J, _⟩ := J.look
  obtain ⟨m, hF⟩ := I.fr
  obtain ⟨tb, L, hn⟩ := right_looks I hR
  show wpAny (model X.prog X.w) X.A (richCompare .Eq (.ref a) (.ref b)) (EP X pins σ Q) X.xe s
  refine PySem.W.cmp_K (op := .Eq) (tb := tb) hr.units0 hF I.ok.mod.kin J L hn O.hs O.hf ?_
  refine wpAny_mono (run_eq (x := .ref a) (y := .ref b) Fd hb hx hr rfl I rfl rfl h) (fun w s' hq => ?_) fun _ _ e => e
  obtain ⟨z, H', I', rz, b', rfl, q⟩ := hq
  cases rz
  exact ⟨.bl b', H', I', rfl, q⟩
theorem op_neOwn (O : OwnE X.K C f) (Fd : FnOk X.prog X.w X.K X.mg X.base CX n f fd ps sp) (hb : Binds X.K fd ps []) (hx : Passes CX X E0) (hr : Room (n + 1) X.A) : OpR X (compareOp .NotEq) (rNeOwn C sp) := by
  intro pins s σ H x y u v Q I rx ry h
  obtain ⟨a, dx, fs, rfl, ha, hR, h⟩ := h
  obtain ⟨b, rfl, _⟩ := id hR
  cases rx
  cases ry
  obtain ⟨mA, J, _⟩ := ins_get I.hok ha
  obtain ⟨od, J, _⟩ := J.look
  obtain ⟨tb, L, hn⟩ := right_looks I hR
  have Xk := I.kIn
  -- the base's __ne__: asks __eq__, turns the answer
  have inner : wpAny (model X.prog X.w) X.A (call (.builtin "object.__ne__") [.ref a, .ref b]) (fun w s' => ∃ b', w = .bool b' ∧ EP X pins σ Q (.bool b') s') X.xe s := by
    refine wpAny_call (codeAny_call_builtin F.cmp_object.ne.plain F.cmpEntry_ne (PySem.W.check_slot F.cmpKind_ne F.cmpSplit_ne (J.type.andThen (PySem.W.looks_mroIn Xk O.hm)) (F.cmpArgs_ne _ _) ?_))
    unfold Builtin.«object.__ne__»
    have hu : X.A.in1.units < cLine := hr.in1.units0
    repeat (first
      | with_reducible refine wpAny_cRoomFor hu ?_
      | (refine wpAny_bind (m := callSpecialIfBound? (.ref a) (Str.ofString "__eq__") [.ref b])
          (PySem.W.ifBound_K Xk J O.hs O.hf (wpAny_mono (run_eq (A := X.A.in1) Fd hb hx hr.in1 rfl I (x := .ref a) (y := .ref b) rfl rfl h) (fun r s' hr' => by
            obtain ⟨z, H', I', rz, b', rfl, q⟩ := hr'
            cases rz
            repeat (first | exact ⟨_, rfl, .bl (!b'), H', I', rfl, q⟩ | refine wpAny_pure ?_ | refine wpAny_truthy_bool ?_ | (refine wpAny_bind (m := truthy (.bool _)) (wpAny_truthy_bool ?_)) | wp_step)) fun _ _ e => e)))
      | wp_step)
  show wpAny (model X.prog X.w) X.A (richCompare .NotEq (.ref a) (.ref b)) (EP X pins σ Q) X.xe s
  have one : wpAny (model X.prog X.w) X.A (tryCompare (.ref a) (cmpInfo .NotEq).2.1 (.ref b)) (fun r s' => ∃ v, r = some v ∧ EP X pins σ Q v s') X.xe s := by
    unfold tryCompare
    refine wpAny_bind (ifBound_objNe Xk J O.hn (wpAny_mono inner (fun w s' hq => ?_) fun _ _ e => e))
    obtain ⟨b', rfl, q⟩ := hq
    exact wpAny_pure ⟨_, rfl, q⟩
  unfold richCompare
  simp only [oneThing_ref]
  refine wpAny_holding (wpAny_bind (wpAny_cRoomFor hr.units0 ?_))
  refine wpAny_bind (J.type.here (wpAny_bind (L.here ?_)))
  split
  · rename_i q
    have e : PySem.W.subIn X.K tb (.ref C) = some false := by
      rcases Bool.or_eq_true_iff.mp hn with e | e
      · rw [beq_iff_eq.mp e] at q; simp at q
      · exact beq_iff_eq.mp e
    refine wpAny_bind ((PySem.W.looks_subIn Xk e).here ?_)
    simp only [Bool.false_eq_true, if_false]
    refine wpAny_bind (wpAny_mono one (fun r s' z => ?_) fun _ _ e => e)
    obtain ⟨v, rfl, hq⟩ := z
    exact wpAny_pure hq
  · refine wpAny_bind (wpAny_pure ?_)
    simp only [Bool.false_eq_true, if_false]
    refine wpAny_bind (wpAny_mono one (fun r s' z => ?_) fun _ _ e => e)
    obtain ⟨v, rfl, hq⟩ := z
    exact wpAny_pure hq
end
/-! ### C(e, ..) in a try: what its __init__ lets out is taken at the slots -/
def tMakeS (C : Addr) (sp : Sp) (E : L2.St → XK) (t : TA) : TE := fun σ H Q => t σ H fun vs H1 => ∀ x dx, H1 x = none → H1 dx = none → dx ≠ x →
  sp (.ref x :: vs) (upd (upd H1 dx (.own x)) x (.ins C dx [])) (fun v H2 => v = .non ∧ Q (.ref x) H2) (E σ)
section
variable {X : Cx} {CX : CXT} {k : Nat} {f C : Addr} {fd : FuncData} {ps : List Str} {sp : Sp} {E : L2.St → XK} {x : Str} {p pos : Pos} {e : Expr} {es : List Expr} {t : TA}
theorem pe_makeS (M : Mk X.K C f) (Fd : FnOk X.prog X.w X.K X.mg X.base CX k f fd ps sp) (hr : Room (k + 1) X.A) (hg : Gl X x) (hm : X.mg x = some (.ref C)) (hb : Binds X.K fd ps []) (hx : ∀ σ, PassesAt CX X σ (E σ))
    (ha : PA X (e :: es) t) (hdb : (x == ("__debug__" : Str)) = false := by decide) (he : starEach (e :: es) X.env = (false, eval e X.env) :: starEach es X.env := by rfl) (hpl : (backTo pos (starEach es X.env)).any (·.1) = false := by rfl) :
    PE X (.Call (.Name x p) (e :: es) [] pos) (tMakeS C sp E t) := by
  refine ⟨fun pins s σ H Q I h => ?_⟩
  refine wpAny_Call_Name_kw (ld_glob I hg hm ?_ hdb)
  refine PySem.W.callWith_K (h₀ := X.base) I.ok.mod.kin M.kp (thn (ha.run pos pins s σ H _ I h) fun us s1 ⟨vs, H1, I1, r, q⟩ => ⟨I1.kIn, ?_⟩) he hpl
  have hq := q (s1.heap.objs.size + 1) s1.heap.objs.size (I1.hok.fresh (Nat.le_succ _)) (I1.hok.fresh (Nat.le_refl _)) (Nat.ne_of_lt (Nat.lt_succ_self _))
  have I2 := Inv.made (C := C) I1
  have r2 : Vals (V.ref (s1.heap.objs.size + 1) :: vs) (Value.ref (s1.heap.objs.size + 1) :: us) := .cons rfl r
  have hl : (Value.ref (s1.heap.objs.size + 1) :: us).length = ps.length := by rw [← r2.length]; exact Fd.len _ _ _ _ hq
  have b := hb _ (Value.ref (s1.heap.objs.size + 1) :: us) I2.kIn (by rw [List.append_nil]; exact hl)
  rw [List.append_nil] at b
  refine wpAny_call (make_map (f := f) I1.kIn M.makes M.init (beq_iff_eq.mp M.fn) (codeAny_mono (Fd.run _ X.stack _ _ ⟨Value.ref (s1.heap.objs.size + 1) :: us, []⟩ _ _ _ (E σ) (hr.make C us []) (I2.env0.make C us []) b r2 hq) fun r s' hq' => ?_))
  cases r with
  | error e => exact hx σ pins _ _ e s' I2 hq'
  | ok fl =>
    cases fl with
    | ret u =>
      obtain ⟨v, H', I3, rv, ev, q3⟩ := I2.after hq'
      subst ev
      exact ⟨rv, ⟨V.ref (s1.heap.objs.size + 1), H', I3, rfl, q3⟩⟩
    | next => exact False.elim hq'
    | brk => exact False.elim hq'
    | cont => exact False.elim hq'
end
/-! ### defs called where no repr is under way -/
structure FnG (P : Program) (w : World) (K : PySem.W.Frag) (mg : Str → Option Value) (base : Heap) (k : Nat) (f : Addr) (ps : List Str) (sp : Sp) : Prop where
  len : ∀ vs H Q E, sp vs H Q E → vs.length = ps.length
  run : ∀ (A : Around) (outer : List Env) (s : Shared) (H : Hp) (us : List Value) (vs : List V) (Q : VK) (E : XK), A.guards = some [] → Room k A → Env0 P w K mg base A outer s H → Vals vs us → sp vs H Q E →
    codeAny (model P w) A (.call (.ref f) ⟨us, []⟩) (CR CX0 outer P w H s Q E) s
/-- a def by its body, no repr under way -/
theorem Fun.okG {P : Program} {w : World} {K : PySem.W.Frag} {mg : Str → Option Value} {base : Heap} {x qual : Str} {st : Stmt} {f : Addr} {fd : FuncData} {N ps : List Str} {k : Nat} {sp : Sp} (Fd : Fun K x qual st f fd) (S : FnScope N ps (defScope st)) (b : Binds K fd ps []) (len : ∀ vs H Q E, sp vs H Q E → vs.length = ps.length)
    (hbody : ∀ (cdv : Value) (A : Around) (outer : List Env) (s : Shared) (H : Hp) (vs : List V) (Q : VK) (E : XK), A.guards = some [] → Room k (A.deeper (envOfC qual (defScope st) s.heap.objs.size f cdv)) → sp vs H Q E →
      ∃ t, PSs (cxOf CX0 P w K mg base N qual (defScope st) f cdv A outer s H E).nox (defBody st) t ∧ t { nx := fun _ H' => Q .non H', rt := Q } (start N vs) H) : FnG P w K mg base (k + 1) f ps sp := by
  obtain ⟨oc, od, kV, doc, pm, an, cdv, ct, osl, rfl, lk, hcd⟩ := Fd.ex
  refine ⟨len, fun A outer s H us vs Q E hg hr e0 r hsp => ?_⟩
  have hl := len _ _ _ _ hsp
  have hul : us.length = ps.length := by rw [← r.length]; exact hl
  have KX : K.In s.heap := e0.mod.kin.keeps fun b o e => (e0.bs b o e).1
  have bb := b s us KX (by rw [List.append_nil]; exact hul)
  rw [List.append_nil] at bb
  have lim : s.heap.NoLimit := e0.mod.nolimit.keeps fun b o e => (e0.bs b o e).1
  have hkind : ∀ y ∈ ps.zip us, (defScope st).names.lookup y.1 = some .local ∨ ((defScope st).names.lookup y.1 = some .cell ∧ ((cellsFrom (s.heap.objs.size + 1) (defScope st).names []).lookup y.1).isSome = true) := fun ⟨n, v⟩ hy =>
    (S.par n (List.of_mem_zip hy).1).imp id fun q => ⟨q, PySem.W.cellsFrom_some _ _ _ (.inl q)⟩
  refine codeAny_call_function hr.depth (KX _ _ lk) rfl S.co S.gen rfl (PySem.W.codeRec_of KX hcd) (bb _ _ _ _ ?_)
  refine wpAny_newFunctionEnv_cells S.kind hkind fun env he s1 y => ?_
  subst he
  refine ⟨lim.keeps y.toInCall.keep, codeAny_func ?_⟩
  obtain ⟨t, ht, hq⟩ := hbody cdv A outer s H vs Q E hg (hr.deeper _) hsp
  refine wpAny_mono (ht.nox.run [] s1 (start N vs) H _ (inv_start S hr.hd e0 hl r y) hq) (fun fl s' hs => ?_) fun e s' hs => hs
  cases fl with
  | ret u =>
    obtain ⟨v, σ', H', J, rv, q⟩ := hs
    exact ⟨v, H', J.os, J.bare, J.base, J.hok, rv, q⟩
  | next =>
    obtain ⟨σ', H', J, q⟩ := hs
    exact ⟨V.non, H', J.os, J.bare, J.base, J.hok, rfl, q⟩
  | brk =>
    obtain ⟨_, _, _, q⟩ := hs
    exact False.elim q
  | cont =>
    obtain ⟨_, _, _, q⟩ := hs
    exact False.elim q
/-- such a def by its name -/
structure CalG (P : Program) (w : World) (K : PySem.W.Frag) (mg : Str → Option Value) (base : Heap) (k : Nat) (x : Str) (sp : Sp) : Prop where
  ex : ∃ (f : Addr) (ps : List Str), FnG P w K mg base k f ps sp ∧ mg x = some (.ref f) ∧ PySem.W.keepIn K (.ref f) = true
theorem pe_cG {X : Cx} {x : Str} {sp : Sp} {j k : Nat} {e : Expr} {es : List Expr} {t : TA} {p pos : Pos} (c : CalG X.prog X.w X.K X.mg X.base k x sp) (hg' : X.A.guards = some []) (hr : Room j X.A) (hk : k ≤ j) (hg : Gl X x) (ha : PA X (e :: es) t)
    (hdb : (x == ("__debug__" : Str)) = false := by decide) (he : starEach (e :: es) X.env = (false, eval e X.env) :: starEach es X.env := by rfl) (hpl : (backTo pos (starEach es X.env)).any (·.1) = false := by rfl) :
    PE X (.Call (.Name x p) (e :: es) [] pos) (tCall sp [] E0 t) := by
  obtain ⟨f, ps, Fd, hm, kp⟩ := c.ex
  refine ⟨fun pins s σ H Q I h => ?_⟩
  refine wpAny_Call_Name_kw (ld_glob I hg hm ?_ hdb)
  refine PySem.W.callWith_K (h₀ := X.base) I.ok.mod.kin kp (thn (ha.run pos pins s σ H _ I h) fun us s1 ⟨vs, H1, I1, r, q⟩ => ⟨I1.kIn, ?_⟩) he hpl
  have q : sp (vs ++ []) H1 Q E0 := q
  rw [List.append_nil] at q
  refine wpAny_call (codeAny_mono (Fd.run X.A X.stack s1 H1 us vs Q E0 hg' (hr.mono hk) I1.env0 r q) fun r s' hq => ?_)
  cases r with
  | error e => exact pass0 pins σ H1 s1 e s' I1 hq
  | ok fl =>
    cases fl with
    | ret u => exact I1.after hq
    | next => exact False.elim hq
    | brk => exact False.elim hq
    | cont => exact False.elim hq

/-! ### own errors with an __init__ of their own -/
structure OwnErr (P : Program) (w : World) (K : PySem.W.Frag) (mg : Str → Option Value) (base : Heap) (k : Nat) (x : Str) (C : Addr) (sp : Sp) : Prop where
  oex : OexC K C
  ex : ∃ (fI : Addr) (fd : FuncData) (ps : List Str), PySem.W.findIn K (.ref C) "__init__" = some (some (.ref fI)) ∧ PySem.W.typeIn K (.ref fI) = some (.type "function") ∧ FnOk P w K mg base CX0 k fI fd ps sp ∧ Binds K fd ps []
  gC : mg x = some (.ref C)
def tRaise (E : XK) (t : L2.St → Hp → XK → Prop) : TS := fun _ σ H => t σ H E
theorem ps_rz {X : Cx} {x : Str} {C : Addr} {sp : Sp} {j k : Nat} {E : XK} {e : Expr} {es : List Expr} {ta : TA} {p pos pos2 : Pos} (B : OwnErr X.prog X.w X.K X.mg X.base k x C sp) (hc : X.calm = true) (hr : Room j X.A) (hk : k + 1 ≤ j) (tk : Takes X (fun cls d _ H => E cls d H)) (hg : Gl X x) (ha : PA X (e :: es) ta)
    (hdb : (x == ("__debug__" : Str)) = false := by decide) (he : starEach (e :: es) X.env = (false, eval e X.env) :: starEach es X.env := by rfl) (hpl : (backTo pos (starEach es X.env)).any (·.1) = false := by rfl) :
    PS X (.Raise (some (.Call (.Name x p) (e :: es) [] pos)) none pos2) (tRaise E (tMkO C sp [] ta)) := by
  obtain ⟨fI, fd, ps, iC, tI, Fd, hb⟩ := B.ex
  exact ps_raise hc tk (pmk_oex B.oex iC tI Fd (hr.mono hk) hb .nil pass0 hg B.gC ha hdb he hpl)
/-- C(v): the field set by an __init__ that does no more -/
def spOneF (f : Str) (C : Addr) : Sp := fun vs H Q _ => ∃ (a : Addr) (v : V), vs = [.ref a, v] ∧ H a = some (exo a C none) ∧ ∀ dx, H dx = none → dx ≠ a → Q .non (upd (upd H dx (exd dx [(f, v)])) a (exo a C (some dx)))
theorem mkOne {C : Addr} {f : Str} {ta : TA} {σ : L2.St} {H : Hp} {Q : XK} (h : ta σ H fun vs H1 => ∃ v, vs = [v] ∧ ∀ d H', H1 d = none → H' d = some (.xd [(f, v)]) → ExF [] H1 H' → Q (.ref C) (some d) H')
    (mono : ∀ {P P' : List V → Hp → Prop}, (∀ vs H, P vs H → P' vs H) → ta σ H P → ta σ H P') : tMkO C (spOneF f C) [] ta σ H Q := by
  refine mono ?_ h
  rintro vs H1 ⟨v, rfl, q⟩
  refine ⟨by simp, fun a ha => ⟨a, v, rfl, upd_same, fun dx hdx ne => ⟨rfl, dx, [(f, v)], upd_same, ?_, ?_, ?_⟩⟩⟩
  · rw [upd_ne ne, upd_same]
  · rw [upd_ne ne] at hdx; exact hdx
  · have hd1 : H1 dx = none := by rw [upd_ne ne] at hdx; exact hdx
    refine q dx _ hd1 upd_same ⟨fun b o _ hb => ?_, fun b hb => ?_⟩
    · have n1 : b ≠ dx := ne_of_none hb hd1
      have n2 : b ≠ a := ne_of_none hb ha
      rw [upd_ne n1, del_ne n2, upd_ne n2, upd_ne n1, upd_ne n2]
      exact hb
    · obtain ⟨o, ho⟩ : ∃ o, H1 b = some o := by
        cases e : H1 b with
        | none => exact absurd e hb
        | some o => exact ⟨o, rfl⟩
      have n1 : b ≠ dx := ne_of_none ho hd1
      have n2 : b ≠ a := ne_of_none ho ha
      rw [upd_ne n1, del_ne n2, upd_ne n2, upd_ne n1, upd_ne n2]
      exact hb
end Tw
end

section
set_option Elab.async false
set_option linter.all false
set_option maxRecDepth 100000
set_option maxHeartbeats 4000000
namespace Tw
open PySem PySem.Spec L2 PyProof.Rows
/-- the law's call, its def told by FnG: the caller has no repr under way -/
theorem lawG {P : Program} {w : World} {K : PySem.W.Frag} {mg mb : Str → Option Value} {k : Nat} {fa a : Addr} {ps : List Str} {sp : Sp} {s₁ : Shared} {vs : List Value} {ns : List Int}
    (KX : K.In s₁.heap) (hns : s₁.heap.Ns mainGlobals mg) (hb : s₁.heap.Ns builtinsNs mb) (hbb : ∀ x : Str, x ≠ "__name__" → mb x = bootBuiltins x) (hlim : s₁.heap.NoLimit) (hg : s₁.gens = #[])
    (ha : s₁.heap.get? a = some { cls := .type "list", data := .seq vs.toArray }) (hi : IntsAre vs ns) (hl : ns.length ≤ sizeLine) (hr : Room k callerA)
    (Fd : ∀ base : Heap, K.In base → base.Ns mainGlobals mg → FnG P w K mg base k fa ps sp)
    (hsp : ∀ H : Hp, Only H → SqL K H a (ns.map V.int) → sp [.ref a] H (fun v _ => v = .bl true) fun _ _ _ => False) :
    codeAny (model P w) callerA (.call (.ref fa) ⟨[.ref a], []⟩) (fun r s' => r = .ok (.ret (.bool true)) ∧ OldK s₁.heap s'.heap ∧ s'.os = s₁.os ∧ AllBare s'.gens) s₁ := by
  have rv := vals_ints hi
  have core : ∀ H : Hp, Only H → SqL K H a (ns.map V.int) → HOk P w H s₁.heap → (∀ b, H b ≠ none → b = a) → (H a ≠ none → K.lookup a = none) →
      codeAny (model P w) callerA (.call (.ref fa) ⟨[.ref a], []⟩) (fun r s' => r = .ok (.ret (.bool true)) ∧ OldK s₁.heap s'.heap ∧ s'.os = s₁.os ∧ AllBare s'.gens) s₁ := by
    intro H hO hS hok hA hK
    have isA : ∀ {b : Addr} {u : HO}, H b = some u → b = a := fun {b u} q => hA b (by rw [q]; exact fun z => nomatch z)
    have keepB : ∀ {b : Addr} {o : Obj}, s₁.heap.get? b = some o → H b = none → (hidT s₁.heap H).get? b = some o := fun e n => hidT_get e n
    have dictFree : ∀ {b : Addr} {o : Obj} {es : Array DictEntry} {ep : Nat}, s₁.heap.get? b = some o → o.data = .dict es ep → H b = none := fun {b o es ep} e d => by
      cases q : H b with
      | none => rfl
      | some u =>
        have := isA q
        subst this
        rw [ha] at e
        cases e
        exact nomatch (show Data.seq vs.toArray _ = Data.dict es ep from d)
    have nsB : ∀ {b : Addr} {m : Str → Option Value}, s₁.heap.Ns b m → (hidT s₁.heap H).Ns b m := fun {b m} ⟨o, es, ep, e, d, r⟩ => ⟨o, es, ep, keepB e (dictFree e d), d, r⟩
    have inB : K.In (hidT s₁.heap H) := fun b o e => keepB (KX b o e) (by
      cases q : H b with
      | none => rfl
      | some u =>
        have := isA q
        subst this
        rw [hK (by rw [q]; exact fun z => nomatch z)] at e
        cases e)
    have md : Mod K mg (hidT s₁.heap H) := ⟨inB, nsB hns, ⟨mb, nsB hb, hbb⟩, let ⟨mc, h1, h2⟩ := hlim; ⟨mc, nsB h1, h2⟩⟩
    have e0 : Env0 P w K mg (hidT s₁.heap H) callerA [] s₁ H := ⟨rfl, md, fun b o e => of_hidT e, Nat.le_of_eq (hidT_size _ _), trivial, fun b hb => absurd (show b ∈ ([] : List Addr) from hb) (by simp), hok, .of_eq hg⟩
    refine codeAny_mono ((Fd _ inB (nsB hns)).run callerA [] s₁ H [.ref a] [.ref a] _ _ rfl hr e0 (.cons rfl .nil) (hsp H hO hS)) fun r s' h => ?_
    cases r with
    | error e => exact False.elim h
    | ok fl =>
      cases fl with
      | next => exact False.elim h
      | brk => exact False.elim h
      | cont => exact False.elim h
      | ret u =>
        obtain ⟨v, H', os, bare, un, hok', rv', q⟩ := h
        have q : v = .bl true := q
        subst q
        obtain rfl : u = Value.bool true := rv'
        refine ⟨rfl, OldK.of_keep fun b o e => ?_, os, bare⟩
        cases q : H b with
        | none => exact un.keep b o e q (by intro z; exact absurd (show b ∈ ([] : List Addr) from z) (by simp)) (by simp)
        | some u =>
          rcases hO b with z | ⟨ob, ys, z⟩
          · rw [q] at z; cases z
          · obtain ⟨f1, _⟩ := hok b _ z
            obtain ⟨f2, _⟩ := hok' b _ (un.frzs b ob _ z)
            rw [e] at f1; cases f1
            exact f2
  cases hk : K.lookup a with
  | some o =>
    have e := KX a o hk
    rw [ha] at e
    cases e
    refine core (fun _ => none) (fun _ => .inl rfl) (.inr ⟨_, vs.toArray, _, hk, rfl, rfl, rfl, by rw [List.size_toArray, hi.length]; exact hl, by simpa using rv⟩) (fun b u z => nomatch (show (none : Option HO) = some u from z)) (fun b z => absurd rfl z) fun z => absurd rfl z
  | none =>
    have at_ : ∀ {b : Addr} {u : HO}, (if b = a then some (HO.frz { cls := .type "list", data := .seq vs.toArray } (.lst (ns.map V.int))) else none) = some u → b = a ∧ u = .frz { cls := .type "list", data := .seq vs.toArray } (.lst (ns.map V.int)) := fun {b u} z => by
      by_cases hb : b = a
      · rw [if_pos hb] at z
        exact ⟨hb, (Option.some.inj z).symm⟩
      · rw [if_neg hb] at z
        cases z
    refine core (fun b => if b = a then some (.frz { cls := .type "list", data := .seq vs.toArray } (.lst (ns.map V.int))) else none) (fun b => ?_) (.inl (.inr ⟨_, if_pos rfl⟩)) (fun b u z => ?_) (fun b z => ?_) fun _ => hk
    · by_cases hb : b = a
      · exact .inr ⟨_, _, if_pos hb⟩
      · exact .inl (if_neg hb)
    · obtain ⟨e1, e2⟩ := at_ z
      subst e1 e2
      exact ⟨ha, by rw [List.length_map]; exact hl, vs, _, rv, ha⟩
    · cases q : (if b = a then some (HO.frz { cls := .type "list", data := .seq vs.toArray } (.lst (ns.map V.int))) else none) with
      | none => exact absurd q z
      | some u => exact (at_ q).1
theorem walkG {l : PySem.W.OpenLaw} {n k : Nat} {q : Program} {loose : List Str} {XP : (Str → Option Value) → Heap → Prop} {YP : World → Heap → Prop} {d : DefRec} {K : Params → PySem.W.Frag} {sp : World → Sp}
    (hn : l.most = some n) (hn2 : n ≤ sizeLine) (hdf : d.params.defaults = []) (hr : Room k callerA) (hY : ∀ (w : World) (h : Heap), YP w h → (K w.params).In h)
    (Fd : ∀ (w : World) (mg : Str → Option Value) (fa : Addr) (h : Heap), (K w.params).In h → h.Ns mainGlobals mg → mg d.name = some (.ref fa) →
      ∃ ps : List Str, ∀ base : Heap, (K w.params).In base → base.Ns mainGlobals mg → FnG l.prog w (K w.params) mg base k fa ps (sp w))
    (hsp : ∀ (w : World) (H : Hp) (a : Addr) (ns : List Int), ns.length ≤ n → Only H → SqL (K w.params) H a (ns.map V.int) → sp w [.ref a] H (fun v _ => v = .bl true) fun _ _ _ => False) :
    PySem.W.WalkO q loose XP YP l.row.toRowW d [] (fun f vs => PySem.call f vs) := by
  refine Att.attach_call hn hdf fun w s₀ s₁ mg mb fa o pm cd doc a vs ns G Y ho hd hcd hmg hobj hints hlen hg => ?_
  have KX := hY w _ Y
  obtain ⟨ps, hF⟩ := Fd w mg fa _ KX G.T.g hmg
  exact lawG KX G.T.g G.T.b G.T.builtins G.T.nolimit hg hobj hints (Nat.le_trans hlen hn2) hr hF fun H hO hS => hsp w H a ns hlen hO hS
end Tw
end

section
set_option Elab.async false
set_option linter.all false
set_option maxRecDepth 100000
set_option maxHeartbeats 4000000
namespace Tw
open PySem L2 PyProof.Rows
def t_l_draw_b1 (K : PySem.W.Frag) : TS := tSeq (tAsg (tBM K "list" rPopAtU (tOp (rIxU K) (tVar 0) (tC (.int 0))) (tCons (tC (.int 0)) (tNil))) (gName 2))
      (tSeq (tAsg (tOp (rI (fun _ j => j ≠ 0) fun i j => .int (i.fmod j)) (tCB (rInt1) (tCons (tOp (rAddU K) (tOp (rAddU K) (tOp rMulU (tOp (rIxU K) (tVar 0) (tC (.int 3))) (tC (.int 8191))) (tVar 2)) (tC (.int 3))) (tNil))) (tC (.int 2147483647))) (gSub (tVar 0) (tC (.int 3)) rSetU))
      (tAsg (tIf (tTest (tOp (rI0 fun i j => .bl (decide (j ≤ i))) (tVar 2) (tOp (rI CPow fun i j => .int (i ^ j.toNat)) (tC (.int 10)) (tC (.int 18))))) (tVar 2) (tC (.int 0))) (gSub (tVar 0) (tC (.int 1)) rSetU)))
def t_l_draw_t4 (K : PySem.W.Frag) : TS := tRet (tOp (rI (fun _ j => j ≠ 0) fun i j => .int (i.fmod j)) (tOp (rI (fun _ j => j ≠ 0) fun i j => .int (i.fmod j)) (tCB (rInt1) (tCons (tOp (rI CPow fun i j => .int (i ^ j.toNat)) (tOp (rAddU K) (tOp (rAddU K) (tOp rMulU (tVar 4) (tC (.int 48271))) (tOp rMulU (tC (.int 30011)) (tOp (rIxU K) (tVar 0) (tC (.int 2))))) (tC (.int 29))) (tC (.int 3))) (tNil))) (tC (.int 1000000007))) (tVar 1))
def t_l_draw_t3 (K : PySem.W.Frag) : TS := tSeq (tAsg (tOp (rI (fun _ j => j ≠ 0) fun i j => .int (i.fmod j)) (tCB (rInt1) (tCons (tOp (rI CPow fun i j => .int (i ^ j.toNat)) (tOp (rAddU K) (tOp (rAddU K) (tOp (rIxU K) (tVar 0) (tC (.int 3))) (tOp rMulU (tC (.int 7919)) (tOp (rIxU K) (tVar 0) (tC (.int 2))))) (tC (.int 104729))) (tC (.int 5))) (tNil))) (tC (.int 2147483629))) (gName 4)) (t_l_draw_t4 K)
def t_l_draw_t2 (K : PySem.W.Frag) : TS := tSeq (tIfS (tTest (tOp (rI0 fun i j => .bl (decide (j < i))) (tOp (rIxU K) (tVar 0) (tC (.int 1))) (tC (.int 0)))) (tSeq (tAsg (tOp (rI (fun _ j => j ≠ 0) fun i j => .int (i.fmod j)) (tCB (rInt1) (tCons (tOp (rIxU K) (tVar 0) (tC (.int 1))) (tNil))) (tVar 1)) (gName 3))
      (tSeq (tAsg (tOp (rI CDivN fun i j => .int (i.fdiv j)) (tOp (rIxU K) (tVar 0) (tC (.int 1))) (tVar 1)) (gSub (tVar 0) (tC (.int 1)) rSetU))
      (tRet (tVar 3)))) (tNext)) (t_l_draw_t3 K)
def t_l_draw_t1 (K : PySem.W.Frag) : TS := tSeq (tWhile (tAnd (tTest (tOp (rEqU K) (tOp (rIxU K) (tVar 0) (tC (.int 1))) (tC (.int 0)))) (tTest (tOp (rNeU K) (tOp (rIxU K) (tVar 0) (tC (.int 0))) (tLstU (tNil))))) (t_l_draw_b1 K)) (t_l_draw_t2 K)
def t_l_draw (K : PySem.W.Frag) : TS := tSeq (tAsg (tOp (rAddU K) (tOp (rIxU K) (tVar 0) (tC (.int 2))) (tC (.int 1))) (gSub (tVar 0) (tC (.int 2)) rSetU)) (t_l_draw_t1 K)
theorem rd_draw_t3 (K : PySem.W.Frag) {st cl : Addr} {m a b : Int} {c : Nat} {ns : List Int} {v : Option V} {H : Hp} {Q : VK} (k1 : H st = some (.lst [.ref cl, .int a, .int ((c + 1 : Nat) : Int), .int b])) (k2 : H cl = some (.lst (ns.map V.int)))
    (hb : 0 ≤ b) (hb2 : b < 2147483647) (hc : c < 2 ^ 48) (h0 : 0 < m) (q : ∀ k : Int, 0 ≤ k → k < m → Q (.int k) H) :
    t_l_draw_t3 K { nx := fun _ H' => Q .non H', rt := Q } [some (.ref st), some (.int m), v, none, none] H := by
  have fm : ∀ {i j : Int}, 0 < j → 0 ≤ i.fmod j ∧ i.fmod j < j := fun h => ⟨Int.fmod_nonneg_of_pos _ h, Int.fmod_lt_of_pos _ h⟩
  refine ⟨_, rfl, ?_⟩
  refine ixL k1 (v := .int b) rfl ?_
  refine ⟨_, rfl, ?_⟩
  refine ixL k1 (v := .int ((c + 1 : Nat) : Int)) rfl ?_
  refine mulI (.inl ⟨by decide, by decide⟩) ?_
  refine addI (addI ?_)
  refine ⟨_, 5, rfl, rfl, ⟨by decide, by decide, ?_⟩, ?_⟩
  · omega
  refine int1 ?_
  refine ⟨_, _, rfl, rfl, (show (2147483629 : Int) ≠ 0 by decide), ?_⟩
  generalize hM : ((b + 7919 * ((c + 1 : Nat) : Int) + 104729) ^ (5 : Int).toNat).fmod 2147483629 = M
  have hM1 : 0 ≤ M ∧ M < 2147483629 := hM ▸ fm (by decide)
  refine ⟨_, rfl, ?_⟩
  refine mulI (.inr ⟨by decide, by decide⟩) ?_
  refine ⟨_, rfl, ?_⟩
  refine ixL k1 (v := .int ((c + 1 : Nat) : Int)) rfl ?_
  refine mulI (.inl ⟨by decide, by decide⟩) ?_
  refine addI (addI ?_)
  refine ⟨_, 3, rfl, rfl, ⟨by decide, by decide, ?_⟩, ?_⟩
  · omega
  refine int1 ?_
  refine ⟨_, _, rfl, rfl, (show (1000000007 : Int) ≠ 0 by decide), ?_⟩
  refine ⟨_, rfl, _, _, rfl, rfl, (by omega), ?_⟩
  exact q _ (fm h0).1 (fm h0).2
theorem rd_draw_t2 (K : PySem.W.Frag) {st cl : Addr} {m a b : Int} {c : Nat} {ns : List Int} {v : Option V} {H H0 : Hp} {Q : VK} (k1 : H st = some (.lst [.ref cl, .int a, .int ((c + 1 : Nat) : Int), .int b])) (k2 : H cl = some (.lst (ns.map V.int)))
    (ha : 0 ≤ a) (hb : 0 ≤ b) (hb2 : b < 2147483647) (hl : ns.length ≤ 1000) (hc : c < 2 ^ 48) (h0 : 0 < m) (h1 : m < 2 ^ 30) (x : ExF [st, cl] H0 H) (hne : st ≠ cl)
    (q : ∀ (k : Int) H', 0 ≤ k → k < m → Strm st cl H' (c + 1) → ExF [st, cl] H0 H' → Q (.int k) H') :
    t_l_draw_t2 K { nx := fun _ H' => Q .non H', rt := Q } [some (.ref st), some (.int m), v, none, none] H := by
  have fm : ∀ {i j : Int}, 0 < j → 0 ≤ i.fmod j ∧ i.fmod j < j := fun h => ⟨Int.fmod_nonneg_of_pos _ h, Int.fmod_lt_of_pos _ h⟩
  refine ⟨_, rfl, ?_⟩
  refine ixL k1 (v := .int a) rfl ?_
  refine ⟨_, _, rfl, rfl, _, rfl, ?_⟩
  refine ite2 (fun hp => ?_) (fun hp => ?_)
  · have hp' : 0 < a := of_decide_eq_true hp
    -- the digit
    refine ⟨_, rfl, ?_⟩
    refine ixL k1 (v := .int a) rfl ?_
    refine int1 ?_
    refine ⟨_, rfl, _, _, rfl, rfl, (by omega), ?_⟩
    refine ⟨_, rfl, ?_⟩
    refine ixL k1 (v := .int a) rfl ?_
    refine ⟨_, rfl, _, _, rfl, rfl, ⟨by omega, by omega⟩, ?_⟩
    refine ⟨_, rfl, .inl ⟨st, _, 1, 1, rfl, rfl, k1, rfl, ?_⟩⟩
    refine ⟨_, rfl, ?_⟩
    refine q _ _ (fm h0).1 (fm h0).2 ⟨_, b, ns, upd_same, by rw [upd_ne (Ne.symm hne)]; exact k2, ?_, hb, hb2, hl⟩ (x.mut (.inr (by simp)))
    rw [Int.fdiv_eq_ediv_of_nonneg _ (by omega)]
    exact Int.ediv_nonneg ha (by omega)
  · exact rd_draw_t3 K k1 k2 hb hb2 hc h0 fun k g0 g1 => q k H g0 g1 ⟨a, b, ns, k1, k2, ha, hb, hb2, hl⟩ x
theorem rd_l_draw (K : PySem.W.Frag) {vs : List V} {H : Hp} {Q : VK} {E : XK} (h : spDraw vs H Q E) :
    t_l_draw K { nx := fun _ H' => Q .non H', rt := Q } (start ["_law_stream", "_law_many", "_law_cell", "_law_digit", "_law_mixed_here"] vs) H := by
  obtain ⟨st, cl, c, m, rfl, S, hc, h0, h1, q⟩ := h
  have hne := S.ne
  obtain ⟨a, b, ns, k1, k2, ha, hb, hb2, hl⟩ := S.ex
  have fm : ∀ {i j : Int}, 0 < j → 0 ≤ i.fmod j ∧ i.fmod j < j := fun h => ⟨Int.fmod_nonneg_of_pos _ h, Int.fmod_lt_of_pos _ h⟩
  -- stream[2] = stream[2] + 1
  refine ⟨_, rfl, ?_⟩
  refine ixL k1 (v := .int c) rfl ?_
  refine addI ?_
  refine ⟨_, rfl, .inl ⟨st, _, 2, 2, rfl, rfl, k1, rfl, ?_⟩⟩
  -- the cells, while no great one is held
  refine ⟨fun n σ H' => ∃ (a b : Int) (ns : List Int) (v : Option V), n = ns.length ∧ σ = [some (.ref st), some (.int m), v, none, none] ∧ H' st = some (.lst [.ref cl, .int a, .int ((c + 1 : Nat) : Int), .int b]) ∧ H' cl = some (.lst (ns.map V.int)) ∧
    0 ≤ a ∧ 0 ≤ b ∧ b < 2147483647 ∧ ns.length ≤ 1000 ∧ ExF [st, cl] H H', ⟨ns.length, a, b, ns, none, rfl, rfl, ?_, ?_, ha, hb, hb2, hl, ?_⟩, ?_⟩
  · rw [upd_same]
    have e : (c : Int) + 1 = ((c + 1 : Nat) : Int) := by omega
    rw [e]
    rfl
  · rw [upd_ne (Ne.symm hne)]; exact k2
  · exact ExF.refl.mut (.inr (by simp))
  rintro n σ H1 ⟨a, b, ns, v, rfl, rfl, k1, k2, ha, hb, hb2, hl, x1⟩
  refine ⟨_, rfl, ?_⟩
  refine ixL k1 (v := .int a) rfl ?_
  refine eqI ⟨_, rfl, ?_⟩
  refine ite2 (fun ea => ?_) (fun _ => ?_)
  · refine ⟨_, rfl, ?_⟩
    refine ixL k1 (v := .ref cl) rfl ?_
    refine ⟨by decide, fun p H1' hp e1 => ?_⟩
    have k1' := eqf e1 hp k1
    have k2' := eqf e1 hp k2
    have x1' : ExF [st, cl] H H1' := x1.trans (exn e1 hp)
    refine neO (F := []) (G := []) (n := 1) (m := 1) (d := .list (ns.map PyData.int)) (e := .list []) (.list (by simp) k2' (.ints ns)) (.list (by simp) (eqs e1) .nil) (ok_list.mpr ⟨oks_ints ns, by rw [List.length_map]; omega⟩) (ok_list.mpr ⟨by rw [oks], by decide⟩) ⟨_, rfl, ?_⟩
    cases ns with
    | nil => exact rd_draw_t2 K k1' k2' ha hb hb2 hl hc h0 h1 x1' hne q
    | cons z ns =>
      refine iteT ⟨_, fun _ _ h => h, ?_⟩
      -- cell = stream[0].pop(0)
      refine ⟨_, rfl, ?_⟩
      refine ixL k1' (v := .ref cl) rfl ?_
      refine ⟨tyL k2', popAt (k := 0) k2' (by decide) (by decide) rfl rfl fun H2 hH2 => ?_⟩
      have c1 : H2 st = some (.lst [.ref cl, .int a, .int ((c + 1 : Nat) : Int), .int b]) := eqn hH2 hne k1'
      have c2 : H2 cl = some (.lst (ns.map V.int)) := eqs hH2
      have y2 : ExF [st, cl] H H2 := exm hH2 (.inr (by simp)) x1'
      -- stream[3] = int(stream[3] * 8191 + cell + 3) % 2147483647
      refine ⟨_, rfl, ?_⟩
      refine ixL c1 (v := .int b) rfl ?_
      refine mulI (.inr ⟨by decide, by decide⟩) ?_
      refine ⟨_, rfl, ?_⟩
      refine addI (addI ?_)
      refine int1 ?_
      refine ⟨_, _, rfl, rfl, (show (2147483647 : Int) ≠ 0 by decide), ?_⟩
      have hM := fm (i := b * 8191 + z + 3) (j := 2147483647) (by decide)
      refine ⟨_, rfl, setU c1 (j := 3) rfl fun H3 hH3 => ?_⟩
      have e1 : H3 st = some (.lst [.ref cl, .int a, .int ((c + 1 : Nat) : Int), .int ((b * 8191 + z + 3).fmod 2147483647)]) := eqs hH3
      have e2 : H3 cl = some (.lst (ns.map V.int)) := eqn hH3 (Ne.symm hne) c2
      have y3 : ExF [st, cl] H H3 := exm hH3 (.inr (by simp)) y2
      -- stream[1] = cell if cell >= 10 ** 18 else 0
      refine ⟨_, rfl, ?_⟩
      refine ⟨10, 18, rfl, rfl, ⟨by decide, by decide, by decide⟩, ?_⟩
      refine ⟨_, _, rfl, rfl, _, rfl, ?_⟩
      refine ite2 (fun hz => ?_) (fun _ => ?_)
      · have hz' := of_decide_eq_true hz
        refine ⟨_, rfl, ?_⟩
        refine ⟨_, rfl, setU e1 (j := 1) rfl fun H4 hH4 => ?_⟩
        exact ⟨ns.length, by simp, z, _, ns, _, rfl, rfl, eqs hH4, eqn hH4 (Ne.symm hne) e2, Int.le_trans (by decide) hz', hM.1, hM.2, by simp at hl; omega, exm hH4 (.inr (by simp)) y3⟩
      · refine ⟨_, rfl, setU e1 (j := 1) rfl fun H4 hH4 => ?_⟩
        exact ⟨ns.length, by simp, 0, _, ns, _, rfl, rfl, eqs hH4, eqn hH4 (Ne.symm hne) e2, by decide, hM.1, hM.2, by simp at hl; omega, exm hH4 (.inr (by simp)) y3⟩
  · exact rd_draw_t2 K k1 k2 ha hb hb2 hl hc h0 h1 x1 hne q

def t_l_start (K : PySem.W.Frag) : TS := tRet (tLstU (tCons (tCB (rLstOf K) (tCons (tVar 0) (tNil))) (tCons (tC (.int 0)) (tCons (tC (.int 0)) (tCons (tC (.int 11)) (tNil))))))
def t_l_pick (K : PySem.W.Frag) : TS := tRet (tOp (rIxU K) (tVar 1) (tCall spDraw [] E0 (tCons (tVar 0) (tCons (tCB (rLenU K) (tCons (tVar 1) (tNil))) (tNil)))))
def t_l_mixed_t1 (K : PySem.W.Frag) : TS := tRet (tLcU (iRng1 (tCons (tCB (rLenU K) (tCons (tVar 2) (tNil))) (tNil))) (gName 3) (tYes) (tBM K "list" rPopAtU (tVar 2) (tCons (tCall spDraw [] E0 (tCons (tVar 0) (tCons (tCB (rLenU K) (tCons (tVar 2) (tNil))) (tNil)))) (tNil))) [3])
def t_l_mixed (K : PySem.W.Frag) : TS := tSeq (tAsg (tCB (rLstOf K) (tCons (tVar 1) (tNil))) (gName 2)) (t_l_mixed_t1 K)
theorem rd_l_start (K : PySem.W.Frag) {vs : List V} {H : Hp} {Q : VK} {E : XK} (h : spStart K vs H Q E) :
    t_l_start K { nx := fun _ H' => Q .non H', rt := Q } (start ["_law_script"] vs) H := by
  obtain ⟨a, ns, rfl, hs, hl, q⟩ := h
  refine ⟨_, rfl, ?_⟩
  refine lstOfQ (.inl hs) fun cl H1 hcl e1 => ?_
  refine ⟨by show 4 ≤ sizeLine; decide, fun st H2 hst e2 => ?_⟩
  have k2 := eqf e2 hst (eqs e1)
  refine q st cl H2 ⟨0, 11, ns, eqs e2, k2, by decide, by decide, by decide, hl⟩ ((exn (F := []) e1 hcl).free hst) hcl ((exn e1 hcl).trans (exn e2 hst))
theorem rd_l_pick (K : PySem.W.Frag) {vs : List V} {H : Hp} {Q : VK} {E : XK} (h : spPick vs H Q E) :
    t_l_pick K { nx := fun _ H' => Q .non H', rt := Q } (start ["_law_stream", "_law_some"] vs) H := by
  obtain ⟨st, cl, c, l, xs, rfl, S, hc, hl, n1, n2, h0, h1, q⟩ := h
  refine ⟨_, rfl, ?_⟩
  refine ⟨_, rfl, ?_⟩
  refine ⟨_, rfl, ?_⟩
  refine lenSq hl ?_
  refine ⟨st, cl, c, (xs.length : Int), rfl, S, hc, by omega, by omega, fun k H1 g0 g1 S1 x1 => ?_⟩
  have hk : k.toNat < xs.length := by omega
  refine ixSq (hl.ex x1 (by simp [n1, n2])) (atN g0 (v := xs[k.toNat]) (by simp [hk])) ?_
  exact q k.toNat _ H1 (by simp [hk]) S1 x1
theorem rd_l_mixed (K : PySem.W.Frag) {vs : List V} {H : Hp} {Q : VK} {E : XK} (h : spMixed vs H Q E) :
    t_l_mixed K { nx := fun _ H' => Q .non H', rt := Q } (start ["_law_stream", "_law_some", "_law_left", "_law_k"] vs) H := by
  obtain ⟨st, cl, c, l, xs, rfl, S, hc, hl, hz, q⟩ := h
  have sz : sizeLine = 16777216 := sizeLine_eq
  have hst : H st ≠ none := S.trk st (by simp)
  have hcl : H cl ≠ none := S.trk cl (by simp)
  refine ⟨_, rfl, ?_⟩
  refine lstOfSq hl fun lf H1 hlf e1 => ?_
  have k1 : H1 lf = some (.lst xs) := eqs e1
  have x1 : ExF [st, cl] H H1 := exn e1 hlf
  have S1 : Strm st cl H1 c := S.ex' (F := []) (by simp) (by simp) (exn e1 hlf)
  have nls : lf ≠ st := fun z => hst (by rw [← z]; exact hlf)
  have nlc : lf ≠ cl := fun z => hcl (by rw [← z]; exact hlf)
  unfold t_l_mixed_t1 tRet tLcU
  refine ⟨_, rfl, ?_⟩
  refine lenL k1 ?_
  refine ⟨(xs.length : Int), rfl, by omega, by omega, ?_⟩
  have en : ((xs.length : Int)).toNat = xs.length := by omega
  rw [en]
  refine lcR (fun D i H' => ∃ acc rest : List V, (acc ++ rest).Perm xs ∧ acc.length = i ∧ H' D = some (.lst acc) ∧ H' lf = some (.lst rest) ∧ Strm st cl H' (c + i) ∧ ExF [lf, st, cl] H1 H') ?_ ?_ ?_
  · intro D H2 hD e2
    exact ⟨[], xs, .refl _, rfl, eqs e2, eqf e2 hD k1, S1.ex' (F := []) (by simp) (by simp) (exn e2 hD), exn e2 hD⟩
  · rintro D i H2 hD hi ⟨acc, rest, p, ha, kD, kl, S2, x2⟩
    have hr : acc.length + rest.length = xs.length := by rw [← List.length_append]; exact p.length_eq
    refine ⟨rfl, ?_⟩
    refine ⟨_, rfl, tyL kl, ?_⟩
    refine ⟨_, rfl, ?_⟩
    refine ⟨_, rfl, ?_⟩
    refine lenL kl ?_
    refine ⟨st, cl, c + i, (rest.length : Int), rfl, S2, by omega, by omega, by omega, fun k H3 g0 g1 S3 x3 => ?_⟩
    have hk : k.toNat < rest.length := by omega
    have hDn : D ∉ [st, cl] := by
      intro z
      rcases List.mem_cons.mp z with z | z
      · exact hst (by rw [← z]; exact (exn (F := []) e1 hlf).free hD)
      · exact hcl (by rw [← List.mem_singleton.mp z]; exact (exn (F := []) e1 hlf).free hD)
    have nlD : lf ≠ D := ne_of_none k1 hD
    have kl3 := x3.at_ _ _ (by simp [nls, nlc]) kl
    have kD3 := x3.at_ _ _ hDn kD
    refine popAt (k := k.toNat) kl3 g0 (by omega) (by omega) (y := rest[k.toNat]) (by simp [hk]) fun H4 e4 => ?_
    refine ⟨acc, eqn e4 nlD.symm kD3, by omega, ?_⟩
    generalize e5 : upd H4 D (.lst (acc ++ [rest[k.toNat]])) = H5
    have e5 := e5.symm
    refine ⟨acc ++ [rest[k.toNat]], rest.eraseIdx k.toNat, ?_, by simp [ha], eqs e5, eqn e5 nlD (eqs e4), ?_, ?_⟩
    · have pe := erase_perm (l := rest) (k := k.toNat) (y := rest[k.toNat]) (by simp [hk])
      rw [List.append_assoc]
      exact (List.Perm.append_left acc pe).trans p
    · have S4 : Strm st cl H4 (c + i + 1) := S3.ex' (F := [lf]) (by simp [nls.symm]) (by simp [nlc.symm]) (exm e4 (.inr (by simp)) ExF.refl)
      have S5 : Strm st cl H5 (c + i + 1) := S4.ex' (F := [D]) (by intro z; exact hDn (by rw [← List.mem_singleton.mp z]; simp)) (by intro z; exact hDn (by rw [← List.mem_singleton.mp z]; simp)) (exm e5 (.inr (by simp)) ExF.refl)
      rw [← Nat.add_assoc]
      exact S5
    · have y3 : ExF [lf, st, cl] H1 H3 := x2.trans x3.add
      exact exm e5 (.inl hD) (exm e4 (.inr (by simp)) y3)
  · rintro D H2 hD ⟨acc, rest, p, ha, kD, kl, S2, x2⟩
    have hr : rest = [] := by
      have h2 : acc.length + rest.length = xs.length := by rw [← List.length_append]; exact p.length_eq
      exact List.eq_nil_of_length_eq_zero (by omega)
    subst hr
    rw [List.append_nil] at p
    have xx : ExF [st, cl] H H2 := ((x1.add (p := lf)).trans x2).drop hlf
    exact q D acc H2 p ((exn (F := []) e1 hlf).free hD) kD S2 xx

end Tw
end

section
set_option Elab.async false
set_option linter.all false
set_option maxRecDepth 100000
set_option maxHeartbeats 4000000
namespace Tw
open PySem L2 PyProof.Rows

/-! ### what the document calls names, exprs, lines: plain functions of data -/
abbrev letters : Str := "abcdefghijklmnopqrstuvwxyz"
abbrev figs : Str := "0123456789"
def inSign (y : Str) (c : Nat) : Bool := !(Builtin.Str.occurrences y ⟨#[c]⟩ 0 y.length 1).isEmpty
def headIn (y : Str) : List Nat → Bool
  | [] => false
  | c :: _ => inSign y c
def nameS (s : Str) : Bool := decide (0 < s.length) && decide (s.length ≤ 8) && headIn letters s.cps.toList && !decide (s ∈ (["read", "tell"] : List Str)) && s.cps.toList.all (inSign (letters ++ figs))
def nameD : PyData → Bool
  | .str s => nameS s
  | _ => false
mutual
def exprD (known : List Str) : PyData → Bool
  | .str s => decide (s ∈ known)
  | .list ds => exprL known ds
  | .tuple ds => exprL known ds
  | _ => false
/-- an operation's name and exprs -/
def exprL (known : List Str) : List PyData → Bool
  | [] => false
  | d :: ds => nameD d && exprs known ds
def exprs (known : List Str) : List PyData → Bool
  | [] => true
  | d :: ds => exprD known d && exprs known ds
end
def isS (z : Str) : PyData → Bool
  | .str s => decide (s = z)
  | _ => false
/-- a name that is one of these -/
def nmIn (known : List Str) : PyData → Bool
  | .str s => decide (s ∈ known)
  | _ => false
def lineL (known told : List Str) : List PyData → Bool
  | [a, b] => nameD b && ((isS "read" a && !nmIn known b) || (isS "tell" a && nmIn known b && !nmIn told b))
  | [a, b, e] => nameD b && isS "give" a && exprD known e
  | _ => false
def items : PyData → Option (List PyData)
  | .list ds => some ds
  | .tuple ds => some ds
  | _ => none
def lineD (known told : List Str) (d : PyData) : Bool := match items d with
  | some ds => lineL known told ds
  | none => false
/-- the name that a line speaks of, whether it tells it -/
def lineN (d : PyData) : Str := match items d with
  | some (_ :: .str s :: _) => s
  | _ => ""
def lineT (d : PyData) : Bool := match items d with
  | some (a :: _) => isS "tell" a
  | _ => false
def faultL (known told : List Str) (i : Nat) : List PyData → Option Nat
  | [] => none
  | d :: ds => if lineD known told d = true then faultL (known ++ [lineN d]) (told ++ if lineT d then [lineN d] else []) (i + 1) ds else some i
/-- how a source of a thing is refused -/
def metD (d : PyData) : Option Nat := match items d with
  | some ds => faultL [] [] 0 ds
  | none => some 0
def optD : Option Nat → PyData
  | none => .none
  | some i => .int i
mutual
/-- tuples throughout -/
def tupD : PyData → PyData
  | .list ds => .tuple (tups ds)
  | .tuple ds => .tuple (tups ds)
  | .none => .none
  | .bool b => .bool b
  | .int i => .int i
  | .str s => .str s
  | .dict kvs => .dict kvs
def tups : List PyData → List PyData
  | [] => []
  | d :: ds => tupD d :: tups ds
end
theorem tups_map : ∀ ds : List PyData, tups ds = ds.map tupD
  | [] => by rw [tups]; rfl
  | d :: ds => by rw [tups, tups_map ds]; rfl
theorem exprs_all (known : List Str) : ∀ ds : List PyData, exprs known ds = ds.all (exprD known)
  | [] => by rw [exprs]; rfl
  | d :: ds => by rw [exprs, exprs_all known ds]; rfl

/-! ### data that may hold an empty dict -/
mutual
def okx : Nat → PyData → Bool
  | _, .none => true
  | _, .bool _ => true
  | _, .int _ => true
  | _, .str s => okS s
  | 0, .list _ => false
  | 0, .tuple _ => false
  | n + 1, .list ds => okxs n ds && decide (ds.length ≤ 100000)
  | n + 1, .tuple ds => okxs n ds && decide (ds.length ≤ 100000)
  | _, .dict kvs => kvs.isEmpty
def okxs : Nat → List PyData → Bool
  | _, [] => true
  | n, d :: ds => okx n d && okxs n ds
end
theorem okxs_iff {n : Nat} : ∀ {ds : List PyData}, okxs n ds = true ↔ ∀ d ∈ ds, okx n d = true
  | [] => by simp [okxs]
  | d :: ds => by rw [okxs, Bool.and_eq_true, okxs_iff (ds := ds)]; simp
theorem okxs_cons {n : Nat} {d : PyData} {ds : List PyData} : okxs n (d :: ds) = true ↔ okx n d = true ∧ okxs n ds = true := by rw [okxs, Bool.and_eq_true]
theorem okxs_append {n : Nat} {ds es : List PyData} : okxs n (ds ++ es) = true ↔ okxs n ds = true ∧ okxs n es = true := by
  rw [okxs_iff, okxs_iff, okxs_iff]
  exact ⟨fun h => ⟨fun d k => h d (List.mem_append_left _ k), fun d k => h d (List.mem_append_right _ k)⟩, fun h d k => (List.mem_append.mp k).elim (h.1 d) (h.2 d)⟩
theorem okx_list {n : Nat} {ds : List PyData} : okx (n + 1) (.list ds) = true ↔ okxs n ds = true ∧ ds.length ≤ 100000 := by rw [okx, Bool.and_eq_true, decide_eq_true_eq]
theorem okx_tuple {n : Nat} {ds : List PyData} : okx (n + 1) (.tuple ds) = true ↔ okxs n ds = true ∧ ds.length ≤ 100000 := by rw [okx, Bool.and_eq_true, decide_eq_true_eq]
theorem okx_str {n : Nat} {s : Str} : okx n (.str s) = okS s := by cases n <;> rw [okx]
mutual
theorem okx_of : ∀ {n : Nat} {d : PyData}, ok n d = true → okx n d = true
  | n, .none, _ => by cases n <;> rw [okx]
  | n, .bool _, _ => by cases n <;> rw [okx]
  | n, .int _, _ => by cases n <;> rw [okx]
  | n, .str s, h => by rw [okx_str]; rw [ok_str] at h; exact h
  | 0, .list _, h => by simp [ok] at h
  | 0, .tuple _, h => by simp [ok] at h
  | n + 1, .list ds, h => by rw [ok_list] at h; rw [okx_list]; exact ⟨okxs_of h.1, h.2⟩
  | n + 1, .tuple ds, h => by rw [ok_tuple] at h; rw [okx_tuple]; exact ⟨okxs_of h.1, h.2⟩
  | n, .dict _, h => by cases n <;> simp [ok] at h
theorem okxs_of : ∀ {n : Nat} {ds : List PyData}, oks n ds = true → okxs n ds = true
  | n, [], _ => by rw [okxs]
  | n, d :: ds, h => by rw [oks_cons] at h; rw [okxs_cons]; exact ⟨okx_of h.1, okxs_of h.2⟩
end
mutual
theorem okx_succ : ∀ {n : Nat} {d : PyData}, okx n d = true → okx (n + 1) d = true
  | n, .none, _ => by rw [okx]
  | n, .bool _, _ => by rw [okx]
  | n, .int _, _ => by rw [okx]
  | n, .str s, h => by rw [okx_str] at h ⊢; exact h
  | 0, .list _, h => by simp [okx] at h
  | 0, .tuple _, h => by simp [okx] at h
  | n + 1, .list ds, h => by rw [okx_list] at h ⊢; exact ⟨okxs_succ h.1, h.2⟩
  | n + 1, .tuple ds, h => by rw [okx_tuple] at h ⊢; exact ⟨okxs_succ h.1, h.2⟩
  | n, .dict kvs, h => by cases n <;> (rw [okx] at h ⊢; exact h)
theorem okxs_succ : ∀ {n : Nat} {ds : List PyData}, okxs n ds = true → okxs (n + 1) ds = true
  | n, [], _ => by rw [okxs]
  | n, d :: ds, h => by rw [okxs_cons] at h ⊢; exact ⟨okx_succ h.1, okxs_succ h.2⟩
end
theorem okx_le {n m : Nat} {d : PyData} (h : okx n d = true) (k : n ≤ m) : okx m d = true := by
  induction k with
  | refl => exact h
  | step _ ih => exact okx_succ ih
theorem okS_len {s : Str} (h : okS s = true) : s.length ≤ 200 := by
  unfold okS at h
  rw [Bool.and_eq_true] at h
  exact of_decide_eq_true h.2
theorem okS_sz {s : Str} (h : okS s = true) : s.length ≤ sizeLine := by
  rw [sizeLine_eq]
  exact Nat.le_trans (okS_len h) (by decide)

mutual
def size : PyData → Nat
  | .list ds => sizes ds + 1
  | .tuple ds => sizes ds + 1
  | .none => 1
  | .bool _ => 1
  | .int _ => 1
  | .str _ => 1
  | .dict _ => 1
def sizes : List PyData → Nat
  | [] => 0
  | d :: ds => size d + sizes ds
end
theorem sizes_append : ∀ (ds es : List PyData), sizes (ds ++ es) = sizes ds + sizes es
  | [], es => by rw [sizes, List.nil_append, Nat.zero_add]
  | d :: ds, es => by rw [List.cons_append, sizes, sizes, sizes_append ds es, Nat.add_assoc]
theorem size_pos (d : PyData) : 0 < size d := by cases d <;> simp [size]
theorem sizes_len : ∀ ds : List PyData, ds.length ≤ sizes ds
  | [] => Nat.zero_le _
  | d :: ds => by rw [sizes, List.length_cons]; have := size_pos d; have := sizes_len ds; omega
/-- a row whose first thing holds no dict -/
def fine (d : PyData) : Bool := match items d with
  | some (a :: _) => ok 20 a
  | _ => true
/-! ### promises -/
/-- an instance of one's own class: no list, no text .. -/
def spIsList (K : PySem.W.Frag) : Sp := fun vs H Q _ => (∃ (F : List Addr) (v : V) (d : PyData), vs = [v] ∧ Rp F H v d ∧ ∀ H', ExF [] H H' → Q (.bl (isSeq d)) H') ∨
  ∃ (v : V) (t : Value), vs = [v] ∧ (∀ H', ExF [] H H' → TyX K H' v t) ∧ PySem.W.kitAny K t [.type "list", .type "tuple"] = some false ∧ ∀ H', ExF [] H H' → Q (.bl false) H'
def spIsName : Sp := fun vs H Q _ => ∃ (F : List Addr) (v : V) (d : PyData) (n : Nat), vs = [v] ∧ Rp F H v d ∧ okx n d = true ∧ ∀ H', ExF [] H H' → Q (.bl (nameD d)) H'
def spAsTuples (n : Nat) : Sp := fun vs H Q _ => ∃ (F G : List Addr) (v : V) (d : PyData), vs = [v] ∧ Rp F H v d ∧ (0 < n ∧ ok (n - 1) d = true) ∧ Trk G H ∧ ∀ r H', ExF [] H H' → Rp G H' r (tupD d) → Q r H'
/-- the dict at a has just these keys, in this many entries at most -/
def Keys (H : Hp) (a : Addr) (ns : List Str) : Prop := ∃ kvs : List (Key × V), H a = some (.dK kvs) ∧ kvs.length ≤ ns.length ∧ ∀ s : Str, (valV kvs (.inr s)).isSome = decide (s ∈ ns)
def spPIsExpr : Sp := fun vs H Q _ => ∃ (F : List Addr) (kd : Addr) (known : List Str) (v : V) (d : PyData) (n : Nat), vs = [.ref kd, v] ∧ Keys H kd known ∧ Rp F H v d ∧ okx n d = true ∧ size d ≤ 1000000 ∧ ∀ H', ExF [] H H' → Q (.bl (exprD known d)) H'
def spPIsLine : Sp := fun vs H Q _ => ∃ (F : List Addr) (kd td : Addr) (known told : List Str) (v : V) (d : PyData) (n : Nat), vs = [.ref kd, .ref td, v] ∧ Keys H kd known ∧ Keys H td told ∧ Rp F H v d ∧ okx n d = true ∧ size d ≤ 1000000 ∧ ∀ H', ExF [] H H' → Q (.bl (lineD known told d)) H'
def StrsAt (H : Hp) (a : Addr) (zs : List Str) : Prop := H a = some (.lst (zs.map V.str))
def spLIsExpr (m : Nat) : Sp := fun vs H Q _ => ∃ (F : List Addr) (kd : Addr) (known : List Str) (v : V) (d : PyData), vs = [.ref kd, v] ∧ StrsAt H kd known ∧ Rp F H v d ∧ (0 < m ∧ okx (m - 1) d = true) ∧ ∀ H', ExF [] H H' → Q (.bl (exprD known d)) H'
def spLIsLine : Sp := fun vs H Q _ => ∃ (F : List Addr) (kd td : Addr) (known told : List Str) (v : V) (d : PyData) (n : Nat), vs = [.ref kd, .ref td, v] ∧ StrsAt H kd known ∧ StrsAt H td told ∧ Rp F H v d ∧ okx n d = true ∧ n ≤ 29 ∧ fine d = true ∧ ∀ H', ExF [] H H' → Q (.bl (lineD known told d)) H'
def spFault : Sp := fun vs H Q _ => ∃ (F : List Addr) (l : Addr) (xs : List V) (ds : List PyData) (n : Nat), vs = [.ref l] ∧ Sq H l xs ∧ RpL F H xs ds ∧ okxs n ds = true ∧ n ≤ 29 ∧ (∀ d ∈ ds, fine d = true) ∧ ds.length ≤ 1000 ∧ ∀ v H', ExF [] H H' → Rp [] H' v (optD (faultL [] [] 0 ds)) → Q v H'
end Tw
end

section
set_option Elab.async false
set_option linter.all false
set_option maxRecDepth 100000
set_option maxHeartbeats 4000000
namespace Tw
open PySem L2 PyProof.Rows
structure Ad where
  words : Addr
  cSource : Addr
  cLines : Addr
noncomputable def t_p_is_list (K : PySem.W.Frag) : TS := tRet (tCB (rIsiU K) (tCons (tVar 0) (tCons (tTupU (tCons (tC (.ty "list")) (tCons (tC (.ty "tuple")) (tNil)))) (tNil))))
noncomputable def t_p_is_name_t1 (K : PySem.W.Frag) (D : Ad) : TS := tRet (tCB (rAllU K) (tCons (tLcU (iSeqU K (tVar 0)) (gName 1) (tYes) (tInU K (tVar 1) (tOp (rAddU K) (tC (.str "abcdefghijklmnopqrstuvwxyz")) (tC (.str "0123456789")))) [1]) (tNil)))
noncomputable def t_p_is_name (K : PySem.W.Frag) (D : Ad) : TS := tSeq (tIfS (tOr (tNot (tB (tCB (rIsiU K) (tCons (tVar 0) (tCons (tC (.ty "str")) (tNil)))))) (tOr (tNot (tTest (tChain (rI0 fun i j => .bl (decide (i < j))) (rI0 fun i j => .bl (decide (i ≤ j))) (tC (.int 0)) (tCB (rLenU K) (tCons (tVar 0) (tNil))) (tC (.int 8))))) (tOr (tB (tNotInU K (tOp (rIxU K) (tVar 0) (tC (.int 0))) (tC (.str "abcdefghijklmnopqrstuvwxyz")))) (tB (tInU K (tVar 0) (tC (.ref D.words))))))) (tRet (tC (.bl false))) (tNext)) (t_p_is_name_t1 K D)
noncomputable def t_l_is_name_t2 (K : PySem.W.Frag) : TS := tRet (tAndV (tInU K (tOp (rIxU K) (tVar 0) (tC (.int 0))) (tVar 1)) (tCB (rAllU K) (tCons (tLcU (iSeqU K (tVar 0)) (gName 3) (tYes) (tInU K (tVar 3) (tOp (rAddU K) (tVar 1) (tVar 2))) [3]) (tNil))))
noncomputable def t_l_is_name_t1 (K : PySem.W.Frag) : TS := tSeq (tIfS (tOr (tNot (tB (tCB (rIsiU K) (tCons (tVar 0) (tCons (tC (.ty "str")) (tNil)))))) (tOr (tNot (tTest (tChain (rI0 fun i j => .bl (decide (i ≤ j))) (rI0 fun i j => .bl (decide (i ≤ j))) (tC (.int 1)) (tCB (rLenU K) (tCons (tVar 0) (tNil))) (tC (.int 8))))) (tB (tInU K (tVar 0) (tTupU (tCons (tC (.str "read")) (tCons (tC (.str "tell")) (tNil)))))))) (tRet (tC (.bl false))) (tNext)) (t_l_is_name_t2 K)
noncomputable def t_l_is_name (K : PySem.W.Frag) : TS := tSeq (tAsg (tTupU (tCons (tC (.str "abcdefghijklmnopqrstuvwxyz")) (tCons (tC (.str "0123456789")) (tNil)))) (gTup K 2 (gCons (gName 1) (gCons (gName 2) (gNil))))) (t_l_is_name_t1 K)
noncomputable def t_p_as_tuples (K : PySem.W.Frag) (m : Nat) : TS := tRet (tIf (tB (tCall (spIsList K) [] E0 (tCons (tVar 0) (tNil)))) (tCB (rTupOf K) (tCons (tLcU (iSeqU K (tVar 0)) (gName 1) (tYes) (tCall (spAsTuples m) [] E0 (tCons (tVar 1) (tNil))) [1]) (tNil))) (tVar 0))
noncomputable def t_p_is_expr_b1 (K : PySem.W.Frag) : TS := tSeq (tAsg (tBM0 K "list" rPopU (tVar 2)) (gName 3))
      (tIfS (tB (tCB (rIsiU K) (tCons (tVar 3) (tCons (tC (.ty "str")) (tNil))))) (tIfS (tB (tNotInU K (tVar 3) (tVar 0))) (tRet (tC (.bl false))) (tNext)) (tIfS (tOr (tNot (tB (tCall (spIsList K) [] E0 (tCons (tVar 3) (tNil))))) (tOr (tTest (tOp (rEqU K) (tCB (rLenU K) (tCons (tVar 3) (tNil))) (tC (.int 0)))) (tNot (tB (tCall spIsName [] E0 (tCons (tOp (rIxU K) (tVar 3) (tC (.int 0))) (tNil))))))) (tRet (tC (.bl false))) (tDrop (tBM K "list" (rExtU K) (tVar 2) (tCons (tSl (rSlU K) (tVar 3) (tPart (tC (.int 1))) (tNoPart)) (tNil))))))
noncomputable def t_p_is_expr_t2 (K : PySem.W.Frag) : TS := tRet (tC (.bl true))
noncomputable def t_p_is_expr_t1 (K : PySem.W.Frag) : TS := tSeq (tWhile (tTest (tOp (rNeU K) (tVar 2) (tLstU (tNil)))) (t_p_is_expr_b1 K)) (t_p_is_expr_t2 K)
noncomputable def t_p_is_expr (K : PySem.W.Frag) : TS := tSeq (tAsg (tLstU (tCons (tVar 1) (tNil))) (gName 2)) (t_p_is_expr_t1 K)
noncomputable def t_p_is_line_t3 (K : PySem.W.Frag) : TS := tRet (tAndV (tOp (rEqU K) (tOp (rIxU K) (tVar 2) (tC (.int 0))) (tC (.str "tell"))) (tAndV (tInU K (tOp (rIxU K) (tVar 2) (tC (.int 1))) (tVar 0)) (tNotInU K (tOp (rIxU K) (tVar 2) (tC (.int 1))) (tVar 1))))
noncomputable def t_p_is_line_t2 (K : PySem.W.Frag) : TS := tSeq (tIfS (tTest (tOp (rEqU K) (tOp (rIxU K) (tVar 2) (tC (.int 0))) (tC (.str "read")))) (tRet (tNotInU K (tOp (rIxU K) (tVar 2) (tC (.int 1))) (tVar 0))) (tNext)) (t_p_is_line_t3 K)
noncomputable def t_p_is_line_t1 (K : PySem.W.Frag) : TS := tSeq (tIfS (tTest (tOp (rEqU K) (tCB (rLenU K) (tCons (tVar 2) (tNil))) (tC (.int 3)))) (tRet (tAndV (tOp (rEqU K) (tOp (rIxU K) (tVar 2) (tC (.int 0))) (tC (.str "give"))) (tCall spPIsExpr [] E0 (tCons (tVar 0) (tCons (tOp (rIxU K) (tVar 2) (tC (.int 2))) (tNil)))))) (tNext)) (t_p_is_line_t2 K)
noncomputable def t_p_is_line (K : PySem.W.Frag) : TS := tSeq (tIfS (tOr (tNot (tB (tCall (spIsList K) [] E0 (tCons (tVar 2) (tNil))))) (tOr (tB (tNotInU K (tCB (rLenU K) (tCons (tVar 2) (tNil))) (tTupU (tCons (tC (.int 2)) (tCons (tC (.int 3)) (tNil)))))) (tOr (tNot (tB (tCB (rIsiU K) (tCons (tOp (rIxU K) (tVar 2) (tC (.int 0))) (tCons (tC (.ty "str")) (tNil)))))) (tNot (tB (tCall spIsName [] E0 (tCons (tOp (rIxU K) (tVar 2) (tC (.int 1))) (tNil)))))))) (tRet (tC (.bl false))) (tNext)) (t_p_is_line_t1 K)
noncomputable def t_l_is_expr_t2 (K : PySem.W.Frag) (m : Nat) : TS := tRet (tCB (rAllU K) (tCons (tLcU (iSeqU K (tSl (rSlU K) (tVar 1) (tPart (tC (.int 1))) (tNoPart))) (gName 2) (tYes) (tCall (spLIsExpr m) [] E0 (tCons (tVar 0) (tCons (tVar 2) (tNil)))) [2]) (tNil)))
noncomputable def t_l_is_expr_t1 (K : PySem.W.Frag) (m : Nat) : TS := tSeq (tIfS (tOr (tNot (tB (tCB (rIsiU K) (tCons (tVar 1) (tCons (tTupU (tCons (tC (.ty "list")) (tCons (tC (.ty "tuple")) (tNil)))) (tNil)))))) (tOr (tTest (tOp (rEqU K) (tCB (rLenU K) (tCons (tVar 1) (tNil))) (tC (.int 0)))) (tNot (tB (tCall spIsName [] E0 (tCons (tOp (rIxU K) (tVar 1) (tC (.int 0))) (tNil))))))) (tRet (tC (.bl false))) (tNext)) (t_l_is_expr_t2 K m)
noncomputable def t_l_is_expr (K : PySem.W.Frag) (m : Nat) : TS := tSeq (tIfS (tB (tCB (rIsiU K) (tCons (tVar 1) (tCons (tC (.ty "str")) (tNil))))) (tRet (tInU K (tVar 1) (tVar 0))) (tNext)) (t_l_is_expr_t1 K m)
noncomputable def t_l_is_line_t3 (K : PySem.W.Frag) : TS := tRet (tIf (tTest (tOp (rEqU K) (tOp (rIxU K) (tVar 2) (tC (.int 0))) (tC (.str "read")))) (tNotInU K (tOp (rIxU K) (tVar 2) (tC (.int 1))) (tVar 0)) (tAndV (tInU K (tOp (rIxU K) (tVar 2) (tC (.int 1))) (tVar 0)) (tNotInU K (tOp (rIxU K) (tVar 2) (tC (.int 1))) (tVar 1))))
noncomputable def t_l_is_line_t2 (K : PySem.W.Frag) : TS := tSeq (tIfS (tOr (tTest (tOp (rI0 fun i j => .bl (decide (j < i))) (tCB (rLenU K) (tCons (tVar 2) (tNil))) (tC (.int 2)))) (tB (tNotInU K (tOp (rIxU K) (tVar 2) (tC (.int 0))) (tTupU (tCons (tC (.str "read")) (tCons (tC (.str "tell")) (tNil))))))) (tRet (tC (.bl false))) (tNext)) (t_l_is_line_t3 K)
noncomputable def t_l_is_line_t1 (K : PySem.W.Frag) : TS := tSeq (tIfS (tTest (tOp (rEqU K) (tOp (rIxU K) (tVar 2) (tC (.int 0))) (tC (.str "give")))) (tRet (tAndV (tOp (rEqU K) (tCB (rLenU K) (tCons (tVar 2) (tNil))) (tC (.int 3))) (tCall (spLIsExpr 29) [] E0 (tCons (tVar 0) (tCons (tOp (rIxU K) (tVar 2) (tC (.int 2))) (tNil)))))) (tNext)) (t_l_is_line_t2 K)
noncomputable def t_l_is_line (K : PySem.W.Frag) : TS := tSeq (tIfS (tOr (tNot (tB (tCB (rIsiU K) (tCons (tVar 2) (tCons (tTupU (tCons (tC (.ty "list")) (tCons (tC (.ty "tuple")) (tNil)))) (tNil)))))) (tOr (tTest (tOp (rI0 fun i j => .bl (decide (i < j))) (tCB (rLenU K) (tCons (tVar 2) (tNil))) (tC (.int 2)))) (tNot (tB (tCall spIsName [] E0 (tCons (tOp (rIxU K) (tVar 2) (tC (.int 1))) (tNil))))))) (tRet (tC (.bl false))) (tNext)) (t_l_is_line_t1 K)
noncomputable def t_l_fault_b1 (K : PySem.W.Frag) : TS := tSeq (tIfS (tNot (tB (tCall spLIsLine [] E0 (tCons (tVar 1) (tCons (tVar 2) (tCons (tVar 4) (tNil))))))) (tRet (tVar 3)) (tNext))
      (tSeq (tAsg (tOp (rAddU K) (tVar 1) (tLstU (tCons (tOp (rIxU K) (tVar 4) (tC (.int 1))) (tNil)))) (gName 1))
      (tAsg (tOp (rAddU K) (tVar 2) (tIf (tTest (tOp (rEqU K) (tOp (rIxU K) (tVar 4) (tC (.int 0))) (tC (.str "tell")))) (tLstU (tCons (tOp (rIxU K) (tVar 4) (tC (.int 1))) (tNil))) (tLstU (tNil)))) (gName 2)))
noncomputable def t_l_fault_t2 (K : PySem.W.Frag) : TS := tRet (tC .non)
noncomputable def t_l_fault_t1 (K : PySem.W.Frag) : TS := tSeq (tForU (iEnumU K (tCons (tVar 0) (tNil))) (gTup K 2 (gCons (gName 3) (gCons (gName 4) (gNil)))) (t_l_fault_b1 K)) (t_l_fault_t2 K)
noncomputable def t_l_fault (K : PySem.W.Frag) : TS := tSeq (tPar 1 2 (tCons (tLstU (tNil)) (tCons (tLstU (tNil)) (tNil)))) (t_l_fault_t1 K)

theorem rd_p_is_list (K : PySem.W.Frag) {vs : List V} {H : Hp} {Q : VK} {E : XK} (h : spIsList K vs H Q E) :
    t_p_is_list K { nx := fun _ H' => Q .non H', rt := Q } (start ["thing"] vs) H := by
  rcases h with ⟨F, v, d, rfl, r, q⟩ | ⟨v, t, rfl, ty, hk, q⟩
  · refine ⟨_, rfl, ?_⟩
    refine ⟨by show 2 ≤ sizeLine; decide, fun p H1 hp e1 => ?_⟩
    exact isi_seq (r.ex (exn e1 hp)) (eqs e1) (q H1 (exn e1 hp))
  · refine ⟨_, rfl, ?_⟩
    refine ⟨by show 2 ≤ sizeLine; decide, fun p H1 hp e1 => ?_⟩
    unfold rIsiU
    exact .inr ⟨v, p, [.ty "list", .ty "tuple"], t, [.type "list", .type "tuple"], false, rfl, eqs e1, .cons (.ty _) (.cons (.ty _) .nil), ty H1 (exn e1 hp), hk, q H1 (exn e1 hp)⟩
/-- all([sign in letters + figures for sign in s]): what the comprehension gives -/
theorem lcSigns {K : PySem.W.Frag} {i k : Nat} {te : TE} {vs : List Nat} {σ : L2.St} {H : Hp} {Q : VK} {s : Str} (hv : σ[i]? = some (some (.str s))) (hz : s.length < sizeLine) (f : Nat → Bool) (hw : ∀ x, wipe ((wipe σ vs).set k (some x)) vs = wipe σ vs)
    (hs : ∀ (c : Nat) (H' : Hp), ExF [] H H' → ∀ Qc : VK, (∀ H4, ExF [] H' H4 → Qc (.bl (f c)) H4) → te ((wipe σ vs).set k (some (.str ⟨#[c]⟩))) H' Qc)
    (hd : ∀ r H', H r = none → H' r = some (.lst ((s.cps.toList.map f).map V.bl)) → ExF [] H H' → Q (.ref r) H') : tLcU (iSeqU K (tVar i)) (gName k) tYes te vs σ H Q := by
  unfold tLcU
  refine .inr (.inr ⟨_, hv, s, rfl, fun D hD => ?_⟩)
  refine lc_it (walk_str (z := s)) (fun i H' => H' D = some (.lst (((s.cps.toList.take i).map f).map V.bl)) ∧ ExF [D] H H') ⟨upd_same, exn rfl hD⟩ (fun _ _ _ _ => trivial) ?_ ?_
  · rintro i x H' H'' hi ⟨hH, x2⟩ ⟨e, c, hc, rfl⟩
    subst e
    have hc' : s.cps.toList[i]? = some c := by simpa using hc
    have x3 : ExF [] H H'' := x2.drop hD
    refine ⟨hw _, ?_⟩
    unfold tYes
    dsimp only
    rw [if_pos rfl]
    refine hs c H'' x3 _ fun H4 x4 => ?_
    refine ⟨_, x4.at_ _ _ (by simp) hH, ?_, ?_, ?_⟩
    · have hl : s.cps.toList.length = s.length := by simp [Str.length]
      rw [List.length_map, List.length_map, List.length_take]; omega
    · have et : s.cps.toList.take (i + 1) = s.cps.toList.take i ++ [c] := by rw [List.take_succ, hc']; rfl
      rw [upd_same, et, List.map_append, List.map_append]
      rfl
    · exact exm rfl (.inr (by simp)) (x2.trans x4.of)
  · rintro H' ⟨hH, x2⟩
    have hl : s.cps.toList.length = s.cps.size := by simp
    rw [← hl, List.take_length] at hH
    exact hd D H' hD hH (x2.drop hD)
theorem head_get {s : Str} (h : 0 < s.length) : ∃ c, s.cps.toList[0]? = some c ∧ headIn letters s.cps.toList = inSign letters c := by
  have hl : s.cps.toList.length = s.length := by simp [Str.length]
  cases e : s.cps.toList with
  | nil => rw [e] at hl; simp at hl; omega
  | cons c r => exact ⟨c, rfl, rfl⟩
theorem rd_p_is_name (K : PySem.W.Frag) (D : Ad) (hW : ∀ H : Hp, SqT K H D.words [.str "read", .str "tell"]) {vs : List V} {H : Hp} {Q : VK} {E : XK} (h : spIsName vs H Q E) :
    t_p_is_name K D { nx := fun _ H' => Q .non H', rt := Q } (start ["thing", "sign"] vs) H := by
  obtain ⟨F, v, d, n, rfl, r, hd, q⟩ := h
  refine ⟨_, rfl, ?_⟩
  refine isi_str r ⟨_, rfl, ?_⟩
  cases d with
  | str s =>
    rw [okx_str] at hd
    have hz := okS_sz hd
    cases r.str_inv
    refine iteF ?_
    refine ⟨_, rfl, lenS hz ⟨_, _, rfl, rfl, _, rfl, ?_⟩⟩
    have no : nameS s = false → ∀ H', ExF [] H H' → Q (.bl false) H' := fun e H' x => by
      have q' := q H' x
      rw [show nameD (.str s) = nameS s from rfl, e] at q'
      exact q'
    refine ite2 (fun h1 => ?_) (fun h1 => ?_)
    · have h1' : 0 < s.length := by have := of_decide_eq_true h1; omega
      refine ⟨_, _, rfl, rfl, _, rfl, ?_⟩
      refine ite2 (fun h2 => ?_) (fun h2 => ?_)
      · have h2' : ¬ s.length ≤ 8 := by
          intro z
          have z' : ((s.length : Int) ≤ 8) := by omega
          rw [decide_eq_true z'] at h2
          exact absurd h2 (by decide)
        exact no (by unfold nameS; rw [decide_eq_false h2', Bool.and_false]; rfl) H ExF.refl
      · have h2' : s.length ≤ 8 := by
          apply Classical.byContradiction
          intro z
          have z' : ¬ ((s.length : Int) ≤ 8) := by omega
          rw [decide_eq_false z'] at h2
          exact h2 rfl
        -- thing[0] not in SMALL
        obtain ⟨c, hc, hh⟩ := head_get h1'
        refine .inl ⟨_, rfl, ?_⟩
        refine ixS hz (atN (by decide) hc) ?_
        refine notInStr ⟨_, rfl, ?_⟩
        refine ite2 (fun h3 => ?_) (fun h3 => ?_)
        · exact no (by
            have e : headIn letters s.cps.toList = false := by rw [hh]; unfold inSign; simpa using h3
            unfold nameS; rw [e]; simp) H ExF.refl
        · have e3 : headIn letters s.cps.toList = true := by rw [hh]; unfold inSign; simpa using h3
          -- thing in WORDS
          refine .inl ⟨_, rfl, ?_⟩
          refine inStrsT (zs := ["read", "tell"]) (hW H) ⟨_, rfl, ?_⟩
          refine ite2 (fun h4 => ?_) (fun h4 => ?_)
          · exact no (by unfold nameS; rw [h4]; simp) H ExF.refl
          · have e4 : decide (s ∈ (["read", "tell"] : List Str)) = false := by simpa using h4
            refine lcSigns (i := 0) (k := 1) (vs := [1]) (σ := start ["thing", "sign"] [V.str s]) (s := s) rfl (by rw [sizeLine_eq]; have := okS_len hd; omega) (inSign (letters ++ figs)) (fun _ => rfl) (fun c H1 x1 Qc k => ?_) fun p H1 hp hP x1 => ?_
            · refine .inl ⟨_, rfl, ?_⟩
              refine addS (by rw [sizeLine_eq]; decide) ?_
              exact inStr (k H1 ExF.refl)
            · refine allB hP ?_
              have q' := q H1 x1
              have e : nameD (.str s) = (s.cps.toList.map (inSign (letters ++ figs))).all id := by
                show nameS s = _
                unfold nameS
                rw [decide_eq_true h1', decide_eq_true h2', e3, e4, List.all_map]
                rfl
              rw [e] at q'
              exact q'
    · have h1' : ¬ 0 < s.length := by
        intro z
        have z' : ((0 : Int) < s.length) := by omega
        exact h1 (decide_eq_true z')
      refine ⟨_, rfl, ?_⟩
      exact no (by unfold nameS; rw [decide_eq_false h1']; rfl) H ExF.refl
  | _ => exact q H ExF.refl
theorem rd_l_is_name (K : PySem.W.Frag) {vs : List V} {H : Hp} {Q : VK} {E : XK} (h : spIsName vs H Q E) :
    t_l_is_name K { nx := fun _ H' => Q .non H', rt := Q } (start ["_law_thing", "_law_letters", "_law_figures", "_law_sign"] vs) H := by
  obtain ⟨F, v, d, n, rfl, r0, hd, q0⟩ := h
  refine ⟨by show 2 ≤ sizeLine; decide, fun p1 H1 hp1 e1 => ?_⟩
  refine ⟨p1, _, rfl, .inl (.inl (eqs e1)), rfl, _, _, rfl, _, _, rfl, rfl, ?_⟩
  have x1 : ExF [] H H1 := exn e1 hp1
  have r := r0.ex x1.of
  have q : ∀ H', ExF [] H1 H' → Q (.bl (nameD d)) H' := fun H' x => q0 H' (x1.trans x)
  refine ⟨_, rfl, ?_⟩
  refine isi_str r ⟨_, rfl, ?_⟩
  cases d with
  | str s =>
    rw [okx_str] at hd
    have hz := okS_sz hd
    cases r.str_inv
    have no : nameS s = false → ∀ H', ExF [] H1 H' → Q (.bl false) H' := fun e H' x => by
      have q' := q H' x
      rw [show nameD (.str s) = nameS s from rfl, e] at q'
      exact q'
    refine iteF ?_
    refine ⟨_, rfl, lenS hz ⟨_, _, rfl, rfl, _, rfl, ?_⟩⟩
    refine ite2 (fun h1 => ?_) (fun h1 => ?_)
    · have h1' : 0 < s.length := by have := of_decide_eq_true h1; omega
      refine ⟨_, _, rfl, rfl, _, rfl, ?_⟩
      refine ite2 (fun h2 => ?_) (fun h2 => ?_)
      · have h2' : ¬ s.length ≤ 8 := by
          intro z
          have z' : ((s.length : Int) ≤ 8) := by omega
          rw [decide_eq_true z'] at h2
          exact absurd h2 (by decide)
        exact no (by unfold nameS; rw [decide_eq_false h2', Bool.and_false]; rfl) H1 ExF.refl
      · have h2' : s.length ≤ 8 := by
          apply Classical.byContradiction
          intro z
          have z' : ¬ ((s.length : Int) ≤ 8) := by omega
          rw [decide_eq_false z'] at h2
          exact h2 rfl
        -- thing in ("read", "tell")
        refine .inl ⟨_, rfl, ?_⟩
        refine ⟨by show 2 ≤ sizeLine; decide, fun p2 H2 hp2 e2 => ?_⟩
        have x2 : ExF [] H1 H2 := exn e2 hp2
        refine inStrsT (zs := ["read", "tell"]) (.inl (.inl (eqs e2))) ⟨_, rfl, ?_⟩
        refine ite2 (fun h4 => ?_) (fun h4 => ?_)
        · exact no (by unfold nameS; rw [h4]; simp) H2 x2
        · have e4 : decide (s ∈ (["read", "tell"] : List Str)) = false := by simpa using h4
          -- thing[0] in letters
          obtain ⟨c, hc, hh⟩ := head_get h1'
          unfold tNext t_l_is_name_t2 tRet tAndV
          refine .inl ⟨_, rfl, ?_⟩
          refine ixS hz (atN (by decide) hc) ?_
          refine ⟨_, rfl, ?_⟩
          refine inStr ⟨_, rfl, ?_⟩
          refine ite2 (fun h3 => ?_) (fun h3 => ?_)
          · have e3 : headIn letters s.cps.toList = true := by rw [hh]; unfold inSign; exact h3
            refine lcSigns (i := 0) (k := 3) (vs := [3]) (σ := [some (V.str s), some (V.str "abcdefghijklmnopqrstuvwxyz"), some (V.str "0123456789"), none]) (s := s) rfl (by rw [sizeLine_eq]; have := okS_len hd; omega) (inSign (letters ++ figs)) (fun _ => rfl) (fun c H3 x3 Qc k => ?_) fun p H3 hp hP x3 => ?_
            · refine .inl ⟨_, rfl, ?_⟩
              refine ⟨_, rfl, ?_⟩
              refine ⟨_, rfl, ?_⟩
              refine addS (by rw [sizeLine_eq]; decide) ?_
              exact inStr (k H3 ExF.refl)
            · refine allB hP ?_
              have q' := q H3 (x2.trans x3)
              have e : nameD (.str s) = (s.cps.toList.map (inSign (letters ++ figs))).all id := by
                show nameS s = _
                unfold nameS
                rw [decide_eq_true h1', decide_eq_true h2', e3, e4, List.all_map]
                rfl
              rw [e] at q'
              exact q'
          · have e3 : headIn letters s.cps.toList = false := by rw [hh]; unfold inSign; simpa using h3
            exact no (by unfold nameS; rw [e3]; simp) H2 x2
    · have h1' : ¬ 0 < s.length := by
        intro z
        have z' : ((1 : Int) ≤ s.length) := by omega
        exact h1 (decide_eq_true z')
      refine ⟨_, rfl, ?_⟩
      exact no (by unfold nameS; rw [decide_eq_false h1']; rfl) H1 ExF.refl
  | _ => exact q H1 ExF.refl
theorem rd_p_as_tuples (K : PySem.W.Frag) (m : Nat) {vs : List V} {H : Hp} {Q : VK} {E : XK} (h : spAsTuples (m + 1) vs H Q E) :
    t_p_as_tuples K m { nx := fun _ H' => Q .non H', rt := Q } (start ["thing", "part"] vs) H := by
  obtain ⟨F, G, v, d, rfl, r, ⟨_, hd⟩, tG, q⟩ := h
  have hd : ok m d = true := hd
  refine ⟨_, rfl, .inl ⟨F, v, d, rfl, r, fun H1 x1 => ⟨_, rfl, ?_⟩⟩⟩
  have r1 := r.ex x1.of
  -- a row of things: its items, each made tuples, in a new tuple
  have seq : ∀ (a : Addr) (xs : List V) (ds : List PyData), v = .ref a → Sq H1 a xs → RpL F H1 xs ds → 0 < m → oks (m - 1) ds = true → xs.length < sizeLine → (∀ r H', ExF [] H H' → Rp G H' r (.tuple (tups ds)) → Q r H') →
      tCB (rTupOf K) (tCons (tLcU (iSeqU K (tVar 0)) (gName 1) tYes (tCall (spAsTuples m) [] E0 (tCons (tVar 1) tNil)) [1]) tNil) (start ["thing", "part"] [v]) H1 Q := by
    rintro a xs ds rfl ha ra hm0 ho hz q
    refine lcMap (F := G) (xs := xs) (vs := [1]) (k := 1) (iter_var (a := a) rfl ha (by simp)) (tups ds) (by rw [tups_map, List.length_map]; exact ra.1.symm) hz (fun _ => rfl) ?_ ?_
    · intro D i x e H2 hx he x2 hD hD2 Qc k
      obtain ⟨d, hds, rx⟩ := ra.get' hx
      rw [tups_map, List.getElem?_map, hds] at he
      cases he
      refine ⟨_, rfl, F, D :: G, x, d, rfl, rx.ex x2.of, ⟨hm0, oks_iff.mp ho d (List.mem_of_getElem? hds)⟩, ?_, fun y H4 x4 ry => k y H4 x4 ry⟩
      intro b hb
      rcases List.mem_cons.mp hb with z | z
      · rw [z]; exact hD2
      · exact (x1.trans x2).kept b (tG b z)
    · intro p ys H2 hp hP rp x2
      refine tupOfL hP fun p2 H3 hp2 e3 => ?_
      have x3 : ExF [] H2 H3 := exn e3 hp2
      refine q _ H3 ((x1.trans x2).trans x3) ?_
      refine .tuple ?_ (eqs e3) (rp.ex x3.of)
      intro z
      exact (((x1.trans x2).kept p2 (tG p2 z)) hp2)
  cases d with
  | list ds =>
    obtain ⟨a, xs, rfl, n, ha, ra⟩ := r1.list_inv
    obtain ⟨m', rfl⟩ : ∃ m', m = m' + 1 := by
      cases m with
      | zero => simp [ok] at hd
      | succ m' => exact ⟨m', rfl⟩
    rw [ok_list] at hd
    refine iteT ?_
    refine seq a xs ds rfl (.inl ha) ra (Nat.succ_pos _) hd.1 (by rw [sizeLine_eq]; have := ra.1; omega) fun r H' x rr => q r H' x ?_
    rw [tupD]; exact rr
  | tuple ds =>
    obtain ⟨a, xs, rfl, n, ha, ra⟩ := r1.tuple_inv
    obtain ⟨m', rfl⟩ : ∃ m', m = m' + 1 := by
      cases m with
      | zero => simp [ok] at hd
      | succ m' => exact ⟨m', rfl⟩
    rw [ok_tuple] at hd
    refine iteT ?_
    refine seq a xs ds rfl (.inr ha) ra (Nat.succ_pos _) hd.1 (by rw [sizeLine_eq]; have := ra.1; omega) fun r H' x rr => q r H' x ?_
    rw [tupD]; exact rr
  | none => cases r1; exact ⟨_, rfl, q _ _ x1 (by rw [tupD]; exact .non)⟩
  | bool b => cases r1; exact ⟨_, rfl, q _ _ x1 (by rw [tupD]; exact .bl b)⟩
  | int i => cases r1; exact ⟨_, rfl, q _ _ x1 (by rw [tupD]; exact .int i)⟩
  | str s => cases r1; exact ⟨_, rfl, q _ _ x1 (by rw [tupD]; exact .str s)⟩
  | dict kvs => cases m <;> simp [ok] at hd
/-- what a dict's keys answer -/
theorem keysIn {K : PySem.W.Frag} {H : Hp} {a : Addr} {ns : List Str} {s : Str} {Q : VK} (h : Keys H a ns) (q : Q (.bl (decide (s ∈ ns))) H) : ∃ b o, V.ref a = .ref b ∧ DGet H b (.str s) o ∧ Q (.bl o.isSome) H := by
  obtain ⟨kvs, h1, _, h2⟩ := h
  exact ⟨a, _, rfl, .k (k := .inr s) h1, by rw [h2 s]; exact q⟩
theorem keysGet {H : Hp} {a : Addr} {ns : List Str} (h : Keys H a ns) (s : Str) : ∃ o, DGet H a (.str s) o ∧ o.isSome = decide (s ∈ ns) := by
  obtain ⟨kvs, h1, _, h2⟩ := h
  exact ⟨_, .k (k := .inr s) h1, h2 s⟩
theorem Keys.ex {H H' : Hp} {a : Addr} {ns : List Str} {F : List Addr} (h : Keys H a ns) (x : ExF F H H') (n : a ∉ F) : Keys H' a ns := by
  obtain ⟨kvs, h1, h2⟩ := h
  exact ⟨kvs, x.at_ _ _ n h1, h2⟩
theorem rd_p_is_expr (K : PySem.W.Frag) {vs : List V} {H : Hp} {Q : VK} {E : XK} (h : spPIsExpr vs H Q E) :
    t_p_is_expr K { nx := fun _ H' => Q .non H', rt := Q } (start ["known", "thing", "waiting", "here"] vs) H := by
  obtain ⟨F, kd, known, v, d, n, rfl, hk, r, hd, hn, q⟩ := h
  refine ⟨_, rfl, by show 1 ≤ sizeLine; decide, fun wt H1 hwt e1 => ?_⟩
  have nkw : kd ≠ wt := by
    obtain ⟨kvs, hkd, _⟩ := hk
    exact ne_of_none hkd hwt
  -- the things that wait: all of them exprs just if the thing is one
  refine ⟨fun m σ H' => ∃ (xs : List V) (ds : List PyData) (u : Option V), m = sizes ds ∧ σ = [some (.ref kd), some v, some (.ref wt), u] ∧ H' wt = some (.lst xs) ∧ RpL (wt :: F) H' xs ds ∧ (∀ d ∈ ds, ∃ n, okx n d = true) ∧ sizes ds ≤ 1000000 ∧
    exprD known d = ds.all (exprD known) ∧ ExF [wt] H H', ⟨_, [v], [d], none, rfl, rfl, eqs e1, .one ((r.add hwt).ex (exn e1 hwt)), by simpa using ⟨n, hd⟩, by simpa [sizes] using hn, by simp, exn e1 hwt⟩, ?_⟩
  rintro m σ H2 ⟨xs, ds, u, rfl, rfl, hw, rx, hok, hlen, hall, x2⟩
  refine ⟨_, rfl, by decide, fun p H3 hp e3 => ?_⟩
  have x3 : ExF [wt] H H3 := x2.trans (exn e3 hp)
  have hw3 := eqf e3 hp hw
  have rx3 : RpL (wt :: F) H3 xs ds := rx.ex (exn e3 hp)
  refine neE hw3 (eqs e3) ⟨_, rfl, ?_⟩
  rcases List.eq_nil_or_concat ds with e | ⟨es, e0, e⟩
  · subst e
    rw [rx3.nil_inv]
    have q' := q H3 (x3.drop hwt)
    rw [hall] at q'
    exact q'
  · rw [List.concat_eq_append] at e
    subst e
    obtain ⟨ys, y, rfl⟩ : ∃ ys y, xs = ys ++ [y] := by
      rcases List.eq_nil_or_concat xs with e | ⟨ys, y, e⟩
      · rw [e] at rx3; exact absurd rx3.1 (by simp)
      · exact ⟨ys, y, by rw [e, List.concat_eq_append]⟩
    have hl : ys.length = es.length := by have := rx3.1; simpa using this
    have ry : Rp (wt :: F) H3 y e0 := rx3.2 ys.length y e0 (by simp) (by rw [hl]; simp)
    have rys : RpL (wt :: F) H3 ys es := by
      have := rx3.take ys.length
      rw [List.take_left, hl, List.take_left] at this
      exact this
    have ne : (ys ++ [y]).isEmpty = false := by simp
    rw [ne]
    refine iteT ⟨_, fun _ _ h => h, ?_⟩
    -- here = waiting.pop()
    refine ⟨_, rfl, tyL hw3, ?_⟩
    refine popL hw3 fun H4 e4 => ?_
    have x4 : ExF [wt] H H4 := exm e4 (.inr (by simp)) x3
    have x34 : ExF (wt :: F) H3 H4 := exm e4 (.inr (by simp)) ExF.refl
    have ry4 : Rp (wt :: F) H4 y e0 := ry.ex x34
    have rys4 : RpL (wt :: F) H4 ys es := rys.ex x34
    have hw4 := eqs e4
    have hk4 : Keys H4 kd known := hk.ex x4 (by simpa using nkw)
    obtain ⟨n0, hok0⟩ := hok e0 (by simp)
    have hoks : ∀ d ∈ es, ∃ n, okx n d = true := fun d hd => hok d (by simp [hd])
    rw [List.all_append, List.all_cons, List.all_nil, Bool.and_true] at hall
    rw [sizes_append, sizes, sizes, Nat.add_zero] at hlen
    have hsz : sizes es < sizes (es ++ [e0]) := by rw [sizes_append, sizes, sizes]; have := size_pos e0; omega
    have yes : ∀ H', ExF [] H4 H' → exprD known e0 = true → ∃ m', m' < sizes (es ++ [e0]) ∧ ∃ (xs : List V) (ds : List PyData) (u : Option V), m' = sizes ds ∧ [some (.ref kd), some v, some (.ref wt), some y] = [some (.ref kd), some v, some (.ref wt), u] ∧ H' wt = some (.lst xs) ∧ RpL (wt :: F) H' xs ds ∧ (∀ d ∈ ds, ∃ n, okx n d = true) ∧ sizes ds ≤ 1000000 ∧
        exprD known d = ds.all (exprD known) ∧ ExF [wt] H H' := fun H' x e => ⟨_, hsz, ys, es, _, rfl, rfl, x.at_ _ _ (by simp) hw4, rys4.ex x.of, hoks, by omega, by rw [hall, e, Bool.and_true], x4.trans x.of⟩
    have no : ∀ H', ExF [] H4 H' → exprD known e0 = false → Q (.bl false) H' := fun H' x e => by
      have q' := q H' ((x4.trans x.of).drop hwt)
      rw [hall, e, Bool.and_false] at q'
      exact q'
    -- a list or a tuple: its name, then the rest waits
    have seq : ∀ (a : Addr) (zs : List V) (fs : List PyData), y = .ref a → Sq H4 a zs → RpL (wt :: F) H4 zs fs → a ≠ wt → isSeq e0 = true → exprD known e0 = exprL known fs → sizes fs < size e0 → okxs (n0 - 1) fs = true →
        tIfS (tOr (tNot (tB (tCall (spIsList K) [] E0 (tCons (tVar 3) (tNil))))) (tOr (tTest (tOp (rEqU K) (tCB (rLenU K) (tCons (tVar 3) (tNil))) (tC (.int 0)))) (tNot (tB (tCall spIsName [] E0 (tCons (tOp (rIxU K) (tVar 3) (tC (.int 0))) (tNil)))))))
          (tRet (tC (.bl false))) (tDrop (tBM K "list" (rExtU K) (tVar 2) (tCons (tSl (rSlU K) (tVar 3) (tPart (tC (.int 1))) (tNoPart)) (tNil))))
          { nx := fun σ' H' => ∃ m', m' < sizes (es ++ [e0]) ∧ ∃ (xs : List V) (ds : List PyData) (u : Option V), m' = sizes ds ∧ σ' = [some (.ref kd), some v, some (.ref wt), u] ∧ H' wt = some (.lst xs) ∧ RpL (wt :: F) H' xs ds ∧ (∀ d ∈ ds, ∃ n, okx n d = true) ∧ sizes ds ≤ 1000000 ∧
              exprD known d = ds.all (exprD known) ∧ ExF [wt] H H', rt := Q } [some (.ref kd), some v, some (.ref wt), some y] H4 := by
      rintro a zs fs rfl ha rz naw hsq he hsz0 hokf
      refine ⟨_, rfl, .inl ⟨wt :: F, _, e0, rfl, ry4, fun H5 x5 => ⟨_, rfl, ?_⟩⟩⟩
      rw [hsq]
      refine iteF ?_
      have ha5 := ha.ex x5 (by simp)
      refine ⟨_, rfl, lenSq ha5 (eqI ⟨_, rfl, ?_⟩)⟩
      refine ite2 (fun h => ?_) (fun h => ?_)
      · have hz0 : fs = [] := by
          have h1 := of_decide_eq_true h
          have h2 := rz.1
          exact List.eq_nil_of_length_eq_zero (by omega)
        exact no H5 x5 (by rw [he, hz0, exprL])
      · cases fs with
        | nil => exact absurd (decide_eq_true (by have := rz.1; simp at this; simp [this])) h
        | cons f fs =>
          obtain ⟨z, zs', rfl, rf, rfs⟩ := rz.cons_inv
          rw [okxs_cons] at hokf
          refine ⟨_, rfl, ?_⟩
          refine ixSq ha5 (atN (v := z) (by decide) rfl) ?_
          refine ⟨wt :: F, z, f, _, rfl, rf.ex x5.of, hokf.1, fun H6 x6 => ⟨_, rfl, ?_⟩⟩
          cases hn : nameD f with
          | false =>
            refine iteT ?_
            exact no H6 (x5.trans x6) (by rw [he, exprL, hn]; rfl)
          | true =>
            refine iteF ?_
            have x46 := x5.trans x6
            refine ⟨_, rfl, tyL (x46.at_ _ _ (by simp) hw4), ?_⟩
            refine ⟨_, rfl, _, rfl, ?_⟩
            refine slFrom 1 rfl (ha.ex x46 (by simp)) (by simp) (by decide) fun p H7 hp hs7 x7 => ?_
            have x47 := x46.trans x7
            have rzs : RpL (wt :: F) H7 zs' fs := rfs.ex x47.of
            have l1 := rzs.1
            have l2 := rys.1
            have l3 := sizes_len fs
            have l4 := sizes_len es
            have hszc : sizes (f :: fs) = size f + sizes fs := by rw [sizes]
            refine extSq (x47.at_ _ _ (by simp) hw4) hs7 (by rw [sizeLine_eq]; simp; omega) fun H8 e8 => ?_
            have x8 : ExF (wt :: F) H7 H8 := exm e8 (.inr (by simp)) ExF.refl
            refine ⟨sizes (es ++ fs), ?_, ys ++ zs', es ++ fs, _, rfl, rfl, eqs e8, ((rys4.ex x47.of).ex x8).append (rzs.ex x8), ?_, ?_, ?_, exm e8 (.inr (by simp)) (x4.trans x47.of)⟩
            · rw [sizes_append, sizes_append, sizes, sizes]; omega
            · intro d hd
              rcases List.mem_append.mp hd with h | h
              · exact hoks d h
              · exact ⟨_, okxs_iff.mp hokf.2 d h⟩
            · rw [sizes_append]; omega
            · rw [hall, List.all_append, he, exprL, hn, exprs_all]; rfl
    refine ⟨_, rfl, ?_⟩
    refine isi_str ry4 ⟨_, rfl, ?_⟩
    cases e0 with
    | str s =>
      cases ry4.str_inv
      refine iteT ?_
      refine .inr ⟨_, rfl, _, rfl, ?_⟩
      obtain ⟨o, hg, ho⟩ := keysGet hk4 s
      refine ⟨kd, o, rfl, hg, ?_⟩
      rw [ho]
      refine ⟨_, rfl, ?_⟩
      refine ite2 (fun h => ?_) (fun h => ?_)
      · exact no H4 ExF.refl (by rw [exprD]; simpa using h)
      · exact yes H4 ExF.refl (by rw [exprD]; simpa using h)
    | list fs =>
      obtain ⟨a, zs, rfl, na, ha, rz⟩ := ry4.list_inv
      refine iteF ?_
      refine seq a zs fs rfl (.inl ha) rz (by intro z; exact na (by rw [z]; simp)) rfl (by rw [exprD]) (by rw [size]; omega) ?_
      cases n0 with
      | zero => simp [okx] at hok0
      | succ n0 => exact (okx_list.mp hok0).1
    | tuple fs =>
      obtain ⟨a, zs, rfl, na, ha, rz⟩ := ry4.tuple_inv
      refine iteF ?_
      refine seq a zs fs rfl (.inr ha) rz (by intro z; exact na (by rw [z]; simp)) rfl (by rw [exprD]) (by rw [size]; omega) ?_
      cases n0 with
      | zero => simp [okx] at hok0
      | succ n0 => exact (okx_tuple.mp hok0).1
    | _ =>
      refine iteF ?_
      refine ⟨_, rfl, .inl ⟨wt :: F, _, _, rfl, ry4, fun H5 x5 => ⟨_, rfl, ?_⟩⟩⟩
      refine iteT ?_
      exact no H5 x5 (by simp [exprD])
theorem isS_eqv {z : Str} (d : PyData) (h : plain d = true) : PyData.eqv d (.str z) = isS z d := by
  cases d <;> simp [PyData.eqv, isS, plain] at h ⊢
  rw [Bool.eq_iff_iff]
  simp
theorem items_some {d : PyData} {ds : List PyData} (h : items d = some ds) : isSeq d = true ∧ (d = .list ds ∨ d = .tuple ds) := by
  cases d <;> simp [items] at h <;> subst h <;> simp [isSeq]
theorem items_none {d : PyData} (h : items d = none) : isSeq d = false := by
  cases d <;> simp [items] at h <;> rfl
/-- a row by its items -/
theorem Rp.items {F : List Addr} {H : Hp} {v : V} {d : PyData} {ds : List PyData} (r : Rp F H v d) (h : items d = some ds) : ∃ a xs, v = .ref a ∧ a ∉ F ∧ Sq H a xs ∧ RpL F H xs ds := by
  rcases (items_some h).2 with e | e
  · subst e
    obtain ⟨a, xs, e, n, ha, q⟩ := r.list_inv
    exact ⟨a, xs, e, n, .inl ha, q⟩
  · subst e
    obtain ⟨a, xs, e, n, ha, q⟩ := r.tuple_inv
    exact ⟨a, xs, e, n, .inr ha, q⟩
theorem okx_items {n : Nat} {d : PyData} {ds : List PyData} (h : okx n d = true) (k : items d = some ds) : okxs (n - 1) ds = true ∧ ds.length ≤ 100000 := by
  rcases (items_some k).2 with e | e <;> subst e <;> cases n
  · simp [okx] at h
  · exact okx_list.mp h
  · simp [okx] at h
  · exact okx_tuple.mp h
theorem nameD_str {d : PyData} (h : nameD d = true) : ∃ s, d = .str s ∧ nameS s = true := by
  cases d <;> simp [nameD] at h
  exact ⟨_, rfl, h⟩
theorem sizes_mem {d : PyData} : ∀ {ds : List PyData}, d ∈ ds → size d ≤ sizes ds
  | [], h => by simp at h
  | e :: ds, h => by
    rw [sizes]
    rcases List.mem_cons.mp h with h | h
    · subst h; omega
    · have := sizes_mem h; omega
theorem size_items {d : PyData} {ds : List PyData} (k : items d = some ds) : size d = sizes ds + 1 := by
  rcases (items_some k).2 with e | e <;> subst e <;> rw [size]
theorem rd_p_is_line (K : PySem.W.Frag) {vs : List V} {H : Hp} {Q : VK} {E : XK} (h : spPIsLine vs H Q E) :
    t_p_is_line K { nx := fun _ H' => Q .non H', rt := Q } (start ["known", "told", "thing"] vs) H := by
  obtain ⟨F, kd, td, known, told, v, d, n, rfl, hk, ht, r, hd, hn, q⟩ := h
  refine ⟨_, rfl, .inl ⟨F, v, d, rfl, r, fun H1 x1 => ⟨_, rfl, ?_⟩⟩⟩
  have no : lineD known told d = false → ∀ H', ExF [] H H' → Q (.bl false) H' := fun e H' x => by
    have q' := q H' x
    rw [e] at q'
    exact q'
  cases hi : items d with
  | none =>
    rw [items_none hi]
    exact no (by unfold lineD; rw [hi]) H1 x1
  | some ds =>
    rw [(items_some hi).1]
    obtain ⟨a, xs, rfl, na, ha, ra⟩ := r.items hi
    obtain ⟨hok, hl⟩ := okx_items hd hi
    have hlD : lineD known told d = lineL known told ds := by unfold lineD; rw [hi]
    refine iteF ?_
    -- len(thing) not in (2, 3)
    refine .inl ⟨_, rfl, ?_⟩
    refine lenSq (ha.ex x1 (by simp)) ?_
    refine ⟨by show 2 ≤ sizeLine; decide, fun p2 H2 hp2 e2 => ?_⟩
    have x2 : ExF [] H H2 := x1.trans (exn e2 hp2)
    refine notInFlatT (eqs e2) rfl rfl ⟨_, rfl, ?_⟩
    have hxl := ra.1
    have a2 := ha.ex x2 (by simp)
    have r2 := ra.ex (x2.of (G := F))
    have k2 := hk.ex x2 (by simp)
    have t2 := ht.ex x2 (by simp)
    -- the first two things of a row that is long enough
    have first : ∀ (d0 d1 : PyData) (rest : List PyData), ds = d0 :: d1 :: rest → (∀ s : Str, d0 = .str s → nameD d1 = true → ∀ H3, ExF [] H2 H3 →
        t_p_is_line_t1 K { nx := fun _ H' => Q .non H', rt := Q } [some (.ref kd), some (.ref td), some (.ref a)] H3) →
        (tOr (tNot (tB (tCB (rIsiU K) (tCons (tOp (rIxU K) (tVar 2) (tC (.int 0))) (tCons (tC (.ty "str")) (tNil)))))) (tNot (tB (tCall spIsName [] E0 (tCons (tOp (rIxU K) (tVar 2) (tC (.int 1))) (tNil))))))
          [some (.ref kd), some (.ref td), some (.ref a)] H2 fun b H3 => if b = true then tRet (tC (.bl false)) { nx := t_p_is_line_t1 K { nx := fun _ H' => Q .non H', rt := Q }, rt := Q } [some (.ref kd), some (.ref td), some (.ref a)] H3
            else tNext { nx := t_p_is_line_t1 K { nx := fun _ H' => Q .non H', rt := Q }, rt := Q } [some (.ref kd), some (.ref td), some (.ref a)] H3 := by
      rintro d0 d1 rest e cont
      subst e
      obtain ⟨x0, xs', rfl, rx0, r'⟩ := r2.cons_inv
      obtain ⟨x1', xs'', rfl, rx1, r''⟩ := r'.cons_inv
      rw [okxs_cons, okxs_cons] at hok
      refine ⟨_, rfl, ?_⟩
      refine ixSq a2 (atN (v := x0) (by decide) rfl) ?_
      refine isi_str rx0 ⟨_, rfl, ?_⟩
      cases hs : isStr d0 with
      | false =>
        refine iteT ?_
        exact no (by
          rw [hlD]
          have g : ∀ z, isS z d0 = false := fun z => by cases d0 <;> simp [isStr, isS] at hs ⊢
          cases rest with
          | nil => simp [lineL, g]
          | cons e rest => cases rest <;> simp [lineL, g]) H2 x2
      | true =>
        refine iteF ?_
        refine ⟨_, rfl, ?_⟩
        refine ixSq a2 (atN (v := x1') (by decide) rfl) ?_
        refine ⟨F, x1', d1, _, rfl, rx1, hok.2.1, fun H3 x3 => ⟨_, rfl, ?_⟩⟩
        cases hnm : nameD d1 with
        | false =>
          refine iteT ?_
          exact no (by
            rw [hlD]
            cases rest with
            | nil => simp [lineL, hnm]
            | cons e rest => cases rest <;> simp [lineL, hnm]) H3 (x2.trans x3)
        | true =>
          refine iteF ?_
          cases d0 <;> simp [isStr] at hs
          exact cont _ rfl hnm H3 x3
    have noLen : (∀ d0 d1, ds ≠ [d0, d1]) → (∀ d0 d1 d2, ds ≠ [d0, d1, d2]) → lineD known told d = false := fun h2 h3 => by
      rw [hlD]
      match ds with
      | [] => rfl
      | [_] => rfl
      | [d0, d1] => exact absurd rfl (h2 d0 d1)
      | [d0, d1, d2] => exact absurd rfl (h3 d0 d1 d2)
      | _ :: _ :: _ :: _ :: _ => rfl
    have inv : inV (.int (xs.length : Int)) [.int 2, .int 3] = (decide (ds.length = 2) || decide (ds.length = 3)) := by
      show ((2 == (xs.length : Int)) || ((3 == (xs.length : Int)) || false)) = _
      rw [hxl, Bool.eq_iff_iff]
      simp
      omega
    rw [inv]
    match ds, hok, r2, first, hlD, noLen, hl, hxl with
    | [], _, _, _, _, noLen, _, _ => exact no (noLen (fun _ _ h => by cases h) (fun _ _ _ h => by cases h)) H2 x2
    | [_], _, _, _, _, noLen, _, _ => exact no (noLen (fun _ _ h => by cases h) (fun _ _ _ h => by cases h)) H2 x2
    | e1 :: e2 :: e3 :: e4 :: r, _, _, _, _, noLen, _, _ =>
      have e : (decide ((List.length (e1 :: e2 :: e3 :: e4 :: r)) = 2) || decide ((List.length (e1 :: e2 :: e3 :: e4 :: r)) = 3)) = false := by simp
      rw [e]
      exact no (noLen (fun _ _ h => by cases h) (fun _ _ _ h => by cases h)) H2 x2
    | [d0, d1], hok, r2, first, hlD, _, _, hxl =>
      refine iteF ?_
      refine first d0 d1 [] rfl fun s hs hnm H3 x3 => ?_
      subst hs
      obtain ⟨s1, rfl, hs1⟩ := nameD_str hnm
      obtain ⟨x0, xs', rfl, rx0, r'⟩ := r2.cons_inv
      obtain ⟨x1', xs'', rfl, rx1, r''⟩ := r'.cons_inv
      cases rx0.str_inv
      cases rx1.str_inv
      have a3 := a2.ex x3 (by simp)
      have k3 := k2.ex x3 (by simp)
      have t3 := t2.ex x3 (by simp)
      obtain ⟨o, hg, ho⟩ := keysGet k3 s1
      obtain ⟨o2, hg2, ho2⟩ := keysGet t3 s1
      have q' := q H3 (x2.trans x3)
      rw [hlD] at q'
      have e : lineL known told [.str s, .str s1] = ((decide (s = "read") && !decide (s1 ∈ known)) || (decide (s = "tell") && decide (s1 ∈ known) && !decide (s1 ∈ told))) := by
        simp [lineL, hnm, isS, nmIn]
      rw [e] at q'
      refine ⟨_, rfl, lenSq a3 (eqI ⟨_, rfl, ?_⟩)⟩
      refine ite2 (fun h => absurd (of_decide_eq_true h) (by rw [hxl]; simp)) (fun _ => ?_)
      refine ⟨_, rfl, ?_⟩
      refine ixSq a3 (atN (v := .str s) (by decide) rfl) ?_
      refine eqS ⟨_, rfl, ?_⟩
      refine ite2 (fun h => ?_) (fun h => ?_)
      · have h' := of_decide_eq_true h
        refine .inr ⟨_, rfl, ?_⟩
        refine ixSq a3 (atN (v := .str s1) (by decide) rfl) ?_
        refine ⟨_, rfl, kd, o, rfl, hg, ?_⟩
        rw [ho]
        rw [h] at q'
        have ns : decide (s = ("tell" : Str)) = false := decide_eq_false (by rw [h']; decide)
        rw [ns] at q'
        simpa using q'
      · have h' : decide (s = ("read" : Str)) = false := by simpa using h
        rw [h'] at q'
        refine ⟨_, rfl, ?_⟩
        refine ixSq a3 (atN (v := .str s) (by decide) rfl) ?_
        refine eqS ⟨_, rfl, ?_⟩
        refine ite2 (fun h2 => ?_) (fun h2 => ?_)
        · rw [h2] at q'
          refine .inr ⟨_, rfl, ?_⟩
          refine ixSq a3 (atN (v := .str s1) (by decide) rfl) ?_
          refine ⟨_, rfl, kd, o, rfl, hg, ⟨_, rfl, ?_⟩⟩
          rw [ho]
          refine ite2 (fun h4 => ?_) (fun h4 => ?_)
          · rw [h4] at q'
            refine .inr ⟨_, rfl, ?_⟩
            refine ixSq a3 (atN (v := .str s1) (by decide) rfl) ?_
            refine ⟨_, rfl, td, o2, rfl, hg2, ?_⟩
            rw [ho2]
            simpa using q'
          · have h4' : decide (s1 ∈ known) = false := by simpa using h4
            rw [h4'] at q'
            simpa using q'
        · have h2' : decide (s = ("tell" : Str)) = false := by simpa using h2
          rw [h2'] at q'
          simpa using q'
    | [d0, d1, d2], hok, r2, first, hlD, _, _, hxl =>
      refine iteF ?_
      refine first d0 d1 [d2] rfl fun s hs hnm H3 x3 => ?_
      subst hs
      obtain ⟨x0, xs1, rfl, rx0, r1'⟩ := r2.cons_inv
      obtain ⟨x1', xs2, rfl, rx1, r2'⟩ := r1'.cons_inv
      obtain ⟨x2', xs3, rfl, rx2, r3'⟩ := r2'.cons_inv
      cases rx0.str_inv
      have a3 := a2.ex x3 (by simp)
      have k3 := k2.ex x3 (by simp)
      have q' : ∀ H', ExF [] H3 H' → Q (.bl (decide (s = "give") && exprD known d2)) H' := fun H' x => by
        have q' := q H' ((x2.trans x3).trans x)
        rw [hlD] at q'
        have e : lineL known told [.str s, d1, d2] = (decide (s = "give") && exprD known d2) := by
          simp [lineL, hnm, isS]
        rw [e] at q'
        exact q'
      refine ⟨_, rfl, lenSq a3 (eqI ⟨_, rfl, ?_⟩)⟩
      refine ite2 (fun _ => ?_) (fun h => absurd (decide_eq_true (by rw [hxl]; rfl)) h)
      refine ⟨_, rfl, ?_⟩
      refine ixSq a3 (atN (v := .str s) (by decide) rfl) ?_
      refine eqS ⟨_, rfl, ?_⟩
      rw [okxs_cons, okxs_cons, okxs_cons] at hok
      have hsz : size d2 ≤ 1000000 := by
        have h1 := size_items hi
        rw [sizes, sizes, sizes, sizes] at h1
        omega
      refine ite2 (fun h => ?_) (fun h => ?_)
      · refine ⟨_, rfl, _, rfl, ?_⟩
        refine ixSq a3 (atN (v := x2') (by decide) rfl) ?_
        refine ⟨F, kd, known, x2', d2, _, rfl, k3, rx2.ex x3.of, hok.2.2.1, hsz, fun H4 x4 => ?_⟩
        have q'' := q' H4 x4
        rw [h] at q''
        simpa using q''
      · have h' : decide (s = ("give" : Str)) = false := by simpa using h
        have q'' := q' H3 ExF.refl
        rw [h'] at q''
        simpa using q''
theorem okx_row {m : Nat} {d : PyData} {ds : List PyData} (h : okx (m + 1) d = true) (k : items d = some ds) : okxs m ds = true ∧ ds.length ≤ 100000 := by
  rcases (items_some k).2 with e | e <;> subst e
  · exact okx_list.mp h
  · exact okx_tuple.mp h
theorem rd_l_is_expr (K : PySem.W.Frag) (m : Nat) {vs : List V} {H : Hp} {Q : VK} {E : XK} (h : spLIsExpr (m + 1) vs H Q E) :
    t_l_is_expr K m { nx := fun _ H' => Q .non H', rt := Q } (start ["_law_known", "_law_thing", "_law_part"] vs) H := by
  obtain ⟨F, kd, known, v, d, rfl, hk, r, ⟨_, hd⟩, q⟩ := h
  have hd : okx m d = true := hd
  refine ⟨_, rfl, ?_⟩
  refine isi_str r ⟨_, rfl, ?_⟩
  cases hs : isStr d with
  | true =>
    cases d <;> simp [isStr] at hs
    rename_i s
    cases r.str_inv
    refine iteT ?_
    refine .inl ⟨_, rfl, _, rfl, inStrs hk ?_⟩
    have q' := q H ExF.refl
    rw [exprD] at q'
    exact q'
  | false =>
    refine iteF ?_
    have no : exprD known d = false → ∀ H', ExF [] H H' → Q (.bl false) H' := fun e H' x => by
      have q' := q H' x
      rw [e] at q'
      exact q'
    refine ⟨_, rfl, by show 2 ≤ sizeLine; decide, fun p1 H1 hp1 e1 => ?_⟩
    have x1 : ExF [] H H1 := exn e1 hp1
    refine isi_seq (r.ex x1.of) (eqs e1) ⟨_, rfl, ?_⟩
    cases hi : items d with
    | none =>
      rw [items_none hi]
      exact no (by cases d <;> simp [items, isStr] at hi hs <;> simp [exprD]) H1 x1
    | some ds =>
      rw [(items_some hi).1]
      refine iteF ?_
      obtain ⟨a, xs, rfl, na, ha, ra⟩ := r.items hi
      obtain ⟨m', rfl⟩ : ∃ m', m = m' + 1 := by
        cases m with
        | zero => rcases (items_some hi).2 with e | e <;> subst e <;> simp [okx] at hd
        | succ m' => exact ⟨m', rfl⟩
      obtain ⟨hok, hl⟩ := okx_row hd hi
      have he : exprD known d = exprL known ds := by
        rcases (items_some hi).2 with e | e <;> subst e <;> rw [exprD]
      have a1 := ha.ex x1 (by simp)
      refine ⟨_, rfl, lenSq a1 (eqI ⟨_, rfl, ?_⟩)⟩
      cases ds with
      | nil =>
        have h0 : xs.length = 0 := ra.1
        rw [h0]
        exact no (by rw [he, exprL]) H1 x1
      | cons f fs =>
        obtain ⟨z, zs, rfl, rf, rfs⟩ := ra.cons_inv
        rw [okxs_cons] at hok
        refine ite2 (fun h => absurd (of_decide_eq_true h) (by simp; omega)) (fun _ => ?_)
        refine ⟨_, rfl, ?_⟩
        refine ixSq a1 (atN (v := z) (by decide) rfl) ?_
        refine ⟨F, z, f, _, rfl, rf.ex x1.of, hok.1, fun H2 x2 => ⟨_, rfl, ?_⟩⟩
        have x02 := x1.trans x2
        cases hn : nameD f with
        | false =>
          refine iteT ?_
          exact no (by rw [he, exprL, hn]; rfl) H2 x02
        | true =>
          refine iteF ?_
          have hzl : zs.length = fs.length := rfs.1
          have hz : zs.length < sizeLine := by rw [sizeLine_eq]; simp at hl; omega
          refine lcMapB (xs := zs) (vs := [2]) (k := 2) (iter_sl1 (a := a) (i := 1) rfl (ha.ex x02 (by simp)) (by simp) Trk.nil) (fs.map (exprD known)) (by rw [List.length_map]; exact hzl.symm) hz (fun _ => rfl) ?_ ?_
          · intro i x b H3 hx hb x3 Qc k
            obtain ⟨e, he3, rx⟩ := rfs.get' hx
            rw [List.getElem?_map, he3] at hb
            cases hb
            refine ⟨_, rfl, _, rfl, F, kd, known, x, e, rfl, (x02.trans x3).at_ _ _ (by simp) hk, rx.ex (x02.trans x3).of, ⟨Nat.succ_pos _, okxs_iff.mp hok.2 e (List.mem_of_getElem? he3)⟩, fun H4 x4 => k H4 x4⟩
          · intro p H3 hp hP x3
            refine allB hP ?_
            have q' := q H3 (x02.trans x3)
            rw [he, exprL, hn, exprs_all, Bool.true_and] at q'
            rw [List.all_map]
            exact q'
theorem rd_l_is_line (K : PySem.W.Frag) {vs : List V} {H : Hp} {Q : VK} {E : XK} (h : spLIsLine vs H Q E) :
    t_l_is_line K { nx := fun _ H' => Q .non H', rt := Q } (start ["_law_known", "_law_told", "_law_thing"] vs) H := by
  obtain ⟨F, kd, td, known, told, v, d, n, rfl, hk, ht, r, hd, hn, hf, q⟩ := h
  have no : lineD known told d = false → ∀ H', ExF [] H H' → Q (.bl false) H' := fun e H' x => by
    have q' := q H' x
    rw [e] at q'
    exact q'
  refine ⟨_, rfl, by show 2 ≤ sizeLine; decide, fun p1 H1 hp1 e1 => ?_⟩
  have x1 : ExF [] H H1 := exn e1 hp1
  refine isi_seq (r.ex x1.of) (eqs e1) ⟨_, rfl, ?_⟩
  cases hi : items d with
  | none =>
    rw [items_none hi]
    exact no (by unfold lineD; rw [hi]) H1 x1
  | some ds =>
    rw [(items_some hi).1]
    refine iteF ?_
    obtain ⟨a, xs, rfl, na, ha, ra⟩ := r.items hi
    obtain ⟨hok, hl⟩ := okx_items hd hi
    have hlD : lineD known told d = lineL known told ds := by unfold lineD; rw [hi]
    have a1 := ha.ex x1 (by simp)
    have hxl := ra.1
    refine ⟨_, rfl, lenSq a1 ⟨_, _, rfl, rfl, _, rfl, ?_⟩⟩
    match ds, hok, ra, hlD, hl, hxl, hi with
    | [], _, _, hlD, _, hxl, _ =>
      rw [hxl]
      exact no (by rw [hlD]; rfl) H1 x1
    | [_], _, _, hlD, _, hxl, _ =>
      rw [hxl]
      exact no (by rw [hlD]; rfl) H1 x1
    | d0 :: d1 :: rest, hok, ra, hlD, hl, hxl, hi =>
      obtain ⟨x0, xs1, rfl, rx0, ra1⟩ := ra.cons_inv
      obtain ⟨x1', xs2, rfl, rx1, ra2⟩ := ra1.cons_inv
      rw [okxs_cons, okxs_cons] at hok
      have hf0 : ok 20 d0 = true := by unfold fine at hf; rw [hi] at hf; exact hf
      refine ite2 (fun h => absurd (of_decide_eq_true h) (by simp; omega)) (fun _ => ?_)
      refine ⟨_, rfl, ?_⟩
      refine ixSq a1 (atN (v := x1') (by decide) rfl) ?_
      refine ⟨F, x1', d1, _, rfl, rx1.ex x1.of, hok.2.1, fun H2 x2 => ⟨_, rfl, ?_⟩⟩
      have x02 := x1.trans x2
      cases hnm : nameD d1 with
      | false =>
        refine iteT ?_
        exact no (by
          rw [hlD]
          cases rest with
          | nil => simp [lineL, hnm]
          | cons e rest => cases rest <;> simp [lineL, hnm]) H2 x02
      | true =>
        refine iteF ?_
        obtain ⟨s1, rfl, hs1⟩ := nameD_str hnm
        cases rx1.str_inv
        have a2 := ha.ex x02 (by simp)
        have l0 : rest.length = xs2.length := ra2.1.symm
        -- thing[0] == "give"
        refine ⟨_, rfl, ?_⟩
        refine ixSq a2 (atN (v := x0) (by decide) rfl) ?_
        refine eqO (n := 20) (m := 20) (rx0.ex x02.of) (Rp.str (F := []) "give") hf0 (by rw [ok_str]; decide +kernel) ⟨_, rfl, ?_⟩
        rw [isS_eqv d0 (ok_plain hf0)]
        cases hg : isS "give" d0 with
        | true =>
          refine iteT ?_
          have hd0 : isS "read" d0 = false ∧ isS "tell" d0 = false := by
            cases d0 <;> simp [isS] at hg ⊢
            subst hg
            decide
          refine ⟨_, rfl, lenSq a2 (eqI ⟨_, rfl, ?_⟩)⟩
          match rest, hlD, ra2, l0, hok with
          | [], hlD, _, l0, _ =>
            have e : xs2.length = 0 := l0.symm
            refine ite2 (fun h => absurd (of_decide_eq_true h) (by simp [e])) (fun h => ?_)
            exact no (by rw [hlD]; simp [lineL, hd0.1, hd0.2]) H2 x02
          | _ :: _ :: r, hlD, _, l0, _ =>
            refine ite2 (fun h => absurd (of_decide_eq_true h) (by simp at l0 ⊢; omega)) (fun h => ?_)
            exact no (by rw [hlD]; rfl) H2 x02
          | [d2], hlD, ra2, l0, hok =>
            obtain ⟨x2', xs3, rfl, rx2, ra3⟩ := ra2.cons_inv
            cases ra3.nil_inv
            refine iteT ?_
            refine ⟨_, rfl, _, rfl, ?_⟩
            refine ixSq a2 (atN (v := x2') (by decide) rfl) ?_
            rw [okxs_cons] at hok
            have hm : ∀ {k : Nat} {d : PyData}, k ≤ 28 → okx k d = true → okx 28 d = true := fun h1 h2 => okx_le h2 h1
            refine ⟨F, kd, known, x2', d2, rfl, x02.at_ _ _ (by simp) hk, rx2.ex x02.of, ⟨by decide, hm (by omega) hok.2.2.1⟩, fun H4 x4 => ?_⟩
            have q' := q H4 (x02.trans x4)
            have e : lineL known told [d0, .str s1, d2] = exprD known d2 := by simp [lineL, hnm, hg]
            rw [hlD, e] at q'
            exact q'
        | false =>
          refine iteF ?_
          refine ⟨_, rfl, lenSq a2 ⟨_, _, rfl, rfl, _, rfl, ?_⟩⟩
          cases rest with
          | cons e rest =>
            refine ite2 (fun h => ?_) (fun h => absurd (decide_eq_true (by simp at l0 ⊢; omega)) h)
            exact no (by rw [hlD]; cases rest <;> simp [lineL, hg]) H2 x02
          | nil =>
            have e : xs2 = [] := List.eq_nil_of_length_eq_zero l0.symm
            subst e
            refine ite2 (fun h => absurd (of_decide_eq_true h) (by simp)) (fun _ => ?_)
            refine .inl ⟨_, rfl, ?_⟩
            refine ixSq a2 (atN (v := x0) (by decide) rfl) ?_
            refine ⟨by show 2 ≤ sizeLine; decide, fun p3 H3 hp3 e3 => ?_⟩
            have x03 := x02.trans (exn e3 hp3)
            refine notInOT (n := 20) (m := 20) (G := []) (ds := [.str "read", .str "tell"]) (rx0.ex x03.of) (.tuple (by simp) (eqs e3) (.cons (.str _) (.cons (.str _) .nil))) hf0 (by decide +kernel) ⟨_, rfl, ?_⟩
            have ee : ([PyData.str "read", PyData.str "tell"].any fun z => PyData.eqv z d0) = (isS "read" d0 || isS "tell" d0) := by
              cases d0 with
              | str s =>
                show ((("read" : Str) == s) || ((("tell" : Str) == s) || false)) = (decide (s = "read") || decide (s = "tell"))
                rw [Bool.eq_iff_iff]
                simp only [Bool.or_eq_true, beq_iff_eq, decide_eq_true_eq, Bool.or_false]
                exact ⟨fun h => h.elim (fun h => .inl h.symm) (fun h => .inr h.symm), fun h => h.elim (fun h => .inl h.symm) (fun h => .inr h.symm)⟩
              | _ => simp [isS, PyData.eqv]
            rw [ee]
            have hL : lineL known told [d0, .str s1] = ((isS "read" d0 && !decide (s1 ∈ known)) || (isS "tell" d0 && decide (s1 ∈ known) && !decide (s1 ∈ told))) := by
              simp [lineL, hnm, nmIn]
            have q' : ∀ H', ExF [] H3 H' → Q (.bl ((isS "read" d0 && !decide (s1 ∈ known)) || (isS "tell" d0 && decide (s1 ∈ known) && !decide (s1 ∈ told)))) H' := fun H' x => by
              have q' := q H' (x03.trans x)
              rw [hlD, hL] at q'
              exact q'
            have a3 := ha.ex x03 (by simp)
            have k3 : StrsAt H3 kd known := x03.at_ _ _ (by simp) hk
            have t3 : StrsAt H3 td told := x03.at_ _ _ (by simp) ht
            cases hr : isS "read" d0 with
            | true =>
              rw [Bool.true_or]
              refine iteF ?_
              refine ⟨_, rfl, ?_⟩
              refine ixSq a3 (atN (v := x0) (by decide) rfl) ?_
              refine eqO (n := 20) (m := 20) (rx0.ex x03.of) (Rp.str (F := []) "read") hf0 (by rw [ok_str]; decide +kernel) ⟨_, rfl, ?_⟩
              rw [isS_eqv d0 (ok_plain hf0), hr]
              refine iteT ?_
              refine .inl ⟨_, rfl, ?_⟩
              refine ixSq a3 (atN (v := .str s1) (by decide) rfl) ?_
              refine ⟨_, rfl, notInStrs k3 ?_⟩
              have q'' := q' H3 ExF.refl
              have nt : isS "tell" d0 = false := by
                cases d0 <;> simp [isS] at hr ⊢
                subst hr
                decide
              rw [hr, nt] at q''
              simpa using q''
            | false =>
              rw [Bool.false_or]
              cases ht2 : isS "tell" d0 with
              | false =>
                refine iteT ?_
                have q'' := q' H3 ExF.refl
                rw [hr, ht2] at q''
                have q3 : Q (.bl false) H3 := by simpa using q''
                exact q3
              | true =>
                refine iteF ?_
                refine ⟨_, rfl, ?_⟩
                refine ixSq a3 (atN (v := x0) (by decide) rfl) ?_
                refine eqO (n := 20) (m := 20) (rx0.ex x03.of) (Rp.str (F := []) "read") hf0 (by rw [ok_str]; decide +kernel) ⟨_, rfl, ?_⟩
                rw [isS_eqv d0 (ok_plain hf0), hr]
                refine iteF ?_
                refine .inl ⟨_, rfl, ?_⟩
                refine ixSq a3 (atN (v := .str s1) (by decide) rfl) ?_
                refine ⟨_, rfl, inStrs k3 ⟨_, rfl, ?_⟩⟩
                have q'' := q' H3 ExF.refl
                rw [hr, ht2] at q''
                refine ite2 (fun h => ?_) (fun h => ?_)
                · rw [h] at q''
                  refine .inl ⟨_, rfl, ?_⟩
                  refine ixSq a3 (atN (v := .str s1) (by decide) rfl) ?_
                  refine ⟨_, rfl, notInStrs t3 ?_⟩
                  simpa using q''
                · have h' : decide (s1 ∈ known) = false := by simpa using h
                  rw [h'] at q''
                  simpa using q''
theorem lineD_parts {known told : List Str} {d : PyData} (h : lineD known told d = true) : ∃ d0 s1 rest, items d = some (d0 :: .str s1 :: rest) ∧ lineN d = s1 ∧ lineT d = isS "tell" d0 := by
  unfold lineD at h
  cases hi : items d with
  | none => rw [hi] at h; cases h
  | some ds =>
    rw [hi] at h
    have hn : ∀ {b : PyData} {c : Bool}, (nameD b && c) = true → ∃ s, b = .str s := fun h => by
      rw [Bool.and_eq_true] at h
      obtain ⟨s, hs, _⟩ := nameD_str h.1
      exact ⟨s, hs⟩
    match ds, h, hi with
    | [], h, _ => cases h
    | [_], h, _ => cases h
    | [a, b], h, hi =>
      obtain ⟨s, rfl⟩ := hn h
      exact ⟨a, s, [], rfl, by unfold lineN; rw [hi], by unfold lineT; rw [hi]⟩
    | [a, b, c], h, hi =>
      have h' : (nameD b && isS "give" a && exprD known c) = true := h
      rw [Bool.and_assoc] at h'
      obtain ⟨s, rfl⟩ := hn h'
      exact ⟨a, s, [c], rfl, by unfold lineN; rw [hi], by unfold lineT; rw [hi]⟩
    | _ :: _ :: _ :: _ :: _, h, _ => cases h
theorem rd_l_fault (K : PySem.W.Frag) {vs : List V} {H : Hp} {Q : VK} {E : XK} (h : spFault vs H Q E) :
    t_l_fault K { nx := fun _ H' => Q .non H', rt := Q } (start ["_law_lines", "_law_known", "_law_told", "_law_at", "_law_thing"] vs) H := by
  obtain ⟨F, l, xs, ds, n, rfl, hl, rx, hok, hn, hfine, hlen, q⟩ := h
  refine ⟨by decide, fun p1 H1 hp1 e1 => ?_⟩
  refine ⟨by decide, fun p2 H2 hp2 e2 => ?_⟩
  refine ⟨_, _, rfl, ?_⟩
  have x2 : ExF [] H H2 := (exn e1 hp1).trans (exn e2 hp2)
  have hxl := rx.1
  refine forE (i := 0) (a := l) (xs := xs) (M := []) rfl (hl.ex x2 (by simp)) (by simp)
    (fun i σ H' => ∃ (kd td : Addr) (known told : List Str) (u w : Option V), σ = [some (.ref l), some (.ref kd), some (.ref td), u, w] ∧ StrsAt H' kd known ∧ StrsAt H' td told ∧ known.length ≤ i ∧ told.length ≤ i ∧
      faultL [] [] 0 ds = faultL known told i (ds.drop i) ∧ ExF [] H2 H')
    ⟨p1, p2, [], [], none, none, rfl, eqf e2 hp2 (eqs e1), eqs e2, Nat.le_refl _, Nat.le_refl _, rfl, ExF.refl⟩ (fun i σ' H' ⟨_, _, _, _, _, _, _, _, _, _, _, _, x⟩ => x) ?_ ?_
  · rintro i x σ' H3 H4 hx ⟨kd, td, known, told, u, w, rfl, hk, ht, lk, lt, hf, x3⟩ x4
    obtain ⟨d, hd, rd⟩ := rx.get' hx
    have hi : i < ds.length := (List.getElem?_eq_some_iff.mp hd).1
    have hm : d ∈ ds := List.mem_of_getElem? hd
    have x04 := (x2.trans x3).trans x4
    have k4 : StrsAt H4 kd known := x4.at_ _ _ (by simp) hk
    have t4 : StrsAt H4 td told := x4.at_ _ _ (by simp) ht
    have hdrop : ds.drop i = d :: ds.drop (i + 1) := by
      have h1 := List.drop_eq_getElem_cons hi
      rw [h1]
      congr 1
      have := (List.getElem?_eq_some_iff.mp hd).2
      exact this
    rw [hdrop, faultL] at hf
    refine ⟨_, rfl, _, rfl, _, rfl, ?_⟩
    refine ⟨F, kd, td, known, told, x, d, n, rfl, k4, t4, rd.ex x04.of, okxs_iff.mp hok d hm, hn, hfine d hm, fun H5 x5 => ⟨_, rfl, ?_⟩⟩
    have x05 := x04.trans x5
    cases hL : lineD known told d with
    | false =>
      rw [hL, if_neg Bool.false_ne_true] at hf
      refine iteT ?_
      refine ⟨_, rfl, q _ H5 x05 ?_⟩
      rw [hf]
      exact .int _
    | true =>
      rw [hL, if_pos rfl] at hf
      refine iteF ?_
      obtain ⟨d0, s1, rest, hit, hnm, htl⟩ := lineD_parts hL
      obtain ⟨a, zs, rfl, na, ha, rz⟩ := rd.items hit
      obtain ⟨x0, xs1, rfl, rx0, rz1⟩ := rz.cons_inv
      obtain ⟨x1', xs2, rfl, rx1, rz2⟩ := rz1.cons_inv
      cases rx1.str_inv
      have hf0 : ok 20 d0 = true := by have := hfine d hm; unfold fine at this; rw [hit] at this; exact this
      have a5 := ha.ex x05 (by simp)
      have k5 : StrsAt H5 kd known := x5.at_ _ _ (by simp) k4
      have t5 : StrsAt H5 td told := x5.at_ _ _ (by simp) t4
      have sz : sizeLine = 16777216 := sizeLine_eq
      -- known = known + [thing[1]]
      refine ⟨_, rfl, _, rfl, ?_⟩
      refine ixSq a5 (atN (v := .str s1) (by decide) rfl) ?_
      refine ⟨by show 1 ≤ sizeLine; decide, fun p6 H6 hp6 e6 => ?_⟩
      have x06 := x05.trans (exn e6 hp6)
      refine catL (eqf e6 hp6 k5) (eqs e6) (by rw [List.length_map, sz]; simp; omega) fun p7 H7 hp7 e7 => ?_
      have x07 := x06.trans (exn e7 hp7)
      have a7 := ha.ex x07 (by simp)
      have k7 : StrsAt H7 p7 (known ++ [s1]) := by
        have := eqs e7
        unfold StrsAt
        rw [this, List.map_append]
        rfl
      have t7 : StrsAt H7 td told := eqf e7 hp7 (eqf e6 hp6 t5)
      -- told = told + ([thing[1]] if thing[0] == "tell" else [])
      refine ⟨_, rfl, _, rfl, ?_⟩
      refine ixSq a7 (atN (v := x0) (by decide) rfl) ?_
      refine eqO (n := 20) (m := 20) (rx0.ex x07.of) (Rp.str (F := []) "tell") hf0 (by rw [ok_str]; decide +kernel) ⟨_, rfl, ?_⟩
      rw [isS_eqv d0 (ok_plain hf0)]
      have x27 : ExF [] H2 H7 := (((x3.trans x4).trans x5).trans (exn e6 hp6)).trans (exn e7 hp7)
      cases hT : isS "tell" d0 with
      | true =>
        refine iteT ?_
        refine ⟨_, rfl, ?_⟩
        refine ixSq a7 (atN (v := .str s1) (by decide) rfl) ?_
        refine ⟨by show 1 ≤ sizeLine; decide, fun p8 H8 hp8 e8 => ?_⟩
        refine catL (eqf e8 hp8 t7) (eqs e8) (by rw [List.length_map, sz]; simp; omega) fun p9 H9 hp9 e9 => ?_
        refine ⟨p7, p9, known ++ [s1], told ++ [s1], _, _, rfl, eqf e9 hp9 (eqf e8 hp8 k7), ?_, by simp; omega, by simp; omega, ?_, (x27.trans (exn e8 hp8)).trans (exn e9 hp9)⟩
        · have := eqs e9
          unfold StrsAt
          rw [this, List.map_append]
          rfl
        · rw [hnm, htl, hT] at hf
          exact hf
      | false =>
        refine iteF ?_
        refine ⟨by decide, fun p8 H8 hp8 e8 => ?_⟩
        refine catL (eqf e8 hp8 t7) (eqs e8) (by rw [List.length_map, sz]; simp; omega) fun p9 H9 hp9 e9 => ?_
        refine ⟨p7, p9, known ++ [s1], told ++ [], _, _, rfl, eqf e9 hp9 (eqf e8 hp8 k7), ?_, by simp; omega, by simp; omega, ?_, (x27.trans (exn e8 hp8)).trans (exn e9 hp9)⟩
        · have := eqs e9
          unfold StrsAt
          rw [this, List.map_append]
          rfl
        · rw [hnm, htl, hT] at hf
          exact hf
  · rintro σ' H3 ⟨kd, td, known, told, u, w, rfl, hk, ht, lk, lt, hf, x3⟩
    rw [hxl, List.drop_length, faultL] at hf
    refine q _ H3 (x2.trans x3) ?_
    rw [hf]
    exact .non

end Tw
end

section
set_option Elab.async false
set_option linter.all false
set_option maxRecDepth 100000
set_option maxHeartbeats 4000000
namespace Tw
open PySem L2 PyProof.Rows

/-! ### each once, numbered names -/
def onceL (acc : List Str) : List Str → List Str
  | [] => acc
  | z :: zs => if z ∈ acc then onceL acc zs else onceL (acc ++ [z]) zs
theorem onceL_app : ∀ (xs ys acc : List Str), onceL acc (xs ++ ys) = onceL (onceL acc xs) ys
  | [], ys, acc => rfl
  | x :: xs, ys, acc => by
    rw [List.cons_append, onceL, onceL]
    by_cases h : x ∈ acc
    · rw [if_pos h, if_pos h, onceL_app xs ys]
    · rw [if_neg h, if_neg h, onceL_app xs ys]
theorem onceL_nodup : ∀ (zs acc : List Str), (acc ++ zs).Nodup → onceL acc zs = acc ++ zs
  | [], acc, _ => by rw [onceL, List.append_nil]
  | z :: zs, acc, h => by
    have hz : z ∉ acc := fun m => by
      have := (List.nodup_append.mp h).2.2 z m z (by simp)
      exact this rfl
    rw [onceL, if_neg hz, onceL_nodup zs _ (by rw [List.append_assoc]; exact h), List.append_assoc]
    rfl
theorem onceL_add {known : List Str} (h : known.Nodup) (x : Str) : onceL [] (known ++ [x]) = if x ∈ known then known else known ++ [x] := by
  rw [onceL_app, onceL_nodup known [] (by simpa using h), List.nil_append, onceL, onceL, onceL]
def nmOk (s : Str) : Bool := nameS s && okS s
def nN (k : Nat) : Str := "n" ++ Str.ofString (toString ((k : Nat) : Int))
theorem nN_ok : ∀ k, k < 64 → nmOk (nN k) = true := by decide +kernel
theorem nN_inj : ∀ i, i < 64 → ∀ j, j < 64 → nN i = nN j → i = j := by decide +kernel
theorem len_sub : ∀ {xs ys : List Str}, xs.Nodup → (∀ x ∈ xs, x ∈ ys) → xs.length ≤ ys.length
  | [], ys, _, _ => Nat.zero_le _
  | x :: xs, ys, h, k => by
    have hx : x ∈ ys := k x (by simp)
    have h' := List.nodup_cons.mp h
    have ih := len_sub (xs := xs) (ys := ys.erase x) h'.2 fun z hz => (List.mem_erase_of_ne (fun e : z = x => h'.1 (by rw [← e]; exact hz))).mpr (k z (by simp [hz]))
    rw [List.length_erase_of_mem hx] at ih
    have : 0 < ys.length := List.length_pos_of_mem hx
    rw [List.length_cons]
    omega
theorem nodup_map_range {f : Nat → Str} : ∀ j, (∀ a, a < j → ∀ b, b < j → f a = f b → a = b) → ((List.range j).map f).Nodup
  | 0, _ => by simp
  | j + 1, h => by
    rw [List.range_succ, List.map_append, List.nodup_append]
    refine ⟨nodup_map_range j fun a ha b hb => h a (by omega) b (by omega), by simp, ?_⟩
    intro x hx y hy e
    subst e
    obtain ⟨a, ha, rfl⟩ := List.mem_map.mp hx
    have ha := List.mem_range.mp ha
    have hy' : f a = f j := by simpa using hy
    have := h a (by omega) j (by omega) hy'
    omega
theorem pigeon {taken : List Str} {l j : Nat} (hb : l + j ≤ 64) (h : ∀ i, i < j → nN (l + i) ∈ taken) : j ≤ taken.length := by
  have := len_sub (xs := (List.range j).map fun i => nN (l + i)) (ys := taken) (nodup_map_range j fun a ha b hb' e => by have := nN_inj _ (by omega) _ (by omega) e; omega) fun x hx => by
    obtain ⟨i, hi, rfl⟩ := List.mem_map.mp hx
    exact h i (List.mem_range.mp hi)
  simpa using this

/-! ### lines that are none but good ones -/
def toldL (ds : List PyData) : List Str := (ds.filter lineT).map lineN
theorem toldL_snoc (ds : List PyData) (d : PyData) : toldL (ds ++ [d]) = toldL ds ++ if lineT d then [lineN d] else [] := by
  unfold toldL
  rw [List.filter_append, List.map_append]
  cases h : lineT d <;> simp [h]
theorem toldL_cons (ds : List PyData) (d : PyData) : toldL (d :: ds) = (if lineT d then [lineN d] else []) ++ toldL ds := by
  unfold toldL
  rw [List.filter_cons]
  cases h : lineT d <;> simp [h]
theorem faultL_snoc : ∀ (ds : List PyData) (d : PyData) (known told : List Str) (i : Nat), faultL known told i ds = none → lineD (known ++ ds.map lineN) (told ++ toldL ds) d = true → faultL known told i (ds ++ [d]) = none
  | [], d, known, told, i, _, h => by
    rw [List.nil_append, faultL]
    rw [List.map_nil, List.append_nil, show toldL [] = [] from rfl, List.append_nil] at h
    rw [if_pos h, faultL]
  | e :: ds, d, known, told, i, h1, h => by
    rw [List.cons_append, faultL]
    rw [faultL] at h1
    by_cases hl : lineD known told e = true
    · rw [if_pos hl] at h1 ⊢
      refine faultL_snoc ds d _ _ _ h1 ?_
      rw [List.map_cons, toldL_cons] at h
      rw [List.append_assoc, List.append_assoc]
      exact h
    · rw [if_neg hl] at h1
      cases h1
mutual
theorem exprD_congr {k k' : List Str} (h : ∀ s, s ∈ k ↔ s ∈ k') : ∀ d : PyData, exprD k d = exprD k' d
  | .str s => by rw [exprD, exprD]; exact decide_eq_decide.mpr (h s)
  | .list ds => by rw [exprD, exprD]; exact exprL_congr h ds
  | .tuple ds => by rw [exprD, exprD]; exact exprL_congr h ds
  | .none => by simp [exprD]
  | .bool _ => by simp [exprD]
  | .int _ => by simp [exprD]
  | .dict _ => by simp [exprD]
theorem exprL_congr {k k' : List Str} (h : ∀ s, s ∈ k ↔ s ∈ k') : ∀ ds : List PyData, exprL k ds = exprL k' ds
  | [] => by rw [exprL, exprL]
  | d :: ds => by rw [exprL, exprL, exprs_congr h ds]
theorem exprs_congr {k k' : List Str} (h : ∀ s, s ∈ k ↔ s ∈ k') : ∀ ds : List PyData, exprs k ds = exprs k' ds
  | [] => by rw [exprs, exprs]
  | d :: ds => by rw [exprs, exprs, exprD_congr h d, exprs_congr h ds]
end
theorem nmIn_congr {k k' : List Str} (h : ∀ s, s ∈ k ↔ s ∈ k') (d : PyData) : nmIn k d = nmIn k' d := by
  cases d with
  | str s => exact decide_eq_decide.mpr (h s)
  | _ => rfl
theorem lineD_congr {k k' t t' : List Str} (h : ∀ s, s ∈ k ↔ s ∈ k') (g : ∀ s, s ∈ t ↔ s ∈ t') (d : PyData) : lineD k t d = lineD k' t' d := by
  unfold lineD
  cases items d with
  | none => rfl
  | some ds =>
    match ds with
    | [] => rfl
    | [_] => rfl
    | [a, b] => simp only [lineL]; rw [nmIn_congr h, nmIn_congr g]
    | [a, b, e] => simp only [lineL]; rw [exprD_congr h]
    | _ :: _ :: _ :: _ :: _ => rfl
mutual
/-- texts, rows of such -/
def txt : PyData → Bool
  | .str _ => true
  | .list ds => txts ds
  | .tuple ds => txts ds
  | .none => false
  | .bool _ => false
  | .int _ => false
  | .dict _ => false
def txts : List PyData → Bool
  | [] => true
  | d :: ds => txt d && txts ds
end
theorem txts_iff : ∀ {ds : List PyData}, txts ds = true ↔ ∀ d ∈ ds, txt d = true
  | [] => by simp [txts]
  | d :: ds => by rw [txts, Bool.and_eq_true, txts_iff (ds := ds)]; simp
structure InvL (known told : List Str) (ds : List PyData) : Prop where
  f : faultL [] [] 0 ds = none
  kk : ∀ s, s ∈ known ↔ s ∈ ds.map lineN
  mt : ∀ s, s ∈ told ↔ s ∈ toldL ds
  nk : known.Nodup
  tk : ∀ s ∈ told, s ∈ known
  td : told.Nodup
  nm : ∀ s ∈ known, nmOk s = true
  good : ∀ d ∈ ds, ok 6 d = true ∧ tupD d = d ∧ txt d = true ∧ size d ≤ 200
theorem InvL.nil : InvL [] [] [] := ⟨rfl, by simp, by simp [toldL], by simp, by simp, by simp, by simp, by simp⟩
def readD (s : Str) : PyData := .tuple [.str "read", .str s]
def tellD (s : Str) : PyData := .tuple [.str "tell", .str s]
def giveD (s : Str) (e : PyData) : PyData := .tuple [.str "give", .str s, e]
section
variable {known told : List Str} {ds : List PyData} {s : Str} {e : PyData}
theorem InvL.line (I : InvL known told ds) {d : PyData} (h : lineD known told d = true) : faultL [] [] 0 (ds ++ [d]) = none := by
  refine faultL_snoc ds d [] [] 0 I.f ?_
  rw [List.nil_append, List.nil_append, ← lineD_congr I.kk I.mt]
  exact h
theorem nmOk_iff : nmOk s = true ↔ nameS s = true ∧ okS s = true := by unfold nmOk; rw [Bool.and_eq_true]
theorem ok_row2 {a b : Str} (ha : okS a = true) (hb : okS b = true) : ok 6 (.tuple [.str a, .str b]) = true := by
  rw [ok_tuple, oks_cons, oks_cons, ok_str, ok_str]
  exact ⟨⟨ha, hb, by rw [oks]⟩, by simp⟩
theorem InvL.read (I : InvL known told ds) (hs : nmOk s = true) (hn : s ∉ known) : InvL (known ++ [s]) told (ds ++ [readD s]) := by
  have hn' := nmOk_iff.mp hs
  refine ⟨I.line ?_, ?_, ?_, ?_, ?_, I.td, ?_, ?_⟩
  · simp [lineD, items, readD, lineL, nameD, hn'.1, isS, nmIn, hn]
  · intro z
    rw [List.map_append, List.mem_append, List.mem_append, I.kk]
    simp [lineN, readD, items]
  · intro z
    rw [toldL_snoc, show lineT (readD s) = false from by simp [lineT, readD, items, isS]; decide]
    simpa using I.mt z
  · rw [List.nodup_append]
    exact ⟨I.nk, by simp, fun a ha b hb e => hn (by have : b = s := by simpa using hb
                                                    rw [← this, ← e]; exact ha)⟩
  · exact fun z hz => List.mem_append_left _ (I.tk z hz)
  · intro z hz
    rcases List.mem_append.mp hz with h | h
    · exact I.nm z h
    · rw [List.mem_singleton.mp h]; exact hs
  · intro d hd
    rcases List.mem_append.mp hd with h | h
    · exact I.good d h
    · rw [List.mem_singleton.mp h]
      exact ⟨ok_row2 (by decide +kernel) hn'.2, by simp [readD, tupD, tups], by simp [readD, txt, txts], by simp [readD, size, sizes]⟩
theorem InvL.tell (I : InvL known told ds) (hs : s ∈ known) (hn : s ∉ told) : InvL known (told ++ [s]) (ds ++ [tellD s]) := by
  have hn' := nmOk_iff.mp (I.nm s hs)
  refine ⟨I.line ?_, ?_, ?_, I.nk, ?_, ?_, I.nm, ?_⟩
  · simp [lineD, items, tellD, lineL, nameD, hn'.1, isS, nmIn, hn, hs]
  · intro z
    rw [List.map_append, List.mem_append, ← I.kk]
    constructor
    · exact fun h => .inl h
    · rintro (h | h)
      · exact h
      · have : z = s := by simpa [lineN, tellD, items] using h
        rw [this]; exact hs
  · intro z
    rw [toldL_snoc, show lineT (tellD s) = true from by simp [lineT, tellD, items, isS], if_pos rfl, List.mem_append, List.mem_append, I.mt]
    simp [lineN, tellD, items]
  · intro z hz
    rcases List.mem_append.mp hz with h | h
    · exact I.tk z h
    · rw [List.mem_singleton.mp h]; exact hs
  · rw [List.nodup_append]
    exact ⟨I.td, by simp, fun a ha b hb e => hn (by have : b = s := by simpa using hb
                                                    rw [← this, ← e]; exact ha)⟩
  · intro d hd
    rcases List.mem_append.mp hd with h | h
    · exact I.good d h
    · rw [List.mem_singleton.mp h]
      exact ⟨ok_row2 (by decide +kernel) hn'.2, by simp [tellD, tupD, tups], by simp [tellD, txt, txts], by simp [tellD, size, sizes]⟩
theorem InvL.give (I : InvL known told ds) (hs : nmOk s = true) (he : exprD known e = true) (ho : ok 5 e = true) (ht : tupD e = e) (hx : txt e = true) (hz : size e ≤ 150) : InvL (if s ∈ known then known else known ++ [s]) told (ds ++ [giveD s e]) := by
  have hn' := nmOk_iff.mp hs
  have hmem : ∀ z, z ∈ (if s ∈ known then known else known ++ [s]) ↔ z ∈ known ∨ z = s := fun z => by
    by_cases h : s ∈ known
    · rw [if_pos h]
      exact ⟨fun k => .inl k, fun k => k.elim id fun k => k ▸ h⟩
    · rw [if_neg h]; simp
  refine ⟨I.line ?_, ?_, ?_, ?_, ?_, I.td, ?_, ?_⟩
  · simp [lineD, items, giveD, lineL, nameD, hn'.1, isS, he]
  · intro z
    rw [hmem, List.map_append, List.mem_append, ← I.kk]
    simp [lineN, giveD, items]
  · intro z
    rw [toldL_snoc, show lineT (giveD s e) = false from by simp [lineT, giveD, items, isS]; decide]
    simpa using I.mt z
  · by_cases h : s ∈ known
    · rw [if_pos h]; exact I.nk
    · rw [if_neg h, List.nodup_append]
      exact ⟨I.nk, by simp, fun a ha b hb e => h (by have : b = s := by simpa using hb
                                                     rw [← this, ← e]; exact ha)⟩
  · exact fun z hz => (hmem z).mpr (.inl (I.tk z hz))
  · intro z hz
    rcases (hmem z).mp hz with h | h
    · exact I.nm z h
    · rw [h]; exact hs
  · intro d hd
    rcases List.mem_append.mp hd with h | h
    · exact I.good d h
    · rw [List.mem_singleton.mp h]
      refine ⟨?_, by simp [giveD, tupD, tups, ht], by simp [giveD, txt, txts, hx], by simp [giveD, size, sizes]; omega⟩
      unfold giveD
      rw [ok_tuple, oks_cons, oks_cons, oks_cons, ok_str, ok_str]
      exact ⟨⟨by decide +kernel, hn'.2, ho, by rw [oks]⟩, by simp⟩
theorem InvL.tells : ∀ {zs : List Str} {told : List Str} {ds : List PyData}, InvL known told ds → zs.Nodup → (∀ z ∈ zs, z ∈ known ∧ z ∉ told) → InvL known (told ++ zs) (ds ++ zs.map tellD)
  | [], told, ds, I, _, _ => by simpa using I
  | z :: zs, told, ds, I, h, k => by
    have h' := List.nodup_cons.mp h
    have J := I.tell (k z (by simp)).1 (k z (by simp)).2
    have := InvL.tells (zs := zs) J h'.2 fun y hy => ⟨(k y (by simp [hy])).1, fun m => by
      rcases List.mem_append.mp m with m | m
      · exact (k y (by simp [hy])).2 m
      · have : y = z := by simpa using m
        exact h'.1 (this ▸ hy)⟩
    rw [List.append_assoc, List.append_assoc] at this
    exact this
end
/-- a drawn source's lines -/
structure GoodL (ds : List PyData) : Prop where
  f : faultL [] [] 0 ds = none
  l2 : 2 ≤ ds.length
  l20 : ds.length ≤ 20
  good : ∀ d ∈ ds, ok 6 d = true ∧ tupD d = d ∧ txt d = true ∧ size d ≤ 200

/-! ### promises -/
def spOnce : Sp := fun vs H Q _ => ∃ (l : Addr) (zs : List Str), vs = [.ref l] ∧ StrsAt H l zs ∧ zs.length ≤ 1000 ∧ ∀ r H', H r = none → StrsAt H' r (onceL [] zs) → ExF [] H H' → Q (.ref r) H'
/-- a name that is none of those -/
def spAName : Sp := fun vs H Q _ => ∃ (st cl : Addr) (c : Nat) (l : Addr) (taken : List Str), vs = [.ref st, .ref l] ∧ Strm st cl H c ∧ c < 2 ^ 48 ∧ StrsAt H l taken ∧ l ≠ st ∧ l ≠ cl ∧ taken.length ≤ 20 ∧
  ∀ s H', nmOk s = true → s ∉ taken → Strm st cl H' (c + 1) → ExF [st, cl] H H' → Q (.str s) H'
def eCost : Nat → Nat
  | 0 => 3
  | n + 1 => 3 + 3 * eCost n
/-- an expr, fewer than m deep -/
def spAExpr (m : Nat) : Sp := fun vs H Q _ => ∃ (st cl : Addr) (c : Nat) (kn on : Addr) (known ops : List Str) (n : Nat) (G : List Addr), vs = [.ref st, .ref kn, .ref on, .int (n : Int)] ∧ n < m ∧ n ≤ 4 ∧ Strm st cl H c ∧ c + eCost n < 2 ^ 48 ∧
  StrsAt H kn known ∧ StrsAt H on ops ∧ kn ∉ [st, cl] ∧ on ∉ [st, cl] ∧ (∀ s ∈ known, nmOk s = true) ∧ (∀ s ∈ ops, nmOk s = true) ∧ ops ≠ [] ∧ known.length ≤ 100 ∧ ops.length ≤ 100 ∧ Trk G H ∧
  ∀ v d c' H', c ≤ c' → c' ≤ c + eCost n → Strm st cl H' c' → ExF [st, cl] H H' → Rp G H' v d → exprD known d = true → tupD d = d → ok (n + 1) d = true → txt d = true → size d ≤ eCost n → Q v H'
/-- a source's lines -/
def spALines : Sp := fun vs H Q _ => ∃ (st cl : Addr) (c : Nat) (n e : Nat) (G : List Addr), vs = [.ref st, .int (n : Int), .int (e : Int)] ∧ 2 ≤ n ∧ n ≤ 10 ∧ e ≤ 3 ∧ Strm st cl H c ∧ c + 5000 < 2 ^ 48 ∧ Trk G H ∧
  ∀ r xs ds c' H', c ≤ c' → c' ≤ c + 5000 → Strm st cl H' c' → ExF [st, cl] H H' → H r = none → H' r = some (.lst xs) → RpL G H' xs ds → GoodL ds → Q (.ref r) H'
end Tw
end

section
set_option Elab.async false
set_option linter.all false
set_option maxRecDepth 100000
set_option maxHeartbeats 4000000
namespace Tw
open PySem L2 PyProof.Rows
noncomputable def t_l_each_once_b1 (K : PySem.W.Frag) : TS := tIfS (tB (tNotInU K (tVar 2) (tVar 1))) (tDrop (tBM K "list" (rAppendU) (tVar 1) (tCons (tVar 2) (tNil)))) (tNext)
noncomputable def t_l_each_once_t2 (K : PySem.W.Frag) : TS := tRet (tVar 1)
noncomputable def t_l_each_once_t1 (K : PySem.W.Frag) : TS := tSeq (tForU (iSeqU K (tVar 0)) (gName 2) (t_l_each_once_b1 K)) (t_l_each_once_t2 K)
noncomputable def t_l_each_once (K : PySem.W.Frag) : TS := tSeq (tAsg (tLstU (tNil)) (gName 1)) (t_l_each_once_t1 K)
noncomputable def t_l_a_name_b2 (K : PySem.W.Frag) : TS := tAsg (tOp (rAddU K) (tVar 4) (tC (.int 1))) (gName 4)
noncomputable def t_l_a_name_t3 (K : PySem.W.Frag) : TS := tRet (tCall spPick [] E0 (tCons (tVar 0) (tCons (tOp (rAddU K) (tVar 3) (tLstU (tCons (tOp (rAddU K) (tC (.str "n")) (tCB (rStr1) (tCons (tVar 4) (tNil)))) (tNil)))) (tNil))))
noncomputable def t_l_a_name_t2 (K : PySem.W.Frag) : TS := tSeq (tWhile (tB (tInU K (tOp (rAddU K) (tC (.str "n")) (tCB (rStr1) (tCons (tVar 4) (tNil)))) (tVar 1))) (t_l_a_name_b2 K)) (t_l_a_name_t3 K)
noncomputable def t_l_a_name_t1 (K : PySem.W.Frag) : TS := tSeq (tPar 3 4 (tCons (tLcU (iSeqU K (tVar 2)) (gName 5) (tB (tNotInU K (tVar 5) (tVar 1))) (tVar 5) [5]) (tCons (tCB (rLenU K) (tCons (tVar 1) (tNil))) (tNil)))) (t_l_a_name_t2 K)
noncomputable def t_l_a_name (K : PySem.W.Frag) : TS := tSeq (tAsg (tLt (.lst [.str "a", .str "b", .str "x", .str "y1", .str "zed", .str "k9", .str "eightsgn", .str "eightsg", .str "q", .str "m", .str "u2", .str "reads", .str "tella", .str "rea", .str "t"])) (gName 2)) (t_l_a_name_t1 K)
noncomputable def t_l_a_expr_t3 (K : PySem.W.Frag) (m : Nat) : TS := tRet (tCB (rTupOf K) (tCons (tOp (rAddU K) (tLstU (tCons (tCall spPick [] E0 (tCons (tVar 0) (tCons (tVar 2) (tNil)))) (tNil))) (tLcU (iRng1 (tCons (tVar 5) (tNil))) (gName 6) (tYes) (tCall (spAExpr m) [] E0 (tCons (tVar 0) (tCons (tVar 1) (tCons (tVar 2) (tCons (tCB (rMax2) (tCons (tC (.int 0)) (tCons (tOp (rI0 fun i j => .int (i - j)) (tVar 3) (tC (.int 1))) (tNil)))) (tNil)))))) [6])) (tNil)))
noncomputable def t_l_a_expr_t2 (K : PySem.W.Frag) (m : Nat) : TS := tSeq (tAsg (tIf (tAnd (tTest (tOp (rEqU K) (tVar 1) (tLt (.lst [])))) (tTest (tOp (rEqU K) (tVar 3) (tC (.int 0))))) (tC (.int 0)) (tCall spPick [] E0 (tCons (tVar 0) (tCons (tLt (.lst [.int 0, .int 1, .int 1, .int 2, .int 2, .int 2, .int 3])) (tNil))))) (gName 5)) (t_l_a_expr_t3 K m)
noncomputable def t_l_a_expr_t1 (K : PySem.W.Frag) (m : Nat) : TS := tSeq (tIfS (tAnd (tTest (tOp (rNeU K) (tVar 1) (tLt (.lst [])))) (tOr (tTest (tOp (rEqU K) (tVar 3) (tC (.int 0)))) (tTest (tOp (rEqU K) (tVar 4) (tC (.int 0)))))) (tRet (tCall spPick [] E0 (tCons (tVar 0) (tCons (tVar 1) (tNil))))) (tNext)) (t_l_a_expr_t2 K m)
noncomputable def t_l_a_expr (K : PySem.W.Frag) (m : Nat) : TS := tSeq (tAsg (tCall spDraw [] E0 (tCons (tVar 0) (tCons (tC (.int 4)) (tNil)))) (gName 4)) (t_l_a_expr_t1 K m)
noncomputable def t_l_a_lines_b2 (K : PySem.W.Frag) : TS := tSeq (tDrop (tBM K "list" (rAppendU) (tVar 4) (tCons (tTupU (tCons (tC (.str "read")) (tCons (tCall spAName [] E0 (tCons (tVar 0) (tCons (tVar 5) (tNil)))) (tNil)))) (tNil))))
      (tDrop (tBM K "list" (rAppendU) (tVar 5) (tCons (tOp (rIxU K) (tOp (rIxU K) (tVar 4) (tUn (rU fun i => .int (-i)) (tC (.int 1)))) (tC (.int 1))) (tNil))))
noncomputable def t_l_a_lines_b3 (K : PySem.W.Frag) : TS := tSeq (tPar 8 9 (tCons (tCall spDraw [] E0 (tCons (tVar 0) (tCons (tC (.int 12)) (tNil)))) (tCons (tLcU (iSeqU K (tVar 5)) (gName 10) (tB (tNotInU K (tVar 10) (tVar 6))) (tVar 10) [10]) (tNil))))
      (tSeq (tIfS (tTest (tOp (rEqU K) (tVar 8) (tC (.int 0)))) (tDrop (tBM K "list" (rAppendU) (tVar 4) (tCons (tTupU (tCons (tC (.str "read")) (tCons (tCall spAName [] E0 (tCons (tVar 0) (tCons (tVar 5) (tNil)))) (tNil)))) (tNil)))) (tIfS (tAnd (tTest (tOp (rEqU K) (tVar 8) (tC (.int 1)))) (tTest (tOp (rNeU K) (tVar 9) (tLstU (tNil))))) (tSeq (tDrop (tBM K "list" (rAppendU) (tVar 4) (tCons (tTupU (tCons (tC (.str "tell")) (tCons (tCall spPick [] E0 (tCons (tVar 0) (tCons (tVar 9) (tNil)))) (tNil)))) (tNil))))
      (tDrop (tBM K "list" (rAppendU) (tVar 6) (tCons (tOp (rIxU K) (tOp (rIxU K) (tVar 4) (tUn (rU fun i => .int (-i)) (tC (.int 1)))) (tC (.int 1))) (tNil))))) (tSeq (tAsg (tIf (tAnd (tTest (tOp (rNeU K) (tVar 5) (tLstU (tNil)))) (tTest (tOp (rI0 fun i j => .bl (decide (i < j))) (tVar 8) (tC (.int 5))))) (tCall spPick [] E0 (tCons (tVar 0) (tCons (tVar 5) (tNil)))) (tCall spAName [] E0 (tCons (tVar 0) (tCons (tVar 5) (tNil))))) (gName 10))
      (tDrop (tBM K "list" (rAppendU) (tVar 4) (tCons (tTupU (tCons (tC (.str "give")) (tCons (tVar 10) (tCons (tCall (spAExpr 5) [] E0 (tCons (tVar 0) (tCons (tVar 5) (tCons (tVar 3) (tCons (tVar 2) (tNil)))))) (tNil))))) (tNil)))))))
      (tAsg (tCall spOnce [] E0 (tCons (tOp (rAddU K) (tVar 5) (tLstU (tCons (tOp (rIxU K) (tOp (rIxU K) (tVar 4) (tUn (rU fun i => .int (-i)) (tC (.int 1)))) (tC (.int 1))) (tNil)))) (tNil))) (gName 5)))
noncomputable def t_l_a_lines_t5 (K : PySem.W.Frag) : TS := tRet (tOp (rAddU K) (tVar 4) (tLcU (iSeqU K (tSl (rSlU K) (tVar 9) (tNoPart) (tPart (tCall spPick [] E0 (tCons (tVar 0) (tCons (tLt (.lst [.int 0, .int 1, .int 1, .int 1, .int 2, .int 2, .int 3])) (tNil))))))) (gName 10) (tYes) (tLt (.tup [.str "tell", .var 10])) [10]))
noncomputable def t_l_a_lines_t4 (K : PySem.W.Frag) : TS := tSeq (tAsg (tCall spMixed [] E0 (tCons (tVar 0) (tCons (tLcU (iSeqU K (tVar 5)) (gName 10) (tB (tNotInU K (tVar 10) (tVar 6))) (tVar 10) [10]) (tNil)))) (gName 9)) (t_l_a_lines_t5 K)
noncomputable def t_l_a_lines_t3 (K : PySem.W.Frag) : TS := tSeq (tForU (iRng1 (tCons (tVar 1) (tNil))) (gName 7) (t_l_a_lines_b3 K)) (t_l_a_lines_t4 K)
noncomputable def t_l_a_lines_t2 (K : PySem.W.Frag) : TS := tSeq (tForU (iRng1 (tCons (tCall spDraw [] E0 (tCons (tVar 0) (tCons (tC (.int 4)) (tNil)))) (tNil))) (gName 7) (t_l_a_lines_b2 K)) (t_l_a_lines_t3 K)
noncomputable def t_l_a_lines_t1 (K : PySem.W.Frag) : TS := tSeq (tAsg (tTupU (tCons (tLstU (tNil)) (tCons (tLstU (tNil)) (tCons (tLstU (tNil)) (tNil))))) (gTup K 3 (gCons (gName 4) (gCons (gName 5) (gCons (gName 6) (gNil)))))) (t_l_a_lines_t2 K)
noncomputable def t_l_a_lines (K : PySem.W.Frag) : TS := tSeq (tAsg (tSl (rSlU K) (tCall spMixed [] E0 (tCons (tVar 0) (tCons (tLt (.lst [.str "f", .str "g", .str "h", .str "mul", .str "a", .str "k"])) (tNil)))) (tNoPart) (tPart (tOp (rAddU K) (tC (.int 1)) (tCall spDraw [] E0 (tCons (tVar 0) (tCons (tC (.int 3)) (tNil))))))) (gName 3)) (t_l_a_lines_t1 K)

/-- for k in range(n): what a tForU over it asks -/
theorem forRg {D : Ends} {σ : L2.St} {H : Hp} {tb : TS} {k n : Nat} (Pv : Nat → L2.St → Hp → Prop) (h0 : Pv 0 σ H)
    (hs : ∀ i σ' H', i < n → Pv i σ' H' → tb { D with nx := Pv (i + 1), ct := Pv (i + 1), bk := D.nx } (σ'.set k (some (.int (0 + (i : Nat))))) H') (hd : ∀ σ' H', Pv n σ' H' → D.nx σ' H') :
    ∃ W : Nat → Nat → L2.St → Hp → Prop, (∃ m, W 0 m σ H) ∧ ∀ i m σ H, W i m σ H →
      ((Itr 0 ((n : Int)).toNat).stop i H ∧ D.nx σ H) ∨ ((Itr 0 ((n : Int)).toNat).go i H ∧ ∃ N : L2.St → Hp → Prop, (∀ σ' H', N σ' H' → ∃ m', m' < m ∧ W (i + 1) m' σ' H') ∧ ∀ x H', (Itr 0 ((n : Int)).toNat).yld i H x H' → gName k x σ H' fun σ2 H2 => tb { D with nx := N, ct := N, bk := D.nx } σ2 H2) := by
  have en : ((n : Int)).toNat = n := by omega
  rw [en]
  exact for_range Pv h0 hs hd
/-- [te for k in range(x)], x a name -/
theorem lcRV {i n : Nat} {g : TG} {tt : TT} {te : TE} {vs : List Nat} {σ : L2.St} {H : Hp} {Q : VK} (hv : σ[i]? = some (some (.int (n : Int)))) (hn : n < 2 ^ 62) (Pv : Addr → Nat → Hp → Prop)
    (h0 : ∀ D H', H D = none → H' = upd H D (.lst []) → Pv D 0 H')
    (hs : ∀ D i H', H D = none → i < n → Pv D i H' → g (.int (0 + (i : Nat))) (wipe σ vs) H' fun σ2 H2 => wipe σ2 vs = wipe σ vs ∧ tt σ2 H2 fun b H3 =>
      if b = true then te σ2 H3 fun y H4 => ∃ acc, H4 D = some (.lst acc) ∧ acc.length < sizeLine ∧ Pv D (i + 1) (upd H4 D (.lst (acc ++ [y]))) else Pv D (i + 1) H3)
    (hd : ∀ D H', H D = none → Pv D n H' → Q (.ref D) H') : tLcU (iRng1 (tCons (tVar i) tNil)) g tt te vs σ H Q := by
  unfold tLcU
  refine ⟨_, hv, (n : Int), rfl, by omega, by omega, ?_⟩
  have en : ((n : Int)).toNat = n := by omega
  rw [en]
  exact lcR Pv h0 hs hd
/-- a list at a known place -/
def iAt (K : PySem.W.Frag) (a : Addr) : TI := fun _ H R => R (Itl K a) H
theorem iter_at {K : PySem.W.Frag} {M : List Addr} {σ : L2.St} {H : Hp} {a : Addr} {xs : List V} (ha : H a = some (.lst xs)) (hM : a ∉ M) : IterS M (iAt K a) σ H xs := fun R h => h _ a _ H wkL ha hM ExF.refl
/-- what a comprehension over it asks -/
theorem lcAt {K : PySem.W.Frag} {a D : Addr} {g : TG} {tt : TT} {te : TE} {vs : List Nat} {σ : L2.St} {H : Hp} {Qd : Hp → Prop} (hD : H D = none) (h : tLcU (iAt K a) g tt te vs σ H fun v H' => v = .ref D → Qd H') :
    ∃ W : Nat → Nat → Hp → Prop, (∃ m, W 0 m (upd H D (.lst []))) ∧ ∀ i m H, W i m H →
      ((Itl K a).stop i H ∧ Qd H) ∨ ((Itl K a).go i H ∧ ∃ Nx : Hp → Prop, (∀ H', Nx H' → ∃ m', m' < m ∧ W (i + 1) m' H') ∧ ∀ x H', (Itl K a).yld i H x H' → g x (wipe σ vs) H' fun σ2 H2 => wipe σ2 vs = wipe σ vs ∧ tt σ2 H2 fun b H3 =>
        if b = true then te σ2 H3 fun y H4 => ∃ acc, H4 D = some (.lst acc) ∧ acc.length < sizeLine ∧ Nx (upd H4 D (.lst (acc ++ [y]))) else Nx H3) := by
  unfold tLcU tLc iAt at h
  obtain ⟨W, h0, hs⟩ := h D hD
  exact ⟨W, h0, fun i m H w => (hs i m H w).imp (fun ⟨a, b⟩ => ⟨a, b rfl⟩) id⟩
theorem ne_strs {H : Hp} {a p : Addr} {zs : List Str} (h : StrsAt H a zs) (hp : H p = none) : a ≠ p := ne_of_none h hp
theorem StrsAt.ex {H H' : Hp} {F : List Addr} {a : Addr} {zs : List Str} (h : StrsAt H a zs) (x : ExF F H H') (n : a ∉ F) : StrsAt H' a zs := x.at_ _ _ n h
theorem rd_l_each_once (K : PySem.W.Frag) {vs : List V} {H : Hp} {Q : VK} {E : XK} (h : spOnce vs H Q E) :
    t_l_each_once K { nx := fun _ H' => Q .non H', rt := Q } (start ["_law_things", "_law_found", "_law_thing"] vs) H := by
  obtain ⟨l, zs, rfl, hl, hn, q⟩ := h
  have sz : sizeLine = 16777216 := sizeLine_eq
  refine ⟨by decide, fun p H1 hp e1 => ?_⟩
  have nlp : l ≠ p := ne_strs hl hp
  refine forS (xs := zs.map V.str) (M := [p]) (iter_var (a := l) rfl (.inl (eqf e1 hp hl)) (by simpa using nlp))
    (fun H2 i σ H' => ∃ (acc : List Str) (u : Option V), σ = [some (.ref l), some (.ref p), u] ∧ StrsAt H' p acc ∧ onceL [] zs = onceL acc (zs.drop i) ∧ acc.length ≤ i ∧ ExF [p] H2 H') ?_ (fun H2 i σ' H' ⟨_, _, _, _, _, _, x⟩ => x) ?_ ?_
  · intro H2 x2
    exact ⟨[], none, rfl, x2.at_ _ _ (by simp) (eqs e1), rfl, Nat.le_refl _, ExF.refl⟩
  · rintro H2 i x σ' H3 x2 hx ⟨acc, u, rfl, ha, ho, hlen, x3⟩
    rw [List.getElem?_map] at hx
    cases hz : zs[i]? with
    | none => rw [hz] at hx; cases hx
    | some z =>
      rw [hz] at hx
      cases hx
      have hi := (List.getElem?_eq_some_iff.mp hz).1
      have hdrop : zs.drop i = z :: zs.drop (i + 1) := by
        rw [List.drop_eq_getElem_cons hi]
        congr 1
        exact (List.getElem?_eq_some_iff.mp hz).2
      rw [hdrop, onceL] at ho
      refine .inl ⟨_, rfl, _, rfl, notInStrs ha ⟨_, rfl, ?_⟩⟩
      by_cases hm : z ∈ acc
      · rw [if_pos hm] at ho
        rw [decide_eq_true hm]
        refine iteF ?_
        exact ⟨acc, _, rfl, ha, ho, by omega, x3⟩
      · rw [if_neg hm] at ho
        rw [decide_eq_false hm]
        refine iteT ?_
        refine ⟨_, rfl, tyL ha, _, rfl, ?_⟩
        refine app ha (by rw [List.length_map, sz]; omega) fun H4 e4 => ?_
        refine ⟨acc ++ [z], _, rfl, ?_, ho, by simp; omega, exm e4 (.inr (by simp)) x3⟩
        have := eqs e4
        unfold StrsAt
        rw [this, List.map_append]
        rfl
  · rintro H2 σ' H3 x2 ⟨acc, u, rfl, ha, ho, hlen, x3⟩
    rw [List.length_map, List.drop_length, onceL] at ho
    refine ⟨_, rfl, q p H3 hp (by rw [ho]; exact ha) ?_⟩
    exact ((exn (F := [p]) e1 hp).trans (x2.of.trans x3)).drop hp
abbrev someN : List Str := ["a", "b", "x", "y1", "zed", "k9", "eightsgn", "eightsg", "q", "m", "u2", "reads", "tella", "rea", "t"]
theorem someN_ok : ∀ s ∈ someN, nmOk s = true := by decide +kernel
theorem num_len : ∀ k, k < 64 → (Str.ofString (toString ((k : Nat) : Int))).length ≤ 10 := by decide +kernel
theorem log2_small {n : Nat} (h : n < 1000) : ((n : Int)).natAbs.log2 < 1920 := by
  have := Nat.log2_le_self ((n : Int)).natAbs
  omega
theorem rd_l_a_name (K : PySem.W.Frag) {vs : List V} {H : Hp} {Q : VK} {E : XK} (h : spAName vs H Q E) :
    t_l_a_name K { nx := fun _ H' => Q .non H', rt := Q } (start ["_law_stream", "_law_taken", "_law_some", "_law_left", "_law_number", "_law_name"] vs) H := by
  obtain ⟨st, cl, c, l, taken, rfl, S, hc, hl, n1, n2, hn, q⟩ := h
  have sz : sizeLine = 16777216 := sizeLine_eq
  refine lit0 [] rfl Trk.nil fun v H1 x1 r1 => ?_
  have r1 : Rp [] H1 v (.list (someN.map PyData.str)) := r1
  obtain ⟨a, xs, rfl, _, ha, rx⟩ := r1.list_inv
  have rx := rx.all_str
  subst rx
  refine lcFil (zs := someN) (fun z => !decide (z ∈ taken)) (iter_var (a := a) rfl (.inl ha) (by simp)) (by rw [sz]; decide) (by show 5 < 6; decide) rfl ?_ ?_
  · intro D z H2 hz x2 Qc k
    exact .inl ⟨_, rfl, _, rfl, notInStrs ((x1.trans x2).at_ _ _ (by simp) hl) ⟨_, rfl, k H2 ExF.refl⟩⟩
  intro lf H2 hlf hf x2
  have x02 := x1.trans x2
  have hl2 : StrsAt H2 l taken := x02.at_ _ _ (by simp) hl
  refine ⟨_, rfl, lenL hl2 ⟨_, _, rfl, ?_⟩⟩
  rw [List.length_map]
  refine ⟨fun m σ H' => ∃ (j : Nat) (u : Option V), m = taken.length - j ∧ j ≤ taken.length ∧ σ = [some (.ref st), some (.ref l), some (.ref a), some (.ref lf), some (.int ((taken.length + j : Nat) : Int)), u] ∧ (∀ i, i < j → nN (taken.length + i) ∈ taken) ∧ ExF [] H2 H',
    ⟨_, 0, none, rfl, Nat.zero_le _, rfl, by omega, ExF.refl⟩, ?_⟩
  rintro m σ H3 ⟨j, u, rfl, hj, rfl, hin, x3⟩
  have hl3 : StrsAt H3 l taken := x3.at_ _ _ (by simp) hl2
  have h64 : taken.length + j < 64 := by omega
  refine .inl ⟨_, rfl, str1 (log2_small (by omega)) ?_⟩
  refine addS (by rw [sz]; have := num_len _ h64; have : ("n" : Str).length = 1 := by decide
                  omega) ⟨_, rfl, inStrs hl3 ⟨_, rfl, ?_⟩⟩
  by_cases hm : nN (taken.length + j) ∈ taken
  · refine ite2 (fun _ => ⟨_, fun _ _ h => h, ?_⟩) (fun h => absurd (decide_eq_true hm) h)
    have hj1 : j + 1 ≤ taken.length := pigeon (l := taken.length) (j := j + 1) (by omega) fun i hi => by
      rcases Nat.lt_or_ge i j with h | h
      · exact hin i h
      · have : i = j := by omega
        rw [this]; exact hm
    refine ⟨_, rfl, addI ?_⟩
    refine ⟨_, (by omega : taken.length - (j + 1) < taken.length - j), j + 1, u, rfl, hj1, rfl, fun i hi => ?_, x3⟩
    rcases Nat.lt_or_ge i j with h | h
    · exact hin i h
    · have : i = j := by omega
      rw [this]; exact hm
  · refine ite2 (fun h => absurd (of_decide_eq_true h) hm) (fun _ => ?_)
    have hf3 := x3.at_ _ _ (by simp) hf
    refine ⟨_, rfl, _, rfl, ⟨_, rfl, str1 (log2_small (by omega)) ?_⟩⟩
    refine addS (by rw [sz]; have := num_len _ h64; have : ("n" : Str).length = 1 := by decide
                    omega) ?_
    refine ⟨by show 1 ≤ sizeLine; decide, fun p4 H4 hp4 e4 => ?_⟩
    have hfl : (someN.filter fun z => !decide (z ∈ taken)).length ≤ 15 := Nat.le_trans (List.length_filter_le _ _) (by decide)
    refine catL (eqf e4 hp4 hf3) (eqs e4) (by rw [List.length_map, sz]; simp only [List.length_cons, List.length_nil]; omega) fun p5 H5 hp5 e5 => ?_
    have x05 : ExF [] H H5 := (x02.trans x3).trans ((exn e4 hp4).trans (exn e5 hp5))
    have S5 : Strm st cl H5 c := S.ex' (by simp) (by simp) x05
    have tr := S.trk.ex ((x02.trans x3).trans (exn (F := []) e4 hp4))
    have np : p5 ∉ [st, cl] := tr.nin hp5
    refine ⟨st, cl, c, p5, _, rfl, S5, hc, .inl (eqs e5), fun e => np (by simp [e]), fun e => np (by simp [e]), by simp, by simp only [List.length_append, List.length_map, List.length_cons, List.length_nil]; omega, fun k v H6 hk S6 x6 => ?_⟩
    have e : ((someN.filter fun z => !decide (z ∈ taken)).map V.str ++ [V.str (nN (taken.length + j))]) = ((someN.filter fun z => !decide (z ∈ taken)) ++ [nN (taken.length + j)]).map V.str := by rw [List.map_append]; rfl
    have hk := List.mem_of_getElem? hk
    have hk : v ∈ ((someN.filter fun z => !decide (z ∈ taken)) ++ [nN (taken.length + j)]).map V.str := by rw [← e]; exact hk
    obtain ⟨s, hs, rfl⟩ := List.mem_map.mp hk
    rcases List.mem_append.mp hs with hs | hs
    · have hs' := List.mem_filter.mp hs
      exact q s H6 (someN_ok s hs'.1) (by simpa using hs'.2) S6 (x05.of.trans x6)
    · rw [List.mem_singleton.mp hs]
      exact q _ H6 (nN_ok _ h64) hm S6 (x05.of.trans x6)

theorem rd_l_a_expr (K : PySem.W.Frag) (m : Nat) {vs : List V} {H : Hp} {Q : VK} {E : XK} (h : spAExpr (m + 1) vs H Q E) :
    t_l_a_expr K m { nx := fun _ H' => Q .non H', rt := Q } (start ["_law_stream", "_law_known", "_law_ops", "_law_deep", "_law_way", "_law_many", "_law_k"] vs) H := by
  obtain ⟨st, cl, c, kn, on, known, ops, n, G, rfl, hnm, hn4, S, hc, hkn, hon, nk, no, okk, oko, hne, lk, lo, tG, q⟩ := h
  have sz : sizeLine = 16777216 := sizeLine_eq
  have hE : 3 ≤ eCost n := by cases n <;> simp [eCost]
  have hp30 : (2 : Nat) ^ 30 = 1073741824 := by decide
  -- a name that is known
  have pick : ∀ (kx : Int) (u5 u6 : Option V) (H2 : Hp), known ≠ [] → Strm st cl H2 (c + 1) → ExF [st, cl] H H2 → tRet (tCall spPick [] E0 (tCons (tVar 0) (tCons (tVar 1) (tNil)))) { nx := fun σ H' => t_l_a_expr_t2 K m { nx := fun _ H' => Q .non H', rt := Q } σ H', rt := Q } [some (.ref st), some (.ref kn), some (.ref on), some (.int (n : Int)), some (.int kx), u5, u6] H2 := by
    intro kx u5 u6 H2 hk S2 x2
    refine ⟨_, rfl, _, rfl, st, cl, c + 1, kn, known.map V.str, rfl, S2, by omega, .inl (hkn.ex x2 nk), fun e => nk (by simp [e]), fun e => nk (by simp [e]), ?_, by rw [List.length_map, hp30]; omega, fun k v H3 hv S3 x3 => ?_⟩
    · rw [List.length_map]; exact List.length_pos_iff.mpr hk
    · obtain ⟨s, hs, rfl⟩ := List.mem_map.mp (List.mem_of_getElem? hv)
      exact q _ (.str s) _ H3 (by omega) (by omega) S3 (x2.trans x3) (.str s) (by rw [exprD]; exact decide_eq_true hs) (by rw [tupD]) (by rw [ok_str]; exact (nmOk_iff.mp (okk s hs)).2) (by rw [txt]) (by rw [size]; omega)
  -- a tuple
  have mk : ∀ (many : Nat) (kx : Int) (u6 : Option V) (c1 : Nat) (H2 : Hp), many ≤ 3 → (many = 0 ∨ 0 < n) → c + 1 ≤ c1 → c1 ≤ c + 2 → Strm st cl H2 c1 → ExF [st, cl] H H2 →
      t_l_a_expr_t3 K m { nx := fun _ H' => Q .non H', rt := Q } [some (.ref st), some (.ref kn), some (.ref on), some (.int (n : Int)), some (.int kx), some (.int (many : Int)), u6] H2 := by
    intro many kx u6 c1 H2 hm hmn g1 g2 S2 x2
    have hEn : c1 + 1 + many * eCost (n - 1) ≤ c + eCost n := by
      rcases hmn with e | e
      · subst e; omega
      · obtain ⟨n', rfl⟩ : ∃ n', n = n' + 1 := ⟨n - 1, by omega⟩
        rw [eCost, Nat.add_sub_cancel]
        have : many * eCost n' ≤ 3 * eCost n' := Nat.mul_le_mul_right _ hm
        omega
    refine ⟨_, rfl, _, rfl, st, cl, c1, on, ops.map V.str, rfl, S2, by omega, .inl (hon.ex x2 no), fun e => no (by simp [e]), fun e => no (by simp [e]), ?_, by rw [List.length_map, hp30]; omega, fun k v H3 hv S3 x3 => ?_⟩
    · rw [List.length_map]; exact List.length_pos_iff.mpr hne
    obtain ⟨s, hs, rfl⟩ := List.mem_map.mp (List.mem_of_getElem? hv)
    refine ⟨by show 1 ≤ sizeLine; decide, fun p4 H4 hp4 e4 => ?_⟩
    have x04 : ExF [st, cl] H H4 := (x2.trans x3).trans (exn e4 hp4)
    have S4 : Strm st cl H4 (c1 + 1) := S3.ex' (F := []) (by simp) (by simp) (exn e4 hp4)
    have t4 : Trk (p4 :: st :: cl :: G) H4 := by
      intro a ha
      rcases List.mem_cons.mp ha with z | z
      · rw [z, eqs e4]; exact fun z => nomatch z
      · rcases List.mem_cons.mp z with z | z
        · rw [z]; exact S4.trk st (by simp)
        · rcases List.mem_cons.mp z with z | z
          · rw [z]; exact S4.trk cl (by simp)
          · exact x04.kept a (tG a z)
    refine lcRV (n := many) rfl (by omega) (fun D i H' => ∃ (acc : List V) (ds : List PyData) (c' : Nat), acc.length = i ∧ H' D = some (.lst acc) ∧ RpL (D :: p4 :: st :: cl :: G) H' acc ds ∧ c1 + 1 ≤ c' ∧ c' ≤ c1 + 1 + i * eCost (n - 1) ∧ Strm st cl H' c' ∧ (∀ d ∈ ds, exprD known d = true ∧ tupD d = d ∧ ok n d = true ∧ txt d = true) ∧ sizes ds ≤ i * eCost (n - 1) ∧ ExF [D, st, cl] H4 H') ?_ ?_ ?_
    · intro D H5 hD e5
      exact ⟨[], [], c1 + 1, rfl, eqs e5, .nil, Nat.le_refl _, by omega, S4.ex' (F := []) (by simp) (by simp) (exn e5 hD), by simp, by simp [sizes], exn e5 hD⟩
    · rintro D i H5 hD hi ⟨acc, ds, c', ha, hH, rx, l1, l2, S5, hds, hsz, x5⟩
      have n0 : 0 < n := by omega
      refine ⟨rfl, ?_⟩
      unfold tYes
      dsimp only
      rw [if_pos rfl]
      refine ⟨_, rfl, _, rfl, _, rfl, _, rfl, _, _, rfl, rfl, max2 ?_⟩
      have e : (if (n : Int) - 1 > 0 then (n : Int) - 1 else 0) = ((n - 1 : Nat) : Int) := by split <;> omega
      have hb : c' + eCost (n - 1) < 2 ^ 48 := by
        have : i * eCost (n - 1) + eCost (n - 1) ≤ many * eCost (n - 1) := by
          rw [← Nat.succ_mul]
          exact Nat.mul_le_mul_right _ hi
        omega
      have xk : ExF [D, st, cl] H H5 := by
        have := x04.add (p := D)
        exact this.trans x5
      have nD : ∀ {a : Addr} {o : HO}, H a = some o → a ∉ [st, cl] → a ∉ [D, st, cl] := fun h1 h2 z => by
        rcases List.mem_cons.mp z with z | z
        · subst z; rw [x04.free hD] at h1; cases h1
        · exact h2 z
      have nDs : D ≠ st := fun z => t4 st (by simp) (by rw [← z]; exact hD)
      have nDc : D ≠ cl := fun z => t4 cl (by simp) (by rw [← z]; exact hD)
      refine ⟨st, cl, c', kn, on, known, ops, n - 1, D :: p4 :: st :: cl :: G, by rw [e]; rfl, by omega, by omega, S5, hb, hkn.ex xk (nD hkn nk), hon.ex xk (nD hon no), nk, no, okk, oko, hne, lk, lo, ?_, fun v d c'' H6 l3 l4 S6 x6 rv he ht ho htx hsd => ?_⟩
      · intro a ha
        rcases List.mem_cons.mp ha with z | z
        · rw [z, hH]; exact fun z => nomatch z
        · exact x5.kept a (t4 a z)
      · have h6 : H6 D = some (.lst acc) := x6.at_ _ _ (by simp [nDs, nDc]) hH
        refine ⟨acc, h6, by omega, ?_⟩
        generalize e7 : upd H6 D (.lst (acc ++ [v])) = H7
        have e7 := e7.symm
        have x67 : ExF (D :: p4 :: st :: cl :: G) H6 H7 := exm e7 (.inr (by simp)) ExF.refl
        refine ⟨acc ++ [v], ds ++ [d], c'', by simp [ha], eqs e7, ((rx.ex (x6.sub (by intro a z; simp at z; rcases z with z | z <;> simp [z]))).ex x67).snoc (rv.ex x67), by omega, ?_, S6.ex' (F := [D]) (by simp [Ne.symm nDs]) (by simp [Ne.symm nDc]) (exm e7 (.inr (by simp)) ExF.refl), ?_, ?_, ?_⟩
        · rw [Nat.succ_mul]; omega
        · intro z hz
          rcases List.mem_append.mp hz with hz | hz
          · exact hds z hz
          · rw [List.mem_singleton.mp hz]
            have e8 : n - 1 + 1 = n := by omega
            rw [e8] at ho
            exact ⟨he, ht, ho, htx⟩
        · rw [sizes_append, sizes, sizes, Nat.succ_mul]; omega
        · exact exm e7 (.inr (by simp)) (x5.trans (x6.sub (by simp)))
    · rintro D H5 hD ⟨acc, ds, c', ha, hH, rx, l1, l2, S5, hds, hsz, x5⟩
      have x45 : ExF [st, cl] H4 H5 := x5.drop hD
      have n4 : p4 ∉ [st, cl] := (S3.trk).nin hp4
      have h4 := x45.at_ _ _ n4 (eqs e4)
      refine catL h4 hH (by rw [sz]; simp only [List.length_cons, List.length_nil]; omega) fun p6 H6 hp6 e6 => ?_
      refine tupOfL (eqs e6) fun p7 H7 hp7 e7 => ?_
      have x57 : ExF [] H5 H7 := (exn e6 hp6).trans (exn e7 hp7)
      have t5 : Trk (p4 :: st :: cl :: G) H5 := t4.ex x5
      refine q (.ref p7) (.tuple (.str s :: ds)) c' H7 (by omega) (by omega) (S5.ex' (by simp) (by simp) x57) ((x04.trans x45).trans x57.of) ?_ ?_ ?_ ?_ ?_ ?_
      · have nG : p7 ∉ G := fun z => (t5.ex (exn (F := []) e6 hp6)) p7 (by simp [z]) hp7
        have rr : RpL G H7 acc ds := (rx.ex x57.of).sub (by intro a z; simp [z])
        exact .tuple nG (eqs e7) (.cons (.str s) rr)
      · rw [exprD, exprL, exprs_all]
        have h1 : nameD (.str s) = true := (nmOk_iff.mp (oko s hs)).1
        rw [h1, Bool.true_and, List.all_eq_true]
        exact fun d hd => (hds d hd).1
      · rw [tupD, tups, tupD, tups_map]
        congr 2
        exact (List.map_congr_left fun d hd => (hds d hd).2.1).trans (List.map_id _)
      · rw [ok_tuple, oks_cons, ok_str]
        have hl : ds.length = acc.length := rx.1.symm
        exact ⟨⟨(nmOk_iff.mp (oko s hs)).2, oks_iff.mpr fun d hd => (hds d hd).2.2.1⟩, by rw [List.length_cons]; omega⟩
      · rw [txt, txts, txt, Bool.true_and]
        exact txts_iff.mpr fun d hd => (hds d hd).2.2.2
      · rw [size, sizes, size]
        rcases hmn with e | e
        · subst e; omega
        · obtain ⟨n', rfl⟩ : ∃ n', n = n' + 1 := ⟨n - 1, by omega⟩
          rw [Nat.add_sub_cancel] at hsz
          rw [eCost]
          have : many * eCost n' ≤ 3 * eCost n' := Nat.mul_le_mul_right _ hm
          omega
  refine ⟨_, rfl, st, cl, c, 4, rfl, S, by omega, by decide, by decide, fun k H1 g0 g1 S1 x1 => ?_⟩
  refine ⟨_, rfl, lit0 [] rfl Trk.nil fun v H2 x2 r2 => ?_⟩
  have r2 : Rp [] H2 v (.list []) := r2
  obtain ⟨a2, ys2, rfl, _, ha2, ry2⟩ := r2.list_inv
  rw [ry2.nil_inv] at ha2
  have x02 : ExF [st, cl] H H2 := x1.trans x2.of
  have S2 : Strm st cl H2 (c + 1) := S1.ex' (by simp) (by simp) x2
  refine neE (hkn.ex x02 nk) ha2 ⟨_, rfl, ?_⟩
  -- what stands behind the if
  have rest : ∀ H2, Strm st cl H2 (c + 1) → ExF [st, cl] H H2 → (known = [] ∨ 0 < n) → t_l_a_expr_t2 K m { nx := fun _ H' => Q .non H', rt := Q } [some (.ref st), some (.ref kn), some (.ref on), some (.int (n : Int)), some (.int k), none, none] H2 := by
    intro H2 S2 x2 hkn0
    refine ⟨_, rfl, lit0 [] rfl Trk.nil fun v H3 x3 r3 => ?_⟩
    have r3 : Rp [] H3 v (.list []) := r3
    obtain ⟨a3, ys3, rfl, _, ha3, ry3⟩ := r3.list_inv
    rw [ry3.nil_inv] at ha3
    have x03 : ExF [st, cl] H H3 := x2.trans x3.of
    have S3 : Strm st cl H3 (c + 1) := S2.ex' (by simp) (by simp) x3
    have pk : 0 < n → tCall spPick [] E0 (tCons (tVar 0) (tCons (tLt (.lst [.int 0, .int 1, .int 1, .int 2, .int 2, .int 2, .int 3])) (tNil))) [some (.ref st), some (.ref kn), some (.ref on), some (.int (n : Int)), some (.int k), none, none] H3 fun x H1 => gName 5 x [some (.ref st), some (.ref kn), some (.ref on), some (.int (n : Int)), some (.int k), none, none] H1 fun σ H' => t_l_a_expr_t3 K m { nx := fun _ H' => Q .non H', rt := Q } σ H' := by
      intro n0
      refine ⟨_, rfl, lit0 [st, cl] rfl S3.trk fun v H4 x4 r4 => ?_⟩
      have r4 : Rp [st, cl] H4 v (.list ([0, 1, 1, 2, 2, 2, 3].map PyData.int)) := r4
      obtain ⟨a4, ys4, rfl, n4, ha4, ry4⟩ := r4.list_inv
      have ry4 := ry4.all_int
      subst ry4
      refine ⟨st, cl, c + 1, a4, _, rfl, S3.ex' (by simp) (by simp) x4, by omega, .inl ha4, fun e => n4 (by simp [e]), fun e => n4 (by simp [e]), by decide, by decide, fun j v H5 hv S5 x5 => ?_⟩
      obtain ⟨i, hi, rfl⟩ := List.mem_map.mp (List.mem_of_getElem? hv)
      have hi3 : ∃ b : Nat, i = (b : Int) ∧ b ≤ 3 := by
        simp at hi
        rcases hi with h | h | h | h <;> subst h
        · exact ⟨0, rfl, by decide⟩
        · exact ⟨1, rfl, by decide⟩
        · exact ⟨2, rfl, by decide⟩
        · exact ⟨3, rfl, by decide⟩
      obtain ⟨b, rfl, hb⟩ := hi3
      exact mk b k none (c + 2) H5 hb (.inr n0) (by omega) (by omega) S5 ((x03.trans x4.of).trans x5)
    refine eqE (hkn.ex x03 nk) ha3 ⟨_, rfl, ?_⟩
    cases hk : known with
    | nil =>
      refine ite2 (fun _ => ?_) (fun h => absurd rfl h)
      refine ⟨_, rfl, eqI ⟨_, rfl, ?_⟩⟩
      refine ite2 (fun h => ?_) (fun h => ?_)
      · exact mk 0 k none (c + 1) H3 (by omega) (.inl rfl) (by omega) (by omega) S3 x03
      · refine pk ?_
        rcases Nat.eq_zero_or_pos n with e | e
        · subst e; exact absurd (by decide) h
        · exact e
    | cons z zs =>
      refine ite2 (fun h => absurd h (by simp)) (fun _ => ?_)
      refine ite2 (fun h => absurd h (by simp)) (fun _ => ?_)
      refine pk ?_
      rcases hkn0 with e | e
      · rw [e] at hk; cases hk
      · exact e
  cases hk : known with
  | nil =>
    refine ite2 (fun h => absurd h (by simp)) (fun _ => ?_)
    refine ite2 (fun h => absurd h (by simp)) (fun _ => ?_)
    exact rest H2 S2 x02 (.inl hk)
  | cons z zs =>
    have kne : known ≠ [] := by rw [hk]; exact fun z => nomatch z
    refine ite2 (fun _ => ?_) (fun h => absurd rfl h)
    refine ⟨_, rfl, eqI ⟨_, rfl, ?_⟩⟩
    refine ite2 (fun h => ?_) (fun h => ?_)
    · refine iteT ?_
      exact pick k none none H2 kne S2 x02
    · have n0 : 0 < n := by
        rcases Nat.eq_zero_or_pos n with e | e
        · subst e; exact absurd (by decide) h
        · exact e
      refine ⟨_, rfl, eqI ⟨_, rfl, ?_⟩⟩
      refine ite2 (fun h => ?_) (fun h => ?_)
      · exact pick k none none H2 kne S2 x02
      · exact rest H2 S2 x02 (.inr n0)
def unS : V → Str | .str s => s | _ => ""
theorem perm_strs {ys : List V} {zs : List Str} (p : ys.Perm (zs.map V.str)) : ∃ ws : List Str, ws.Perm zs ∧ ys = ws.map V.str := by
  refine ⟨ys.map unS, ?_, ?_⟩
  · have := p.map unS
    rw [List.map_map] at this
    have e : (unS ∘ V.str) = id := rfl
    rw [e, List.map_id] at this
    exact this
  · rw [List.map_map]
    have : ∀ y ∈ ys, (V.str ∘ unS) y = y := fun y hy => by
      obtain ⟨s, _, rfl⟩ := List.mem_map.mp (p.mem_iff.mp hy)
      rfl
    exact ((List.map_congr_left this).trans (List.map_id _)).symm
/-- the lines so far, at L -/
structure LS (st cl L kn td : Addr) (G : List Addr) (H0 H' : Hp) (ds : List PyData) (told : List Str) (c' : Nat) : Prop where
  xs : ∃ xs, H' L = some (.lst xs) ∧ RpL (L :: kn :: td :: st :: cl :: G) H' xs ds
  tl : StrsAt H' td told
  S : Strm st cl H' c'
  x : ExF [L, kn, td, st, cl] H0 H'
structure Dst (st cl L kn td : Addr) : Prop where
  a : L ≠ kn ∧ L ≠ td ∧ L ≠ st ∧ L ≠ cl
  b : kn ≠ td ∧ kn ≠ st ∧ kn ≠ cl
  c : td ≠ st ∧ td ≠ cl
section
variable {st cl L kn td : Addr} {G : List Addr} {H0 H1 H2 : Hp} {ds : List PyData} {told : List Str} {c c' : Nat}
theorem LS.call (d : Dst st cl L kn td) (h : LS st cl L kn td G H0 H1 ds told c) (S : Strm st cl H2 c') (x : ExF [st, cl] H1 H2) : LS st cl L kn td G H0 H2 ds told c' := by
  obtain ⟨xs, h1, r⟩ := h.xs
  have h2 := d.a; have h3 := d.c
  exact ⟨⟨xs, x.at_ _ _ (by simp [h2.2.2.1, h2.2.2.2]) h1, r.ex (x.sub (by intro a z; simp at z; rcases z with z | z <;> simp [z]))⟩, x.at_ _ _ (by simp [h3.1, h3.2]) h.tl, S, h.x.trans (x.sub (by intro a z; simp at z; rcases z with z | z <;> simp [z]))⟩
theorem LS.pure (d : Dst st cl L kn td) (h : LS st cl L kn td G H0 H1 ds told c) (x : ExF [] H1 H2) : LS st cl L kn td G H0 H2 ds told c := h.call d (h.S.ex' (by simp) (by simp) x) x.of
theorem LS.add (d : Dst st cl L kn td) (h : LS st cl L kn td G H0 H1 ds told c) {v : V} {e : PyData} (r : Rp (L :: kn :: td :: st :: cl :: G) H1 v e) {xs : List V} (hx : H1 L = some (.lst xs)) (eq : H2 = upd H1 L (.lst (xs ++ [v]))) : LS st cl L kn td G H0 H2 (ds ++ [e]) told c := by
  obtain ⟨xs', h1, rx⟩ := h.xs
  rw [hx] at h1
  cases h1
  have h2 := d.a
  have x : ExF (L :: kn :: td :: st :: cl :: G) H1 H2 := exm eq (.inr (by simp)) ExF.refl
  have x' : ExF [L] H1 H2 := exm eq (.inr (by simp)) ExF.refl
  exact ⟨⟨_, eqs eq, (rx.snoc r).ex x⟩, eqn eq h2.2.1.symm h.tl, h.S.ex' (by simp [h2.2.2.1.symm]) (by simp [h2.2.2.2.symm]) x', exm eq (.inr (by simp)) h.x⟩
theorem LS.tells (d : Dst st cl L kn td) (h : LS st cl L kn td G H0 H1 ds told c) {s : Str} (eq : H2 = upd H1 td (.lst (told.map V.str ++ [V.str s]))) : LS st cl L kn td G H0 H2 ds (told ++ [s]) c := by
  obtain ⟨xs, h1, rx⟩ := h.xs
  have h2 := d.a
  have h3 := d.c
  have x : ExF (L :: kn :: td :: st :: cl :: G) H1 H2 := exm eq (.inr (by simp)) ExF.refl
  have x' : ExF [td] H1 H2 := exm eq (.inr (by simp)) ExF.refl
  refine ⟨⟨xs, eqn eq h2.2.1 h1, rx.ex x⟩, ?_, h.S.ex' (by simp [h3.1.symm]) (by simp [h3.2.symm]) x', exm eq (.inr (by simp)) h.x⟩
  have := eqs eq
  unfold StrsAt
  rw [this, List.map_append]
  rfl
theorem LS.mutk (d : Dst st cl L kn td) (h : LS st cl L kn td G H0 H1 ds told c) {o : HO} (eq : H2 = upd H1 kn o) : LS st cl L kn td G H0 H2 ds told c := by
  obtain ⟨xs, h1, rx⟩ := h.xs
  have h2 := d.a
  have h3 := d.b
  have x : ExF (L :: kn :: td :: st :: cl :: G) H1 H2 := exm eq (.inr (by simp)) ExF.refl
  have x' : ExF [kn] H1 H2 := exm eq (.inr (by simp)) ExF.refl
  exact ⟨⟨xs, eqn eq h2.1 h1, rx.ex x⟩, eqn eq h3.1.symm h.tl, h.S.ex' (by simp [h3.2.1.symm]) (by simp [h3.2.2.symm]) x', exm eq (.inr (by simp)) h.x⟩
/-- lines[-1][1] -/
theorem last1 {K : PySem.W.Frag} {i : Nat} {σ : L2.St} {F : List Addr} {xs : List V} {d a : PyData} {s : Str} {r : List PyData} {Q : VK} (hv : σ[i]? = some (some (.ref L))) (hL : H1 L = some (.lst xs)) (rx : RpL F H1 xs (ds ++ [d])) (hd : d = .tuple (a :: .str s :: r)) (q : Q (.str s) H1) :
    tOp (rIxU K) (tOp (rIxU K) (tVar i) (tUn (rU fun i => .int (-i)) (tC (.int 1)))) (tC (.int 1)) σ H1 Q := by
  have hl : xs.length = ds.length + 1 := by have := rx.1; simpa using this
  have hx : xs[ds.length]? = some xs[ds.length] := by simp [hl]
  have rv := rx.2 ds.length xs[ds.length] d hx (by simp)
  rw [hd] at rv
  obtain ⟨p, zs, e, _, hp, rz⟩ := rv.tuple_inv
  obtain ⟨z0, zs1, rfl, _, rz1⟩ := rz.cons_inv
  obtain ⟨z1, zs2, rfl, r1, _⟩ := rz1.cons_inv
  cases r1.str_inv
  refine ⟨_, hv, 1, rfl, ixL hL (v := .ref p) ?_ (ixT hp (v := .str s) (atN (by decide) rfl) q)⟩
  unfold atI ixN
  rw [if_neg (by decide), if_pos (by rw [hl]; omega)]
  show xs[((xs.length : Int) + -1).toNat]? = _
  have : ((xs.length : Int) + -1).toNat = ds.length := by omega
  rw [this, hx, e]
end
abbrev opsN : List Str := ["f", "g", "h", "mul", "a", "k"]
theorem opsN_ok : ∀ s ∈ opsN, nmOk s = true := by decide +kernel

def LoopP (st cl L kn td on : Addr) (G : List Addr) (H4 H0 : Hp) (n e c r9 : Nat) (ops : List Str) (i : Nat) (σ : L2.St) (H' : Hp) : Prop :=
  ∃ (ds : List PyData) (known told : List Str) (kk : Addr) (c' : Nat) (u v w x : Option V), σ = [some (.ref st), some (.int (n : Int)), some (.int (e : Int)), some (.ref on), some (.ref L), some (.ref kk), some (.ref td), u, v, w, x] ∧
    LS st cl L kn td G H4 H' ds told c' ∧ c ≤ c' ∧ c' ≤ c + 12 + 130 * i ∧ kk ∉ [L, td, st, cl] ∧ StrsAt H' kk known ∧ InvL known told ds ∧ ds.length = r9 + i ∧ known.length ≤ r9 + i ∧ StrsAt H' on ops ∧ ExF [L, kn, td, st, cl] H0 H'

theorem rd_l_a_lines (K : PySem.W.Frag) {vs : List V} {H : Hp} {Q : VK} {E : XK} (h : spALines vs H Q E) :
    t_l_a_lines K { nx := fun _ H' => Q .non H', rt := Q } (start ["_law_stream", "_law_many", "_law_deep", "_law_ops", "_law_lines", "_law_known", "_law_told", "_law_k", "_law_way", "_law_left", "_law_name"] vs) H := by
  obtain ⟨st, cl, c, n, e, G, rfl, hn2, hn10, he3, S, hc, tG, q⟩ := h
  have sz : sizeLine = 16777216 := sizeLine_eq
  have hp30 : (2 : Nat) ^ 30 = 1073741824 := by decide
  have hp20 : (2 : Nat) ^ 20 = 1048576 := by decide
  -- ops = mixed(..)[:1 + draw(3)]
  refine ⟨_, rfl, lit0 [] rfl Trk.nil fun v H1 x1 r1 => ?_⟩
  have r1 : Rp [] H1 v (.list (opsN.map PyData.str)) := r1
  obtain ⟨a1, ys1, rfl, _, ha1, ry1⟩ := r1.list_inv
  have ry1 := ry1.all_str
  subst ry1
  refine ⟨st, cl, c, a1, _, rfl, S.ex' (by simp) (by simp) x1, by show c + 6 < _; omega, .inl ha1, by rw [hp20]; decide, fun a2 ys2 H2 hp2 ha2n ha2 S2 x2 => ?_⟩
  have S2 : Strm st cl H2 (c + 6) := S2
  obtain ⟨ws, hws, rfl⟩ := perm_strs hp2
  have hwl : ws.length = 6 := hws.length_eq
  have x02 : ExF [st, cl] H H2 := x1.of.trans x2
  refine ⟨_, rfl, st, cl, c + 6, 3, rfl, S2, by omega, by decide, by decide, fun k0 H3 g0 g1 S3 x3 => addI ⟨_, rfl, ?_⟩⟩
  have n2 : a2 ∉ [st, cl] := (S.ex' (F := []) (by simp) (by simp) x1).trk.nin ha2n
  have ha3 := x3.at_ _ _ n2 ha2
  obtain ⟨j0, rfl⟩ : ∃ j : Nat, k0 = j := ⟨k0.toNat, by omega⟩
  refine slToL (1 + j0) (by omega) ha3 fun on H4 hon e4 => ?_
  have ekn : (ws.map V.str).take (1 + j0) = (ws.take (1 + j0)).map V.str := (List.map_take).symm
  rw [ekn] at e4
  have hops : StrsAt H4 on (ws.take (1 + j0)) := eqs e4
  have x04 : ExF [st, cl] H H4 := (x02.trans x3).trans (exn e4 hon)
  have S4 : Strm st cl H4 (c + 7) := S3.ex' (F := []) (by simp) (by simp) (exn e4 hon)
  have n4 : on ∉ [st, cl] := S3.trk.nin hon
  have opok : ∀ s ∈ ws.take (1 + j0), nmOk s = true := fun s hs => opsN_ok s (hws.mem_iff.mp (List.mem_of_mem_take hs))
  have opne : ws.take (1 + j0) ≠ [] := fun e => by
    have := congrArg List.length e
    rw [List.length_take, hwl, List.length_nil] at this
    omega
  have opl : (ws.take (1 + j0)).length ≤ 100 := by rw [List.length_take]; omega
  generalize ws.take (1 + j0) = ops at hops opok opne opl
  -- lines, known, told = [], [], []
  refine ⟨by decide, fun L H5 hL5 e5 => ⟨by decide, fun kn H6 hk6 e6 => ⟨by decide, fun td H7 ht7 e7 => ⟨by show 3 ≤ sizeLine; decide, fun p8 H8 hp8 e8 => ⟨p8, _, rfl, .inl (.inl (eqs e8)), rfl, _, _, rfl, _, _, rfl, _, _, rfl, rfl, ?_⟩⟩⟩⟩⟩
  have tS4 : Trk [st, cl] H4 := S4.trk
  have tS5 : Trk [st, cl] H5 := tS4.ex (exn (F := []) e5 hL5)
  have tS6 : Trk [st, cl] H6 := tS5.ex (exn (F := []) e6 hk6)
  have nL : L ∉ [st, cl] := tS4.nin hL5
  have nk : kn ∉ [st, cl] := tS5.nin hk6
  have nt : td ∉ [st, cl] := tS6.nin ht7
  have h5 : H5 L = some (.lst []) := eqs e5
  have h6 : H6 kn = some (.lst []) := eqs e6
  have h7 : H7 td = some (.lst []) := eqs e7
  have h6L := eqf e6 hk6 h5
  have h7L := eqf e7 ht7 h6L
  have h7k := eqf e7 ht7 h6
  have dst : Dst st cl L kn td := by
    refine ⟨⟨ne_of_none h5 hk6, ne_of_none h6L ht7, fun e => nL (by simp [e]), fun e => nL (by simp [e])⟩, ⟨ne_of_none h6 ht7, fun e => nk (by simp [e]), fun e => nk (by simp [e])⟩, ⟨fun e => nt (by simp [e]), fun e => nt (by simp [e])⟩⟩
  have x48 : ExF [L, kn, td, st, cl] H4 H8 := (((exn e5 hL5).trans (exn e6 hk6)).trans (exn e7 ht7)).trans (exn e8 hp8)
  have non : on ∉ [L, kn, td, st, cl] := by
    have h1 : on ≠ L := ne_strs hops hL5
    have h2 : on ≠ kn := ne_strs (zs := ops) (eqf e5 hL5 hops) hk6
    have h3 : on ≠ td := ne_strs (zs := ops) (eqf e6 hk6 (eqf e5 hL5 hops)) ht7
    intro z
    simp [h1, h2, h3] at z
    exact n4 (by simpa using z)
  have l0 : LS st cl L kn td G H4 H8 [] [] (c + 7) :=
    ⟨⟨[], eqf e8 hp8 h7L, .nil⟩, eqf e8 hp8 h7, S4.ex' (F := []) (by simp) (by simp) ((((exn e5 hL5).trans (exn e6 hk6)).trans (exn e7 ht7)).trans (exn e8 hp8)), x48⟩
  have k0 : StrsAt H8 kn [] := eqf e8 hp8 h7k
  have dropx : ∀ {H'}, ExF [L, kn, td, st, cl] H4 H' → ExF [st, cl] H H' := fun {H'} x => by
    have y1 : ExF [kn, td, st, cl] H4 H' := x.drop hL5
    have y2 : ExF [td, st, cl] H4 H' := y1.drop ((exn (F := []) e5 hL5).free hk6)
    have y3 : ExF [st, cl] H4 H' := y2.drop (((exn (F := []) e5 hL5).trans (exn e6 hk6)).free ht7)
    exact x04.trans y3
  have tF : Trk (L :: kn :: td :: st :: cl :: G) H8 := by
    intro a ha
    simp only [List.mem_cons] at ha
    rcases ha with z | z | z | z | z | z
    · rw [z, eqf e8 hp8 h7L]; exact fun z => nomatch z
    · rw [z, eqf e8 hp8 h7k]; exact fun z => nomatch z
    · rw [z, eqf e8 hp8 h7]; exact fun z => nomatch z
    · exact x48.kept a (by rw [z]; exact tS4 st (by simp))
    · exact x48.kept a (by rw [z]; exact tS4 cl (by simp))
    · exact x48.kept a (x04.kept a (tG a z))
  generalize eH : H8 = H0 at *
  clear eH
  -- reading a name: the state behind it
  have tF' : ∀ {H' ds told c'}, LS st cl L kn td G H4 H' ds told c' → ExF [L, kn, td, st, cl] H0 H' → Trk (L :: kn :: td :: st :: cl :: G) H' := fun _ x => tF.ex x
  have addRead : ∀ (σ : L2.St) (D : Ends) (H' : Hp) (kk : Addr) (known told : List Str) (ds : List PyData) (c' : Nat), σ[0]? = some (some (.ref st)) → σ[4]? = some (some (.ref L)) → σ[5]? = some (some (.ref kk)) → kk ∉ [st, cl] → kk ≠ L → StrsAt H' kk known → known.length ≤ 20 → ds.length ≤ 100 →
      LS st cl L kn td G H4 H' ds told c' → ExF [L, kn, td, st, cl] H0 H' → c' < 2 ^ 48 →
      (∀ s H'', nmOk s = true → s ∉ known → StrsAt H'' kk known → LS st cl L kn td G H4 H'' (ds ++ [readD s]) told (c' + 1) → ExF [L, kn, td, st, cl] H0 H'' → D.nx σ H'') →
      tDrop (tBM K "list" (rAppendU) (tVar 4) (tCons (tTupU (tCons (tC (.str "read")) (tCons (tCall spAName [] E0 (tCons (tVar 0) (tCons (tVar 5) (tNil)))) (tNil)))) (tNil))) D σ H' := by
    intro σ D H' kk known told ds c' s0 s4 s5 nkk nkL hk hkl hdl hL xH hc' k
    obtain ⟨xs, h1, rx⟩ := hL.xs
    refine ⟨_, s4, tyL h1, _, s0, _, s5, st, cl, c', kk, known, rfl, hL.S, hc', hk, fun e => nkk (by simp [e]), fun e => nkk (by simp [e]), hkl, fun s H1 hs hnk S1 y1 => ⟨by show 2 ≤ sizeLine; decide, fun p H2 hp e2 => ?_⟩⟩
    have hL1 := hL.call dst S1 y1
    have hL2 := hL1.pure dst (exn e2 hp)
    have xH1 : ExF [L, kn, td, st, cl] H0 H1 := xH.trans (y1.sub (by intro a z; simp at z; rcases z with z | z <;> simp [z]))
    obtain ⟨xs2, h2, rx2⟩ := hL2.xs
    refine app h2 (by have := rx2.1; omega) fun H3 e3 => ?_
    have hk1 := hk.ex y1 nkk
    have hk3 : StrsAt H3 kk known := eqn e3 nkL (eqf e2 hp hk1)
    have np : p ∉ L :: kn :: td :: st :: cl :: G := (tF.ex xH1).nin hp
    refine k s H3 hs hnk hk3 (hL2.add dst (.tuple np (eqs e2) (.cons (.str _) (.cons (.str _) .nil))) h2 e3) ?_
    exact exm e3 (.inr (by simp)) (xH1.trans (exn e2 hp))
  -- for k in range(draw(4)): a read
  unfold t_l_a_lines_t2 tSeq tForU
  refine ⟨_, rfl, st, cl, c + 7, 4, rfl, l0.S, by omega, by decide, by decide, fun k9 H9 g2 g3 S9 x9 => ⟨k9, rfl, by omega, by omega, ?_⟩⟩
  obtain ⟨r9, rfl⟩ : ∃ j : Nat, k9 = j := ⟨k9.toNat, by omega⟩
  have x09 : ExF [L, kn, td, st, cl] H0 H9 := x9.sub (by intro a z; simp at z; rcases z with z | z <;> simp [z])
  refine forRg (n := r9) (fun i σ H' => ∃ (ds : List PyData) (known : List Str) (u : Option V), σ = [some (.ref st), some (.int (n : Int)), some (.int (e : Int)), some (.ref on), some (.ref L), some (.ref kn), some (.ref td), u, none, none, none] ∧
      LS st cl L kn td G H4 H' ds [] (c + 8 + i) ∧ StrsAt H' kn known ∧ InvL known [] ds ∧ ds.length = i ∧ known.length = i ∧ StrsAt H' on ops ∧ ExF [L, kn, td, st, cl] H0 H')
    ⟨[], [], none, rfl, l0.call dst S9 x9, k0.ex x9 nk, InvL.nil, rfl, rfl, ((show StrsAt H0 on ops from hops.ex x48 non).ex x9 n4), x09⟩ ?_ ?_
  · rintro i σ' H1 hi ⟨ds, known, u, rfl, hL, hk, I, hd, hkl, ho, xH⟩
    refine addRead _ _ H1 kn known [] ds _ rfl rfl rfl nk dst.a.1.symm hk (by omega) (by omega) hL xH (by omega) fun s H2 hs hnk hk2 hL2 xH2 => ?_
    obtain ⟨xs, h1, rx⟩ := hL2.xs
    refine ⟨_, rfl, tyL hk2, ?_⟩
    refine last1 (r := []) rfl h1 rx rfl ?_
    refine app hk2 (by rw [List.length_map, sz]; omega) fun H3 e3 => ?_
    refine ⟨ds ++ [readD s], known ++ [s], _, rfl, hL2.mutk dst e3, ?_, I.read hs hnk, by simp [hd], by simp [hkl], ?_, exm e3 (.inr (by simp)) xH2⟩
    · have := eqs e3
      unfold StrsAt
      rw [this, List.map_append]
      rfl
    · exact (hops.ex x48 non).ex (exm e3 (.inr (by simp)) xH2) non
  rintro σ1 H1 ⟨ds1, known1, u1, rfl, hL1, hk1, I1, hd1, hkl1, ho1, xH1⟩
  -- for k in range(many)
  unfold t_l_a_lines_t3 tSeq tForU
  refine ⟨_, rfl, (n : Int), rfl, by omega, by omega, ?_⟩
  have nkL : kn ∉ [L, td, st, cl] := by
    have := dst.a; have h2 := dst.b
    simp [this.1.symm, h2.1, h2.2.1, h2.2.2]
  refine forRg (n := n) (LoopP st cl L kn td on G H4 H0 n e c r9 ops)
    ⟨ds1, known1, [], kn, c + 8 + r9, _, _, _, _, rfl, hL1, by omega, by omega, nkL, hk1, I1, by omega, by omega, ho1, xH1⟩ ?_ ?_
  · rintro i σ' H2 hi ⟨ds, known, told, kk, c', u, v, w, x, rfl, hL, lc, uc, nkk, hk, I, hd, hkl, ho, xH⟩
    have nkk' : kk ∉ [st, cl] := fun z => nkk (by simp at z; rcases z with z | z <;> simp [z])
    have nkL : kk ≠ L := fun e => nkk (by simp [e])
    have ntd : kk ≠ td := fun e => nkk (by simp [e])
    -- known = each_once(known + [lines[-1][1]])
    have fin : ∀ (ds' : List PyData) (d a : PyData) (s : Str) (r : List PyData) (told' : List Str) (c'' : Nat) (v w x : Option V) (H3 : Hp), d = .tuple (a :: .str s :: r) → ds'.length = r9 + i → LS st cl L kn td G H4 H3 (ds' ++ [d]) told' c'' → c ≤ c'' → c'' ≤ c + 12 + 130 * (i + 1) → StrsAt H3 kk known → InvL (if s ∈ known then known else known ++ [s]) told' (ds' ++ [d]) → ExF [L, kn, td, st, cl] H0 H3 →
        tAsg (tCall spOnce [] E0 (tCons (tOp (rAddU K) (tVar 5) (tLstU (tCons (tOp (rIxU K) (tOp (rIxU K) (tVar 4) (tUn (rU fun i => .int (-i)) (tC (.int 1)))) (tC (.int 1))) (tNil)))) (tNil))) (gName 5)
          { nx := LoopP st cl L kn td on G H4 H0 n e c r9 ops (i + 1), ct := LoopP st cl L kn td on G H4 H0 n e c r9 ops (i + 1), bk := fun σ H' => t_l_a_lines_t4 K { nx := fun _ H' => Q .non H', rt := Q } σ H', rt := Q } [some (.ref st), some (.int (n : Int)), some (.int (e : Int)), some (.ref on), some (.ref L), some (.ref kk), some (.ref td), some (.int (0 + (i : Nat))), v, w, x] H3 := by
      intro ds' d a s r told' c'' v w x H3 hdd hdl hL3 lc2 uc2 hk3 I3 xH3
      obtain ⟨xs, h1, rx⟩ := hL3.xs
      refine ⟨_, rfl, last1 rfl h1 rx hdd ⟨by show 1 ≤ sizeLine; decide, fun p4 H4' hp4 e4' => ?_⟩⟩
      refine catL (eqf e4' hp4 hk3) (eqs e4') (by rw [List.length_map, sz]; simp only [List.length_cons, List.length_nil]; omega) fun p5 H5' hp5 e5' => ?_
      refine ⟨p5, known ++ [s], rfl, ?_, by simp; omega, fun p6 H6' hp6 hk6' x6 => ?_⟩
      · have := eqs e5'
        unfold StrsAt
        rw [this, List.map_append]
        rfl
      · have y : ExF [] H3 H6' := ((exn e4' hp4).trans (exn e5' hp5)).trans x6
        rw [onceL_add I.nk] at hk6'
        have t5 : Trk (L :: kn :: td :: st :: cl :: G) H5' := tF.ex (xH3.trans ((exn e4' hp4).trans (exn e5' hp5)))
        refine ⟨_, _, _, p6, c'', _, _, _, _, rfl, hL3.pure dst y, lc2, uc2, ?_, hk6', I3, by simp; omega, ?_, (hops.ex x48 non).ex (xH3.trans y.of) non, xH3.trans y.of⟩
        · intro z
          have h1 := t5.nin hp6
          simp at z h1
          rcases z with z | z | z | z
          · exact h1.1 z
          · exact h1.2.2.1 z
          · exact h1.2.2.2.1 z
          · exact h1.2.2.2.2.1 z
        · split
          · omega
          · simp; omega
    -- way, left = draw(12), [.. not told]
    refine ⟨_, rfl, st, cl, c', 12, rfl, hL.S, by omega, by decide, by decide, fun k H3 g4 g5 S3 y3 => ?_⟩
    have hL3 := hL.call dst S3 y3
    have hk3 := hk.ex y3 nkk'
    have xH3 : ExF [L, kn, td, st, cl] H0 H3 := xH.trans (y3.sub (by intro a z; simp at z; rcases z with z | z <;> simp [z]))
    refine lcFil (zs := known) (fun z => !decide (z ∈ told)) (iter_var (a := kk) rfl (.inl hk3) (by simp)) (by rw [sz]; omega) (by show 10 < 11; decide) rfl ?_ ?_
    · intro D z H5 hz x5 Qc kq
      exact .inl ⟨_, rfl, _, rfl, notInStrs (x5.at_ _ _ (by simp) hL3.tl) ⟨_, rfl, kq H5 ExF.refl⟩⟩
    intro lf H5 hlf hf x5
    refine ⟨_, _, rfl, ?_⟩
    have hL5 := hL3.pure dst x5
    have hk5 := hk3.ex x5 (by simp)
    have xH5 : ExF [L, kn, td, st, cl] H0 H5 := xH3.trans x5.of
    have nlf : lf ∉ L :: kn :: td :: st :: cl :: G := (tF.ex xH3).nin hlf
    have nlf' : lf ∉ [st, cl] := fun z => nlf (by simp at z; rcases z with z | z <;> simp [z])
    refine ⟨_, rfl, eqI ⟨_, rfl, ?_⟩⟩
    refine ite2 (fun h => ?_) (fun h => ?_)
    · -- read
      refine addRead _ _ H5 kk known told ds _ rfl rfl rfl nkk' nkL hk5 (by omega) (by omega) hL5 xH5 (by omega) fun s H6 hs hnk hk6 hL6 xH6 => ?_
      exact fin ds (readD s) (.str "read") s [] told (c' + 2) _ _ _ H6 rfl hd hL6 (by omega) (by omega) hk6 (by rw [if_neg hnk]; exact I.read hs hnk) xH6
    · have xpick : ∀ {a b : Hp}, ExF [st, cl] a b → ExF [L, kn, td, st, cl] a b := fun x => x.sub (by intro a z; simp at z; rcases z with z | z <;> simp [z])
      -- give name expr
      have give : ∀ (D : Ends) (nm : Str) (c1 : Nat) (H6 : Hp) (σ : L2.St), σ[0]? = some (some (.ref st)) → σ[2]? = some (some (.int (e : Int))) → σ[3]? = some (some (.ref on)) → σ[4]? = some (some (.ref L)) → σ[5]? = some (some (.ref kk)) → σ[10]? = some (some (.str nm)) → nmOk nm = true → c' ≤ c1 → c1 ≤ c' + 2 → StrsAt H6 kk known → LS st cl L kn td G H4 H6 ds told c1 → ExF [L, kn, td, st, cl] H0 H6 →
          (∀ d c2 H', c1 ≤ c2 → c2 ≤ c1 + 120 → LS st cl L kn td G H4 H' (ds ++ [giveD nm d]) told c2 → StrsAt H' kk known → exprD known d = true → tupD d = d → ok 5 d = true → txt d = true → size d ≤ 150 → ExF [L, kn, td, st, cl] H0 H' → D.nx σ H') →
          tDrop (tBM K "list" (rAppendU) (tVar 4) (tCons (tTupU (tCons (tC (.str "give")) (tCons (tVar 10) (tCons (tCall (spAExpr 5) [] E0 (tCons (tVar 0) (tCons (tVar 5) (tCons (tVar 3) (tCons (tVar 2) (tNil)))))) (tNil))))) (tNil))) D σ H6 := by
        intro D nm c1 H6 σ s0 s2 s3 s4 s5 s10 hnm l1 u1 hk6 hL6 xH6 kq
        obtain ⟨xs, h1, rx⟩ := hL6.xs
        have ho6 : StrsAt H6 on ops := (hops.ex x48 non).ex xH6 non
        have hE : eCost e ≤ 120 := by
          have : e = 0 ∨ e = 1 ∨ e = 2 ∨ e = 3 := by omega
          rcases this with h | h | h | h <;> subst h <;> decide
        refine ⟨_, s4, tyL h1, _, s10, _, s0, _, s5, _, s3, _, s2, st, cl, c1, kk, on, known, ops, e, L :: kn :: td :: st :: cl :: G, rfl, by omega, by omega, hL6.S, by omega, hk6, ho6, nkk', n4, I.nm, opok, opne, by omega, opl, tF.ex xH6, fun v d c2 H7 l2 u2 S7 y7 rv hed htd hod htx hsd => ⟨by show 3 ≤ sizeLine; decide, fun p H8 hp8 e8 => ?_⟩⟩
        have xH7 := xH6.trans (xpick y7)
        have hL8 := (hL6.call dst S7 y7).pure dst (exn e8 hp8)
        obtain ⟨xs2, h2, rx2⟩ := hL8.xs
        refine app h2 (by have := rx2.1; omega) fun H9 e9 => ?_
        have np : p ∉ L :: kn :: td :: st :: cl :: G := (tF.ex xH7).nin hp8
        have hk9 : StrsAt H9 kk known := eqn e9 nkL (eqf e8 hp8 (hk6.ex y7 nkk'))
        refine kq d c2 H9 l2 (by omega) (hL8.add dst (.tuple np (eqs e8) (.cons (.str _) (.cons (.str _) (.cons (rv.ex (exn e8 hp8)) .nil)))) h2 e9) hk9 hed htd (ok_le hod (by omega)) htx (by omega) (exm e9 (.inr (by simp)) (xH7.trans (exn e8 hp8)))
      have other : ∀ (D : Ends) (H6 : Hp) (σ : L2.St), σ.length = 11 → σ[0]? = some (some (.ref st)) → σ[2]? = some (some (.int (e : Int))) → σ[3]? = some (some (.ref on)) → σ[4]? = some (some (.ref L)) → σ[5]? = some (some (.ref kk)) → σ[8]? = some (some (.int k)) → StrsAt H6 kk known → LS st cl L kn td G H4 H6 ds told (c' + 1) → ExF [L, kn, td, st, cl] H0 H6 →
          (∀ nm d c2 H', nmOk nm = true → c' ≤ c2 → c2 ≤ c' + 122 → LS st cl L kn td G H4 H' (ds ++ [giveD nm d]) told c2 → StrsAt H' kk known → exprD known d = true → tupD d = d → ok 5 d = true → txt d = true → size d ≤ 150 → ExF [L, kn, td, st, cl] H0 H' → D.nx (σ.set 10 (some (.str nm))) H') →
          tSeq (tAsg (tIf (tAnd (tTest (tOp (rNeU K) (tVar 5) (tLstU (tNil)))) (tTest (tOp (rI0 fun i j => .bl (decide (i < j))) (tVar 8) (tC (.int 5))))) (tCall spPick [] E0 (tCons (tVar 0) (tCons (tVar 5) (tNil)))) (tCall spAName [] E0 (tCons (tVar 0) (tCons (tVar 5) (tNil))))) (gName 10)) (tDrop (tBM K "list" (rAppendU) (tVar 4) (tCons (tTupU (tCons (tC (.str "give")) (tCons (tVar 10) (tCons (tCall (spAExpr 5) [] E0 (tCons (tVar 0) (tCons (tVar 5) (tCons (tVar 3) (tCons (tVar 2) (tNil)))))) (tNil))))) (tNil)))) D σ H6 := by
        intro D H6 σ sl s0 s2 s3 s4 s5 s8 hk6 hL6 xH6 kq
        have setn : ∀ (nm : Str) {j : Nat} {y : V}, j ≠ 10 → σ[j]? = some (some y) → (σ.set 10 (some (.str nm)))[j]? = some (some y) := fun nm j y hj h => by
          rw [List.getElem?_set_ne (by omega)]; exact h
        have go : ∀ (nm : Str) (c1 : Nat) (H7 : Hp), nmOk nm = true → c' ≤ c1 → c1 ≤ c' + 2 → StrsAt H7 kk known → LS st cl L kn td G H4 H7 ds told c1 → ExF [L, kn, td, st, cl] H0 H7 →
            (tDrop (tBM K "list" (rAppendU) (tVar 4) (tCons (tTupU (tCons (tC (.str "give")) (tCons (tVar 10) (tCons (tCall (spAExpr 5) [] E0 (tCons (tVar 0) (tCons (tVar 5) (tCons (tVar 3) (tCons (tVar 2) (tNil)))))) (tNil))))) (tNil)))) D (σ.set 10 (some (.str nm))) H7 := by
          intro nm c1 H7 hnm l1 u1 hk7 hL7 xH7
          refine give D nm c1 H7 _ (setn nm (by decide) s0) (setn nm (by decide) s2) (setn nm (by decide) s3) (setn nm (by decide) s4) (setn nm (by decide) s5) (List.getElem?_set_self (by rw [sl]; decide)) hnm l1 u1 hk7 hL7 xH7 fun d c2 H' l2 u2 h1 h2 h3 h4 h5 g1 g2 h6 => ?_
          exact kq nm d c2 H' hnm (by omega) (by omega) h1 h2 h3 h4 h5 g1 g2 h6
        have nameCall : ∀ (H7 : Hp), StrsAt H7 kk known → LS st cl L kn td G H4 H7 ds told (c' + 1) → ExF [L, kn, td, st, cl] H0 H7 → tCall spAName [] E0 (tCons (tVar 0) (tCons (tVar 5) (tNil))) σ H7 fun x H1 => gName 10 x σ H1 fun σ1 H1 => (tDrop (tBM K "list" (rAppendU) (tVar 4) (tCons (tTupU (tCons (tC (.str "give")) (tCons (tVar 10) (tCons (tCall (spAExpr 5) [] E0 (tCons (tVar 0) (tCons (tVar 5) (tCons (tVar 3) (tCons (tVar 2) (tNil)))))) (tNil))))) (tNil)))) D σ1 H1 := by
          intro H7 hk7 hL7 xH7
          refine ⟨_, s0, _, s5, st, cl, c' + 1, kk, known, rfl, hL7.S, by omega, hk7, fun e => nkk' (by simp [e]), fun e => nkk' (by simp [e]), by omega, fun s H8 hs hnk S8 y8 => ?_⟩
          exact go s (c' + 2) H8 hs (by omega) (by omega) (hk7.ex y8 nkk') (hL7.call dst S8 y8) (xH7.trans (xpick y8))
        refine ⟨_, s5, by decide, fun p H7 hp e7 => ?_⟩
        have hk7 : StrsAt H7 kk known := eqf e7 hp hk6
        have hL7 := hL6.pure dst (exn e7 hp)
        have xH7 := xH6.trans (exn (F := [L, kn, td, st, cl]) e7 hp)
        refine neE hk7 (eqs e7) ⟨_, rfl, ?_⟩
        cases hkn : known with
        | nil =>
          refine ite2 (fun h => absurd h (by simp)) (fun _ => ?_)
          refine ite2 (fun h => absurd h (by simp)) (fun _ => ?_)
          exact nameCall H7 hk7 hL7 xH7
        | cons z zs =>
          refine ite2 (fun _ => ?_) (fun h => absurd rfl h)
          refine ⟨_, s8, _, _, rfl, rfl, _, rfl, ?_⟩
          refine ite2 (fun _ => ?_) (fun _ => ?_)
          · refine ⟨_, s0, _, s5, st, cl, c' + 1, kk, known.map V.str, rfl, hL7.S, by omega, .inl hk7, fun e => nkk' (by simp [e]), fun e => nkk' (by simp [e]), by rw [hkn]; simp, by rw [List.length_map, hp30]; omega, fun j v H8 hv S8 y8 => ?_⟩
            obtain ⟨s, hs, rfl⟩ := List.mem_map.mp (List.mem_of_getElem? hv)
            exact go s (c' + 2) H8 (I.nm s hs) (by omega) (by omega) (hk7.ex y8 nkk') (hL7.call dst S8 y8) (xH7.trans (xpick y8))
          · exact nameCall H7 hk7 hL7 xH7
      refine ⟨_, rfl, eqI ⟨_, rfl, ?_⟩⟩
      have last : ∀ (H6 : Hp) (v w x : Option V) nm d c2 , nmOk nm = true → c' ≤ c2 → c2 ≤ c' + 122 → LS st cl L kn td G H4 H6 (ds ++ [giveD nm d]) told c2 → StrsAt H6 kk known → exprD known d = true → tupD d = d → ok 5 d = true → txt d = true → size d ≤ 150 → ExF [L, kn, td, st, cl] H0 H6 → _ :=
        fun H6 v w x nm d c2 hnm l2 u2 h1 h2 h3 h4 h5 g1' g2' h6 => fin ds (giveD nm d) (.str "give") nm [d] told c2 v w x H6 rfl hd h1 (by omega) (by omega) h2 (I.give hnm h3 h5 h4 g1' g2') h6
      refine ite2 (fun h2 => ?_) (fun h2 => ?_)
      · refine ⟨_, rfl, by decide, fun p H6 hp e6 => ?_⟩
        have hk6 : StrsAt H6 kk known := eqf e6 hp hk5
        have hf6 := eqf e6 hp hf
        have hL6 := hL5.pure dst (exn e6 hp)
        have xH6 := xH5.trans (exn (F := [L, kn, td, st, cl]) e6 hp)
        refine neE hf6 (eqs e6) ⟨_, rfl, ?_⟩
        refine ite2 (fun h3 => ?_) (fun h3 => ?_)
        · -- tell
          obtain ⟨xs, h1, rx⟩ := hL6.xs
          refine ⟨_, rfl, tyL h1, _, rfl, _, rfl, st, cl, c' + 1, lf, _, rfl, hL6.S, by omega, .inl hf6, fun e => nlf' (by simp [e]), fun e => nlf' (by simp [e]), ?_, ?_, fun j v H7 hv S7 y7 => ⟨by show 2 ≤ sizeLine; decide, fun p8 H8 hp8 e8 => ?_⟩⟩
          · apply List.length_pos_iff.mpr
            intro e
            rw [e] at h3
            exact absurd h3 (by simp)
          · rw [List.length_map, hp30]
            have := List.length_filter_le (fun z => !decide (z ∈ told)) known
            omega
          · obtain ⟨s, hs, rfl⟩ := List.mem_map.mp (List.mem_of_getElem? hv)
            have hs' := List.mem_filter.mp hs
            have hst : s ∉ told := by simpa using hs'.2
            have xH7 := xH6.trans (xpick y7)
            have hL8 := (hL6.call dst S7 y7).pure dst (exn e8 hp8)
            obtain ⟨xs2, h2', rx2⟩ := hL8.xs
            refine app h2' (by have := rx2.1; omega) fun H9 e9 => ?_
            have np : p8 ∉ L :: kn :: td :: st :: cl :: G := (tF.ex xH7).nin hp8
            have hk9 : StrsAt H9 kk known := eqn e9 nkL (eqf e8 hp8 (hk6.ex y7 nkk'))
            have hL9 := hL8.add dst (e := tellD s) (.tuple np (eqs e8) (.cons (.str _) (.cons (.str _) .nil))) h2' e9
            obtain ⟨xs3, h3', rx3⟩ := hL9.xs
            refine ⟨_, rfl, tyL hL9.tl, ?_⟩
            refine last1 (r := []) rfl h3' rx3 rfl ?_
            refine app hL9.tl (by rw [List.length_map, sz]; have := len_sub (xs := told) (ys := known) I.td I.tk; omega) fun H10 e10 => ?_
            have hk10 : StrsAt H10 kk known := eqn e10 ntd hk9
            refine fin ds (tellD s) (.str "tell") s [] (told ++ [s]) (c' + 2) _ _ _ H10 rfl hd (hL9.tells dst e10) (by omega) (by omega) hk10 (by rw [if_pos hs'.1]; exact I.tell hs'.1 hst) ?_
            exact exm e10 (.inr (by simp)) (exm e9 (.inr (by simp)) (xH7.trans (exn e8 hp8)))
        · refine other _ H6 _ rfl rfl rfl rfl rfl rfl rfl hk6 hL6 xH6 fun nm d c2 H7 hnm l2 u2 h1 h2 h3 h4 h5 g1 g2 h6 => ?_
          exact last H7 _ _ _ nm d c2 hnm l2 u2 h1 h2 h3 h4 h5 g1 g2 h6
      · refine ite2 (fun h => absurd h (by simp)) (fun _ => ?_)
        refine other _ H5 _ rfl rfl rfl rfl rfl rfl rfl hk5 hL5 xH5 fun nm d c2 H7 hnm l2 u2 h1 h2 h3 h4 h5 g1 g2 h6 => ?_
        exact last H7 _ _ _ nm d c2 hnm l2 u2 h1 h2 h3 h4 h5 g1 g2 h6
  · rintro σ2 H2 ⟨ds, known, told, kk, c', u, v, w, x, rfl, hL, lc, uc, nkk, hk, I, hd, hkl, ho, xH⟩
    have nkk' : kk ∉ [st, cl] := fun z => nkk (by simp at z; rcases z with z | z <;> simp [z])
    -- left = mixed(.., [.. not told])
    refine ⟨_, rfl, ?_⟩
    refine lcFil (zs := known) (fun z => !decide (z ∈ told)) (iter_var (a := kk) rfl (.inl hk) (by simp)) (by rw [sz]; omega) (by show 10 < 11; decide) rfl ?_ ?_
    · intro D z H5 hz x5 Qc kq
      exact .inl ⟨_, rfl, _, rfl, notInStrs (x5.at_ _ _ (by simp) hL.tl) ⟨_, rfl, kq H5 ExF.refl⟩⟩
    intro lf H3 hlf hf x3
    have hL3 := hL.pure dst x3
    have xH3 : ExF [L, kn, td, st, cl] H0 H3 := xH.trans x3.of
    have hfl := List.length_filter_le (fun z => !decide (z ∈ told)) known
    refine ⟨st, cl, c', lf, _, rfl, hL3.S, by rw [List.length_map]; omega, .inl hf, by rw [List.length_map, hp20]; omega, fun r ys H5 hp hr hy S5 x5 => ?_⟩
    obtain ⟨zs, hzs, rfl⟩ := perm_strs hp
    rw [List.length_map] at S5
    have hzl : zs.length ≤ 13 := by have := hzs.length_eq; omega
    have hL5 := hL3.call dst S5 x5
    have xH5 : ExF [L, kn, td, st, cl] H0 H5 := xH3.trans (x5.sub (by intro a z; simp at z; rcases z with z | z <;> simp [z]))
    have nr : r ∉ [st, cl] := hL3.S.trk.nin hr
    obtain ⟨xs5, h5, rx5⟩ := hL5.xs
    -- lines + [("tell", name) for name in left[:..]]
    refine ⟨_, rfl, ?_⟩
    unfold tLcU
    refine .inl ⟨_, rfl, _, rfl, lit0 [st, cl] rfl S5.trk fun v H6 x6 r6 => ?_⟩
    have r6 : Rp [st, cl] H6 v (.list ([0, 1, 1, 1, 2, 2, 3].map PyData.int)) := r6
    obtain ⟨a6, ys6, rfl, n6, ha6, ry6⟩ := r6.list_inv
    have ry6 := ry6.all_int
    subst ry6
    have hL6 := hL5.pure dst x6
    refine ⟨st, cl, _, a6, _, rfl, hL6.S, by omega, .inl ha6, fun e => n6 (by simp [e]), fun e => n6 (by simp [e]), by decide, by decide, fun j v H7 hv S7 y7 => ?_⟩
    obtain ⟨iv, hiv, rfl⟩ := List.mem_map.mp (List.mem_of_getElem? hv)
    have hi3 : ∃ b : Nat, iv = (b : Int) ∧ b ≤ 3 := by
      simp at hiv
      rcases hiv with h | h | h | h <;> subst h
      · exact ⟨0, rfl, by decide⟩
      · exact ⟨1, rfl, by decide⟩
      · exact ⟨2, rfl, by decide⟩
      · exact ⟨3, rfl, by decide⟩
    obtain ⟨b, rfl, hb⟩ := hi3
    have hL7 := hL6.call dst S7 y7
    have y67 : ExF [st, cl] H5 H7 := x6.of.trans y7
    have xH7 : ExF [L, kn, td, st, cl] H0 H7 := xH5.trans (y67.sub (by intro a z; simp at z; rcases z with z | z <;> simp [z]))
    have hr7 := y67.at_ _ _ nr hy
    refine ⟨_, rfl, slToL b rfl hr7 fun p8 H8 hp8 e8 => ⟨p8, rfl, ⟨_, .inl (.inl (eqs e8))⟩, fun D hD => ?_⟩⟩
    refine lcAt hD ?_
    have ezs : (zs.map V.str).take b = (zs.take b).map V.str := (List.map_take).symm
    rw [ezs] at e8
    have x8 : ExF [] H7 H8 := exn e8 hp8
    have hL8 := hL7.pure dst x8
    have xH8 : ExF [L, kn, td, st, cl] H0 H8 := xH7.trans x8.of
    have tF8 := tF.ex xH8
    refine lcMap (F := G) (xs := (zs.take b).map V.str) (vs := [10]) (k := 10) (iter_at (eqs e8) (by simp)) ((zs.take b).map tellD) (by simp) (by rw [List.length_map, List.length_take, sz]; omega) (fun _ => rfl) ?_ ?_
    · intro D' i x e H9 hx he x9 hD1 hD2 Qc kq
      rw [List.getElem?_map] at hx he
      cases hz : (zs.take b)[i]? with
      | none => rw [hz] at hx; cases hx
      | some z =>
        rw [hz] at hx he
        cases hx; cases he
        refine lit (fun _ => .str z) (D' :: G) [10] rfl (fun k hk => ?_) ?_ fun v H10 x10 rv => ?_
        · have e : k = 10 := by simpa using hk
          subst e
          exact ⟨_, rfl, .str z⟩
        · intro a ha
          rcases List.mem_cons.mp ha with h | h
          · rw [h]; exact hD2
          · exact x9.kept a (tF8 a (by simp [h]))
        · exact kq v H10 x10 rv
    · intro r9' ys H9 hr9 hy9 ry9 x9 hD9
      obtain ⟨xs9, h9, rx9⟩ := (hL8.pure dst x9).xs
      have l9 := rx9.1
      have l9' := ry9.1
      rw [List.length_map, List.length_take] at l9'
      cases hD9
      refine catL h9 hy9 (by rw [sz]; omega) fun p10 H10 hp10 e10 => ?_
      have hL10 := (hL8.pure dst x9).pure dst (exn e10 hp10)
      have J := I.tells (zs := zs.take b) (List.Nodup.sublist (List.take_sublist _ _) (hzs.nodup_iff.mpr (List.Nodup.sublist (List.filter_sublist) I.nk))) fun z hz => by
        have hz' := List.mem_filter.mp (hzs.mem_iff.mp (List.mem_of_mem_take hz))
        exact ⟨hz'.1, by simpa using hz'.2⟩
      have rG : RpL G H9 xs9 ds := rx9.sub (by intro a z; simp [z])
      refine q p10 _ (ds ++ (zs.take b).map tellD) _ H10 ?_ ?_ hL10.S (dropx hL10.x) ?_ (eqs e10) ((rG.append ry9).ex (exn e10 hp10)) ⟨J.f, ?_, ?_, J.good⟩
      · omega
      · omega
      · have := (x48.trans (xH8.trans x9.of)).free hp10
        exact x04.free this
      · rw [List.length_append]; omega
      · rw [List.length_append, List.length_map, List.length_take]; omega

end Tw
end

section
set_option Elab.async false
set_option linter.all false
set_option maxRecDepth 100000
set_option maxHeartbeats 4000000
namespace Tw
open PySem L2 PyProof.Rows

/-! ### literals are good data -/
mutual
def Lt.okxL : Nat → Lt → Bool
  | _, .non => true
  | _, .bl _ => true
  | _, .int _ => true
  | _, .dct => true
  | _, .str s => okS s
  | n, .var _ => decide (6 ≤ n)
  | 0, .tup _ => false
  | 0, .lst _ => false
  | n + 1, .tup ls => decide (ls.length ≤ 1000) && Lt.okxLs n ls
  | n + 1, .lst ls => decide (ls.length ≤ 1000) && Lt.okxLs n ls
def Lt.okxLs : Nat → List Lt → Bool
  | _, [] => true
  | n, l :: ls => Lt.okxL n l && Lt.okxLs n ls
end
section
variable {dv : Nat → PyData}
mutual
theorem Lt.okx_d : ∀ {n : Nat} {L : Lt}, Lt.okxL n L = true → (∀ k, okx 6 (dv k) = true) → okx n (L.d dv) = true
  | n, .non, _, _ => by rw [Lt.d]; cases n <;> rw [okx]
  | n, .bl _, _, _ => by rw [Lt.d]; cases n <;> rw [okx]
  | n, .int _, _, _ => by rw [Lt.d]; cases n <;> rw [okx]
  | n, .dct, _, _ => by rw [Lt.d]; cases n <;> rw [okx] <;> rfl
  | n, .str s, h, _ => by rw [Lt.d, okx_str]; cases n <;> (rw [Lt.okxL] at h; exact h)
  | n, .var k, h, hv => by
    have h' : 6 ≤ n := by cases n <;> (rw [Lt.okxL] at h; exact of_decide_eq_true h)
    rw [Lt.d]
    exact okx_le (hv k) h'
  | 0, .tup _, h, _ => by simp [Lt.okxL] at h
  | 0, .lst _, h, _ => by simp [Lt.okxL] at h
  | n + 1, .tup ls, h, hv => by
    rw [Lt.okxL, Bool.and_eq_true] at h
    have := of_decide_eq_true h.1
    rw [Lt.d, okx_tuple, Lt.ds_len]
    exact ⟨Lt.okx_ds h.2 hv, by omega⟩
  | n + 1, .lst ls, h, hv => by
    rw [Lt.okxL, Bool.and_eq_true] at h
    have := of_decide_eq_true h.1
    rw [Lt.d, okx_list, Lt.ds_len]
    exact ⟨Lt.okx_ds h.2 hv, by omega⟩
theorem Lt.okx_ds : ∀ {n : Nat} {ls : List Lt}, Lt.okxLs n ls = true → (∀ k, okx 6 (dv k) = true) → okxs n (Lt.ds dv ls) = true
  | n, [], _, _ => by rw [Lt.ds, okxs]
  | n, l :: ls, h, hv => by
    rw [Lt.okxLs, Bool.and_eq_true] at h
    rw [Lt.ds, okxs_cons]
    exact ⟨Lt.okx_d h.1 hv, Lt.okx_ds h.2 hv⟩
end
end
/-- a first thing that is a text or a list of one -/
def Lt.okL : Lt → Bool
  | .non => true
  | .bl _ => true
  | .int _ => true
  | .str s => okS s
  | .lst [.str s] => okS s
  | _ => false
def Lt.fineL : Lt → Bool
  | .tup (a :: _) => a.okL
  | .lst (a :: _) => a.okL
  | .var _ => false
  | _ => true
theorem Lt.ok_d {dv : Nat → PyData} : ∀ {L : Lt}, L.okL = true → ok 20 (L.d dv) = true
  | .non, _ => by rw [Lt.d, ok]
  | .bl _, _ => by rw [Lt.d, ok]
  | .int _, _ => by rw [Lt.d, ok]
  | .str s, h => by rw [Lt.d, ok_str]; exact h
  | .lst [.str s], h => by
    rw [Lt.d, Lt.ds, Lt.ds, Lt.d, ok_list, oks_cons, ok_str]
    exact ⟨⟨h, by rw [oks]⟩, by simp⟩
theorem Lt.fine_d {dv : Nat → PyData} {L : Lt} (h : L.fineL = true) : fine (L.d dv) = true := by
  cases L with
  | tup ls =>
    cases ls with
    | nil => rw [Lt.d, Lt.ds]; rfl
    | cons a ls => rw [Lt.d, Lt.ds]; exact Lt.ok_d h
  | lst ls =>
    cases ls with
    | nil => rw [Lt.d, Lt.ds]; rfl
    | cons a ls => rw [Lt.d, Lt.ds]; exact Lt.ok_d h
  | var k => cases h
  | non => rw [Lt.d]; rfl
  | bl b => rw [Lt.d]; rfl
  | int b => rw [Lt.d]; rfl
  | str b => rw [Lt.d]; rfl
  | dct => rw [Lt.d]; rfl
/-- an odd thing -/
def odd (d : PyData) : Prop := okx 12 d = true ∧ fine d = true ∧ size d ≤ 1000
mutual
def Lt.sz : Lt → Nat
  | .non => 1
  | .bl _ => 1
  | .int _ => 1
  | .dct => 1
  | .str _ => 1
  | .var _ => 20
  | .tup ls => Lt.szs ls + 1
  | .lst ls => Lt.szs ls + 1
def Lt.szs : List Lt → Nat
  | [] => 0
  | l :: ls => Lt.sz l + Lt.szs ls
end
section
variable {dv : Nat → PyData}
mutual
theorem Lt.size_d : ∀ {L : Lt}, (∀ k, size (dv k) ≤ 20) → size (L.d dv) ≤ L.sz
  | .non, _ => by rw [Lt.d, Lt.sz, size]; exact Nat.le_refl _
  | .bl _, _ => by rw [Lt.d, Lt.sz, size]; exact Nat.le_refl _
  | .int _, _ => by rw [Lt.d, Lt.sz, size]; exact Nat.le_refl _
  | .dct, _ => by rw [Lt.d, Lt.sz, size]; exact Nat.le_refl _
  | .str _, _ => by rw [Lt.d, Lt.sz, size]; exact Nat.le_refl _
  | .var k, h => by rw [Lt.d, Lt.sz]; exact h k
  | .tup ls, h => by rw [Lt.d, Lt.sz, size]; exact Nat.succ_le_succ (Lt.size_ds h)
  | .lst ls, h => by rw [Lt.d, Lt.sz, size]; exact Nat.succ_le_succ (Lt.size_ds h)
theorem Lt.size_ds : ∀ {ls : List Lt}, (∀ k, size (dv k) ≤ 20) → sizes (Lt.ds dv ls) ≤ Lt.szs ls
  | [], _ => by rw [Lt.ds, Lt.szs, sizes]; exact Nat.le_refl _
  | l :: ls, h => by rw [Lt.ds, Lt.szs, sizes]; exact Nat.add_le_add (Lt.size_d h) (Lt.size_ds h)
end
end
theorem odd_ds {dv : Nat → PyData} : ∀ {ls : List Lt}, Lt.okxLs 12 ls = true → ls.all (fun l => Lt.fineL l && decide (Lt.sz l ≤ 1000)) = true → (∀ k, okx 6 (dv k) = true) → (∀ k, size (dv k) ≤ 20) → ∀ d ∈ Lt.ds dv ls, odd d
  | [], _, _, _, _, d, hd => by rw [Lt.ds] at hd; simp at hd
  | l :: ls, h, g, hv, hz, d, hd => by
    rw [Lt.okxLs, Bool.and_eq_true] at h
    rw [List.all_cons, Bool.and_eq_true, Bool.and_eq_true] at g
    rw [Lt.ds] at hd
    rcases List.mem_cons.mp hd with e | e
    · rw [e]; exact ⟨Lt.okx_d h.1 hv, Lt.fine_d g.1.1, Nat.le_trans (Lt.size_d hz) (of_decide_eq_true g.1.2)⟩
    · exact odd_ds h.2 g.2 hv hz d e
theorem faultL_each : ∀ {ds : List PyData} {known told : List Str} {i : Nat}, faultL known told i ds = none → ∀ d ∈ ds, ∃ k t, lineD k t d = true
  | [], _, _, _, _, d, hd => by simp at hd
  | e :: ds, known, told, i, h, d, hd => by
    rw [faultL] at h
    by_cases hl : lineD known told e = true
    · rw [if_pos hl] at h
      rcases List.mem_cons.mp hd with z | z
      · exact ⟨_, _, z ▸ hl⟩
      · exact faultL_each h d z
    · rw [if_neg hl] at h
      cases h
theorem ok_fine {d : PyData} (h : ok 6 d = true) : fine d = true := by
  unfold fine
  cases d with
  | list ds =>
    cases ds with
    | nil => rfl
    | cons a as => rw [ok_list, oks_cons] at h; exact ok_le h.1.1 (by decide)
  | tuple ds =>
    cases ds with
    | nil => rfl
    | cons a as => rw [ok_tuple, oks_cons] at h; exact ok_le h.1.1 (by decide)
  | _ => rfl
/-! ### promises -/
def spSame (m : Nat) : Sp := fun vs H Q _ => ∃ (F G : List Addr) (v u : V) (d : PyData) (n : Nat), vs = [v, u] ∧ Rp F H v d ∧ Rp G H u d ∧ ok n d = true ∧ n < m ∧ n ≤ 60 ∧ ∀ H', ExF [] H H' → Q (.bl true) H'
def spLoose (m : Nat) : Sp := fun vs H Q _ => ∃ (st cl : Addr) (c : Nat) (F G : List Addr) (v : V) (d : PyData) (n : Nat), vs = [.ref st, v] ∧ Strm st cl H c ∧ st ∈ F ∧ cl ∈ F ∧ Rp F H v d ∧ ok n d = true ∧ n < m ∧ c + size d < 2 ^ 48 ∧ Trk G H ∧
  ∀ r d' c' H', c ≤ c' → c' ≤ c + size d → Strm st cl H' c' → ExF [st, cl] H H' → Rp G H' r d' → tupD d' = tupD d → ok n d' = true → (isSeq d = true → ∃ a, r = .ref a ∧ H a = none) → Q r H'
def spOdds : Sp := fun vs H Q _ => ∃ (st cl : Addr) (c : Nat) (F G : List Addr) (l : Addr) (xs : List V) (ds : List PyData), vs = [.ref st, .ref l] ∧ Strm st cl H c ∧ c < 2 ^ 48 ∧ st ∈ F ∧ cl ∈ F ∧ H l = some (.lst xs) ∧ l ∉ F ∧ RpL F H xs ds ∧ GoodL ds ∧ Trk G H ∧
  ∀ r ys es H', Strm st cl H' (c + 1) → ExF [st, cl] H H' → H r = none → H' r = some (.lst ys) → RpL G H' ys es → (∀ d ∈ es, odd d) → es.length ≤ 100 → Q (.ref r) H'
end Tw
end

section
set_option Elab.async false
set_option linter.all false
set_option maxRecDepth 100000
set_option maxHeartbeats 4000000
namespace Tw
open PySem L2 PyProof.Rows
noncomputable def t_l_same_t3 (K : PySem.W.Frag) (m : Nat) : TS := tRet (tAndV (tNotV (tCB (rIsiU K) (tCons (tVar 0) (tCons (tTupU (tCons (tC (.ty "int")) (tCons (tC (.ty "list")) (tCons (tC (.ty "tuple")) (tCons (tC (.ty "dict")) (tNil)))))) (tNil))))) (tOp (rEqU K) (tVar 0) (tVar 1)))
noncomputable def t_l_same_t2 (K : PySem.W.Frag) (m : Nat) : TS := tSeq (tIfS (tB (tCB (rIsiU K) (tCons (tVar 1) (tCons (tC (.ty "int")) (tNil))))) (tRet (tAndV (tCB (rIsiU K) (tCons (tVar 0) (tCons (tC (.ty "int")) (tNil)))) (tAndV (tOp (rEqU K) (tCB (rIsiU K) (tCons (tVar 0) (tCons (tC (.ty "bool")) (tNil)))) (tCB (rIsiU K) (tCons (tVar 1) (tCons (tC (.ty "bool")) (tNil))))) (tOp (rEqU K) (tVar 0) (tVar 1))))) (tNext)) (t_l_same_t3 K m)
noncomputable def t_l_same_t1 (K : PySem.W.Frag) (m : Nat) : TS := tSeq (tIfS (tB (tCB (rIsiU K) (tCons (tVar 1) (tCons (tC (.ty "dict")) (tNil))))) (tNoS) (tNext)) (t_l_same_t2 K m)
noncomputable def t_l_same (K : PySem.W.Frag) (m : Nat) : TS := tSeq (tIfS (tB (tCB (rIsiU K) (tCons (tVar 1) (tCons (tTupU (tCons (tC (.ty "list")) (tCons (tC (.ty "tuple")) (tNil)))) (tNil))))) (tSeq (tIfS (tOr (tTest (tOp (rNeU K) (tCB (rIsiU K) (tCons (tVar 0) (tCons (tC (.ty "list")) (tNil)))) (tCB (rIsiU K) (tCons (tVar 1) (tCons (tC (.ty "list")) (tNil)))))) (tTest (tOp (rNeU K) (tCB (rIsiU K) (tCons (tVar 0) (tCons (tC (.ty "tuple")) (tNil)))) (tCB (rIsiU K) (tCons (tVar 1) (tCons (tC (.ty "tuple")) (tNil))))))) (tRet (tC (.bl false))) (tNext))
      (tRet (tAndV (tOp (rEqU K) (tCB (rLenU K) (tCons (tVar 0) (tNil))) (tCB (rLenU K) (tCons (tVar 1) (tNil)))) (tCB (rAllU K) (tCons (tLcU (RZ.iZipA K (tCons (tVar 0) (tCons (tVar 1) (tNil)))) (gTup K 2 (gCons (gName 2) (gCons (gName 3) (gNil)))) (tYes) (tCall (spSame m) [] E0 (tCons (tVar 2) (tCons (tVar 3) (tNil)))) [2, 3]) (tNil)))))) (tNext)) (t_l_same_t1 K m)
noncomputable def t_l_loose_t2 (K : PySem.W.Frag) (m : Nat) : TS := tRet (tIf (tTest (tOp (rEqU K) (tCall spDraw [] E0 (tCons (tVar 0) (tCons (tC (.int 3)) (tNil)))) (tC (.int 0)))) (tVar 2) (tCB (rTupOf K) (tCons (tVar 2) (tNil))))
noncomputable def t_l_loose_t1 (K : PySem.W.Frag) (m : Nat) : TS := tSeq (tAsg (tLcU (iSeqU K (tVar 1)) (gName 3) (tYes) (tCall (spLoose m) [] E0 (tCons (tVar 0) (tCons (tVar 3) (tNil)))) [3]) (gName 2)) (t_l_loose_t2 K m)
noncomputable def t_l_loose (K : PySem.W.Frag) (m : Nat) : TS := tSeq (tIfS (tNot (tB (tCB (rIsiU K) (tCons (tVar 1) (tCons (tTupU (tCons (tC (.ty "list")) (tCons (tC (.ty "tuple")) (tNil)))) (tNil)))))) (tRet (tVar 1)) (tNext)) (t_l_loose_t1 K m)
noncomputable def t_l_odds_b4 (K : PySem.W.Frag) : TS := tSeq (tDrop (tBM K "list" (rExtU K) (tVar 3) (tCons (tLt (.lst [.tup [.str "read", .var 4], .lst [.str "give", .var 4, .tup [.str "f"]], .tup [.str "give", .str "new2", .lst [.var 4]]])) (tNil))))
      (tDrop (tBM K "list" (rAppendU) (tVar 3) (tCons (tLt (.tup [.str "give", .str "new3", .tup [.str "f", .lst [.var 4, .var 2]]])) (tNil))))
noncomputable def t_l_odds_b5 (K : PySem.W.Frag) : TS := tDrop (tBM K "list" (rAppendU) (tVar 3) (tCons (tLt (.tup [.str "give", .str "new4", .var 4])) (tNil)))
noncomputable def t_l_odds_t6 (K : PySem.W.Frag) : TS := tRet (tVar 3)
noncomputable def t_l_odds_t5 (K : PySem.W.Frag) : TS := tSeq (tForU (iSeqU K (tLt (.tup [.non, .int 5, .bl true, .tup [], .str "nobody", .dct, .lst [.int 5], .tup [.str "f", .non], .lst [.str "f", .tup [.str "g", .str "nobody"]], .lst [.tup [.str "f"]], .tup [.str "f", .str "f", .tup []]]))) (gName 4) (t_l_odds_b5 K)) (t_l_odds_t6 K)
noncomputable def t_l_odds_t4 (K : PySem.W.Frag) : TS := tSeq (tForU (iSeqU K (tLt (.tup [.str "A", .str "1a", .str "", .str "a b", .str "a_b", .str "nineletrs", .str "read", .str "tell", .int 5, .non, .lst [.str "a"], .str "a\n", .str "b7"]))) (gName 4) (t_l_odds_b4 K)) (t_l_odds_t5 K)
noncomputable def t_l_odds_t3 (K : PySem.W.Frag) : TS := tSeq (tDrop (tBM K "list" (rExtU K) (tVar 3) (tCons (tLt (.lst [.tup [.str "tell", .str "zz8"], .tup [.str "give", .var 2]])) (tNil)))) (t_l_odds_t4 K)
noncomputable def t_l_odds_t2 (K : PySem.W.Frag) : TS := tSeq (tDrop (tBM K "list" (rExtU K) (tVar 3) (tCons (tLt (.lst [.tup [.str "ask", .var 2], .tup [.lst [.str "read"], .var 2], .tup [.str "read", .var 2], .tup [.str "tell", .var 2], .lst [.str "give", .str "new1", .var 2]])) (tNil)))) (t_l_odds_t3 K)
noncomputable def t_l_odds_t1 (K : PySem.W.Frag) : TS := tSeq (tAsg (tLt (.lst [.non, .int 5, .bl true, .str "re", .str "read a", .dct, .tup [], .lst [], .tup [.str "read"], .tup [.str "give", .str "zz9"], .tup [.str "read", .var 2, .var 2]])) (gName 3)) (t_l_odds_t2 K)
noncomputable def t_l_odds (K : PySem.W.Frag) : TS := tSeq (tAsg (tCall spPick [] E0 (tCons (tVar 0) (tCons (tOp (rAddU K) (tLcU (iSeqU K (tVar 1)) (gName 5) (tYes) (tOp (rIxU K) (tVar 5) (tC (.int 1))) [5]) (tLt (.lst [.str "zz9"]))) (tNil)))) (gName 2)) (t_l_odds_t1 K)

theorem rd_l_same (K : PySem.W.Frag) (m : Nat) {vs : List V} {H : Hp} {Q : VK} {E : XK} (h : spSame (m + 1) vs H Q E) :
    t_l_same K m { nx := fun _ H' => Q .non H', rt := Q } (start ["_law_found", "_law_due", "_law_x", "_law_y"] vs) H := by
  obtain ⟨F, G, v, u, d, n, rfl, rv, ru, hd, hnm, hn60, q⟩ := h
  have sz : sizeLine = 16777216 := sizeLine_eq
  refine ⟨_, rfl, by show 2 ≤ sizeLine; decide, fun p1 H1 hp1 e1 => ?_⟩
  have x1 : ExF [] H H1 := exn e1 hp1
  have rv1 := rv.ex x1.of
  have ru1 := ru.ex x1.of
  refine isi_seq ru1 (eqs e1) ⟨_, rfl, ?_⟩
  -- a row: each the same
  have seq : ∀ (a b : Addr) (xs ys : List V) (ds : List PyData), v = .ref a → u = .ref b → Sq2 H1 a b xs ys → RpL F H1 xs ds → RpL G H1 ys ds → oks (n - 1) ds = true → 0 < n → ds.length ≤ 100000 → ∀ nx : L2.St → Hp → Prop,
      tRet (tAndV (tOp (rEqU K) (tCB (rLenU K) (tCons (tVar 0) (tNil))) (tCB (rLenU K) (tCons (tVar 1) (tNil)))) (tCB (rAllU K) (tCons (tLcU (RZ.iZipA K (tCons (tVar 0) (tCons (tVar 1) (tNil)))) (gTup K 2 (gCons (gName 2) (gCons (gName 3) (gNil)))) (tYes) (tCall (spSame m) [] E0 (tCons (tVar 2) (tCons (tVar 3) (tNil)))) [2, 3]) (tNil))))
        { nx := nx, rt := Q } [some v, some u, none, none] H1 := by
    rintro a b xs ys ds rfl rfl h2 rx ry ho hn hl nx
    have lx := rx.1
    have ly := ry.1
    refine ⟨_, rfl, lenSq h2.l ⟨_, rfl, lenSq h2.r (eqI ?_)⟩⟩
    have e : (((xs.length : Nat) : Int) = ((ys.length : Nat) : Int)) := by omega
    rw [decide_eq_true e]
    refine ⟨_, rfl, ?_⟩
    refine iteT ?_
    refine lcZipT rfl rfl h2 (by omega) (by omega) (fun _ _ => rfl) ?_ ?_
    · intro i x y H2 hx hy x2 Qc k
      obtain ⟨e, he, r1⟩ := rx.get' hx
      obtain ⟨e', he', r2⟩ := ry.get' hy
      rw [he] at he'
      cases he'
      exact ⟨_, rfl, _, rfl, F, G, x, y, e, n - 1, rfl, r1.ex x2.of, r2.ex x2.of, oks_iff.mp ho e (List.mem_of_getElem? he), by omega, by omega, fun H3 x3 => k H3 x3⟩
    · intro r H2 hr h x2
      refine allB h ?_
      have e : (List.replicate xs.length true).all id = true := by simp
      rw [e]
      exact q H2 (x1.trans x2)
  have rest : isSeq d = false → isDict d = false → t_l_same_t2 K m { nx := fun _ H' => Q .non H', rt := Q } [some v, some u, none, none] H1 := by
    intro h1 h2
    refine ⟨_, rfl, isi_int ru1 ⟨_, rfl, ?_⟩⟩
    cases d with
    | list ds => cases h1
    | tuple ds => cases h1
    | dict kvs => cases h2
    | int i =>
      cases rv1; cases ru1
      refine iteT ?_
      refine ⟨_, rfl, isi_int (F := []) (.int i) ⟨_, rfl, iteT ?_⟩⟩
      refine ⟨_, rfl, isi_bool (F := []) (.int i) ⟨_, rfl, isi_bool (F := []) (.int i) (eqB ⟨_, rfl, iteT ?_⟩)⟩⟩
      refine ⟨_, rfl, _, rfl, eqI ?_⟩
      rw [decide_eq_true rfl]
      exact q H1 x1
    | bool i =>
      cases rv1; cases ru1
      refine iteT ?_
      refine ⟨_, rfl, isi_int (F := []) (.bl i) ⟨_, rfl, iteT ?_⟩⟩
      refine ⟨_, rfl, isi_bool (F := []) (.bl i) ⟨_, rfl, isi_bool (F := []) (.bl i) (eqB ⟨_, rfl, iteT ?_⟩)⟩⟩
      refine ⟨_, rfl, _, rfl, eqB ?_⟩
      rw [beq_self_eq_true]
      exact q H1 x1
    | none =>
      refine iteF ?_
      refine ⟨_, rfl, by show 4 ≤ sizeLine; decide, fun p2 H2 hp2 e2 => ?_⟩
      have x2 : ExF [] H1 H2 := exn e2 hp2
      refine isi_iltd (rv1.ex x2.of) (eqs e2) ⟨_, rfl, ?_⟩
      refine ⟨_, rfl, iteT ?_⟩
      refine ⟨_, rfl, _, rfl, eqO (n := 0) (m := 0) (rv1.ex x2.of) (ru1.ex x2.of) (by rw [ok_none]) (by rw [ok_none]) ?_⟩
      exact q H2 (x1.trans x2)
    | str s =>
      cases rv1; cases ru1
      refine iteF ?_
      refine ⟨_, rfl, by show 4 ≤ sizeLine; decide, fun p2 H2 hp2 e2 => ?_⟩
      have x2 : ExF [] H1 H2 := exn e2 hp2
      refine isi_iltd (F := []) (.str s) (eqs e2) ⟨_, rfl, ?_⟩
      refine ⟨_, rfl, iteT ?_⟩
      refine ⟨_, rfl, _, rfl, eqS ?_⟩
      rw [decide_eq_true rfl]
      exact q H2 (x1.trans x2)
  cases hq : isSeq d with
  | false =>
    refine iteF ?_
    refine ⟨_, rfl, isi_dict ru1 ⟨_, rfl, ?_⟩⟩
    cases hdd : isDict d with
    | true =>
      cases d <;> simp [isDict] at hdd
      cases n <;> simp [ok] at hd
    | false =>
      refine iteF ?_
      exact rest hq hdd
  | true =>
    refine iteT ?_
    refine ⟨_, rfl, isi_list rv1 ⟨_, rfl, isi_list ru1 (neB ⟨_, rfl, ?_⟩)⟩⟩
    rw [bne_self_eq_false]
    refine iteF ?_
    refine ⟨_, rfl, isi_tuple rv1 ⟨_, rfl, isi_tuple ru1 (neB ⟨_, rfl, ?_⟩)⟩⟩
    rw [bne_self_eq_false]
    refine iteF ?_
    cases d with
    | list ds =>
      obtain ⟨a, xs, rfl, _, ha, rx⟩ := rv1.list_inv
      obtain ⟨b, ys, rfl, _, hb, ry⟩ := ru1.list_inv
      cases n with
      | zero => simp [ok] at hd
      | succ n =>
        rw [ok_list] at hd
        exact seq a b xs ys ds rfl rfl (.inl ⟨ha, hb⟩) rx ry hd.1 (by omega) hd.2 _
    | tuple ds =>
      obtain ⟨a, xs, rfl, _, ha, rx⟩ := rv1.tuple_inv
      obtain ⟨b, ys, rfl, _, hb, ry⟩ := ru1.tuple_inv
      cases n with
      | zero => simp [ok] at hd
      | succ n =>
        rw [ok_tuple] at hd
        exact seq a b xs ys ds rfl rfl (.inr ⟨ha, hb⟩) rx ry hd.1 (by omega) hd.2 _
    | _ => cases hq
theorem sizes_take : ∀ (ds : List PyData) (i : Nat) (d : PyData), ds[i]? = some d → sizes (ds.take (i + 1)) = sizes (ds.take i) + size d := fun ds i d h => by
  rw [List.take_succ, h, sizes_append]
  simp [sizes]
theorem sizes_take_le : ∀ (ds : List PyData) (i : Nat), sizes (ds.take i) ≤ sizes ds := fun ds i => by
  have : sizes ds = sizes (ds.take i) + sizes (ds.drop i) := by rw [← sizes_append, List.take_append_drop]
  omega
theorem tups_append : ∀ (ds es : List PyData), tups (ds ++ es) = tups ds ++ tups es := fun ds es => by rw [tups_map, tups_map, tups_map, List.map_append]
theorem tups_len (ds : List PyData) : (tups ds).length = ds.length := by rw [tups_map, List.length_map]
theorem rd_l_loose (K : PySem.W.Frag) (m : Nat) {vs : List V} {H : Hp} {Q : VK} {E : XK} (h : spLoose (m + 1) vs H Q E) :
    t_l_loose K m { nx := fun _ H' => Q .non H', rt := Q } (start ["_law_stream", "_law_thing", "_law_found", "_law_part"] vs) H := by
  obtain ⟨st, cl, c, F, G, v, d, n, rfl, S, fs, fc, rv, hd, hnm, hc, tG, q⟩ := h
  have sz : sizeLine = 16777216 := sizeLine_eq
  have sub : ∀ {a b : Hp}, ExF [st, cl] a b → ExF F a b := fun x => x.sub (by intro a z; simp at z; rcases z with z | z <;> (rw [z]; assumption))
  refine ⟨_, rfl, by show 2 ≤ sizeLine; decide, fun p1 H1 hp1 e1 => ?_⟩
  have x1 : ExF [] H H1 := exn e1 hp1
  have rv1 := rv.ex x1.of
  have S1 : Strm st cl H1 c := S.ex' (by simp) (by simp) x1
  refine isi_seq rv1 (eqs e1) ⟨_, rfl, ?_⟩
  -- a row
  have seq : ∀ (a : Addr) (xs : List V) (ds : List PyData), v = .ref a → a ∉ F → Sq H1 a xs → RpL F H1 xs ds → oks (n - 1) ds = true → 0 < n → ds.length ≤ 100000 → tupD d = .tuple (tups ds) → size d = sizes ds + 1 →
      t_l_loose_t1 K m { nx := fun _ H' => Q .non H', rt := Q } [some (.ref st), some v, none, none] H1 := by
    rintro a xs ds rfl nF ha rx ho hn hl ht hsz
    have lx := rx.1
    have nM : a ∉ [st, cl] := fun z => nF (by simp at z; rcases z with z | z <;> (rw [z]; assumption))
    refine lcS (M := [st, cl]) (xs := xs) (iter_var (a := a) rfl ha nM) (fun H0 D i H' => ∃ (acc : List V) (es : List PyData) (c' : Nat), acc.length = i ∧ H' D = some (.lst acc) ∧ RpL (D :: st :: cl :: G) H' acc es ∧ tups es = tups (ds.take i) ∧ oks (n - 1) es = true ∧ c ≤ c' ∧ c' ≤ c + sizes (ds.take i) ∧ Strm st cl H' c' ∧ ExF [D, st, cl] H0 H')
      ?_ (fun H0 D i H' hD ⟨_, _, _, _, _, _, _, _, _, _, _, x⟩ => x) ?_ ?_
    · intro H0 D H2 x0 hD e2
      exact ⟨[], [], c, rfl, eqs e2, .nil, by simp [tups], by rw [oks], Nat.le_refl _, by omega, (S1.ex' (F := []) (by simp) (by simp) x0).ex' (F := []) (by simp) (by simp) (exn e2 hD), exn e2 hD⟩
    · rintro H0 D i x H2 x0 hD hx ⟨acc, es, c', ha2, hH, rr, ht2, ho2, l1, u1, S2, x2⟩
      obtain ⟨e, he, re⟩ := rx.get' hx
      have hi : i < xs.length := (List.getElem?_eq_some_iff.mp hx).1
      refine ⟨rfl, ?_⟩
      unfold tYes
      dsimp only
      rw [if_pos rfl]
      have hst := sizes_take ds i e he
      have hle := sizes_take_le ds (i + 1)
      have x12 : ExF [st, cl] H1 H2 := by
        have y : ExF [D, st, cl] H1 H2 := x0.of.trans x2
        exact y.drop (x0.free hD)
      have hDs : D ≠ st := fun z => (S1.trk.ex x0) st (by simp) (by rw [← z]; exact hD)
      have hDc : D ≠ cl := fun z => (S1.trk.ex x0) cl (by simp) (by rw [← z]; exact hD)
      refine ⟨_, rfl, _, rfl, st, cl, c', F, D :: st :: cl :: G, x, e, n - 1, rfl, S2, fs, fc, re.ex (sub x12), oks_iff.mp ho e (List.mem_of_getElem? he), by omega, by omega, ?_, fun r d' c'' H3 l2 u2 S3 x3 rr' ht' ho' _ => ?_⟩
      · intro b hb
        simp only [List.mem_cons] at hb
        rcases hb with z | z | z | z
        · rw [z, hH]; exact fun z => nomatch z
        · rw [z]; exact S2.trk st (by simp)
        · rw [z]; exact S2.trk cl (by simp)
        · exact x12.kept b (x1.kept b (tG b z))
      · have h3 : H3 D = some (.lst acc) := x3.at_ _ _ (by simp [hDs, hDc]) hH
        refine ⟨acc, h3, by omega, ?_⟩
        generalize e7 : upd H3 D (.lst (acc ++ [r])) = H4
        have e7 := e7.symm
        have x34 : ExF (D :: st :: cl :: G) H3 H4 := exm e7 (.inr (by simp)) ExF.refl
        refine ⟨acc ++ [r], es ++ [d'], c'', by simp [ha2], eqs e7, ((rr.ex (x3.sub (by intro a z; simp at z; rcases z with z | z <;> simp [z]))).ex x34).snoc (rr'.ex x34), ?_, ?_, by omega, by omega, S3.ex' (F := [D]) (by simp [Ne.symm hDs]) (by simp [Ne.symm hDc]) (exm e7 (.inr (by simp)) ExF.refl), ?_⟩
        · rw [List.take_succ, he, tups_append, tups_append, ht2]
          simp [tups, ht']
        · rw [oks_append, oks_cons]
          exact ⟨ho2, ho', by rw [oks]⟩
        · exact exm e7 (.inr (by simp)) (x2.trans (x3.sub (by intro a z; simp at z; rcases z with z | z <;> simp [z])))
    · rintro H0 D H2 x0 hD ⟨acc, es, c', ha2, hH, rr, ht2, ho2, l1, u1, S2, x2⟩
      rw [lx, List.take_length] at ht2 u1
      have hel : es.length ≤ 100000 := by have := congrArg List.length ht2; rw [tups_len, tups_len] at this; omega
      have x12 : ExF [st, cl] H H2 := by
        have y : ExF [D, st, cl] H H2 := (x1.trans x0).of.trans x2
        exact y.drop ((x1.trans x0).free hD)
      have nDG : D ∉ G := fun z => (tG.ex (x1.trans x0)) D z hD
      have hDs : D ≠ st := fun z => (S1.trk.ex x0) st (by simp) (by rw [← z]; exact hD)
      have hDc : D ≠ cl := fun z => (S1.trk.ex x0) cl (by simp) (by rw [← z]; exact hD)
      refine ⟨_, rfl, st, cl, c', 3, rfl, S2, by omega, by decide, by decide, fun k H3 g0 g1 S3 x3 => ?_⟩
      have h3 : H3 D = some (.lst acc) := x3.at_ _ _ (by simp [hDs, hDc]) hH
      have rr3 : RpL (D :: st :: cl :: G) H3 acc es := rr.ex (x3.sub (by intro a z; simp at z; rcases z with z | z <;> simp [z]))
      have rG : RpL G H3 acc es := rr3.sub (by intro a z; simp [z])
      have en : n - 1 + 1 = n := by omega
      refine eqI ⟨_, rfl, ?_⟩
      refine ite2 (fun _ => ?_) (fun _ => ?_)
      · refine ⟨_, rfl, q (.ref D) (.list es) (c' + 1) H3 (by omega) (by omega) S3 (x12.trans x3) (.list nDG h3 rG) ?_ ?_ fun _ => ⟨D, rfl, (x1.trans x0).free hD⟩⟩
        · rw [ht, tupD, ht2]
        · rw [← en, ok_list]; exact ⟨ho2, hel⟩
      · refine ⟨_, rfl, tupOfL h3 fun p4 H4 hp4 e4 => ?_⟩
        have x4 : ExF [] H3 H4 := exn e4 hp4
        have n4 : p4 ∉ G := fun z => (tG.ex (x12.trans x3)) p4 z hp4
        refine q (.ref p4) (.tuple es) (c' + 1) H4 (by omega) (by omega) (S3.ex' (by simp) (by simp) x4) ((x12.trans x3).trans x4.of) (.tuple n4 (eqs e4) (rG.ex x4.of)) ?_ ?_ fun _ => ⟨p4, rfl, (x12.trans x3).free hp4⟩
        · rw [ht, tupD, ht2]
        · rw [← en, ok_tuple]; exact ⟨ho2, hel⟩
  have leaf : ∀ nx : L2.St → Hp → Prop, isSeq d = false → Rp G H1 v d → tRet (tVar 1) { nx := nx, rt := Q } [some (.ref st), some v, none, none] H1 := fun nx _ rr => ⟨_, rfl, q v d c H1 (Nat.le_refl _) (by omega) S1 x1.of rr rfl hd fun h => absurd h (by simp [*])⟩
  cases d with
  | list ds =>
    obtain ⟨a, xs, rfl, nF, ha, rx⟩ := rv1.list_inv
    refine iteF ?_
    cases n with
    | zero => simp [ok] at hd
    | succ n =>
      rw [ok_list] at hd
      exact seq a xs ds rfl nF (.inl ha) rx hd.1 (by omega) hd.2 (by rw [tupD]) (by rw [size])
  | tuple ds =>
    obtain ⟨a, xs, rfl, nF, ha, rx⟩ := rv1.tuple_inv
    refine iteF ?_
    cases n with
    | zero => simp [ok] at hd
    | succ n =>
      rw [ok_tuple] at hd
      exact seq a xs ds rfl nF (.inr ha) rx hd.1 (by omega) hd.2 (by rw [tupD]) (by rw [size])
  | none => cases rv1; exact iteT (leaf _ rfl .non)
  | bool b => cases rv1; exact iteT (leaf _ rfl (.bl b))
  | int i => cases rv1; exact iteT (leaf _ rfl (.int i))
  | str s => cases rv1; exact iteT (leaf _ rfl (.str s))
  | dict kvs => cases n <;> simp [ok] at hd
/-- what is found so far, at fl -/
def FS (fl : Addr) (G : List Addr) (H : Hp) (es : List PyData) : Prop := ∃ xs, H fl = some (.lst xs) ∧ RpL (fl :: G) H xs es
section
variable {K : PySem.W.Frag} {D : Ends} {σ : L2.St} {H : Hp} {fl : Addr} {G : List Addr} {es : List PyData} {dv : Nat → PyData}
theorem FS.ex {H' : Hp} (h : FS fl G H es) (x : ExF [] H H') : FS fl G H' es := by
  obtain ⟨xs, h1, r⟩ := h
  exact ⟨xs, x.at_ _ _ (by simp) h1, r.ex x.of⟩
theorem FS.trk (h : FS fl G H es) (t : Trk G H) : Trk (fl :: G) H := by
  obtain ⟨xs, h1, r⟩ := h
  exact t.cons h1
theorem extLit {ls : List Lt} {vs : List Nat} (s3 : σ[3]? = some (some (.ref fl))) (g : Lt.goods vs ls = true) (hl : ls.length ≤ 1000) (hv : ∀ k, vs.contains k = true → ∃ v, σ[k]? = some (some v) ∧ Rp (fl :: G) H v (dv k)) (t : Trk G H) (F : FS fl G H es) (hz : es.length ≤ 1000)
    (q : ∀ H', ExF [fl] H H' → FS fl G H' (es ++ Lt.ds dv ls) → D.nx σ H') : tDrop (tBM K "list" (rExtU K) (tVar 3) (tCons (tLt (.lst ls)) (tNil))) D σ H := by
  obtain ⟨xs, h1, r⟩ := F
  have sz : sizeLine = 16777216 := sizeLine_eq
  refine ⟨_, s3, tyL h1, lit dv (fl :: G) vs (by rw [Lt.good, Bool.and_eq_true]; exact ⟨decide_eq_true hl, g⟩) hv (t.cons h1) fun v H1 x1 rv => ?_⟩
  rw [Lt.d] at rv
  obtain ⟨b, ys, rfl, nb, hb, ry⟩ := rv.list_inv
  have h1' := x1.at_ _ _ (by simp) h1
  have ly := ry.1
  rw [Lt.ds_len] at ly
  have lx := r.1
  refine extL h1' hb (by omega) fun H2 e2 => ?_
  have x2 : ExF (fl :: G) H1 H2 := exm e2 (.inr (by simp)) ExF.refl
  exact q H2 (exm e2 (.inr (by simp)) x1.of) ⟨_, eqs e2, ((r.ex x1.of).append ry).ex x2⟩
theorem appLit {L : Lt} {vs : List Nat} (s3 : σ[3]? = some (some (.ref fl))) (g : L.good vs = true) (hv : ∀ k, vs.contains k = true → ∃ v, σ[k]? = some (some v) ∧ Rp (fl :: G) H v (dv k)) (t : Trk G H) (F : FS fl G H es) (hz : es.length ≤ 1000)
    (q : ∀ H', ExF [fl] H H' → FS fl G H' (es ++ [L.d dv]) → D.nx σ H') : tDrop (tBM K "list" (rAppendU) (tVar 3) (tCons (tLt L) (tNil))) D σ H := by
  obtain ⟨xs, h1, r⟩ := F
  have sz : sizeLine = 16777216 := sizeLine_eq
  refine ⟨_, s3, tyL h1, lit dv (fl :: G) vs g hv (t.cons h1) fun v H1 x1 rv => ?_⟩
  have h1' := x1.at_ _ _ (by simp) h1
  have lx := r.1
  refine app h1' (by omega) fun H2 e2 => ?_
  have x2 : ExF (fl :: G) H1 H2 := exm e2 (.inr (by simp)) ExF.refl
  exact q H2 (exm e2 (.inr (by simp)) x1.of) ⟨_, eqs e2, ((r.ex x1.of).snoc rv).ex x2⟩
end

theorem litLen {dv : Nat → PyData} {ls : List Lt} {e : PyData} {i : Nat} (h : (Lt.ds dv ls)[i]? = some e) : ∃ l, l ∈ ls ∧ e = l.d dv := by
  induction ls generalizing i with
  | nil => rw [Lt.ds] at h; simp at h
  | cons l ls ih =>
    rw [Lt.ds] at h
    cases i with
    | zero => exact ⟨l, by simp, by simpa using h.symm⟩
    | succ i =>
      obtain ⟨l', h1, h2⟩ := ih (by simpa using h)
      exact ⟨l', by simp [h1], h2⟩
theorem rd_l_odds (K : PySem.W.Frag) {vs : List V} {H : Hp} {Q : VK} {E : XK} (h : spOdds vs H Q E) :
    t_l_odds K { nx := fun _ H' => Q .non H', rt := Q } (start ["_law_stream", "_law_lines", "_law_name", "_law_found", "_law_odd", "_law_line"] vs) H := by
  obtain ⟨st, cl, c, F, G, l, xs, ds, rfl, S, hc, fs, fc, hl, nlF, rx, gd, tG, q⟩ := h
  have sz : sizeLine = 16777216 := sizeLine_eq
  have hp30 : (2 : Nat) ^ 30 = 1073741824 := by decide
  have lx := rx.1
  have l20 := gd.l20
  -- a line's name
  have part : ∀ d ∈ ds, ∃ d0 s1 rest, items d = some (d0 :: .str s1 :: rest) ∧ lineN d = s1 ∧ okS s1 = true := fun d hd => by
    obtain ⟨k, t, h⟩ := faultL_each gd.f d hd
    obtain ⟨d0, s1, rest, hi, hn, _⟩ := lineD_parts h
    have ho := (gd.good d hd).1
    refine ⟨d0, s1, rest, hi, hn, ?_⟩
    rcases (items_some hi).2 with e | e <;> subst e
    · rw [ok_list, oks_cons, oks_cons, ok_str] at ho; exact ho.1.2.1
    · rw [ok_tuple, oks_cons, oks_cons, ok_str] at ho; exact ho.1.2.1
  refine ⟨_, rfl, ?_⟩
  refine lcMap (F := []) (xs := xs) (vs := [5]) (k := 5) (iter_var (a := l) rfl (.inl hl) (by simp)) ((ds.map lineN).map PyData.str) (by simp [lx]) (by omega) (fun _ => rfl) ?_ ?_
  · intro D i x e H2 hx he x2 hD hD2 Qc k
    obtain ⟨d, hd, rd⟩ := rx.get' hx
    rw [List.getElem?_map, List.getElem?_map, hd] at he
    cases he
    obtain ⟨d0, s1, rest, hi, hn, _⟩ := part d (List.mem_of_getElem? hd)
    obtain ⟨a, zs, rfl, na, ha, rz⟩ := (rd.ex (x2.of)).items hi
    obtain ⟨z0, zs1, rfl, _, rz1⟩ := rz.cons_inv
    obtain ⟨z1, zs2, rfl, r1, _⟩ := rz1.cons_inv
    cases r1.str_inv
    refine ⟨_, rfl, ixSq ha (atN (v := .str s1) (by decide) rfl) ?_⟩
    refine k _ H2 ExF.refl ?_
    show Rp (D :: []) H2 (V.str s1) (PyData.str (lineN d))
    rw [hn]
    exact .str s1
  · intro r ys H1 hr hy ry x1
    have ry := ry.all_str
    subst ry
    refine litL (fun _ => .none) [] [] rfl (by simp) Trk.nil fun p2 ys2 H2 hp2 h2 r2 x2 => ?_
    have r2 : RpL [p2] H2 ys2 ((["zz9"] : List Str).map PyData.str) := r2
    have r2 := r2.all_str
    subst r2
    refine catL (x2.at_ _ _ (by simp) hy) h2 (by rw [sz]; simp; omega) fun p3 H3 hp3 e3 => ?_
    have x03 : ExF [] H H3 := (x1.trans x2).trans (exn e3 hp3)
    have S3 : Strm st cl H3 c := S.ex' (by simp) (by simp) x03
    have n3 : p3 ∉ [st, cl] := (S.trk.ex (x1.trans x2)).nin hp3
    refine ⟨st, cl, c, p3, _, rfl, S3, hc, .inl (eqs e3), fun e => n3 (by simp [e]), fun e => n3 (by simp [e]), by simp, by simp [hp30]; omega, fun j v H4 hv S4 x4 => ?_⟩
    have hv := List.mem_of_getElem? hv
    have hs : ∃ s, v = .str s ∧ okS s = true := by
      rcases List.mem_append.mp hv with h | h
      · obtain ⟨s, hs, rfl⟩ := List.mem_map.mp h
        obtain ⟨d, hd, rfl⟩ := List.mem_map.mp hs
        obtain ⟨d0, s1, rest, _, hn, ho⟩ := part d hd
        exact ⟨_, rfl, by rw [hn]; exact ho⟩
      · obtain ⟨s, hs, rfl⟩ := List.mem_map.mp h
        have : s = "zz9" := by simpa using hs
        exact ⟨s, rfl, by rw [this]; decide +kernel⟩
    obtain ⟨s, rfl, hs⟩ := hs
    have x04 : ExF [st, cl] H H4 := x03.of.trans x4
    have tG4 : Trk (st :: cl :: G) H4 := by
      intro a ha
      simp only [List.mem_cons] at ha
      rcases ha with z | z | z
      · rw [z]; exact S4.trk st (by simp)
      · rw [z]; exact S4.trk cl (by simp)
      · exact x04.kept a (tG a z)
    have o6 : ∀ k : Nat, okx 6 ((fun _ => PyData.str s) k) = true := fun _ => by rw [okx_str]; exact hs
    have z6 : ∀ k : Nat, size ((fun _ => PyData.str s) k) ≤ 20 := fun _ => by rw [size]; decide
    have v2 : ∀ (u3 u4 u5 : Option V) (A : List Addr) (H' : Hp) (k : Nat), ([2] : List Nat).contains k = true → ∃ v, ([some (.ref st), some (.ref l), some (.str s), u3, u4, u5] : L2.St)[k]? = some (some v) ∧ Rp A H' v ((fun _ => PyData.str s) k) := fun u3 u4 u5 A H' k hk => by
      have e : k = 2 := by simpa using hk
      subst e
      exact ⟨_, rfl, .str s⟩
    refine litL (fun _ => .str s) (st :: cl :: G) [2] rfl (v2 _ _ _ _ _) tG4 fun fl ys5 H5 hfl h5 r5 x5 => ?_
    have nfl : fl ∉ st :: cl :: G := tG4.nin hfl
    have tG5 := tG4.ex x5
    have nst : fl ≠ st := fun e => nfl (by simp [e])
    have ncl : fl ≠ cl := fun e => nfl (by simp [e])
    have S5 : Strm st cl H5 (c + 1) := S4.ex' (by simp) (by simp) x5
    have F5 : FS fl (st :: cl :: G) H5 (Lt.ds (fun _ => .str s) [.non, .int 5, .bl true, .str "re", .str "read a", .dct, .tup [], .lst [], .tup [.str "read"], .tup [.str "give", .str "zz9"], .tup [.str "read", .var 2, .var 2]]) := ⟨_, h5, r5⟩
    have O5 := odd_ds (dv := fun _ => .str s) (ls := [.non, .int 5, .bl true, .str "re", .str "read a", .dct, .tup [], .lst [], .tup [.str "read"], .tup [.str "give", .str "zz9"], .tup [.str "read", .var 2, .var 2]]) (by decide +kernel) (by decide +kernel) o6 z6
    have L5 := Lt.ds_len (fun _ => .str s) [.non, .int 5, .bl true, .str "re", .str "read a", .dct, .tup [], .lst [], .tup [.str "read"], .tup [.str "give", .str "zz9"], .tup [.str "read", .var 2, .var 2]]
    generalize Lt.ds (fun _ => .str s) [.non, .int 5, .bl true, .str "re", .str "read a", .dct, .tup [], .lst [], .tup [.str "read"], .tup [.str "give", .str "zz9"], .tup [.str "read", .var 2, .var 2]] = es5 at F5 O5 L5
    have L5 : es5.length = 11 := L5
    refine extLit (fl := fl) (G := st :: cl :: G) (es := es5) (dv := fun _ => .str s) (vs := [2]) rfl rfl (by decide) (v2 _ _ _ _ _) tG5 F5 (by omega) fun H6 x6 F6 => ?_
    refine extLit (fl := fl) (G := st :: cl :: G) (dv := fun _ => .str s) (vs := [2]) rfl rfl (by decide) (v2 _ _ _ _ _) (tG5.ex x6) F6 (by rw [List.length_append, Lt.ds_len, L5]; decide) fun H7 x7 F7 => ?_
    have O7 : ∀ d ∈ es5 ++ Lt.ds (fun _ => .str s) [.tup [.str "ask", .var 2], .tup [.lst [.str "read"], .var 2], .tup [.str "read", .var 2], .tup [.str "tell", .var 2], .lst [.str "give", .str "new1", .var 2]] ++ Lt.ds (fun _ => .str s) [.tup [.str "tell", .str "zz8"], .tup [.str "give", .var 2]], odd d := by
      intro d hd
      rcases List.mem_append.mp hd with h | h
      · rcases List.mem_append.mp h with h | h
        · exact O5 d h
        · exact odd_ds (by decide +kernel) (by decide +kernel) o6 z6 d h
      · exact odd_ds (by decide +kernel) (by decide +kernel) o6 z6 d h
    have L7 : (es5 ++ Lt.ds (fun _ => .str s) [.tup [.str "ask", .var 2], .tup [.lst [.str "read"], .var 2], .tup [.str "read", .var 2], .tup [.str "tell", .var 2], .lst [.str "give", .str "new1", .var 2]] ++ Lt.ds (fun _ => .str s) [.tup [.str "tell", .str "zz8"], .tup [.str "give", .var 2]]).length = 18 := by
      rw [List.length_append, List.length_append, Lt.ds_len, Lt.ds_len, L5]; rfl
    generalize es5 ++ Lt.ds (fun _ => .str s) [.tup [.str "ask", .var 2], .tup [.lst [.str "read"], .var 2], .tup [.str "read", .var 2], .tup [.str "tell", .var 2], .lst [.str "give", .str "new1", .var 2]] ++ Lt.ds (fun _ => .str s) [.tup [.str "tell", .str "zz8"], .tup [.str "give", .var 2]] = es7 at F7 O7 L7
    have x57 : ExF [fl] H5 H7 := x6.trans x7
    -- the loops
    unfold t_l_odds_t4 tSeq tForU
    refine .inr (.inl ?_)
    refine litT (fun _ => .none) (fl :: st :: cl :: G) [] rfl (by simp) (F7.trk (tG5.ex x57)) fun p8 xs8 H8 hp8 h8 r8 x8 => ⟨p8, rfl, ⟨xs8, .inl (.inl h8)⟩, ?_⟩
    have l8 := r8.1
    rw [Lt.ds_len] at l8
    have l8 : xs8.length = 13 := l8
    have np8 : p8 ≠ fl := fun e => (F7.trk (tG5.ex x57)) p8 (by simp [e]) hp8
    refine for_it (wkT (xs := xs8)) (fun i σ' H' => ∃ (es : List PyData) (u4 : Option V), σ' = [some (.ref st), some (.ref l), some (.str s), some (.ref fl), u4, none] ∧ FS fl (st :: cl :: G) H' es ∧ es.length = 18 + 4 * i ∧ (∀ d ∈ es, odd d) ∧ ExF [fl] H8 H') ⟨es7, none, rfl, F7.ex x8, by omega, O7, ExF.refl⟩ ?_ ?_ ?_
    · rintro i σ' H' _ ⟨_, _, _, _, _, _, x⟩
      exact x.at_ _ _ (by simp [np8]) h8
    · rintro i v σ' H9 H' hi ⟨es, u4, rfl, F9, L9, O9, x9⟩ ⟨e, hv⟩
      subst e
      have rv := r8.ex (x9.sub (G := p8 :: fl :: st :: cl :: G) (by simp))
      obtain ⟨d, hd, rd⟩ := rv.get' hv
      obtain ⟨Ld, hLd, ed⟩ := litLen hd
      have od : okx 6 d = true := by
        rw [ed]
        refine Lt.okx_d ?_ fun _ => by rw [okx]
        have : ([.str "A", .str "1a", .str "", .str "a b", .str "a_b", .str "nineletrs", .str "read", .str "tell", .int 5, .non, .lst [.str "a"], .str "a\n", .str "b7"] : List Lt).all (Lt.okxL 6) = true := by decide +kernel
        exact List.all_eq_true.mp this Ld hLd
      have zd : size d ≤ 20 := by
        rw [ed]
        refine Nat.le_trans (Lt.size_d fun _ => by rw [size]; decide) ?_
        have : ([.str "A", .str "1a", .str "", .str "a b", .str "a_b", .str "nineletrs", .str "read", .str "tell", .int 5, .non, .lst [.str "a"], .str "a\n", .str "b7"] : List Lt).all (fun l => decide (Lt.sz l ≤ 20)) = true := by decide +kernel
        exact of_decide_eq_true (List.all_eq_true.mp this Ld hLd)
      have t9 : Trk (st :: cl :: G) H' := (tG5.ex x57).ex (x8.of.trans x9)
      have z6' : ∀ k : Nat, size ((fun k => if k = 4 then d else PyData.str s) k) ≤ 20 := fun k => by
        by_cases h : k = 4
        · simp only [h, if_true]; exact zd
        · simp only [h, if_false]; exact z6 k
      have o6' : ∀ k : Nat, okx 6 ((fun k => if k = 4 then d else PyData.str s) k) = true := fun k => by
        by_cases h : k = 4
        · simp only [h, if_true]; exact od
        · simp only [h, if_false]; exact o6 k
      have v24 : ∀ (H' : Hp), Rp (fl :: st :: cl :: G) H' v d → ∀ k : Nat, ([2, 4] : List Nat).contains k = true → ∃ w, ([some (.ref st), some (.ref l), some (.str s), some (.ref fl), some v, none] : L2.St)[k]? = some (some w) ∧ Rp (fl :: st :: cl :: G) H' w ((fun k => if k = 4 then d else PyData.str s) k) := fun H' rd k hk => by
        have e : k = 2 ∨ k = 4 := by simpa using hk
        rcases e with e | e <;> subst e
        · exact ⟨_, rfl, .str s⟩
        · exact ⟨_, rfl, rd⟩
      refine extLit (fl := fl) (G := st :: cl :: G) (vs := [2, 4]) rfl rfl (by decide) (v24 _ rd.drop) t9 F9 (by omega) fun H10 x10 F10 => ?_
      refine appLit (fl := fl) (G := st :: cl :: G) (vs := [2, 4]) rfl rfl (v24 _ (rd.drop.ex (x10.sub (by simp)))) (t9.ex x10) F10 (by rw [List.length_append, Lt.ds_len]; simp; omega) fun H11 x11 F11 => ?_
      refine ⟨_, _, rfl, F11, ?_, ?_, x9.trans (x10.trans x11)⟩
      · rw [List.length_append, List.length_append, Lt.ds_len]; simp; omega
      · intro z hz
        rcases List.mem_append.mp hz with h | h
        · rcases List.mem_append.mp h with h | h
          · exact O9 z h
          · exact odd_ds (by decide +kernel) (by decide +kernel) o6' z6' z h
        · rw [List.mem_singleton.mp h]
          exact ⟨Lt.okx_d (by decide +kernel) o6', Lt.fine_d (by decide +kernel), Nat.le_trans (Lt.size_d z6') (by decide +kernel)⟩
    · rintro σ' H9 ⟨es, u4, rfl, F9, L9, O9, x9⟩
      rw [l8] at L9
      have t9 : Trk (st :: cl :: G) H9 := (tG5.ex x57).ex (x8.of.trans x9)
      unfold t_l_odds_t5 tSeq tForU
      refine .inr (.inl ?_)
      refine litT (fun _ => .none) (fl :: st :: cl :: G) [] rfl (by simp) (F9.trk t9) fun p10 xs10 H10 hp10 h10 r10 x10 => ⟨p10, rfl, ⟨xs10, .inl (.inl h10)⟩, ?_⟩
      have l10 := r10.1
      rw [Lt.ds_len] at l10
      have l10 : xs10.length = 11 := l10
      have np10 : p10 ≠ fl := fun e => (F9.trk t9) p10 (by simp [e]) hp10
      refine for_it (wkT (xs := xs10)) (fun i σ' H' => ∃ (es : List PyData) (u4 : Option V), σ' = [some (.ref st), some (.ref l), some (.str s), some (.ref fl), u4, none] ∧ FS fl (st :: cl :: G) H' es ∧ es.length = 70 + i ∧ (∀ d ∈ es, odd d) ∧ ExF [fl] H10 H') ⟨es, u4, rfl, F9.ex x10, by omega, O9, ExF.refl⟩ ?_ ?_ ?_
      · rintro i σ' H' _ ⟨_, _, _, _, _, _, x⟩
        exact x.at_ _ _ (by simp [np10]) h10
      · rintro i v σ' H11 H' hi ⟨es, u4, rfl, F11, L11, O11, x11⟩ ⟨e, hv⟩
        subst e
        have rv := r10.ex (x11.sub (G := p10 :: fl :: st :: cl :: G) (by simp))
        obtain ⟨d, hd, rd⟩ := rv.get' hv
        obtain ⟨Ld, hLd, ed⟩ := litLen hd
        have od : okx 6 d = true := by
          rw [ed]
          refine Lt.okx_d ?_ fun _ => by rw [okx]
          have : ([.non, .int 5, .bl true, .tup [], .str "nobody", .dct, .lst [.int 5], .tup [.str "f", .non], .lst [.str "f", .tup [.str "g", .str "nobody"]], .lst [.tup [.str "f"]], .tup [.str "f", .str "f", .tup []]] : List Lt).all (Lt.okxL 6) = true := by decide +kernel
          exact List.all_eq_true.mp this Ld hLd
        have zd : size d ≤ 20 := by
          rw [ed]
          refine Nat.le_trans (Lt.size_d fun _ => by rw [size]; decide) ?_
          have : ([.non, .int 5, .bl true, .tup [], .str "nobody", .dct, .lst [.int 5], .tup [.str "f", .non], .lst [.str "f", .tup [.str "g", .str "nobody"]], .lst [.tup [.str "f"]], .tup [.str "f", .str "f", .tup []]] : List Lt).all (fun l => decide (Lt.sz l ≤ 20)) = true := by decide +kernel
          exact of_decide_eq_true (List.all_eq_true.mp this Ld hLd)
        refine appLit (fl := fl) (G := st :: cl :: G) (dv := fun _ => d) (vs := [4]) rfl rfl (fun k hk => ?_) (t9.ex (x10.of.trans x11)) F11 (by omega) fun H12 x12 F12 => ?_
        · have e : k = 4 := by simpa using hk
          subst e
          exact ⟨_, rfl, rd.drop⟩
        · refine ⟨_, _, rfl, F12, by rw [List.length_append]; simp; omega, ?_, x11.trans x12⟩
          intro z hz
          rcases List.mem_append.mp hz with h | h
          · exact O11 z h
          · rw [List.mem_singleton.mp h]
            exact ⟨Lt.okx_d (by decide +kernel) fun _ => od, Lt.fine_d (by decide +kernel), Nat.le_trans (Lt.size_d fun _ => zd) (by decide +kernel)⟩
      · rintro σ' H11 ⟨es, u4, rfl, F11, L11, O11, x11⟩
        obtain ⟨ys, hy, ry⟩ := F11
        have xx : ExF [fl] H5 H11 := ((x57.trans x8.of).trans x9).trans (x10.of.trans x11)
        have xf : ExF [fl, st, cl] H H11 := ((x04.add (p := fl)).trans x5.of).trans (xx.sub (by simp))
        have hflH : H fl = none := x04.free hfl
        refine ⟨_, rfl, q fl ys es H11 (S5.ex' (F := [fl]) (by simp [Ne.symm nst]) (by simp [Ne.symm ncl]) xx) (xf.drop hflH) hflH hy (ry.sub (by intro a z; simp [z])) O11 (by omega)⟩

end Tw
end

section
set_option Elab.async false
set_option linter.all false
set_option maxRecDepth 100000
set_option maxHeartbeats 4000000
namespace Tw
open PySem L2 PyProof.Rows

/-! ### a source -/
/-- an instance at x whose lines are xs -/
def SrcAt (C : Addr) (H : Hp) (x : Addr) (xs : List V) : Prop := ∃ dx a, H x = some (.ins C dx [("own_lines", .ref a)]) ∧ H a = some (.tup xs)
theorem SrcAt.ex {C : Addr} {H H' : Hp} {x : Addr} {xs : List V} (h : SrcAt C H x xs) (y : ExF [] H H') : SrcAt C H' x xs := by
  obtain ⟨dx, a, h1, h2⟩ := h
  exact ⟨dx, a, y.at_ _ _ (by simp) h1, y.at_ _ _ (by simp) h2⟩
/-- the class, as the text has it -/
structure SrcC (K : PySem.W.Frag) (C : Addr) : Prop where
  cl : Cls K C
  ha : PySem.W.findIn K (.ref C) "__class__" = some (some (.builtin "object.__class__"))
  hn : PySem.W.specialIn K (.builtin "object.__class__") "__get__" = some (some (.builtin "getset_descriptor.__get__"))
  htk : PySem.W.takesIn K (.builtin "object.__class__") = some true
  hm : PySem.W.mroIn K C (.type "object") = some true
  me : PySem.W.kitOne K (.ref C) (.ref C) = some true
  no : NoAttr K C "own_lines"
  subL : PySem.W.kitOne K (.type "list") (.ref C) = some false
  subT : PySem.W.kitOne K (.type "tuple") (.ref C) = some false
  nl : PySem.W.kitAny K (.ref C) [.type "list", .type "tuple"] = some false
theorem SrcC.ty {K : PySem.W.Frag} {C a dx : Addr} {H : Hp} {fs : List (Str × V)} (T : SrcC K C) (h : H a = some (.ins C dx fs)) : TyX K H (.ref a) (.ref C) := .base (.ins h T.cl T.ha T.hn T.htk T.hm)
/-- a line: a tuple of its word, its name .. -/
def lnOk (d : PyData) : Prop := ∃ (w s : Str) (r : List PyData), d = .tuple (.str w :: .str s :: r)
/-- the names of the lines of one word -/
def namesOf (z : Str) (ds : List PyData) : List Str := (ds.filter fun d => match items d with
  | some (a :: _) => isS z a
  | _ => false).map lineN
/-- what is passed: data, or an instance (then d is none) -/
def AnyV (F : List Addr) (C : Addr) (H : Hp) (v : V) (d : PyData) : Prop := Rp F H v d ∨ (d = .none ∧ ∃ b dx fs, v = .ref b ∧ H b = some (.ins C dx fs) ∧ b ∉ F)
theorem AnyV.ex {F : List Addr} {C : Addr} {H H' : Hp} {v : V} {d : PyData} (h : AnyV F C H v d) (x : ExF F H H') : AnyV F C H' v d := by
  rcases h with h | ⟨h1, b, dx, fs, h2, h3, h4⟩
  · exact .inl (h.ex x)
  · exact .inr ⟨h1, b, dx, fs, h2, x.at_ _ _ h4 h3, h4⟩
def spSLines (C : Addr) : Sp := fun vs H Q _ => ∃ (x : Addr) (xs : List V), vs = [.ref x] ∧ SrcAt C H x xs ∧ ∀ r H', H r = none → H' r = some (.lst xs) → ExF [] H H' → Q (.ref r) H'
def spSNames (z : Str) (C : Addr) : Sp := fun vs H Q _ => ∃ (x : Addr) (F : List Addr) (xs : List V) (ds : List PyData), vs = [.ref x] ∧ SrcAt C H x xs ∧ RpL F H xs ds ∧ (∀ d ∈ ds, lnOk d) ∧ ds.length ≤ 1000 ∧
  ∀ r H', H r = none → H' r = some (.lst ((namesOf z ds).map V.str)) → ExF [] H H' → Q (.ref r) H'
/-- ==: with a source, by the lines; with a list, a tuple: no -/
def spSEq (C : Addr) : Sp := fun vs H Q _ => ∃ (x : Addr) (xs : List V) (F : List Addr) (ds : List PyData) (v : V), vs = [.ref x, v] ∧ SrcAt C H x xs ∧ RpL F H xs ds ∧ ok 20 (.tuple ds) = true ∧
  ((∃ (y : Addr) (ys : List V) (G : List Addr) (es : List PyData), v = .ref y ∧ SrcAt C H y ys ∧ RpL G H ys es ∧ ok 20 (.tuple es) = true ∧ ∀ H', ExF [] H H' → Q (.bl (PyData.eqv (.tuple ds) (.tuple es))) H') ∨
   ∃ (G : List Addr) (d : PyData), Rp G H v d ∧ isSeq d = true ∧ ∀ H', ExF [] H H' → Q (.bl false) H')
/-- Source(v): its lines, or BadLines -/
def spSInit (C cB : Addr) : Sp := fun vs H Q E => ∃ (x dx : Addr) (v : V) (F G : List Addr) (d : PyData) (n : Nat), vs = [.ref x, v] ∧ x ∈ F ∧ H x = some (.ins C dx []) ∧ AnyV F C H v d ∧ okx n d = true ∧ n ≤ 29 ∧ size d ≤ 1000000 ∧ (∀ ds, items d = some ds → ds.length ≤ 1000) ∧ Trk G H ∧
  (∀ ds a xs H', items d = some ds → metD d = none → ExF [x] H H' → a ∉ G → H' x = some (.ins C dx [("own_lines", .ref a)]) → H' a = some (.tup xs) → RpL G H' xs (tups ds) → Q .non H') ∧
  (∀ i dd H', metD d = some i → ExF [x] H H' → H dd = none → H' dd = some (.xd [("index", .int i)]) → E (.ref cB) (some dd) H')
def spMet (C : Addr) : Sp := fun vs H Q _ => ∃ (v : V) (F : List Addr) (d : PyData) (n : Nat), vs = [v] ∧ AnyV F C H v d ∧ okx n d = true ∧ n ≤ 29 ∧ size d ≤ 1000000 ∧ (∀ ds, items d = some ds → ds.length ≤ 1000) ∧
  ∀ r H', ExF [] H H' → Rp [] H' r (optD (metD d)) → Q r H'

/-! ### good lines hold no dict -/
mutual
theorem exprD_ok {known : List Str} : ∀ {n : Nat} {d : PyData}, okx n d = true → exprD known d = true → ok n d = true
  | n, .str s, h, _ => by rw [okx_str] at h; rw [ok_str]; exact h
  | 0, .list ds, h, _ => by simp [okx] at h
  | 0, .tuple ds, h, _ => by simp [okx] at h
  | n + 1, .list ds, h, k => by rw [okx_list] at h; rw [exprD] at k; rw [ok_list]; exact ⟨exprL_ok h.1 k, h.2⟩
  | n + 1, .tuple ds, h, k => by rw [okx_tuple] at h; rw [exprD] at k; rw [ok_tuple]; exact ⟨exprL_ok h.1 k, h.2⟩
  | _, .none, _, k => by simp [exprD] at k
  | _, .bool _, _, k => by simp [exprD] at k
  | _, .int _, _, k => by simp [exprD] at k
  | _, .dict _, _, k => by simp [exprD] at k
theorem exprL_ok {known : List Str} : ∀ {n : Nat} {ds : List PyData}, okxs n ds = true → exprL known ds = true → oks n ds = true
  | n, [], _, k => by simp [exprL] at k
  | n, d :: ds, h, k => by
    rw [okxs_cons] at h
    rw [exprL, Bool.and_eq_true] at k
    rw [oks_cons]
    obtain ⟨s, rfl, _⟩ := nameD_str k.1
    exact ⟨by rw [ok_str]; have := h.1; rw [okx_str] at this; exact this, exprs_ok h.2 k.2⟩
theorem exprs_ok {known : List Str} : ∀ {n : Nat} {ds : List PyData}, okxs n ds = true → exprs known ds = true → oks n ds = true
  | n, [], _, _ => by rw [oks]
  | n, d :: ds, h, k => by
    rw [okxs_cons] at h
    rw [exprs, Bool.and_eq_true] at k
    rw [oks_cons]
    exact ⟨exprD_ok h.1 k.1, exprs_ok h.2 k.2⟩
end
theorem lineL_ok {known told : List Str} {n : Nat} {ds : List PyData} (h : okxs n ds = true) (k : lineL known told ds = true) : oks n ds = true := by
  have isStr_ok : ∀ {z : Str} {a : PyData}, isS z a = true → okx n a = true → ok n a = true := fun {z a} hz ha => by
    cases a <;> simp [isS] at hz
    rw [okx_str] at ha
    rw [ok_str]
    exact ha
  have nm_ok : ∀ {b : PyData}, nameD b = true → okx n b = true → ok n b = true := fun {b} hb ho => by
    obtain ⟨s, rfl, _⟩ := nameD_str hb
    rw [okx_str] at ho
    rw [ok_str]
    exact ho
  match ds, h, k with
  | [], _, k => cases k
  | [_], _, k => cases k
  | [a, b], h, k =>
    rw [okxs_cons, okxs_cons] at h
    simp only [lineL, Bool.and_eq_true, Bool.or_eq_true] at k
    rw [oks_cons, oks_cons]
    refine ⟨?_, nm_ok k.1 h.2.1, by rw [oks]⟩
    rcases k.2 with k | k
    · exact isStr_ok k.1 h.1
    · exact isStr_ok k.1.1 h.1
  | [a, b, e], h, k =>
    rw [okxs_cons, okxs_cons, okxs_cons] at h
    simp only [lineL, Bool.and_eq_true] at k
    rw [oks_cons, oks_cons, oks_cons]
    exact ⟨isStr_ok k.1.2 h.1, nm_ok k.1.1 h.2.1, exprD_ok h.2.2.1 k.2, by rw [oks]⟩
  | _ :: _ :: _ :: _ :: _, _, k => cases k
theorem lineD_ok {known told : List Str} {n : Nat} {d : PyData} (h : okx n d = true) (k : lineD known told d = true) : ok n d = true := by
  unfold lineD at k
  cases d with
  | list ds =>
    cases n with
    | zero => simp [okx] at h
    | succ n => rw [okx_list] at h; rw [ok_list]; exact ⟨lineL_ok h.1 k, h.2⟩
  | tuple ds =>
    cases n with
    | zero => simp [okx] at h
    | succ n => rw [okx_tuple] at h; rw [ok_tuple]; exact ⟨lineL_ok h.1 k, h.2⟩
  | _ => cases k
theorem faultL_ok {n : Nat} {known told : List Str} {i : Nat} {ds : List PyData} (h : okxs n ds = true) (k : faultL known told i ds = none) : oks n ds = true :=
  oks_iff.mpr fun d hd => by
    obtain ⟨k, t, hl⟩ := faultL_each k d hd
    exact lineD_ok (okxs_iff.mp h d hd) hl
end Tw
end

section
set_option Elab.async false
set_option linter.all false
set_option maxRecDepth 100000
set_option maxHeartbeats 4000000
namespace Tw
open PySem L2 PyProof.Rows
structure Ad2 where
  cSrc : Addr
  cBad : Addr
def t_met_try (K : PySem.W.Frag) (D : Ad2) : TS := fun X σ H =>
  tSeq (tDrop (tMakeS D.cSrc (spSInit D.cSrc D.cBad) (WE (wAs K (.ref D.cBad) 1 (fun a cls d => tRet (tXf a cls d D.cBad "index" (tVar 1))) (fun _ _ _ _ => False) X)) (tCons (tVar 0) tNil))) (tRet (tC .non)) X σ H
noncomputable def t_p_BadLines_init (K : PySem.W.Frag) (D : Ad2) : TS := tOst K "index" (tVar 0) (tVar 1)
noncomputable def t_p_Source_init_b2 (K : PySem.W.Frag) (D : Ad2) (E : XK) : TS := tSeq (tIfS (tNot (tB (tCall spPIsLine [] E0 (tCons (tVar 2) (tCons (tVar 3) (tCons (tVar 5) (tNil))))))) (tRaise E (tMkO D.cBad (spOneF "index" D.cBad) [] (tCons (tVar 4) (tNil)))) (tNext))
      (tSeq (tAsg (tC (.bl true)) (gSub (tVar 2) (tOp (rIxU K) (tVar 5) (tC (.int 1))) rSetU))
      (tIfS (tTest (tOp (rEqU K) (tOp (rIxU K) (tVar 5) (tC (.int 0))) (tC (.str "tell")))) (tAsg (tC (.bl true)) (gSub (tVar 3) (tOp (rIxU K) (tVar 5) (tC (.int 1))) rSetU)) (tNext)))
noncomputable def t_p_Source_init_t3 (K : PySem.W.Frag) (D : Ad2) (E : XK) : TS := sFld K (tVar 0) (tCall (spAsTuples 30) [] E0 (tCons (tVar 1) (tNil))) "own_lines"
noncomputable def t_p_Source_init_t2 (K : PySem.W.Frag) (D : Ad2) (E : XK) : TS := tSeq (tForU (iEnumU K (tCons (tVar 1) (tNil))) (gTup K 2 (gCons (gName 4) (gCons (gName 5) (gNil)))) (t_p_Source_init_b2 K D E)) (t_p_Source_init_t3 K D E)
noncomputable def t_p_Source_init_t1 (K : PySem.W.Frag) (D : Ad2) (E : XK) : TS := tSeq (tIfS (tNot (tB (tCall (spIsList K) [] E0 (tCons (tVar 1) (tNil))))) (tRaise E (tMkO D.cBad (spOneF "index" D.cBad) [] (tCons (tC (.int 0)) (tNil)))) (tNext)) (t_p_Source_init_t2 K D E)
noncomputable def t_p_Source_init (K : PySem.W.Frag) (D : Ad2) (E : XK) : TS := tSeq (tPar 2 3 (tCons (tDNewK) (tCons (tDNewK) (tNil)))) (t_p_Source_init_t1 K D E)
noncomputable def t_p_Source_lines (K : PySem.W.Frag) (D : Ad2) : TS := tRet (tCB (rLstOf K) (tCons (tFld K (tVar 0) "own_lines") (tNil)))
noncomputable def t_p_Source_reads (K : PySem.W.Frag) (D : Ad2) : TS := tRet (tLcU (iSeqU K (tFld K (tVar 0) "own_lines")) (gName 1) (tTest (tOp (rEqU K) (tOp (rIxU K) (tVar 1) (tC (.int 0))) (tC (.str "read")))) (tOp (rIxU K) (tVar 1) (tC (.int 1))) [1])
noncomputable def t_p_Source_tells (K : PySem.W.Frag) (D : Ad2) : TS := tRet (tLcU (iSeqU K (tFld K (tVar 0) "own_lines")) (gName 1) (tTest (tOp (rEqU K) (tOp (rIxU K) (tVar 1) (tC (.int 0))) (tC (.str "tell")))) (tOp (rIxU K) (tVar 1) (tC (.int 1))) [1])
noncomputable def t_p_Source_eq (K : PySem.W.Frag) (D : Ad2) : TS := tRet (tAndV (tCB (rIsiU K) (tCons (tVar 1) (tCons (tC (.ref D.cSrc)) (tNil)))) (tOp (rEqU K) (tFld K (tVar 0) "own_lines") (tFld K (tVar 1) "own_lines")))
noncomputable def t_l_met (K : PySem.W.Frag) (D : Ad2) : TS := t_met_try K D

section
variable {K : PySem.W.Frag} {D : Ad2} {vs : List V} {H : Hp} {Q : VK} {E : XK}
theorem rd_p_BadLines_init (hO : OexC K D.cBad) (hno : PySem.W.findIn K (.ref D.cBad) "index" = some none) (h : spOneF "index" D.cBad vs H Q E) :
    t_p_BadLines_init K D { nx := fun _ H' => Q .non H', rt := Q } (start ["self", "index"] vs) H := by
  obtain ⟨a, v, rfl, ha, q⟩ := h
  exact ⟨_, rfl, _, rfl, a, D.cBad, rfl, hO, hno, .inl ⟨ha, q⟩⟩
theorem lk_own {v : V} : List.lookup ("own_lines" : Str) [(("own_lines" : Str), v)] = some v := by simp [List.lookup]
theorem rd_p_Source_lines (T : SrcC K D.cSrc) (h : spSLines D.cSrc vs H Q E) : t_p_Source_lines K D { nx := fun _ H' => Q .non H', rt := Q } (start ["self"] vs) H := by
  obtain ⟨x, xs, rfl, ⟨dx, a, h1, h2⟩, q⟩ := h
  exact ⟨_, rfl, x, D.cSrc, dx, _, _, rfl, h1, T.cl, T.no, lk_own, lstOfT h2 fun p H' hp e => q p H' hp (eqs e) (exn e hp)⟩
/-- [line[1] for line in .. if line[0] == z] -/
def hd (z : Str) (d : PyData) : Bool := match items d with
  | some (a :: _) => isS z a
  | _ => false
theorem selD_names (z : Str) : ∀ ds : List PyData, selD (ds.map fun d => (hd z d, PyData.str (lineN d))) = (namesOf z ds).map PyData.str
  | [] => rfl
  | d :: ds => by
    have ih := selD_names z ds
    have e : namesOf z (d :: ds) = (if hd z d then [lineN d] else []) ++ namesOf z ds := by
      show ((d :: ds).filter (hd z)).map lineN = _
      rw [List.filter_cons]
      cases h : hd z d <;> rfl
    rw [e, List.map_append, ← ih]
    unfold selD
    rw [List.map_cons, List.filter_cons]
    cases h : hd z d <;> rfl
theorem lcHead {z : Str} {k : Nat} {wi : TI} {σ : L2.St} {F : List Addr} {xs : List V} {ds : List PyData} (hi : IterS [] wi σ H xs) (hk : k < σ.length) (rx : RpL F H xs ds) (hl : ∀ d ∈ ds, lnOk d) (hz : ds.length ≤ 1000)
    (q : ∀ r H', H r = none → H' r = some (.lst ((namesOf z ds).map V.str)) → ExF [] H H' → Q (.ref r) H') :
    tLcU wi (gName k) (tTest (tOp (rEqU K) (tOp (rIxU K) (tVar k) (tC (.int 0))) (tC (.str z)))) (tOp (rIxU K) (tVar k) (tC (.int 1))) [k] σ H Q := by
  have hwk : ∀ x : V, ((wipe σ [k]).set k (some x))[k]? = some (some x) := fun x => by
    have e : wipe σ [k] = σ.set k none := rfl
    rw [e, List.getElem?_set_self (by rw [List.length_set]; exact hk)]
  have lx := rx.1
  have at_ : ∀ {i : Nat} {x : V} {b : Bool} {e : PyData} {H' : Hp}, xs[i]? = some x → (ds.map fun d => (hd z d, PyData.str (lineN d)))[i]? = some (b, e) → ExF [] H H' →
      ∃ (a : Addr) (w s : Str) (vs : List V), x = .ref a ∧ H' a = some (.tup (.str w :: .str s :: vs)) ∧ b = decide (w = z) ∧ e = .str s := fun {i x b e H'} h1 h2 x1 => by
    obtain ⟨d, hd', rd⟩ := rx.get' h1
    rw [List.getElem?_map, hd'] at h2
    cases h2
    obtain ⟨w, s, r, rfl⟩ := hl d (List.mem_of_getElem? hd')
    obtain ⟨a, zs, rfl, _, ha, rz⟩ := (rd.ex x1.of).tuple_inv
    obtain ⟨z0, zs1, rfl, r0, rz1⟩ := rz.cons_inv
    obtain ⟨z1, zs2, rfl, r1, _⟩ := rz1.cons_inv
    cases r0.str_inv
    cases r1.str_inv
    exact ⟨a, w, s, zs2, rfl, ha, rfl, rfl⟩
  refine lcSel (F := []) hi (ds.map fun d => (hd z d, PyData.str (lineN d))) (by rw [List.length_map]; exact lx.symm) (by rw [sizeLine_eq]; omega) (fun x => ?_) ?_ ?_ ?_
  · show ((σ.set k none).set k (some x)).set k none = σ.set k none
    simp
  · intro D i x b e H' h1 h2 x1 hD hD2 Qc k'
    obtain ⟨a, w, s, vs, rfl, ha, rfl, rfl⟩ := at_ h1 h2 x1
    exact ⟨_, hwk _, ixT ha (v := .str w) (atN (by decide) rfl) (eqS ⟨_, rfl, k' H' ExF.refl⟩)⟩
  · intro D i x e H' h1 h2 x1 hD hD2 Qc k'
    obtain ⟨a, w, s, vs, rfl, ha, _, rfl⟩ := at_ h1 h2 x1
    exact ⟨_, hwk _, ixT ha (v := .str s) (atN (by decide) rfl) (k' _ H' ExF.refl (.str s))⟩
  · intro r ys H' hr hy ry x
    rw [selD_names] at ry
    rw [ry.all_str] at hy
    exact q r H' hr hy x
theorem rd_names {z : Str} (T : SrcC K D.cSrc) (h : spSNames z D.cSrc vs H Q E) :
    tRet (tLcU (iSeqU K (tFld K (tVar 0) "own_lines")) (gName 1) (tTest (tOp (rEqU K) (tOp (rIxU K) (tVar 1) (tC (.int 0))) (tC (.str z)))) (tOp (rIxU K) (tVar 1) (tC (.int 1))) [1]) { nx := fun _ H' => Q .non H', rt := Q } (start ["self", "line"] vs) H := by
  obtain ⟨x, F, xs, ds, rfl, ⟨dx, a, h1, h2⟩, rx, hl, hz, q⟩ := h
  refine lcHead (iter_T fun Qc k => ⟨_, rfl, x, D.cSrc, dx, _, _, rfl, h1, T.cl, T.no, lk_own, k a H h2 (by simp) ExF.refl⟩) (by show 1 < 2; decide) rx hl hz q
theorem rd_p_Source_reads (T : SrcC K D.cSrc) (h : spSNames "read" D.cSrc vs H Q E) : t_p_Source_reads K D { nx := fun _ H' => Q .non H', rt := Q } (start ["self", "line"] vs) H := rd_names T h
theorem rd_p_Source_tells (T : SrcC K D.cSrc) (h : spSNames "tell" D.cSrc vs H Q E) : t_p_Source_tells K D { nx := fun _ H' => Q .non H', rt := Q } (start ["self", "line"] vs) H := rd_names T h
theorem rd_p_Source_eq (T : SrcC K D.cSrc) (h : spSEq D.cSrc vs H Q E) : t_p_Source_eq K D { nx := fun _ H' => Q .non H', rt := Q } (start ["self", "other"] vs) H := by
  obtain ⟨x, xs, F, ds, v, rfl, ⟨dx, a, h1, h2⟩, rx, hok, h⟩ := h
  rcases h with ⟨y, ys, G, es, rfl, ⟨dy, b, g1, g2⟩, ry, hok2, q⟩ | ⟨G, d, rv, hs, q⟩
  · refine ⟨_, rfl, ?_⟩
    unfold rIsiU
    refine .inl ⟨.ref y, .ref D.cSrc, .ref D.cSrc, .ref D.cSrc, true, rfl, .own _, T.ty g1, T.me, ⟨_, rfl, iteT ?_⟩⟩
    refine ⟨_, rfl, x, D.cSrc, dx, _, _, rfl, h1, T.cl, T.no, lk_own, _, rfl, y, D.cSrc, dy, _, _, rfl, g1, T.cl, T.no, lk_own, ?_⟩
    exact eqO (F := []) (G := []) (.tuple (by simp) h2 (rx.sub (by simp))) (.tuple (by simp) g2 (ry.sub (by simp))) hok hok2 (q H ExF.refl)
  · refine ⟨_, rfl, ?_⟩
    unfold rIsiU
    have hk : PySem.W.kitOne K (.type (tyName d)) (.ref D.cSrc) = some false := by
      cases d with
      | list _ => exact T.subL
      | tuple _ => exact T.subT
      | _ => cases hs
    exact .inl ⟨v, .ref D.cSrc, .type (tyName d), .ref D.cSrc, false, rfl, .own _, rv.ty, hk, ⟨_, rfl, iteF (q H ExF.refl)⟩⟩
end
section
variable {K : PySem.W.Frag} {D : Ad2} {vs : List V} {H : Hp} {Q : VK} {E : XK}
theorem Keys.put {H' : Hp} {a : Addr} {ns : List Str} {s : Str} {v : V} {kvs : List (Key × V)} (h : Keys H a ns) (hk : H a = some (.dK kvs)) (e : H' = upd H a (.dK (putK kvs (.inr s) v))) : Keys H' a (ns ++ [s]) := by
  obtain ⟨kvs', h1, h2, h3⟩ := h
  rw [hk] at h1
  cases h1
  refine ⟨_, eqs e, ?_, fun t => ?_⟩
  · have := length_putK kvs (.inr s) v
    rw [List.length_append]
    simp
    omega
  · rw [valV_put]
    by_cases ht : t = s
    · subst ht
      rw [if_pos rfl]
      simp
    · have ht' : (Sum.inr t : Key) ≠ .inr s := fun z => ht (by cases z; rfl)
      rw [if_neg ht', h3 t]
      simp [ht]
theorem Keys.eqf {H' : Hp} {a p : Addr} {ns : List Str} {o : HO} (h : Keys H a ns) (e : H' = upd H p o) (n : a ≠ p) : Keys H' a ns := by
  obtain ⟨kvs, h1, h2⟩ := h
  exact ⟨kvs, eqn e n h1, h2⟩
theorem size_mem {ds : List PyData} {d : PyData} (h : d ∈ ds) : size d ≤ sizes ds := by
  induction ds with
  | nil => cases h
  | cons e ds ih =>
    rw [sizes]
    rcases List.mem_cons.mp h with z | z
    · rw [z]; omega
    · have := ih z; omega
theorem rd_p_Source_init (T : SrcC K D.cSrc) (h : spSInit D.cSrc D.cBad vs H Q E) :
    t_p_Source_init K D E { nx := fun _ H' => Q .non H', rt := Q } (start ["self", "lines", "known", "told", "index", "thing"] vs) H := by
  obtain ⟨x, dx, v, F, G, d, n, rfl, hxF, hx, rv, hd, hn, hsz, hlen, tG, qN, qE⟩ := h
  have sz : sizeLine = 16777216 := sizeLine_eq
  intro kd hkd td htd
  generalize e1 : upd H kd (.dK []) = H1 at *
  have e1 := e1.symm
  generalize e2 : upd H1 td (.dK []) = H2 at *
  have e2 := e2.symm
  refine ⟨_, _, rfl, ?_⟩
  have x02 : ExF [] H H2 := (exn e1 hkd).trans (exn e2 htd)
  have k1 : H1 kd = some (.dK []) := eqs e1
  have nkt : kd ≠ td := ne_of_none k1 htd
  have k2 : Keys H2 kd [] := ⟨[], eqf e2 htd k1, by simp, fun s => by simp [valV]⟩
  have t2 : Keys H2 td [] := ⟨[], eqs e2, by simp, fun s => by simp [valV]⟩
  have nkx : kd ≠ x := (ne_of_none hx hkd).symm
  have ntx : td ≠ x := (ne_of_none (a := x) ((exn (F := []) e1 hkd).at_ _ _ (by simp) hx) htd).symm
  -- an error of this place
  have err : ∀ (i : Nat) (H3 : Hp), metD d = some i → ExF [x] H H3 → ∀ dd H', H3 dd = none → H' dd = some (.xd [("index", .int (i : Int))]) → ExF [] H3 H' → E (.ref D.cBad) (some dd) H' :=
    fun i H3 hm x3 dd H' n1 n2 x4 => qE i dd H' hm (x3.trans x4.of) (x3.free n1) n2
  -- no list
  have noSeq : items d = none → ∀ (D' : Ends) (σ : L2.St) (H3 : Hp), ExF [] H H3 → tRaise E (tMkO D.cBad (spOneF "index" D.cBad) [] (tCons (tC (.int 0)) (tNil))) D' σ H3 := by
    intro hi D' σ H3 x3
    refine mkOne ⟨_, rfl, fun dd H' n1 n2 x4 => err 0 H3 ?_ x3.of dd H' n1 n2 x4⟩ fun k h => k _ _ h
    unfold metD
    rw [hi]
  rcases rv with rv | ⟨hdn, b, bx, bf, rfl, hb, nb⟩
  · -- data
    refine ⟨_, rfl, .inl ⟨F, v, d, rfl, rv.ex x02.of, fun H3 x3 => ⟨_, rfl, ?_⟩⟩⟩
    have x03 := x02.trans x3
    cases hi : items d with
    | none =>
      rw [items_none hi]
      refine iteT ?_
      exact noSeq hi _ _ H3 x03
    | some ds =>
      rw [(items_some hi).1]
      refine iteF ?_
      obtain ⟨a, xs, rfl, na, ha, rx⟩ := rv.items hi
      have hl := hlen ds hi
      have hokx : okxs n ds = true := by
        rcases (items_some hi).2 with e | e <;> subst e
        · exact okx_items hd hi |>.1 |> fun h => okxs_iff.mpr fun d hd => okx_le (okxs_iff.mp h d hd) (by omega)
        · exact okx_items hd hi |>.1 |> fun h => okxs_iff.mpr fun d hd => okx_le (okxs_iff.mp h d hd) (by omega)
      have hm : metD d = faultL [] [] 0 ds := by unfold metD; rw [hi]
      have hs1 := size_items hi
      have lx := rx.1
      have nax : a ≠ x := fun e => na (e ▸ hxF)
      have ha3 := ha.ex x03 (by simp)
      have nak : a ≠ kd := fun e => by
        have := ha.ne
        rw [e] at this
        exact this hkd
      have nat : a ≠ td := fun e => by
        have := (ha.ex (exn (F := []) e1 hkd) (by simp)).ne
        rw [e] at this
        exact this htd
      refine forE (i := 1) (a := a) (xs := xs) (M := [kd, td]) rfl ha3 (by simp [nak, nat])
        (fun i σ H' => ∃ (known told : List Str) (u w : Option V), σ = [some (.ref x), some (.ref a), some (.ref kd), some (.ref td), u, w] ∧ Keys H' kd known ∧ Keys H' td told ∧ known.length ≤ i ∧ told.length ≤ i ∧
          faultL [] [] 0 ds = faultL known told i (ds.drop i) ∧ ExF [kd, td] H3 H')
        ⟨[], [], none, none, rfl, k2.ex x3 (by simp), t2.ex x3 (by simp), Nat.le_refl _, Nat.le_refl _, rfl, ExF.refl⟩ (fun i σ' H' ⟨_, _, _, _, _, _, _, _, _, _, x⟩ => x) ?_ ?_
      · rintro i y σ' H4 H5 hy ⟨known, told, u, w, rfl, hk, ht, lk, lt, hf, x4⟩ x5
        obtain ⟨e, he, re⟩ := rx.get' hy
        have hi' : i < ds.length := (List.getElem?_eq_some_iff.mp he).1
        have hme : e ∈ ds := List.mem_of_getElem? he
        have hdrop : ds.drop i = e :: ds.drop (i + 1) := by
          rw [List.drop_eq_getElem_cons hi']
          congr 1
          exact (List.getElem?_eq_some_iff.mp he).2
        rw [hdrop, faultL] at hf
        have drop2 : ∀ {A : Hp}, ExF [kd, td] H3 A → ExF [] H A := fun {A} z => by
          have z1 : ExF [kd, td] H A := x03.of.trans z
          have z2 : ExF [td] H A := z1.drop hkd
          exact z2.drop ((exn (F := []) e1 hkd).free htd)
        have x05 : ExF [] H H5 := drop2 (x4.trans x5.of)
        have k5 := hk.ex x5 (by simp)
        have t5 := ht.ex x5 (by simp)
        have hse := size_mem hme
        refine ⟨_, rfl, _, rfl, _, rfl, F, kd, td, known, told, y, e, n, rfl, k5, t5, re.ex x05.of, okxs_iff.mp hokx e hme, by omega, fun H6 x6 => ⟨_, rfl, ?_⟩⟩
        have x06 := x05.trans x6
        cases hL : lineD known told e with
        | false =>
          rw [hL, if_neg Bool.false_ne_true] at hf
          refine iteT ?_
          refine mkOne ⟨_, rfl, _, rfl, fun dd H' n1 n2 x7 => err i H6 (by rw [hm, hf]) x06.of dd H' n1 n2 x7⟩ fun k ⟨v, e, h⟩ => ⟨v, e, k _ _ h⟩
        | true =>
          rw [hL, if_pos rfl] at hf
          refine iteF ?_
          obtain ⟨d0, s1, rest, hit, hnm, htl⟩ := lineD_parts hL
          have eok := lineD_ok (okxs_iff.mp hokx e hme) hL
          obtain ⟨p, zs, rfl, np, hp, rz⟩ := re.items hit
          obtain ⟨z0, zs1, rfl, r0, rz1⟩ := rz.cons_inv
          obtain ⟨z1, zs2, rfl, r1, rz2⟩ := rz1.cons_inv
          cases r1.str_inv
          have k6 := k5.ex x6 (by simp)
          have t6 := t5.ex x6 (by simp)
          have hp6 := hp.ex x06 (by simp)
          obtain ⟨kvs, hkv, lkv, _⟩ := id k6
          -- known[thing[1]] = True
          refine ⟨_, rfl, _, rfl, ixSq hp6 (atN (v := .str s1) (by decide) rfl) ?_⟩
          refine setD hkv (by omega) fun H7 e7 => ?_
          have k7 := k6.put hkv e7
          have t7 := t6.eqf e7 nkt.symm
          have x67 : ExF [kd, td] H6 H7 := exm e7 (.inr (by simp)) ExF.refl
          have x37 : ExF [kd, td] H3 H7 := (x4.trans (x5.trans x6).of).trans x67
          have x07 := drop2 x37
          have hp7 := hp.ex x07 (by simp)
          have d0ok : ∃ w, d0 = .str w := by
            have h := hL
            unfold lineD at h
            rw [hit] at h
            match rest, h with
            | [], h =>
              simp only [lineL, Bool.and_eq_true, Bool.or_eq_true] at h
              rcases h.2 with h | h
              · cases d0 <;> simp [isS] at h <;> exact ⟨_, rfl⟩
              · cases d0 <;> simp [isS] at h <;> exact ⟨_, rfl⟩
            | [_], h =>
              simp only [lineL, Bool.and_eq_true] at h
              cases d0 <;> simp [isS] at h <;> exact ⟨_, rfl⟩
            | _ :: _ :: _, h => cases h
          obtain ⟨w0, rfl⟩ := d0ok
          cases r0.str_inv
          refine ⟨_, rfl, ?_⟩
          refine ixSq hp7 (atN (v := .str w0) (by decide) rfl) ?_
          refine eqS ⟨_, rfl, ?_⟩
          have htl' : lineT e = decide (w0 = "tell") := htl
          rw [hnm, htl'] at hf
          refine ite2 (fun hw => ?_) (fun hw => ?_)
          · rw [hw, if_pos rfl] at hf
            obtain ⟨kvs2, hkv2, lkv2, _⟩ := id t7
            refine ⟨_, rfl, _, rfl, ixSq hp7 (atN (v := .str s1) (by decide) rfl) ?_⟩
            refine setD hkv2 (by omega) fun H8 e8 => ?_
            exact ⟨known ++ [s1], told ++ [s1], _, _, rfl, k7.eqf e8 nkt, t7.put hkv2 e8, by simp; omega, by simp; omega, hf, exm e8 (.inr (by simp)) x37⟩
          · have hw' : decide (w0 = ("tell" : Str)) = false := by simpa using hw
            rw [hw', if_neg Bool.false_ne_true, List.append_nil] at hf
            exact ⟨known ++ [s1], told, _, _, rfl, k7, t7, by simp; omega, by omega, hf, x37⟩
      · rintro σ' H4 ⟨known, told, u, w, rfl, hk, ht, lk, lt, hf, x4⟩
        rw [lx, List.drop_length, faultL] at hf
        have x04 : ExF [] H H4 := by
          have z1 : ExF [kd, td] H H4 := x03.of.trans x4
          have z2 : ExF [td] H H4 := z1.drop hkd
          exact z2.drop ((exn (F := []) e1 hkd).free htd)
        have hok : ok 29 d = true := by
          have h1 := faultL_ok hokx hf
          cases n with
          | zero => rcases (items_some hi).2 with e | e <;> subst e <;> simp [okx] at hd
          | succ n =>
            have hdd : okxs n ds = true ∧ ds.length ≤ 100000 := okx_row hd hi
            have h2 := faultL_ok hdd.1 hf
            refine ok_le (n := n + 1) ?_ hn
            rcases (items_some hi).2 with e | e <;> subst e
            · rw [ok_list]; exact ⟨h2, hdd.2⟩
            · rw [ok_tuple]; exact ⟨h2, hdd.2⟩
        have hx4 := x04.at_ _ _ (by simp) hx
        refine ⟨_, rfl, F, x :: G, .ref a, d, rfl, rv.ex x04.of, ⟨by decide, hok⟩, ?_, fun r H5 x5 rr => ?_⟩
        · intro b hb
          rcases List.mem_cons.mp hb with z | z
          · rw [z, hx4]; exact fun z => nomatch z
          · exact x04.kept b (tG b z)
        · have et : tupD d = .tuple (tups ds) := by
            rcases (items_some hi).2 with e | e <;> subst e <;> rw [tupD]
          rw [et] at rr
          obtain ⟨q1, ys, rfl, nq, hq, ry⟩ := rr.tuple_inv
          have hx5 := x5.at_ _ _ (by simp) hx4
          refine ⟨_, rfl, x, D.cSrc, dx, [], rfl, hx5, T.cl, T.no, by decide, ?_⟩
          have nqx : q1 ≠ x := fun e => nq (by simp [e])
          refine qN ds q1 ys _ hi (by rw [hm, hf]) ?_ (fun z => nq (by simp [z])) upd_same ?_ ?_
          · exact exm rfl (.inr (by simp)) (x04.trans x5).of
          · rw [upd_ne nqx]; exact hq
          · exact (ry.ex (exm rfl (.inr (by simp)) ExF.refl : ExF (x :: G) H5 _)).sub (by intro a z; simp [z])
  · -- an instance
    subst hdn
    refine ⟨_, rfl, .inr ⟨.ref b, .ref D.cSrc, rfl, fun H' y => T.ty ((x02.trans y).at_ _ _ (by simp) hb), T.nl, fun H3 x3 => ⟨_, rfl, iteT ?_⟩⟩⟩
    exact noSeq rfl _ _ H3 (x02.trans x3)
end
theorem AnyV.add {F : List Addr} {C p : Addr} {H : Hp} {v : V} {d : PyData} (h : AnyV F C H v d) (hp : H p = none) : AnyV (p :: F) C H v d := by
  rcases h with h | ⟨h1, b, dx, fs, h2, h3, h4⟩
  · exact .inl (h.add hp)
  · exact .inr ⟨h1, b, dx, fs, h2, h3, fun z => by
      rcases List.mem_cons.mp z with z | z
      · rw [z, hp] at h3; cases h3
      · exact h4 z⟩
/-- a new instance and its dict -/
theorem made_ex {H : Hp} {x dx C : Addr} (hx : H x = none) (hdx : H dx = none) : ExF [] H (upd (upd H dx (.own x)) x (.ins C dx [])) := (ExF.new hdx).mut (.inl hx)
theorem rd_l_met {K : PySem.W.Frag} {D : Ad2} {vs : List V} {H : Hp} {Q : VK} {E : XK} (hte : PySem.W.exmOne K (.ref D.cBad) (.ref D.cBad) = some true) (h : spMet D.cSrc vs H Q E) :
    t_l_met K D { nx := fun _ H' => Q .non H', rt := Q } (start ["_law_thing", "e"] vs) H := by
  obtain ⟨v, F, d, n, rfl, hv, hd, hn, hsz, hlen, q⟩ := h
  refine ⟨_, rfl, fun x dx hx hdx ne => ?_⟩
  have x1 := made_ex (C := D.cSrc) hx hdx
  refine ⟨x, dx, v, x :: F, [], d, n, rfl, by simp, upd_same, (hv.add hx).ex x1.of, hd, hn, hsz, hlen, Trk.nil, fun ds a xs H' _ hm x2 _ _ _ _ => ?_, fun i dd H' hm x2 hdd hH => ?_⟩
  · refine ⟨rfl, ?_⟩
    refine q .non H' ((x1.of.trans x2).drop hx) ?_
    rw [hm]
    exact .non
  · refine ⟨true, hte, fun _ a ha => ?_, fun z => Bool.noConfusion z⟩
    refine ⟨_, rfl, rfl, rfl, dd, [(("index" : Str), V.int (i : Int))], .int (i : Int), rfl, hH, ?_, ?_⟩
    · show List.lookup ("index" : Str) [(("index" : Str), V.int (i : Int))] = some (V.int (i : Int))
      simp [List.lookup]
    · refine q _ H' ((x1.of.trans x2).drop hx) ?_
      rw [hm]
      exact .int _

end Tw
end

section
set_option Elab.async false
set_option linter.all false
set_option maxRecDepth 100000
set_option maxHeartbeats 4000000
namespace Tw
open PySem L2 PyProof.Rows

/-! ### == of data: the same both ways, and of texts with themselves -/
mutual
theorem eqv_symm : ∀ d e : PyData, PyData.eqv d e = PyData.eqv e d
  | .none, e => by cases e <;> simp [PyData.eqv]
  | .bool a, e => by cases e <;> simp [PyData.eqv, Bool.beq_comm, BEq.comm]
  | .int a, e => by cases e <;> simp [PyData.eqv, BEq.comm]
  | .str a, e => by cases e <;> simp [PyData.eqv, BEq.comm]
  | .list ds, e => by
    cases e with
    | list es => rw [PyData.eqv, PyData.eqv]; exact eqvAll_symm ds es
    | _ => simp [PyData.eqv]
  | .tuple ds, e => by
    cases e with
    | tuple es => rw [PyData.eqv, PyData.eqv]; exact eqvAll_symm ds es
    | _ => simp [PyData.eqv]
  | .dict _, e => by cases e <;> simp [PyData.eqv]
theorem eqvAll_symm : ∀ ds es : List PyData, PyData.eqvAll ds es = PyData.eqvAll es ds
  | [], [] => rfl
  | [], _ :: _ => by simp [PyData.eqvAll]
  | _ :: _, [] => by simp [PyData.eqvAll]
  | d :: ds, e :: es => by rw [PyData.eqvAll, PyData.eqvAll, eqv_symm d e, eqvAll_symm ds es]
end
mutual
theorem eqv_self : ∀ {d : PyData}, txt d = true → PyData.eqv d d = true
  | .str s, _ => by simp [PyData.eqv]
  | .list ds, h => by rw [txt] at h; rw [PyData.eqv]; exact eqvAll_self h
  | .tuple ds, h => by rw [txt] at h; rw [PyData.eqv]; exact eqvAll_self h
  | .none, h => by simp [txt] at h
  | .bool _, h => by simp [txt] at h
  | .int _, h => by simp [txt] at h
  | .dict _, h => by simp [txt] at h
theorem eqvAll_self : ∀ {ds : List PyData}, txts ds = true → PyData.eqvAll ds ds = true
  | [], _ => by simp [PyData.eqvAll]
  | d :: ds, h => by
    rw [txts, Bool.and_eq_true] at h
    rw [PyData.eqvAll, eqv_self h.1, eqvAll_self h.2]
    rfl
end
/-! ### the same by other brackets -/
mutual
theorem exprD_tup (known : List Str) : ∀ d : PyData, exprD known (tupD d) = exprD known d
  | .str s => by rw [tupD]
  | .list ds => by rw [tupD, exprD, exprD, exprL_tup known ds]
  | .tuple ds => by rw [tupD, exprD, exprD, exprL_tup known ds]
  | .none => by rw [tupD]
  | .bool _ => by rw [tupD]
  | .int _ => by rw [tupD]
  | .dict _ => by rw [tupD]
theorem exprL_tup (known : List Str) : ∀ ds : List PyData, exprL known (tups ds) = exprL known ds
  | [] => by rw [tups]
  | d :: ds => by rw [tups, exprL, exprL, exprs_tup known ds, nameD_tup]
theorem exprs_tup (known : List Str) : ∀ ds : List PyData, exprs known (tups ds) = exprs known ds
  | [] => by rw [tups]
  | d :: ds => by rw [tups, exprs, exprs, exprs_tup known ds, exprD_tup known d]
theorem nameD_tup : ∀ d : PyData, nameD (tupD d) = nameD d
  | .str s => by rw [tupD]
  | .list ds => by rw [tupD]; rfl
  | .tuple ds => by rw [tupD]
                    rfl
  | .none => by rw [tupD]
  | .bool _ => by rw [tupD]
  | .int _ => by rw [tupD]
  | .dict _ => by rw [tupD]
end
theorem isS_tup (z : Str) (d : PyData) : isS z (tupD d) = isS z d := by cases d <;> rw [tupD] <;> rfl
theorem nmIn_tup (k : List Str) (d : PyData) : nmIn k (tupD d) = nmIn k d := by cases d <;> rw [tupD] <;> rfl
theorem items_tup (d : PyData) : items (tupD d) = (items d).map tups := by cases d <;> rw [tupD] <;> rfl
theorem lineL_tup (k t : List Str) (ds : List PyData) : lineL k t (tups ds) = lineL k t ds := by
  match ds with
  | [] => rw [tups]
  | [_] => rw [tups, tups]; rfl
  | [a, b] => rw [tups, tups, tups]; simp only [lineL]; rw [nameD_tup, isS_tup, isS_tup, nmIn_tup, nmIn_tup]
  | [a, b, e] => rw [tups, tups, tups, tups]; simp only [lineL]; rw [nameD_tup, isS_tup, exprD_tup]
  | _ :: _ :: _ :: _ :: _ => rw [tups, tups, tups, tups]; rfl
theorem lineD_tup (k t : List Str) (d : PyData) : lineD k t (tupD d) = lineD k t d := by
  unfold lineD
  rw [items_tup]
  cases items d with
  | none => rfl
  | some ds => exact lineL_tup k t ds
theorem lineN_tup (d : PyData) : lineN (tupD d) = lineN d := by
  unfold lineN
  rw [items_tup]
  cases items d with
  | none => rfl
  | some ds =>
    match ds with
    | [] => rw [Option.map_some, tups]
    | [_] => rw [Option.map_some, tups, tups]
    | a :: b :: r => rw [Option.map_some, tups, tups]; cases b <;> rw [tupD]
theorem lineT_tup (d : PyData) : lineT (tupD d) = lineT d := by
  unfold lineT
  rw [items_tup]
  cases items d with
  | none => rfl
  | some ds =>
    match ds with
    | [] => rw [Option.map_some, tups]
    | a :: r => rw [Option.map_some, tups]; exact isS_tup _ a
theorem faultL_tup : ∀ (ds : List PyData) (k t : List Str) (i : Nat), faultL k t i (tups ds) = faultL k t i ds
  | [], k, t, i => by rw [tups]
  | d :: ds, k, t, i => by rw [tups, faultL, faultL, lineD_tup, lineN_tup, lineT_tup, faultL_tup ds]
theorem metD_tup (d : PyData) : metD (tupD d) = metD d := by
  unfold metD
  rw [items_tup]
  cases items d with
  | none => rfl
  | some ds => exact faultL_tup ds [] [] 0
/-! ### how long a text is shown -/
mutual
theorem txt_tup : ∀ d : PyData, txt (tupD d) = txt d
  | .str s => by rw [tupD]
  | .list ds => by rw [tupD, txt, txt, txts_tup ds]
  | .tuple ds => by rw [tupD, txt, txt, txts_tup ds]
  | .none => by rw [tupD]
  | .bool _ => by rw [tupD]
  | .int _ => by rw [tupD]
  | .dict _ => by rw [tupD]
theorem txts_tup : ∀ ds : List PyData, txts (tups ds) = txts ds
  | [] => by rw [tups]
  | d :: ds => by rw [tups, txts, txts, txt_tup d, txts_tup ds]
end
mutual
theorem size_tup : ∀ d : PyData, size (tupD d) = size d
  | .str s => by rw [tupD]
  | .list ds => by rw [tupD, size, size, sizes_tup ds]
  | .tuple ds => by rw [tupD, size, size, sizes_tup ds]
  | .none => by rw [tupD]
  | .bool _ => by rw [tupD]
  | .int _ => by rw [tupD]
  | .dict _ => by rw [tupD]
theorem sizes_tup : ∀ ds : List PyData, sizes (tups ds) = sizes ds
  | [] => by rw [tups]
  | d :: ds => by rw [tups, sizes, sizes, size_tup d, sizes_tup ds]
end
theorem str_app_len (a b : Str) : (a ++ b).length = a.length + b.length := by
  show (Str.mk (a.cps ++ b.cps)).cps.size = _
  simp [Str.length]
theorem textFrom_le : ∀ (ts : List Str) (k : Nat) (acc : Str), (textFrom k acc ts).length ≤ acc.length + piled ts
  | [], k, acc => by show acc.length ≤ _; omega
  | t :: r, k, acc => by
    have c2 : (Str.ofString (if k > 0 then ", " else "" : String)).length ≤ 2 := by split <;> decide
    unfold textFrom
    have ih := textFrom_le r (k + 1) (acc ++ (if k > 0 then ", " else "" : String) ++ t)
    have e1 := str_app_len (acc ++ Str.ofString (if k > 0 then ", " else "" : String)) t
    have e2 := str_app_len acc (Str.ofString (if k > 0 then ", " else "" : String))
    rw [piled_cons]
    omega
theorem listText_le (ts : List Str) : (listText ts).length ≤ piled ts + 2 := by
  unfold listText
  rw [str_app_len]
  have h := textFrom_le ts 0 "["
  have e1 : ("[" : Str).length = 1 := by decide
  have e2 : ("]" : Str).length = 1 := by decide
  omega
theorem tupleText_le (ts : List Str) : (tupleText ts).length ≤ piled ts + 3 := by
  unfold tupleText
  rw [str_app_len, str_app_len]
  have e1 : ("(" : Str).length = 1 := by decide
  have e2 : (Str.ofString (if ts.length == 1 then ",)" else ")" : String)).length ≤ 2 := by split <;> decide
  have h : (Str.join ", " ts).length ≤ piled ts := by
    cases ts with
    | nil => decide
    | cons t r => have := join_length_add (t :: r) (by simp); omega
  omega
theorem okS_reprText {s : Str} (h : okS s = true) : (reprText s).length ≤ 2002 := by
  have hl := okS_len h
  unfold okS at h
  rw [Bool.and_eq_true] at h
  have h1 := StrLaws.reprText_len s fun c hc => by
    have h2 := h.1
    unfold PyData.strOk at h2
    rw [← Array.all_toList, List.all_eq_true] at h2
    have := of_decide_eq_true (h2 c hc)
    exact Nat.lt_of_lt_of_le this (by decide)
  omega
mutual
theorem shown_le : ∀ {n : Nat} {d : PyData}, ok n d = true → txt d = true → d.shown.length + 2 ≤ 2010 * size d
  | n, .str s, h, _ => by
    rw [ok_str] at h
    have := okS_reprText h
    rw [PyData.shown, size]
    omega
  | 0, .list ds, h, _ => by simp [ok] at h
  | 0, .tuple ds, h, _ => by simp [ok] at h
  | n + 1, .list ds, h, k => by
    rw [ok_list] at h
    rw [txt] at k
    have h1 := shownAll_le h.1 k
    have h2 := listText_le (PyData.shownAll ds)
    rw [PyData.shown, size]
    omega
  | n + 1, .tuple ds, h, k => by
    rw [ok_tuple] at h
    rw [txt] at k
    have h1 := shownAll_le h.1 k
    have h2 := tupleText_le (PyData.shownAll ds)
    rw [PyData.shown, size]
    omega
  | _, .none, _, k => by simp [txt] at k
  | _, .bool _, _, k => by simp [txt] at k
  | _, .int _, _, k => by simp [txt] at k
  | _, .dict _, _, k => by simp [txt] at k
theorem shownAll_le : ∀ {n : Nat} {ds : List PyData}, oks n ds = true → txts ds = true → piled (PyData.shownAll ds) ≤ 2010 * sizes ds
  | n, [], _, _ => by rw [PyData.shownAll, sizes]; decide
  | n, d :: ds, h, k => by
    rw [oks_cons] at h
    rw [txts, Bool.and_eq_true] at k
    have h1 := shown_le h.1 k.1
    have h2 := shownAll_le h.2 k.2
    rw [PyData.shownAll, piled_cons, sizes]
    omega
end
mutual
theorem txt_show : ∀ {d : PyData}, txt d = true → d.showable = true ∧ d.hasDict = false
  | .str s, _ => by simp [PyData.showable, PyData.hasDict]
  | .list ds, h => by rw [txt] at h; rw [PyData.showable, PyData.hasDict]; exact txts_show h
  | .tuple ds, h => by rw [txt] at h; rw [PyData.showable, PyData.hasDict]; exact txts_show h
  | .none, h => by simp [txt] at h
  | .bool _, h => by simp [txt] at h
  | .int _, h => by simp [txt] at h
  | .dict _, h => by simp [txt] at h
theorem txts_show : ∀ {ds : List PyData}, txts ds = true → PyData.showableAll ds = true ∧ PyData.hasDictAll ds = false
  | [], _ => by simp [PyData.showableAll, PyData.hasDictAll]
  | d :: ds, h => by
    rw [txts, Bool.and_eq_true] at h
    rw [PyData.showableAll, PyData.hasDictAll, (txt_show h.1).1, (txt_show h.1).2, (txts_show h.2).1, (txts_show h.2).2]
    exact ⟨rfl, rfl⟩
end
/-- repr of it -/
theorem reprD {K : PySem.W.Frag} {F : List Addr} {H : Hp} {a : Addr} {d : PyData} {n : Nat} {Q : VK} (r : Rp F H (.ref a) d) (h : ok n d = true) (hn : n ≤ 60) (ht : txt d = true) (hs : size d ≤ 8000) (q : Q (.str d.shown) H) : rRepr K [.ref a] H Q := by
  have h1 := shown_le h ht
  have h2 := txt_show ht
  have h3 := ok_lay h
  unfold rRepr
  exact ⟨a, d, rfl, r.dp (ok_plain h), h2.1, h2.2, by omega, by rw [sizeLine_eq]; omega, q⟩
/-- all of made.lines() == .. -/
def spTold : Sp := fun vs H Q _ => ∃ (st cl : Addr) (c : Nat) (F : List Addr) (l : Addr) (xs : List V) (ds : List PyData), vs = [.ref st, .ref l] ∧ Strm st cl H c ∧ st ∈ F ∧ cl ∈ F ∧ H l = some (.lst xs) ∧ l ∉ F ∧ RpL F H xs ds ∧ GoodL ds ∧ c + 5000 < 2 ^ 48 ∧
  ∀ c' H', c ≤ c' → c' ≤ c + 5000 → Strm st cl H' c' → ExF [st, cl] H H' → Q (.bl true) H'
end Tw
end

section
set_option Elab.async false
set_option linter.all false
set_option maxRecDepth 100000
set_option maxHeartbeats 4000000
namespace Tw
open PySem L2 PyProof.Rows
@[irreducible] def MkR (D : Ad2) (v : V) (H : Hp) (Q : VK) : Prop := ∀ x dx, H x = none → H dx = none → dx ≠ x → spSInit D.cSrc D.cBad [.ref x, v] (upd (upd H dx (.own x)) x (.ins D.cSrc dx [])) (fun v H2 => v = .non ∧ Q (.ref x) H2) E0
def tMakeU (D : Ad2) (t : TA) : TE := fun σ H Q => t σ H fun zs H1 => ∃ v, zs = [v] ∧ MkR D v H1 Q
noncomputable def t_l_told_right_b5 (K : PySem.W.Frag) (D : Ad2) : TS := tDrop (tBM K "list" (rAppendU) (tVar 6) (tCons (tC (.str "late")) (tNil)))
noncomputable def t_l_told_right_b8 (K : PySem.W.Frag) (D : Ad2) : TS := tIfS (tAnd (tTest (tOp rIsN (tCall spFault [] E0 (tCons (tVar 7) (tNil))) (tC .non))) (tTest (tOp (rNeU K) (tOp (rEqOwn D.cSrc (spSEq D.cSrc)) (tVar 4) (tMakeU D (tCons (tVar 7) (tNil)))) (tOp (rEqU K) (tVar 7) (tVar 1))))) (tRet (tC (.bl false))) (tNext)
noncomputable def t_l_told_right_t9 (K : PySem.W.Frag) (D : Ad2) : TS := tRet (tC (.bl true))
noncomputable def t_l_told_right_t8 (K : PySem.W.Frag) (D : Ad2) : TS := tSeq (tForU (iSeqU K (tTupU (tCons (tSl (rSlU K) (tVar 1) (tNoPart) (tPart (tUn (rU fun i => .int (-i)) (tC (.int 1))))) (tCons (tOp (rAddU K) (tVar 1) (tLt (.lst [.tup [.str "read", .str "late9"]]))) (tCons (tRevL K (tVar 1)) (tNil)))))) (gName 7) (t_l_told_right_b8 K D)) (t_l_told_right_t9 K D)
noncomputable def t_l_told_right_t7 (K : PySem.W.Frag) (D : Ad2) : TS := tSeq (tIfS (tOr (tNot (tTest (tOp (rEqOwn D.cSrc (spSEq D.cSrc)) (tVar 4) (tMakeU D (tCons (tVar 1) (tNil)))))) (tOr (tTest (tOp (rNeOwn D.cSrc (spSEq D.cSrc)) (tVar 4) (tMakeU D (tCons (tVar 1) (tNil))))) (tOr (tTest (tOp (rEqOwn D.cSrc (spSEq D.cSrc)) (tVar 4) (tVar 1))) (tNot (tTest (tOp (rNeOwn D.cSrc (spSEq D.cSrc)) (tVar 4) (tCB (rTupOf K) (tCons (tVar 1) (tNil))))))))) (tRet (tC (.bl false))) (tNext)) (t_l_told_right_t8 K D)
noncomputable def t_l_told_right_t6 (K : PySem.W.Frag) (D : Ad2) : TS := tSeq (tIfS (tNot (tB (tCall (spSame 20) [] E0 (tCons (tLstU (tCons (tMeth D.cSrc "lines" (spSLines D.cSrc) [] E0 (tVar 4) tNil) (tCons (tMeth D.cSrc "reads" (spSNames "read" D.cSrc) [] E0 (tVar 4) tNil) (tCons (tMeth D.cSrc "tells" (spSNames "tell" D.cSrc) [] E0 (tVar 4) tNil) (tNil))))) (tCons (tVar 5) (tNil)))))) (tRet (tC (.bl false))) (tNext)) (t_l_told_right_t7 K D)
noncomputable def t_l_told_right_t5 (K : PySem.W.Frag) (D : Ad2) : TS := tSeq (tForU (iSeqU K (tTupU (tCons (tMeth D.cSrc "lines" (spSLines D.cSrc) [] E0 (tVar 4) tNil) (tCons (tMeth D.cSrc "reads" (spSNames "read" D.cSrc) [] E0 (tVar 4) tNil) (tCons (tMeth D.cSrc "tells" (spSNames "tell" D.cSrc) [] E0 (tVar 4) tNil) (tNil)))))) (gName 6) (t_l_told_right_b5 K D)) (t_l_told_right_t6 K D)
noncomputable def t_l_told_right_t4 (K : PySem.W.Frag) (D : Ad2) : TS := tSeq (tIfS (tB (tCB (rIsiU K) (tCons (tVar 2) (tCons (tC (.ty "list")) (tNil))))) (tDrop (tBM K "list" (rAppendU) (tVar 2) (tCons (tLt (.tup [.str "read", .str "late"])) (tNil)))) (tNext)) (t_l_told_right_t5 K D)
noncomputable def t_l_told_right_t3 (K : PySem.W.Frag) (D : Ad2) : TS := tSeq (tIfS (tOr (tNot (tB (tCall (spSame 20) [] E0 (tCons (tLstU (tCons (tMeth D.cSrc "lines" (spSLines D.cSrc) [] E0 (tVar 4) tNil) (tCons (tMeth D.cSrc "reads" (spSNames "read" D.cSrc) [] E0 (tVar 4) tNil) (tCons (tMeth D.cSrc "tells" (spSNames "tell" D.cSrc) [] E0 (tVar 4) tNil) (tNil))))) (tCons (tVar 5) (tNil)))))) (tTest (tOp (rNeU K) (tCB (rRepr K) (tCons (tVar 2) (tNil))) (tVar 3)))) (tRet (tC (.bl false))) (tNext)) (t_l_told_right_t4 K D)
noncomputable def t_l_told_right_t2 (K : PySem.W.Frag) (D : Ad2) : TS := tSeq (tAsg (tLstU (tCons (tVar 1) (tCons (tLcU (iSeqU K (tVar 1)) (gName 8) (tTest (tOp (rEqU K) (tOp (rIxU K) (tVar 8) (tC (.int 0))) (tC (.str "read")))) (tOp (rIxU K) (tVar 8) (tC (.int 1))) [8]) (tCons (tLcU (iSeqU K (tVar 1)) (gName 8) (tTest (tOp (rEqU K) (tOp (rIxU K) (tVar 8) (tC (.int 0))) (tC (.str "tell")))) (tOp (rIxU K) (tVar 8) (tC (.int 1))) [8]) (tNil))))) (gName 5)) (t_l_told_right_t3 K D)
noncomputable def t_l_told_right_t1 (K : PySem.W.Frag) (D : Ad2) : TS := tSeq (tPar 3 4 (tCons (tCB (rRepr K) (tCons (tVar 2) (tNil))) (tCons (tMakeU D (tCons (tVar 2) (tNil))) (tNil)))) (t_l_told_right_t2 K D)
noncomputable def t_l_told_right (K : PySem.W.Frag) (D : Ad2) : TS := tSeq (tAsg (tCall (spLoose 20) [] E0 (tCons (tVar 0) (tCons (tVar 1) (tNil)))) (gName 2)) (t_l_told_right_t1 K D)
noncomputable def t_law_b1 (K : PySem.W.Frag) (D : Ad2) : TS := tSeq (tAsg (tCall spALines [] E0 (tCons (tVar 1) (tCons (tOp (rAddU K) (tC (.int 2)) (tCall spDraw [] E0 (tCons (tVar 1) (tCons (tC (.int 9)) (tNil))))) (tCons (tCall spDraw [] E0 (tCons (tVar 1) (tCons (tC (.int 4)) (tNil)))) (tNil))))) (gName 3))
      (tSeq (tIfS (tOr (tTest (tOp rNotN (tCall spFault [] E0 (tCons (tVar 3) (tNil))) (tC .non))) (tNot (tB (tCall spTold [] E0 (tCons (tVar 1) (tCons (tVar 3) (tNil))))))) (tRet (tC (.bl false))) (tNext))
      (tSeq (tForU (iSeqU K (tSl (rSlU K) (tCall spMixed [] E0 (tCons (tVar 1) (tCons (tCall spOdds [] E0 (tCons (tVar 1) (tCons (tVar 3) (tNil)))) (tNil)))) (tNoPart) (tPart (tC (.int 25))))) (gName 4) (tSeq (tAsg (tCall spDraw [] E0 (tCons (tVar 1) (tCons (tOp (rAddU K) (tCB (rLenU K) (tCons (tVar 3) (tNil))) (tC (.int 1))) (tNil)))) (gName 5))
      (tSeq (tAsg (tOp (rAddU K) (tOp (rAddU K) (tSl (rSlU K) (tVar 3) (tNoPart) (tPart (tVar 5))) (tLt (.lst [.var 4]))) (tSl (rSlU K) (tVar 3) (tPart (tOp (rAddU K) (tVar 5) (tCall spDraw [] E0 (tCons (tVar 1) (tCons (tC (.int 2)) (tNil)))))) (tNoPart))) (gName 6))
      (tIfS (tNot (tB (tCall (spSame 20) [] E0 (tCons (tLstU (tCons (tCall (spMet D.cSrc) [] E0 (tCons (tCall spPick [] E0 (tCons (tVar 1) (tCons (tLstU (tCons (tVar 6) (tCons (tCB (rTupOf K) (tCons (tVar 6) (tNil))) (tNil)))) (tNil)))) (tNil))) (tNil))) (tCons (tLstU (tCons (tCall spFault [] E0 (tCons (tVar 6) (tNil))) (tNil))) (tNil)))))) (tRet (tC (.bl false))) (tNext)))))
      (tForU (iRng1 (tCons (tC (.int 6)) (tNil))) (gName 7) (tSeq (tAsg (tCB (rLstOf K) (tCons (tVar 3) (tNil))) (gName 6))
      (tSeq (tDrop (tBM K "list" (rInsert) (tVar 6) (tCons (tCall spDraw [] E0 (tCons (tVar 1) (tCons (tOp (rAddU K) (tCB (rLenU K) (tCons (tVar 3) (tNil))) (tC (.int 1))) (tNil)))) (tCons (tBM K "list" rPopAtU (tVar 6) (tCons (tCall spDraw [] E0 (tCons (tVar 1) (tCons (tCB (rLenU K) (tCons (tVar 3) (tNil))) (tNil)))) (tNil))) (tNil)))))
      (tIfS (tNot (tB (tCall (spSame 20) [] E0 (tCons (tLstU (tCons (tCall (spMet D.cSrc) [] E0 (tCons (tVar 6) (tNil))) (tCons (tCall (spMet D.cSrc) [] E0 (tCons (tOp rMulU (tVar 6) (tC (.int 2))) (tNil))) (tNil)))) (tCons (tLstU (tCons (tCall spFault [] E0 (tCons (tVar 6) (tNil))) (tCons (tCall spFault [] E0 (tCons (tOp rMulU (tVar 6) (tC (.int 2))) (tNil))) (tNil)))) (tNil)))))) (tRet (tC (.bl false))) (tNext)))))))
noncomputable def t_law_t3 (K : PySem.W.Frag) (D : Ad2) : TS := tRet (tAndV (tCall (spSame 20) [] E0 (tCons (tVar 8) (tCons (tOp rMulU (tLt (.lst [.int 0])) (tC (.int 7))) (tNil)))) (tCall (spSame 20) [] E0 (tCons (tLstU (tCons (tMeth D.cSrc "lines" (spSLines D.cSrc) [] E0 (tMakeU D (tCons (tLstU (tNil)) (tNil))) tNil) (tCons (tMeth D.cSrc "tells" (spSNames "tell" D.cSrc) [] E0 (tMakeU D (tCons (tTupU (tNil)) (tNil))) tNil) (tNil)))) (tCons (tLstU (tCons (tLstU (tNil)) (tCons (tLstU (tNil)) (tNil)))) (tNil)))))
noncomputable def t_law_t2 (K : PySem.W.Frag) (D : Ad2) : TS := tSeq (tAsg (tLcU (iSeqU K (tTupU (tCons (tC .non) (tCons (tC (.int 5)) (tCons (tC (.str "ab")) (tCons (tDNewK) (tCons (tC (.bl true)) (tCons (tMakeU D (tCons (tLstU (tNil)) (tNil))) (tCons (tLt (.tup [.str "read", .str "a"])) (tNil)))))))))) (gName 4) (tYes) (tCall (spMet D.cSrc) [] E0 (tCons (tVar 4) (tNil))) [4]) (gName 8)) (t_law_t3 K D)
noncomputable def t_law_t1 (K : PySem.W.Frag) (D : Ad2) : TS := tSeq (tForU (iRng1 (tCons (tC (.int 5)) (tNil))) (gName 2) (t_law_b1 K D)) (t_law_t2 K D)
noncomputable def t_law (K : PySem.W.Frag) (D : Ad2) : TS := tSeq (tAsg (tCall (spStart K) [] E0 (tCons (tVar 0) (tNil))) (gName 1)) (t_law_t1 K D)

theorem sizes_le {m : Nat} : ∀ {ds : List PyData}, (∀ d ∈ ds, size d ≤ m) → sizes ds ≤ ds.length * m
  | [], _ => by rw [sizes]; exact Nat.zero_le _
  | d :: ds, h => by
    have h1 := h d (by simp)
    have h2 := sizes_le (ds := ds) fun e he => h e (by simp [he])
    rw [sizes, List.length_cons, Nat.succ_mul]
    omega
theorem lineD_word {k t : List Str} {d : PyData} (h : lineD k t d = true) : ∃ w s r, items d = some (.str w :: .str s :: r) := by
  obtain ⟨d0, s1, rest, hit, _, _⟩ := lineD_parts h
  unfold lineD at h
  rw [hit] at h
  have : ∃ w, d0 = .str w := by
    match rest, h with
    | [], h =>
      simp only [lineL, Bool.and_eq_true, Bool.or_eq_true] at h
      rcases h.2 with h | h
      · cases d0 <;> simp [isS] at h <;> exact ⟨_, rfl⟩
      · cases d0 <;> simp [isS] at h <;> exact ⟨_, rfl⟩
    | [_], h =>
      simp only [lineL, Bool.and_eq_true] at h
      cases d0 <;> simp [isS] at h <;> exact ⟨_, rfl⟩
    | _ :: _ :: _, h => cases h
  obtain ⟨w, rfl⟩ := this
  exact ⟨w, s1, rest, hit⟩
theorem GoodL.ln {ds : List PyData} (g : GoodL ds) : ∀ d ∈ ds, lnOk d := fun d hd => by
  obtain ⟨k, t, h⟩ := faultL_each g.f d hd
  obtain ⟨w, s, r, hi⟩ := lineD_word h
  have ht := (g.good d hd).2.1
  rcases (items_some hi).2 with e | e
  · rw [e, tupD] at ht
    cases ht
  · exact ⟨w, s, r, e⟩
theorem GoodL.tups {ds : List PyData} (g : GoodL ds) : Tw.tups ds = ds := by
  rw [tups_map]
  exact (List.map_congr_left fun d hd => (g.good d hd).2.1).trans (List.map_id _)
theorem GoodL.oks {ds : List PyData} (g : GoodL ds) : Tw.oks 6 ds = true := oks_iff.mpr fun d hd => (g.good d hd).1
theorem GoodL.txts {ds : List PyData} (g : GoodL ds) : Tw.txts ds = true := txts_iff.mpr fun d hd => (g.good d hd).2.2.1
theorem GoodL.size {ds : List PyData} (g : GoodL ds) : sizes ds ≤ 4000 := by
  have := sizes_le fun d hd => (g.good d hd).2.2.2
  have := g.l20
  have : ds.length * 200 ≤ 20 * 200 := Nat.mul_le_mul_right _ g.l20
  omega
theorem namesOf_ok {z : Str} {n : Nat} {ds : List PyData} (hl : ∀ d ∈ ds, lnOk d) (ho : oks n ds = true) : ∀ s ∈ namesOf z ds, okS s = true := fun s hs => by
  obtain ⟨d, hd, rfl⟩ := List.mem_map.mp hs
  have hd := (List.mem_filter.mp hd).1
  obtain ⟨w, s, r, rfl⟩ := hl d hd
  have := oks_iff.mp ho _ hd
  cases n with
  | zero => simp [ok] at this
  | succ n =>
    rw [ok_tuple, oks_cons, oks_cons, ok_str, ok_str] at this
    exact this.1.2.1
theorem oks_strs {n : Nat} {zs : List Str} (h : ∀ s ∈ zs, okS s = true) : oks n (zs.map PyData.str) = true := oks_iff.mpr fun d hd => by
  obtain ⟨s, hs, rfl⟩ := List.mem_map.mp hd
  rw [ok_str]
  exact h s hs
/-- Source(v) of good lines -/
theorem mkS {D : Ad2} {F G : List Addr} {H : Hp} {v : V} {d : PyData} {n : Nat} {ds : List PyData} {Q : VK} (rv : Rp F H v d) (hd : okx n d = true) (hn : n ≤ 29) (hsz : size d ≤ 1000000) (hi : items d = some ds) (hl : ds.length ≤ 1000) (hm : metD d = none) (tG : Trk G H)
    (q : ∀ x dx a ys H', ExF [] H H' → H x = none → x ∉ G → a ∉ G → H' x = some (.ins D.cSrc dx [("own_lines", .ref a)]) → H' a = some (.tup ys) → RpL G H' ys (tups ds) → Q (.ref x) H') :
    MkR D v H Q := by
  unfold MkR
  intro x dx hx hdx ne
  have x1 := made_ex (C := D.cSrc) hx hdx
  refine ⟨x, dx, v, x :: F, G, d, n, rfl, by simp, upd_same, .inl ((rv.add hx).ex x1.of), hd, hn, hsz, fun ds' h => ?_, tG.ex x1, fun ds' a ys H' h hm x2 na hxs ha ry => ?_, fun i dd H' hm' => ?_⟩
  · rw [hi] at h; cases h; exact hl
  · rw [hi] at h
    cases h
    exact ⟨rfl, q x dx a ys H' ((x1.of.trans x2).drop hx) hx (tG.nin hx) na hxs ha ry⟩
  · rw [hm] at hm'; cases hm'
theorem slToNeg1 {K : PySem.W.Frag} {H : Hp} {a : Addr} {xs : List V} {Q : VK} (ha : H a = some (.lst xs)) (q : ∀ p H', H p = none → H' = upd H p (.lst (xs.take (xs.length - 1))) → Q (.ref p) H') : rSlU K (.ref a) none (some (-1)) H Q := by
  unfold rSlU
  refine .inl ⟨a, xs, rfl, .inl (.inl ha), fun p hp => ?_⟩
  have e : cutV xs none (some (-1)) = xs.take (xs.length - 1) := by
    unfold cutV
    have e1 : HT.sIx xs.length xs.length (some (-1)) = xs.length - 1 := by
      show (if (-1 : Int) < 0 then ((-1 : Int) + (xs.length : Int)).toNat else min (-1 : Int).toNat xs.length) = _
      rw [if_pos (by decide)]
      omega
    rw [e1]
    show (xs.drop 0).take (xs.length - 1 - 0) = _
    rw [List.drop_zero, Nat.sub_zero]
  rw [e]
  exact q p _ hp rfl
/-- what stands all through: the spring, the lines at l, the source at x -/
structure TR (C : Addr) (st cl l hd x dx a : Addr) (xs ys : List V) (ds : List PyData) (c : Nat) (H : Hp) : Prop where
  S : Strm st cl H c
  hl : H l = some (.lst xs)
  rx : RpL [hd] H xs ds
  hx : H x = some (.ins C dx [("own_lines", .ref a)])
  ha : H a = some (.tup ys)
  ry : RpL [hd] H ys ds
  ne : st ≠ hd ∧ cl ≠ hd ∧ l ≠ hd ∧ x ≠ hd ∧ a ≠ hd
section
variable {K : PySem.W.Frag} {D : Ad2} {C st cl l hd x dx a : Addr} {xs ys : List V} {ds : List PyData} {c : Nat} {H H' : Hp} {σ : L2.St}
theorem TR.ex (t : TR C st cl l hd x dx a xs ys ds c H) (y : ExF [hd] H H') : TR C st cl l hd x dx a xs ys ds c H' := by
  have n := t.ne
  exact ⟨t.S.ex' (by simp [n.1]) (by simp [n.2.1]) y, y.at_ _ _ (by simp [n.2.2.1]) t.hl, t.rx.ex y, y.at_ _ _ (by simp [n.2.2.2.1]) t.hx, y.at_ _ _ (by simp [n.2.2.2.2]) t.ha, t.ry.ex y, n⟩
theorem TR.src (t : TR C st cl l hd x dx a xs ys ds c H) : SrcAt C H x ys := ⟨dx, a, t.hx, t.ha⟩
def tLines (D : Ad2) : TE := tMeth D.cSrc "lines" (spSLines D.cSrc) [] E0 (tVar 4) tNil
def tReads (D : Ad2) : TE := tMeth D.cSrc "reads" (spSNames "read" D.cSrc) [] E0 (tVar 4) tNil
def tTells (D : Ad2) : TE := tMeth D.cSrc "tells" (spSNames "tell" D.cSrc) [] E0 (tVar 4) tNil
/-- the three rows, new -/
theorem three {Q : List V → Hp → Prop} (t : TR D.cSrc st cl l hd x dx a xs ys ds c H) (g : GoodL ds) (h4 : σ[4]? = some (some (.ref x)))
    (q : ∀ r1 r2 r3 H', ExF [] H H' → H r1 = none → H r2 = none → H r3 = none → r1 ≠ r2 → r1 ≠ r3 → r2 ≠ r3 → H' r1 = some (.lst ys) → H' r2 = some (.lst ((namesOf "read" ds).map V.str)) → H' r3 = some (.lst ((namesOf "tell" ds).map V.str)) → RpL [hd] H' ys ds → Q [.ref r1, .ref r2, .ref r3] H') :
    tCons (tLines D) (tCons (tReads D) (tCons (tTells D) tNil)) σ H Q := by
  have lk : ∀ m : Str, m ≠ "own_lines" → List.lookup m [(("own_lines" : Str), V.ref a)] = none := fun m hm => by
    have e : (m == ("own_lines" : Str)) = false := by simpa using hm
    simp [List.lookup, e]
  have l20 := g.l20
  refine ⟨_, h4, x, dx, _, rfl, t.hx, lk _ (by decide), x, ys, rfl, t.src, fun r1 H1 n1 h1 x1 => ?_⟩
  have t1 := t.ex x1.of
  refine ⟨_, h4, x, dx, _, rfl, t1.hx, lk _ (by decide), x, [hd], ys, ds, rfl, t1.src, t1.ry, g.ln, by omega, fun r2 H2 n2 h2 x2 => ?_⟩
  have t2 := t1.ex x2.of
  refine ⟨_, h4, x, dx, _, rfl, t2.hx, lk _ (by decide), x, [hd], ys, ds, rfl, t2.src, t2.ry, g.ln, by omega, fun r3 H3 n3 h3 x3 => ?_⟩
  have h1' := x2.at_ _ _ (by simp) h1
  exact q r1 r2 r3 H3 ((x1.trans x2).trans x3) n1 (x1.free n2) ((x1.trans x2).free n3) (ne_of_none h1 n2) (ne_of_none h1' n3) (ne_of_none h2 n3) (x3.at_ _ _ (by simp) h1') (x3.at_ _ _ (by simp) h2) h3 (t2.ry.ex x3.of)
/-- what is due -/
def dueD (ds : List PyData) : PyData := .list [.list ds, .list ((namesOf "read" ds).map PyData.str), .list ((namesOf "tell" ds).map PyData.str)]
theorem dueD_ok (g : GoodL ds) : ok 9 (dueD ds) = true := by
  have l20 := g.l20
  have nl : ∀ z, (namesOf z ds).length ≤ 20 := fun z => by
    unfold namesOf
    rw [List.length_map]
    exact Nat.le_trans (List.length_filter_le _ _) l20
  have n1 := nl "read"
  have n2 := nl "tell"
  unfold dueD
  rw [ok_list, oks_cons, oks_cons, oks_cons, ok_list, ok_list, ok_list]
  exact ⟨⟨⟨oks_le g.oks (by decide), by omega⟩, ⟨oks_strs (namesOf_ok g.ln g.oks), by rw [List.length_map]; omega⟩, ⟨oks_strs (namesOf_ok g.ln g.oks), by rw [List.length_map]; omega⟩, by rw [oks]⟩, by simp⟩
/-- same([made.lines(), made.reads(), made.tells()], due) -/
theorem sameT {Q : VK} {u : V} (t : TR D.cSrc st cl l hd x dx a xs ys ds c H) (g : GoodL ds) (h4 : σ[4]? = some (some (.ref x))) (h5 : σ[5]? = some (some u)) (ru : Rp [hd] H u (dueD ds)) (q : ∀ H', ExF [] H H' → Q (.bl true) H') :
    tCall (spSame 20) [] E0 (tCons (tLstU (tCons (tLines D) (tCons (tReads D) (tCons (tTells D) (tNil))))) (tCons (tVar 5) (tNil))) σ H Q := by
  change (tCons (tLines D) (tCons (tReads D) (tCons (tTells D) tNil))) σ H (fun xs H1 => xs.length ≤ sizeLine ∧ ∀ p H', H1 p = none → H' = upd H1 p (.lst xs) → (tCons (tVar 5) tNil) σ H' (fun ys H2 => spSame 20 ((V.ref p :: ys) ++ []) H2 Q E0))
  refine three t g h4 fun r1 r2 r3 H1 x1 n1 n2 n3 _ _ _ k1 k2 k3 ry => ⟨by show 3 ≤ sizeLine; decide, fun p H2 hp e2 => ⟨_, h5, ?_⟩⟩
  have x2 : ExF [] H1 H2 := exn e2 hp
  refine ⟨[], [hd], .ref p, u, dueD ds, 9, rfl, ?_, ru.ex (x1.trans x2).of, dueD_ok g, by decide, by decide, fun H3 x3 => q H3 ((x1.trans x2).trans x3)⟩
  refine .list (by simp) (eqs e2) (.cons (.list (by simp) (x2.at_ _ _ (by simp) k1) ((ry.ex x2.of).sub (by simp))) (.cons (.list (by simp) (x2.at_ _ _ (by simp) k2) (RpL.strs _)) (.cons (.list (by simp) (x2.at_ _ _ (by simp) k3) (RpL.strs _)) .nil)))
end
section
variable {K : PySem.W.Frag} {D : Ad2} {st cl l hd x dx a : Addr} {xs ys : List V} {ds : List PyData} {c : Nat} {H : Hp} {Q : VK}
theorem GoodL.ok20 (g : GoodL ds) : ok 20 (.tuple ds) = true := ok_le (n := 7) (by rw [ok_tuple]; exact ⟨g.oks, by have := g.l20; omega⟩) (by decide)
theorem ownEq {x2 dx2 a2 : Addr} {ys2 : List V} {es : List PyData} {G : List Addr} (t : TR D.cSrc st cl l hd x dx a xs ys ds c H) (g : GoodL ds) (h2 : H x2 = some (.ins D.cSrc dx2 [("own_lines", .ref a2)])) (h3 : H a2 = some (.tup ys2)) (r2 : RpL G H ys2 es) (ho : ok 20 (.tuple es) = true)
    (q : ∀ H', ExF [] H H' → Q (.bl (PyData.eqvAll ds es)) H') : rEqOwn D.cSrc (spSEq D.cSrc) (.ref x) (.ref x2) H Q :=
  ⟨x, dx, _, rfl, t.hx, ⟨x2, rfl, .inl ⟨_, _, h2⟩⟩, x, ys, [hd], ds, .ref x2, rfl, t.src, t.ry, g.ok20, .inl ⟨x2, ys2, G, es, rfl, ⟨dx2, a2, h2, h3⟩, r2, ho, fun H' x' => ⟨_, rfl, by have := q H' x'; rw [PyData.eqv]; exact this⟩⟩⟩
theorem ownNe {x2 dx2 a2 : Addr} {ys2 : List V} {es : List PyData} {G : List Addr} (t : TR D.cSrc st cl l hd x dx a xs ys ds c H) (g : GoodL ds) (h2 : H x2 = some (.ins D.cSrc dx2 [("own_lines", .ref a2)])) (h3 : H a2 = some (.tup ys2)) (r2 : RpL G H ys2 es) (ho : ok 20 (.tuple es) = true)
    (q : ∀ H', ExF [] H H' → Q (.bl (!PyData.eqvAll ds es)) H') : rNeOwn D.cSrc (spSEq D.cSrc) (.ref x) (.ref x2) H Q :=
  ⟨x, dx, _, rfl, t.hx, ⟨x2, rfl, .inl ⟨_, _, h2⟩⟩, x, ys, [hd], ds, .ref x2, rfl, t.src, t.ry, g.ok20, .inl ⟨x2, ys2, G, es, rfl, ⟨dx2, a2, h2, h3⟩, r2, ho, fun H' x' => ⟨_, rfl, by have := q H' x'; rw [PyData.eqv]; exact this⟩⟩⟩
theorem ownEqSeq {b : Addr} {zs : List V} (t : TR D.cSrc st cl l hd x dx a xs ys ds c H) (g : GoodL ds) (h2 : Sq H b zs) (r2 : RpL [hd] H zs ds) (q : ∀ H', ExF [] H H' → Q (.bl false) H') : rEqOwn D.cSrc (spSEq D.cSrc) (.ref x) (.ref b) H Q := by
  rcases h2 with h2 | h2
  · exact ⟨x, dx, _, rfl, t.hx, ⟨b, rfl, .inr (.inl ⟨_, h2⟩)⟩, x, ys, [hd], ds, .ref b, rfl, t.src, t.ry, g.ok20, .inr ⟨[], .list ds, .list (by simp) h2 (r2.sub (by simp)), rfl, fun H' x' => ⟨_, rfl, q H' x'⟩⟩⟩
  · exact ⟨x, dx, _, rfl, t.hx, ⟨b, rfl, .inr (.inr ⟨_, h2⟩)⟩, x, ys, [hd], ds, .ref b, rfl, t.src, t.ry, g.ok20, .inr ⟨[], .tuple ds, .tuple (by simp) h2 (r2.sub (by simp)), rfl, fun H' x' => ⟨_, rfl, q H' x'⟩⟩⟩
theorem ownNeSeq {b : Addr} {zs : List V} (t : TR D.cSrc st cl l hd x dx a xs ys ds c H) (g : GoodL ds) (h2 : Sq H b zs) (r2 : RpL [hd] H zs ds) (q : ∀ H', ExF [] H H' → Q (.bl true) H') : rNeOwn D.cSrc (spSEq D.cSrc) (.ref x) (.ref b) H Q := by
  rcases h2 with h2 | h2
  · exact ⟨x, dx, _, rfl, t.hx, ⟨b, rfl, .inr (.inl ⟨_, h2⟩)⟩, x, ys, [hd], ds, .ref b, rfl, t.src, t.ry, g.ok20, .inr ⟨[], .list ds, .list (by simp) h2 (r2.sub (by simp)), rfl, fun H' x' => ⟨_, rfl, q H' x'⟩⟩⟩
  · exact ⟨x, dx, _, rfl, t.hx, ⟨b, rfl, .inr (.inr ⟨_, h2⟩)⟩, x, ys, [hd], ds, .ref b, rfl, t.src, t.ry, g.ok20, .inr ⟨[], .tuple ds, .tuple (by simp) h2 (r2.sub (by simp)), rfl, fun H' x' => ⟨_, rfl, q H' x'⟩⟩⟩
/-- other lines -/
structure Oth (es : List PyData) : Prop where
  all : ∀ e ∈ es, ok 6 e = true ∧ tupD e = e ∧ txt e = true
  len : es.length ≤ 21
  sz : sizes es ≤ 5000
theorem Oth.tups {es : List PyData} (o : Oth es) : Tw.tups es = es := by
  rw [tups_map]
  exact (List.map_congr_left fun d hd => (o.all d hd).2.1).trans (List.map_id _)
theorem Oth.oks {es : List PyData} (o : Oth es) : Tw.oks 6 es = true := oks_iff.mpr fun d hd => (o.all d hd).1
theorem Oth.ok20 {es : List PyData} (o : Oth es) : ok 20 (.tuple es) = true := ok_le (n := 7) (by rw [ok_tuple]; exact ⟨o.oks, by have := o.len; omega⟩) (by decide)
theorem size_rev : ∀ ds : List PyData, sizes ds.reverse = sizes ds
  | [] => rfl
  | d :: ds => by rw [List.reverse_cons, sizes_append, size_rev ds, sizes, sizes, sizes]; omega
theorem GoodL.oth (g : GoodL ds) : Oth ds := ⟨fun e he => ⟨(g.good e he).1, (g.good e he).2.1, (g.good e he).2.2.1⟩, by have := g.l20; omega, by have := g.size; omega⟩
def lateD : PyData := .tuple [.str "read", .str "late9"]
end
theorem okx_lists {n : Nat} {ds : List PyData} (h : oks n ds = true) (hl : ds.length ≤ 100000) : okx (n + 1) (.list ds) = true := by rw [okx_list]; exact ⟨okxs_of h, hl⟩
theorem fault_list (ds : List PyData) : metD (.list ds) = faultL [] [] 0 ds := rfl
theorem fault_tuple (ds : List PyData) : metD (.tuple ds) = faultL [] [] 0 ds := rfl
theorem rd_l_told_right {K : PySem.W.Frag} {D : Ad2} {vs : List V} {H : Hp} {Q : VK} {E : XK} (h : spTold vs H Q E) :
    t_l_told_right K D { nx := fun _ H' => Q .non H', rt := Q } (start ["_law_stream", "_law_lines", "_law_handed", "_law_was", "_law_made", "_law_due", "_law_told", "_law_other", "_law_line"] vs) H := by
  obtain ⟨st, cl, c, F, l, xs, ds, rfl, S, fs, fc, hl, nlF, rx, g, hc, q⟩ := h
  have sz : sizeLine = 16777216 := sizeLine_eq
  have l20 := g.l20
  have hsz := g.size
  have hok7 : ok 7 (.list ds) = true := by rw [ok_list]; exact ⟨g.oks, by omega⟩
  have htx : txt (.list ds) = true := by rw [txt]; exact g.txts
  have hs1 : size (.list ds) = sizes ds + 1 := by rw [size]
  have lx := rx.1
  -- handed
  refine ⟨_, rfl, _, rfl, st, cl, c, F, [st, cl], .ref l, .list ds, 7, rfl, S, fs, fc, .list nlF hl rx, hok7, by decide, by omega, S.trk, fun r d' c' H1 l1 u1 S1 x1 rh htup hok' hfresh => ?_⟩
  obtain ⟨hd, rfl, hhd⟩ := hfresh rfl
  have xF : ExF F H H1 := x1.sub (by intro a z; simp at z; rcases z with z | z <;> (rw [z]; assumption))
  have nhd : ∀ {b : Addr} {o : HO}, H b = some o → b ≠ hd := fun h => ne_of_none h hhd
  have nl2 : l ∉ [st, cl] := fun z => nlF (by simp at z; rcases z with z | z <;> (rw [z]; assumption))
  have hl1 := x1.at_ _ _ nl2 hl
  have rx1 : RpL [hd] H1 xs ds := ((rx.add hhd).ex (x1.sub (by intro a z; simp at z; rcases z with z | z <;> (rw [z]; simp [fs, fc])))).sub (by intro a z; simp at z; simp [z])
  have nst : st ≠ hd := by
    intro e
    exact S.trk st (by simp) (by rw [e]; exact hhd)
  have ncl : cl ≠ hd := by
    intro e
    exact S.trk cl (by simp) (by rw [e]; exact hhd)
  have hit : ∃ ds', items d' = some ds' ∧ tups ds' = ds := by
    rw [tupD, g.tups] at htup
    cases d' with
    | list es => rw [tupD] at htup; cases htup; exact ⟨es, rfl, rfl⟩
    | tuple es => rw [tupD] at htup; cases htup; exact ⟨es, rfl, rfl⟩
    | none => rw [tupD] at htup; cases htup
    | bool _ => rw [tupD] at htup; cases htup
    | int _ => rw [tupD] at htup; cases htup
    | str _ => rw [tupD] at htup; cases htup
    | dict _ => rw [tupD] at htup; cases htup
  obtain ⟨ds', hi', hds'⟩ := hit
  have hl' : ds'.length = ds.length := by rw [← hds', tups_len]
  have hm' : metD d' = none := by
    rw [← metD_tup, htup, metD_tup, fault_list]
    exact g.f
  have hsz' : size d' = sizes ds + 1 := by rw [← size_tup, htup, size_tup, hs1]
  have htx' : txt d' = true := by rw [← txt_tup, htup, txt_tup, htx]
  -- was, made = repr(handed), Source(lines=handed)
  have hdx1 : H1 hd ≠ none := by
    obtain ⟨a, zs, e, _, ha, _⟩ := rh.items hi'
    cases e
    exact ha.ne
  refine ⟨_, rfl, ?_⟩
  refine reprD rh hok' (by decide) htx' (by omega) ?_
  refine ⟨_, rfl, .ref hd, rfl, ?_⟩
  refine mkS (G := [hd, st, cl]) rh (okx_of hok') (by decide) (by omega) hi' (by omega) hm' (fun b hb => ?_) fun x dx a ys H2 x2 hx nx na hxs ha ry => ⟨_, _, rfl, ?_⟩
  · rcases List.mem_cons.mp hb with z | z
    · rw [z]; exact hdx1
    · exact S1.trk b z
  rw [hds'] at ry
  have t2 : TR D.cSrc st cl l hd x dx a xs ys ds c' H2 := ⟨S1.ex' (by simp) (by simp) x2, x2.at_ _ _ (by simp) hl1, rx1.ex x2.of, hxs, ha, ry.sub (by intro a z; simp at z; simp [z]), nst, ncl, nhd hl, fun e => nx (by simp [e]), fun e => na (by simp [e])⟩
  have rh2 := rh.ex x2.of
  have x12 : ExF [st, cl] H H2 := x1.trans x2.of
  -- due
  refine ⟨_, rfl, ?_⟩
  refine lcHead (k := 8) (iter_var (a := l) rfl (.inl t2.hl) (by simp)) (by show 8 < 9; decide) t2.rx g.ln (by omega) fun r1 H3 n1 h1 x3 => ?_
  have t3 := t2.ex x3.of
  refine lcHead (k := 8) (iter_var (a := l) rfl (.inl t3.hl) (by simp)) (by show 8 < 9; decide) t3.rx g.ln (by omega) fun r2 H4 n2 h2 x4 => ?_
  have t4 := t3.ex x4.of
  refine ⟨by show 3 ≤ sizeLine; decide, fun pd H5 hpd e5 => ?_⟩
  have t5 := t4.ex (exn (F := [hd]) e5 hpd)
  have x25 : ExF [] H2 H5 := (x3.trans x4).trans (exn e5 hpd)
  have hdx2 : H2 hd ≠ none := x2.kept _ hdx1
  have nr1 : r1 ≠ hd := fun e => hdx2 (by rw [← e]; exact n1)
  have nr2 : r2 ≠ hd := fun e => x3.kept _ hdx2 (by rw [← e]; exact n2)
  have npd : pd ≠ hd := fun e => (x3.trans x4).kept _ hdx2 (by rw [← e]; exact hpd)
  have due5 : Rp [hd] H5 (.ref pd) (dueD ds) := by
    unfold dueD
    refine .list (by simp [npd]) (eqs e5) (.cons (.list (by simp [t2.ne.2.2.1]) t5.hl t5.rx) (.cons (.list (by simp [nr1]) (eqf e5 hpd (x4.at_ _ _ (by simp) h1)) (RpL.strs _)) (.cons (.list (by simp [nr2]) (eqf e5 hpd h2) (RpL.strs _)) .nil)))
  -- the first look
  refine sameT t5 g rfl rfl due5 fun H6 x6 => ⟨_, rfl, iteF ?_⟩
  have t6 := t5.ex x6.of
  have rh6 := rh2.ex (x25.trans x6).of
  refine ⟨_, rfl, ?_⟩
  refine reprD rh6 hok' (by decide) htx' (by omega) ?_
  refine ⟨_, rfl, neS ⟨_, rfl, ?_⟩⟩
  rw [decide_eq_true rfl]
  refine iteF ?_
  have due6 := due5.ex x6.of
  -- == and !=
  have rest : ∀ H7, TR D.cSrc st cl l hd x dx a xs ys ds c' H7 → ExF [hd] H6 H7 → ∀ u : Option V, t_l_told_right_t7 K D { nx := fun _ H' => Q .non H', rt := Q } [some (.ref st), some (.ref l), some (.ref hd), some (.str d'.shown), some (.ref x), some (.ref pd), u, none, none] H7 := by
    intro H7 t7 x7 u
    have self := eqvAll_self g.txts
    have src : ∀ {Q' : VK} {H8 : Hp}, TR D.cSrc st cl l hd x dx a xs ys ds c' H8 → (∀ x2 dx2 a2 ys2 H', ExF [] H8 H' → H' x2 = some (.ins D.cSrc dx2 [("own_lines", .ref a2)]) → H' a2 = some (.tup ys2) → RpL [] H' ys2 ds → Q' (.ref x2) H') → MkR D (.ref l) H8 Q' := fun {Q' H8} t q => by
      refine mkS (G := []) (F := [hd]) (d := .list ds) (n := 7) (ds := ds) (.list (by simp [t.ne.2.2.1]) t.hl t.rx) (okx_of hok7) (by decide) (by omega) rfl (by omega) g.f Trk.nil fun x2 dx2 a2 ys2 H' y _ _ _ h2 h3 ry => ?_
      rw [g.tups] at ry
      exact q x2 dx2 a2 ys2 H' y h2 h3 ry
    refine ⟨_, rfl, _, rfl, .ref l, rfl, ?_⟩
    refine src t7 fun x2 dx2 a2 ys2 H8 y8 h2 h3 ry2 => ?_
    have t8 := t7.ex y8.of
    refine ownEq t8 g h2 h3 ry2 g.ok20 fun H9 y9 => ⟨_, rfl, ?_⟩
    rw [self]
    refine iteF ?_
    have t9 := t8.ex y9.of
    refine ⟨_, rfl, _, rfl, .ref l, rfl, ?_⟩
    refine src t9 fun x3 dx3 a3 ys3 H10 y10 h4 h5 ry3 => ?_
    have t10 := t9.ex y10.of
    refine ownNe t10 g h4 h5 ry3 g.ok20 fun H11 y11 => ⟨_, rfl, ?_⟩
    rw [self]
    refine iteF ?_
    have t11 := t10.ex y11.of
    refine ⟨_, rfl, _, rfl, ?_⟩
    refine ownEqSeq t11 g (.inl t11.hl) t11.rx fun H12 y12 => ⟨_, rfl, iteF ?_⟩
    have t12 := t11.ex y12.of
    refine ⟨_, rfl, _, rfl, tupOfL t12.hl fun p H13 hp e13 => ?_⟩
    have t13 := t12.ex (exn (F := [hd]) e13 hp)
    refine ownNeSeq t13 g (.inr (eqs e13)) (t12.rx.ex (exn e13 hp)) fun H14 y14 => ⟨_, rfl, iteF ?_⟩
    have t14 := t13.ex y14.of
    have x714 : ExF [hd] H7 H14 := ((((((y8.trans y9).trans y10).trans y11).trans y12).of.trans (exn e13 hp)).trans y14.of)
    -- other lines
    have fin : ∀ H', ExF [hd] H7 H' → Strm st cl H' c' → Q (.bl true) H' := fun H' y S' => by
      refine q c' H' l1 (by omega) S' ?_
      have y1 : ExF [hd, st, cl] H H' := ((x12.trans (x25.trans x6).of).sub (by intro a z; simp at z; rcases z with z | z <;> simp [z])).trans ((x7.trans y).sub (by simp))
      exact y1.drop hhd
    have lateOk : ok 6 lateD = true ∧ tupD lateD = lateD ∧ txt lateD = true := ⟨by decide +kernel, by simp [lateD, tupD, tups], by simp [lateD, txt, txts]⟩
    have o1 : Oth (ds.take (ds.length - 1)) := ⟨fun e he => g.oth.all e (List.mem_of_mem_take he), by rw [List.length_take]; omega, by have := sizes_take_le ds (ds.length - 1); omega⟩
    have o2 : Oth (ds ++ [lateD]) := ⟨fun e he => by
      rcases List.mem_append.mp he with h | h
      · exact g.oth.all e h
      · rw [List.mem_singleton.mp h]; exact lateOk, by rw [List.length_append]; simp; omega, by
      rw [sizes_append]
      have : sizes [lateD] = 3 + 1 - 1 := by simp [lateD, sizes, size]
      omega⟩
    have o3 : Oth ds.reverse := ⟨fun e he => g.oth.all e (List.mem_reverse.mp he), by rw [List.length_reverse]; omega, by rw [size_rev]; omega⟩
    unfold t_l_told_right_t8 tSeq tForU
    refine .inr (.inl ?_)
    unfold iTup tTupU
    refine ⟨_, rfl, 1, rfl, _, rfl, slToNeg1 t14.hl fun p1 H15 hp1 e15 => ?_⟩
    have t15 := t14.ex (exn (F := [hd]) e15 hp1)
    refine ⟨_, rfl, litL (fun _ => .none) [] [] rfl (by simp) Trk.nil fun p2 zs2 H16 hp2 h16 r16 x16 => ?_⟩
    have r16 : RpL [p2] H16 zs2 [lateD] := r16
    have t16 := t15.ex x16.of
    have hzl : zs2.length = 1 := r16.1
    refine catL t16.hl h16 (by omega) fun p3 H17 hp3 e17 => ?_
    have t17 := t16.ex (exn (F := [hd]) e17 hp3)
    refine ⟨_, rfl, l, xs, rfl, .inl (.inl t17.hl), fun p4 hp4 => ?_⟩
    generalize e18 : upd H17 p4 (.lst xs.reverse) = H18
    have e18 := e18.symm
    have t18 := t17.ex (exn (F := [hd]) e18 hp4)
    refine ⟨by show 3 ≤ sizeLine; decide, fun p5 H19 hp5 e19 => ⟨p5, rfl, ⟨_, .inl (.inl (eqs e19))⟩, ?_⟩⟩
    have t19 := t18.ex (exn (F := [hd]) e19 hp5)
    have x719 : ExF [hd] H7 H19 := ((((x714.trans (exn e15 hp1)).trans x16.of).trans (exn e17 hp3)).trans (exn e18 hp4)).trans (exn e19 hp5)
    have x1519 : ExF [] H15 H19 := ((x16.trans (exn e17 hp3)).trans (exn e18 hp4)).trans (exn e19 hp5)
    have x1719 : ExF [] H17 H19 := (exn e18 hp4).trans (exn e19 hp5)
    have b1 : H19 p1 = some (.lst (xs.take (xs.length - 1))) := x1519.at_ _ _ (by simp) (eqs e15)
    have b2 : H19 p3 = some (.lst (xs ++ zs2)) := x1719.at_ _ _ (by simp) (eqs e17)
    have b3 : H19 p4 = some (.lst xs.reverse) := eqf e19 hp5 (eqs e18)
    have rr : RpL [] H19 xs ds := t19.rx.sub (by simp)
    have q1 : RpL [] H19 (xs.take (xs.length - 1)) (ds.take (ds.length - 1)) := by rw [lx]; exact rr.take _
    have q2 : RpL [] H19 (xs ++ zs2) (ds ++ [lateD]) := rr.append ((r16.sub (by simp)).ex ((exn (F := []) e17 hp3).trans x1719))
    have q3 : RpL [] H19 xs.reverse ds.reverse := rr.reverse
    -- one of the three
    have body : ∀ (b : Addr) (zs : List V) (es : List PyData) (H' : Hp) (nx : L2.St → Hp → Prop), ExF [] H19 H' → H19 b = some (.lst zs) → RpL [] H19 zs es → Oth es → (∀ H'', ExF [] H19 H'' → nx [some (.ref st), some (.ref l), some (.ref hd), some (.str d'.shown), some (.ref x), some (.ref pd), u, some (.ref b), none] H'') →
        t_l_told_right_b8 K D { nx := nx, rt := Q, bk := t_l_told_right_t9 K D { nx := fun _ H' => Q .non H', rt := Q }, ct := nx } [some (.ref st), some (.ref l), some (.ref hd), some (.str d'.shown), some (.ref x), some (.ref pd), u, some (.ref b), none] H' := by
      intro b zs es H' nx y hb rz o k
      have tb := t19.ex y.of
      have hb' := y.at_ _ _ (by simp) hb
      have rz' := rz.ex y
      have ol := o.len
      have os := o.sz
      refine ⟨_, rfl, [], b, zs, es, 6, rfl, .inl hb', rz', okxs_of o.oks, by decide, fun e he => ok_fine (o.all e he).1, by omega, fun v H20 x20 rv => ⟨rfl, ⟨_, rfl, ?_⟩⟩⟩
      have y20 := y.trans x20
      cases hf : faultL [] [] 0 es with
      | some i =>
        rw [hf] at rv
        cases rv
        exact iteF (iteF (k H20 y20))
      | none =>
        rw [hf] at rv
        cases rv
        refine iteT ?_
        have t20 := tb.ex x20.of
        refine ⟨_, rfl, _, rfl, .ref b, rfl, ?_⟩
        refine mkS (G := []) (F := []) (d := .list es) (n := 7) (ds := es) (.list (by simp) (x20.at_ _ _ (by simp) hb') (rz'.ex x20)) (okx_lists o.oks (by omega)) (by decide) (by rw [size]; omega) rfl (by omega) hf Trk.nil fun x2 dx2 a2 ys2 H21 y21 _ _ _ h2 h3 ry => ?_
        rw [o.tups] at ry
        have t21 := t20.ex y21.of
        refine ownEq t21 g h2 h3 ry o.ok20 fun H22 y22 => ?_
        have t22 := t21.ex y22.of
        have yy : ExF [] H' H22 := (x20.trans y21).trans y22
        refine ⟨_, rfl, _, rfl, ?_⟩
        refine eqO (n := 7) (m := 7) (F := []) (G := []) (.list (by simp) (yy.at_ _ _ (by simp) hb') (rz'.ex yy)) (.list (by simp) t22.hl (t22.rx.sub (by simp))) (by rw [ok_list]; exact ⟨o.oks, by omega⟩) hok7 (neB ⟨_, rfl, ?_⟩)
        rw [PyData.eqv, eqvAll_symm es ds, bne_self_eq_false]
        exact iteF (k H22 (y.trans yy))
    refine for_it (wkT (xs := [.ref p1, .ref p3, .ref p4])) (fun i σ' H' => ∃ w : Option V, σ' = [some (.ref st), some (.ref l), some (.ref hd), some (.str d'.shown), some (.ref x), some (.ref pd), u, w, none] ∧ ExF [] H19 H') ⟨none, rfl, ExF.refl⟩ (fun i σ' H' _ ⟨_, _, y⟩ => y.at_ _ _ (by simp) (eqs e19)) ?_ ?_
    · rintro i v σ' H' H'' hi ⟨w, rfl, y⟩ ⟨e, hv⟩
      subst e
      have hi3 : i = 0 ∨ i = 1 ∨ i = 2 := by simp at hi; omega
      rcases hi3 with e | e | e <;> subst e
      · cases hv
        exact body p1 _ _ _ _ y b1 q1 o1 fun H'' y' => ⟨_, rfl, y'⟩
      · cases hv
        exact body p3 _ _ _ _ y b2 q2 o2 fun H'' y' => ⟨_, rfl, y'⟩
      · cases hv
        exact body p4 _ _ _ _ y b3 q3 o3 fun H'' y' => ⟨_, rfl, y'⟩
    · rintro σ' H' ⟨w, rfl, y⟩
      exact fin H' (x719.trans y.of) (t19.ex y.of).S
  -- if it is a list: one more
  have go : ∀ H7, ExF [hd] H6 H7 → t_l_told_right_t5 K D { nx := fun _ H' => Q .non H', rt := Q } [some (.ref st), some (.ref l), some (.ref hd), some (.str d'.shown), some (.ref x), some (.ref pd), none, none, none] H7 := by
    intro H7 x7
    have t7 := t6.ex x7
    have due7 := due6.ex x7
    unfold t_l_told_right_t5 tSeq tForU
    refine .inr (.inl ?_)
    unfold iTup tTupU
    refine three t7 g rfl fun q1 q2 q3 H8 x8 m1 m2 m3 d12 d13 d23 k1 k2 k3 _ => ⟨by show 3 ≤ sizeLine; decide, fun p H9 hp e9 => ⟨p, rfl, ⟨_, .inl (.inl (eqs e9))⟩, ?_⟩⟩
    have x9 : ExF [] H8 H9 := exn e9 hp
    have g1 := eqf e9 hp k1
    have g2 := eqf e9 hp k2
    have g3 := eqf e9 hp k3
    have np : p ∉ [q1, q2, q3] := by
      intro z
      simp at z
      rcases z with z | z | z <;> subst z
      · rw [hp] at k1; cases k1
      · rw [hp] at k2; cases k2
      · rw [hp] at k3; cases k3
    have nl : ∀ z, (namesOf z ds).length ≤ 20 := fun z => by
      unfold namesOf
      rw [List.length_map]
      exact Nat.le_trans (List.length_filter_le _ _) l20
    refine for_it (wkT (xs := [.ref q1, .ref q2, .ref q3])) (fun i σ' H' => ∃ (u : Option V) (z1 z2 z3 : List V), σ' = [some (.ref st), some (.ref l), some (.ref hd), some (.str d'.shown), some (.ref x), some (.ref pd), u, none, none] ∧ H' q1 = some (.lst z1) ∧ H' q2 = some (.lst z2) ∧ H' q3 = some (.lst z3) ∧ z1.length ≤ 100 + i ∧ z2.length ≤ 100 + i ∧ z3.length ≤ 100 + i ∧ ExF [q1, q2, q3] H9 H')
      ⟨none, _, _, _, rfl, g1, g2, g3, by have := t7.ry.1; omega, by rw [List.length_map]; have := nl "read"; omega, by rw [List.length_map]; have := nl "tell"; omega, ExF.refl⟩ ?_ ?_ ?_
    · rintro i σ' H' _ ⟨_, _, _, _, _, _, _, _, _, _, _, y⟩
      exact y.at_ _ _ np (eqs e9)
    · rintro i v σ' H' H'' hi ⟨u, z1, z2, z3, rfl, w1, w2, w3, s1, s2, s3, y⟩ ⟨e, hv⟩
      subst e
      have hi3 : i = 0 ∨ i = 1 ∨ i = 2 := by simp at hi; omega
      rcases hi3 with e | e | e <;> subst e
      · cases hv
        refine ⟨_, rfl, tyL w1, app w1 (by omega) fun H10 e10 => ?_⟩
        exact ⟨_, _, _, _, rfl, eqs e10, eqn e10 d12.symm w2, eqn e10 d13.symm w3, by simp; omega, by omega, by omega, exm e10 (.inr (by simp)) y⟩
      · cases hv
        refine ⟨_, rfl, tyL w2, app w2 (by omega) fun H10 e10 => ?_⟩
        exact ⟨_, _, _, _, rfl, eqn e10 d12 w1, eqs e10, eqn e10 d23.symm w3, by omega, by simp; omega, by omega, exm e10 (.inr (by simp)) y⟩
      · cases hv
        refine ⟨_, rfl, tyL w3, app w3 (by omega) fun H10 e10 => ?_⟩
        exact ⟨_, _, _, _, rfl, eqn e10 d13 w1, eqn e10 d23 w2, eqs e10, by omega, by omega, by simp; omega, exm e10 (.inr (by simp)) y⟩
    · rintro σ' H10 ⟨u, z1, z2, z3, rfl, w1, w2, w3, s1, s2, s3, y⟩
      have x710 : ExF [] H7 H10 := by
        have y1 : ExF [q1, q2, q3] H7 H10 := (x8.trans x9).of.trans y
        have y2 : ExF [q2, q3] H7 H10 := y1.drop m1
        have y3 : ExF [q3] H7 H10 := y2.drop m2
        exact y3.drop m3
      have t10 := t7.ex x710.of
      have due10 := due7.ex x710.of
      -- the second look
      refine sameT t10 g rfl rfl due10 fun H11 x11 => ⟨_, rfl, iteF ?_⟩
      have t11 := t10.ex x11.of
      have x_11 : ExF [hd] H6 H11 := x7.trans (x710.trans x11).of
      exact rest H11 t11 (x_11) _
  refine ⟨_, rfl, isi_list rh6 ⟨_, rfl, ?_⟩⟩
  cases hL : isList d' with
  | false =>
    refine iteF ?_
    exact go H6 ExF.refl
  | true =>
    refine iteT ?_
    cases d' with
    | list es =>
      obtain ⟨b, zs, e, nb, hb, rz⟩ := rh6.list_inv
      cases e
      refine ⟨_, rfl, tyL hb, lit0 [hd] rfl (Trk.nil.cons hb) fun v H7 x7 rv => ?_⟩
      have lz := rz.1
      have hie : items (.list es) = some es := rfl
      rw [hie] at hi'
      cases hi'
      refine app (x7.at_ _ _ (by simp) hb) (by omega) fun H8 e8 => ?_
      exact go H8 (exm e8 (.inr (by simp)) x7.of)
    | _ => cases hL

end Tw
end

section
set_option Elab.async false
set_option linter.all false
set_option maxRecDepth 100000
set_option maxHeartbeats 4000000
namespace Tw
open PySem L2 PyProof.Rows

theorem forI {wi : TI} {g : TG} {tb : TS} {D : Ends} {σ : L2.St} {H : Hp} (h : tFor wi g tb D σ H) : tForU wi g tb D σ H := by unfold tForU; exact h
theorem lcI {wi : TI} {g : TG} {tt : TT} {te : TE} {vs : List Nat} {σ : L2.St} {H : Hp} {Q : VK} (h : tLc wi g tt te vs σ H Q) : tLcU wi g tt te vs σ H Q := by unfold tLcU; exact h
theorem insL {H : Hp} {Q : VK} {l : Addr} {xs : List V} {i : Int} {y : V} (n : Nat) (hi : i = (n : Int)) (h : H l = some (.lst xs)) (hz : xs.length < sizeLine) (hn : n < 2 ^ 62) (q : ∀ H', H' = upd H l (.lst (xs.take n ++ [y] ++ xs.drop n)) → Q .non H') : rInsert (.ref l) [.int i, y] H Q := by
  unfold rInsert
  subst hi
  exact ⟨l, xs, _, y, rfl, rfl, h, hz, by omega, by omega, q _ (by rw [Int.toNat_natCast])⟩
theorem repL {H : Hp} {Q : VK} {l : Addr} {xs : List V} (n : Nat) (h : H l = some (.lst xs)) (hz : xs.length * n ≤ sizeLine) (hn : n < 2 ^ 62) (q : ∀ p H', H p = none → H' = upd H p (.lst (List.replicate n xs).flatten) → Q (.ref p) H') : rMulU (.ref l) (.int (n : Int)) H Q := by
  unfold rMulU
  exact .inr ⟨l, (n : Int), xs, rfl, rfl, h, by omega, by omega, by rw [Int.toNat_natCast]; exact hz, fun p hp => q p _ hp (by rw [Int.toNat_natCast])⟩
theorem slFromA {K : PySem.W.Frag} {H : Hp} {a : Addr} {xs : List V} {Q : VK} {j : Int} (i : Nat) (hj : j = (i : Int)) (ha : H a = some (.lst xs)) (q : ∀ p H', H p = none → H' = upd H p (.lst (xs.drop i)) → Q (.ref p) H') : rSlU K (.ref a) (some j) none H Q := by
  subst hj
  unfold rSlU
  refine .inl ⟨a, xs, rfl, .inl (.inl ha), fun p hp => ?_⟩
  have e : cutV xs (some (i : Int)) none = xs.drop i := by
    unfold cutV
    have e1 : HT.sIx xs.length 0 (some (i : Int)) = min i xs.length := by
      show (if (i : Int) < 0 then ((i : Int) + (xs.length : Int)).toNat else min (i : Int).toNat xs.length) = _
      rw [if_neg (by omega)]
      omega
    rw [e1]
    show (xs.drop (min i xs.length)).take (xs.length - min i xs.length) = xs.drop i
    by_cases h : i ≤ xs.length
    · rw [Nat.min_eq_left h]
      exact List.take_of_length_le (by simp)
    · rw [Nat.min_eq_right (by omega), List.drop_of_length_le (Nat.le_refl _), List.drop_of_length_le (by omega)]
      simp
  rw [e]
  exact q p _ hp rfl
/-- good odd lines -/
structure Bent (es : List PyData) : Prop where
  all : ∀ e ∈ es, odd e
  len : es.length ≤ 100
theorem Bent.sz {es : List PyData} (b : Bent es) : sizes es ≤ 100000 := by
  have := sizes_le fun d hd => (b.all d hd).2.2
  have h := Nat.mul_le_mul_right 1000 b.len
  omega
theorem Bent.okx {es : List PyData} (b : Bent es) : okxs 12 es = true := okxs_iff.mpr fun d hd => (b.all d hd).1
theorem GoodL.bent {ds : List PyData} (g : GoodL ds) : Bent ds := ⟨fun e he => ⟨okx_le (okx_of (g.good e he).1) (by decide), ok_fine (g.good e he).1, by have := (g.good e he).2.2.2; omega⟩, by have := g.l20; omega⟩
theorem Bent.app {es fs : List PyData} (b : Bent es) (c : Bent fs) (h : es.length + fs.length ≤ 100) : Bent (es ++ fs) := ⟨fun e he => (List.mem_append.mp he).elim (b.all e) (c.all e), by rw [List.length_append]; exact h⟩
theorem Bent.one {e : PyData} (h : odd e) : Bent [e] := ⟨fun d hd => by rw [List.mem_singleton.mp hd]; exact h, by simp⟩
theorem Bent.take {es : List PyData} (b : Bent es) (n : Nat) : Bent (es.take n) := ⟨fun e he => b.all e (List.mem_of_mem_take he), by rw [List.length_take]; have := b.len; omega⟩
theorem Bent.drop {es : List PyData} (b : Bent es) (n : Nat) : Bent (es.drop n) := ⟨fun e he => b.all e (List.mem_of_mem_drop he), by rw [List.length_drop]; have := b.len; omega⟩
theorem Bent.erase {es : List PyData} (b : Bent es) (n : Nat) : Bent (es.eraseIdx n) := ⟨fun e he => b.all e (List.mem_of_mem_eraseIdx he), Nat.le_trans (List.length_eraseIdx_le _ _) b.len⟩
section
variable {K : PySem.W.Frag} {D : Ad2} {H : Hp} {Q : VK} {F : List Addr}
/-- met of such lines, fault of them -/
theorem metB {v : V} {d : PyData} {es : List PyData} (rv : Rp F H v d) (hi : d = .list es ∨ d = .tuple es) (b : Bent es) (q : ∀ r H', ExF [] H H' → Rp [] H' r (optD (faultL [] [] 0 es)) → Q r H') : spMet D.cSrc [v] H Q E0 := by
  have hz := b.sz
  have hl := b.len
  have hit : items d = some es := by rcases hi with e | e <;> subst e <;> rfl
  have hm : metD d = faultL [] [] 0 es := by unfold metD; rw [hit]
  refine ⟨v, F, d, 13, rfl, .inl rv, ?_, by decide, ?_, fun ds h => by rw [hit] at h; cases h; omega, fun r H' x rr => q r H' x (by rw [hm] at rr; exact rr)⟩
  · rcases hi with e | e <;> subst e
    · rw [okx_list]; exact ⟨b.okx, by omega⟩
    · rw [okx_tuple]; exact ⟨b.okx, by omega⟩
  · rcases hi with e | e <;> subst e <;> (rw [size]; omega)
theorem faultB {l : Addr} {xs : List V} {es : List PyData} (hl : Sq H l xs) (rx : RpL F H xs es) (b : Bent es) (q : ∀ r H', ExF [] H H' → Rp [] H' r (optD (faultL [] [] 0 es)) → Q r H') : spFault [.ref l] H Q E0 :=
  ⟨F, l, xs, es, 12, rfl, hl, rx, b.okx, by decide, fun d hd => (b.all d hd).2.1, by have := b.len; omega, q⟩
theorem optD_ok (o : Option Nat) {n : Nat} : ok n (optD o) = true := by
  cases o with
  | none => exact ok_none
  | some i => exact ok_int
theorem sameB {v u : V} {d : PyData} {G : List Addr} {n : Nat} (rv : Rp F H v d) (ru : Rp G H u d) (ho : ok n d = true) (hn : n < 20) (q : ∀ H', ExF [] H H' → Q (.bl true) H') : spSame 20 [v, u] H Q E0 := ⟨F, G, v, u, d, n, rfl, rv, ru, ho, hn, by omega, q⟩
end

def spLaw (K : PySem.W.Frag) : Sp := fun vs H Q _ => ∃ (a : Addr) (ns : List Int), vs = [.ref a] ∧ SqL K H a (ns.map V.int) ∧ ns.length ≤ 1000 ∧ ∀ H', Q (.bl true) H'
/-- one turn: the state between the turns -/
def Turn (a st cl : Addr) (i : Nat) (σ : L2.St) (H : Hp) : Prop := ∃ (c : Nat) (u2 u3 u4 u5 u6 u7 u8 : Option V), σ = [some (.ref a), some (.ref st), u2, u3, u4, u5, u6, u7, u8] ∧ Strm st cl H c ∧ c ≤ i * 100000
section
variable {K : PySem.W.Frag} {D : Ad2} {H : Hp} {Q : VK}
theorem rd_turn {a st cl : Addr} {i : Nat} {σ : L2.St} (D' : Ends) (hD' : D'.nx = Turn a st cl (i + 1)) (hi : i < 5) (h : Turn a st cl i σ H) : t_law_b1 K D D' (σ.set 2 (some (.int (0 + (i : Nat))))) H := by
  obtain ⟨c, u2, u3, u4, u5, u6, u7, u8, rfl, S, hc⟩ := h
  have sz : sizeLine = 16777216 := sizeLine_eq
  have hp30 : (2 : Nat) ^ 30 = 1073741824 := by decide
  have hp20 : (2 : Nat) ^ 20 = 1048576 := by decide
  have hp48 : (2 : Nat) ^ 48 = 281474976710656 := by decide
  -- lines
  refine ⟨_, rfl, _, rfl, st, cl, c, 9, rfl, S, by omega, by decide, by decide, fun k1 H1 g0 g1 S1 x1 => addI ?_⟩
  refine ⟨_, rfl, st, cl, c + 1, 4, rfl, S1, by omega, by decide, by decide, fun k2 H2 g2 g3 S2 x2 => ?_⟩
  obtain ⟨m1, rfl⟩ : ∃ j : Nat, k1 = j := ⟨k1.toNat, by omega⟩
  obtain ⟨m2, rfl⟩ : ∃ j : Nat, k2 = j := ⟨k2.toNat, by omega⟩
  have e1 : (2 : Int) + (m1 : Int) = ((2 + m1 : Nat) : Int) := by omega
  rw [e1]
  refine ⟨st, cl, c + 2, 2 + m1, m2, [st, cl], rfl, by omega, by omega, by omega, S2, by omega, S2.trk, fun r xs ds c3 H3 l3 q3 S3 x3 nr hr rx g => ?_⟩
  have nrs : r ∉ [st, cl] := S2.trk.nin nr
  have lx := rx.1
  have l20 := g.l20
  -- fault(lines) is None, told_right
  refine ⟨_, rfl, ?_⟩
  refine faultB (.inl hr) rx g.bent fun v H4 x4 rv => ⟨rfl, ⟨_, rfl, ?_⟩⟩
  rw [g.f] at rv
  cases rv
  refine iteF ?_
  have hr4 := x4.at_ _ _ (by simp) hr
  have rx4 : RpL [st, cl] H4 xs ds := rx.ex x4.of
  refine ⟨_, rfl, _, rfl, st, cl, c3, [st, cl], r, xs, ds, rfl, S3.ex' (by simp) (by simp) x4, by simp, by simp, hr4, nrs, rx4, g, by omega, fun c5 H5 l5 q5 S5 x5 => ⟨_, rfl, iteF ?_⟩⟩
  have hr5 := x5.at_ _ _ nrs hr4
  have rx5 : RpL [st, cl] H5 xs ds := rx4.ex x5
  -- odd things
  refine forI (.inl ?_)
  refine ⟨_, rfl, _, rfl, _, rfl, st, cl, c5, [st, cl], [st, cl], r, xs, ds, rfl, S5, by omega, by simp, by simp, hr5, nrs, rx5, g, S5.trk, fun o os es H6 S6 x6 no ho ro hodd hlen => ?_⟩
  have lo := ro.1
  have nos : o ∉ [st, cl] := S5.trk.nin no
  refine ⟨st, cl, c5 + 1, o, os, rfl, S6, by omega, .inl ho, by omega, fun m ms H7 pm nm hm S7 x7 => ⟨_, rfl, slToL 25 rfl hm fun p H8 hp e8 => ⟨p, rfl, ⟨_, .inl (.inl (eqs e8))⟩, ?_⟩⟩⟩
  obtain ⟨es', pe, re⟩ := (ro.ex x7).perm pm
  have hr8 := eqf e8 hp ((x6.trans x7).at_ _ _ nrs hr5)
  have rx8 : RpL [st, cl] H8 xs ds := (rx5.ex (x6.trans x7)).ex (exn e8 hp)
  have S8 : Strm st cl H8 (c5 + 1 + os.length) := S7.ex' (F := []) (by simp) (by simp) (exn e8 hp)
  have np : p ∉ [st, cl] := S7.trk.nin hp
  have re8 : RpL [st, cl] H8 (ms.take 25) (es'.take 25) := (re.ex (exn e8 hp)).take 25
  have odd' : ∀ e ∈ es', odd e := fun e he => hodd e (pe.mem_iff.mp he)
  refine for_it (wkL (xs := ms.take 25)) (fun j σ' H' => ∃ (c' : Nat) (w4 w5 w6 : Option V), σ' = [some (.ref a), some (.ref st), some (.int (0 + (i : Nat))), some (.ref r), w4, w5, w6, u7, u8] ∧ Strm st cl H' c' ∧ c' ≤ c5 + 101 + 10 * j ∧ ExF [st, cl] H8 H')
    ⟨_, _, _, _, rfl, S8, by omega, ExF.refl⟩ (fun j σ' H' _ ⟨_, _, _, _, _, _, _, y⟩ => y.at_ _ _ np (eqs e8)) ?_ ?_
  · rintro j v σ' H0' H' hj ⟨c', w4, w5, w6, rfl, S', hc', y⟩ ⟨e, hv⟩
    subst e
    obtain ⟨od, hod, rv⟩ := re8.get' hv
    have hj25 : j < 25 := by rw [List.length_take] at hj; omega
    have oddd : odd od := odd' od (List.mem_of_mem_take (List.mem_of_getElem? hod))
    have hrA := y.at_ _ _ nrs hr8
    have rxA : RpL [st, cl] H' xs ds := rx8.ex y
    have rvA : Rp [st, cl] H' v od := rv.ex y
    have lr : ∀ {H1 : Hp}, ExF [st, cl] H' H1 → H1 r = some (.lst xs) := fun z => z.at_ _ _ nrs hrA
    -- at = draw(len(lines) + 1)
    refine ⟨_, rfl, _, rfl, lenL hrA (addI ?_)⟩
    refine ⟨st, cl, c', (xs.length : Int) + 1, rfl, S', by omega, by omega, by omega, fun k HA b0 b1 SA xA => ?_⟩
    obtain ⟨at_, rfl⟩ : ∃ j : Nat, k = j := ⟨k.toNat, by omega⟩
    -- bent
    refine ⟨_, rfl, _, rfl, _, rfl, slToL at_ rfl (lr xA) fun q1 HB hq1 eB => ?_⟩
    have xB : ExF [st, cl] H' HB := xA.trans (exn eB hq1)
    have SB : Strm st cl HB (c' + 1) := SA.ex' (F := []) (by simp) (by simp) (exn eB hq1)
    have rvB : Rp [st, cl] HB v od := rvA.ex xB
    refine litL (fun _ => od) [st, cl] [4] rfl (fun k hk => ?_) SB.trk fun q2 zs2 HC hq2 hC rC xC => ?_
    · have e : k = 4 := by simpa using hk
      subst e
      exact ⟨_, rfl, rvB⟩
    have rC : RpL [q2, st, cl] HC zs2 [od] := rC
    have lz : zs2.length = 1 := rC.1
    have hq1C := xC.at_ _ _ (by simp) (eqs eB)
    refine catL hq1C hC (by rw [List.length_take, sz]; omega) fun q3 HD hq3 eD => ?_
    have xD : ExF [] HC HD := exn eD hq3
    have xBD : ExF [] HB HD := xC.trans xD
    have SD := SB.ex' (F := []) (by simp) (by simp) xBD
    have nq3 : q3 ∉ [st, cl] := (SB.trk.ex xC).nin hq3
    refine ⟨_, rfl, _, rfl, _, rfl, st, cl, c' + 1, 2, rfl, SD, by omega, by decide, by decide, fun k2 HE b2 b3 SE xE => addI ⟨_, rfl, ?_⟩⟩
    obtain ⟨m3, rfl⟩ : ∃ j : Nat, k2 = j := ⟨k2.toNat, by omega⟩
    have xHE : ExF [st, cl] H' HE := (xB.trans xBD.of).trans xE
    refine slFromA (at_ + m3) (by omega) (lr xHE) fun q4 HF hq4 eF => ?_
    have h3E := xE.at_ _ _ nq3 (eqs eD)
    refine catL (eqf eF hq4 h3E) (eqs eF) (by rw [List.length_append, List.length_take, List.length_drop, sz]; omega) fun q5 HG hq5 eG => ?_
    have xDG : ExF [st, cl] HD HG := (xE.trans (exn eF hq4)).trans (exn eG hq5)
    have xHG : ExF [st, cl] H' HG := (xHE.trans (exn eF hq4)).trans (exn eG hq5)
    have SG : Strm st cl HG (c' + 1 + 1) := (SE.ex' (F := []) (by simp) (by simp) (exn eF hq4)).ex' (F := []) (by simp) (by simp) (exn eG hq5)
    have rxG : RpL [st, cl] HG xs ds := rxA.ex xHG
    have rzG : RpL [st, cl] HG zs2 [od] := ((rC.sub (by intro a z; simp at z; rcases z with z | z <;> simp [z])).ex (xD.of : ExF [st, cl] HC HD)).ex xDG
    have rb : RpL [st, cl] HG (xs.take at_ ++ zs2 ++ xs.drop (at_ + m3)) (ds.take at_ ++ [od] ++ ds.drop (at_ + m3)) := ((rxG.take at_).append rzG).append (rxG.dropN (at_ + m3))
    have hb : HG q5 = some (.lst (xs.take at_ ++ zs2 ++ xs.drop (at_ + m3))) := eqs eG
    have hbent : Bent (ds.take at_ ++ [od] ++ ds.drop (at_ + m3)) := ((g.bent.take at_).app (Bent.one oddd) (by rw [List.length_take]; simp; omega)).app (g.bent.drop _) (by rw [List.length_append, List.length_take, List.length_drop]; simp; omega)
    generalize xs.take at_ ++ zs2 ++ xs.drop (at_ + m3) = bs at rb hb
    generalize ds.take at_ ++ [od] ++ ds.drop (at_ + m3) = be at rb hbent
    have lb := rb.1
    have lbe := hbent.len
    -- same([met(pick(..))], [fault(bent)])
    have done : ∀ (b : Addr) (HX : Hp) (dd : PyData) (cx : Nat), c' ≤ cx → cx ≤ c' + 3 → ExF [st, cl] HG HX → Strm st cl HX cx → Rp [st, cl] HX (.ref b) dd → (dd = .list be ∨ dd = .tuple be) → spMet D.cSrc [.ref b] HX (fun v H1 => 
        (1 : Nat) ≤ sizeLine ∧ ∀ p1 H2, H1 p1 = none → H2 = upd H1 p1 (.lst [v]) → True) E0 := fun b HX dd cx _ _ _ _ rd hdd => metB rd hdd hbent fun r H' _ _ => ⟨by decide, fun _ _ _ _ => trivial⟩
    refine ⟨_, rfl, ⟨_, rfl, _, rfl, tupOfL hb fun q6 HI hq6 eI => ⟨by show 2 ≤ sizeLine; decide, fun q7 HJ hq7 eJ => ?_⟩⟩⟩
    have xGJ : ExF [] HG HJ := (exn eI hq6).trans (exn eJ hq7)
    have SJ := SG.ex' (F := []) (by simp) (by simp) xGJ
    have nq7 : q7 ∉ [st, cl] := (SG.trk.ex (exn (F := []) eI hq6)).nin hq7
    have nq5 : q5 ∉ [st, cl] := ((SE.ex' (F := []) (by simp) (by simp) (exn eF hq4)).trk).nin hq5
    have nq6 : q6 ∉ [st, cl] := SG.trk.nin hq6
    have b5 : HJ q5 = some (.lst bs) := xGJ.at_ _ _ (by simp) hb
    have b6 : HJ q6 = some (.tup bs) := eqf eJ hq7 (eqs eI)
    refine ⟨st, cl, c' + 1 + 1, q7, _, rfl, SJ, by omega, .inl (eqs eJ), fun e => nq7 (by simp [e]), fun e => nq7 (by simp [e]), by simp, by simp, fun kk vv HL hvv SL xL => ?_⟩
    have rbL : RpL [st, cl] HL bs be := (rb.ex xGJ.of).ex xL
    have pick : ∃ (b : Addr) (dd : PyData), vv = .ref b ∧ Rp [st, cl] HL (.ref b) dd ∧ (dd = .list be ∨ dd = .tuple be) := by
      have hm := List.mem_of_getElem? hvv
      simp at hm
      rcases hm with h | h
      · exact ⟨q5, .list be, h, .list nq5 (xL.at_ _ _ nq5 b5) rbL, .inl rfl⟩
      · exact ⟨q6, .tuple be, h, .tuple nq6 (xL.at_ _ _ nq6 b6) rbL, .inr rfl⟩
    obtain ⟨b, dd, rfl, rd, hdd⟩ := pick
    refine metB rd hdd hbent fun mr HM xM rm => ⟨by show 1 ≤ sizeLine; decide, fun q8 HN hq8 eN => ?_⟩
    have xMN : ExF [] HM HN := exn eN hq8
    have xGN : ExF [st, cl] HG HN := (xGJ.of.trans xL).trans (xM.trans xMN).of
    have SN := SL.ex' (F := []) (by simp) (by simp) (xM.trans xMN)
    refine ⟨_, rfl, ?_⟩
    refine faultB (.inl (xGN.at_ _ _ nq5 hb)) (rb.ex xGN) hbent fun fr HO xO rf => ⟨by show 1 ≤ sizeLine; decide, fun q9 HP hq9 eP => ?_⟩
    have xOP : ExF [] HO HP := exn eP hq9
    have xNP : ExF [] HN HP := xO.trans xOP
    have yy : ExF [] HM HP := xMN.trans xNP
    refine ⟨[], [], .ref q8, .ref q9, .list [optD (faultL [] [] 0 be)], 3, rfl, .list (by simp) (xNP.at_ _ _ (by simp) (eqs eN)) (.one (rm.ex yy)), .list (by simp) (eqs eP) (.one (rf.ex xOP)), by rw [ok_list, oks_cons]; exact ⟨⟨optD_ok _, by rw [oks]⟩, by simp⟩, by decide, by decide, fun HQ xQ => ⟨_, rfl, iteF ?_⟩⟩
    refine ⟨_, _, _, _, rfl, SN.ex' (F := []) (by simp) (by simp) (xNP.trans xQ), by omega, ?_⟩
    exact (y.trans xHG).trans (xGN.trans (xNP.trans xQ).of)
  · rintro σ' H9 ⟨c9, w4, w5, w6, rfl, S9, hc9, y⟩
    have l25 : (ms.take 25).length ≤ 25 := by rw [List.length_take]; omega
    have hr9 := y.at_ _ _ nrs hr8
    have rx9 : RpL [st, cl] H9 xs ds := rx8.ex y
    -- a line moved, twice
    refine forI ⟨(6 : Int), rfl, by decide, by decide, ?_⟩
    refine forRg (n := 6) (fun j σ' H' => ∃ (c' : Nat) (w4 w5 w6 w7 : Option V), σ' = [some (.ref a), some (.ref st), some (.int (0 + (i : Nat))), some (.ref r), w4, w5, w6, w7, u8] ∧ Strm st cl H' c' ∧ c' ≤ c9 + 10 * j ∧ ExF [st, cl] H9 H')
      ⟨c9, _, _, _, _, rfl, S9, by omega, ExF.refl⟩ ?_ ?_
    · rintro j σ' H' hj ⟨c', v4, v5, v6, v7, rfl, S', hc', y'⟩
      have hrA := y'.at_ _ _ nrs hr9
      have rxA : RpL [st, cl] H' xs ds := rx9.ex y'
      have l2 := g.l2
      refine ⟨_, rfl, lstOfL hrA fun b HA hb eA => ?_⟩
      have xA : ExF [] H' HA := exn eA hb
      have nb : b ∉ [st, cl] := S'.trk.nin hb
      have nbr : r ≠ b := ne_of_none hrA hb
      have SA := S'.ex' (F := []) (by simp) (by simp) xA
      have hrB := xA.at_ _ _ (by simp) hrA
      have bA : HA b = some (.lst xs) := eqs eA
      refine ⟨_, rfl, tyL bA, _, rfl, _, rfl, lenL hrB (addI ?_)⟩
      refine ⟨st, cl, c', (xs.length : Int) + 1, rfl, SA, by omega, by omega, by omega, fun k HB b0 b1 SB xB => ?_⟩
      obtain ⟨n1, rfl⟩ : ∃ j : Nat, k = j := ⟨k.toNat, by omega⟩
      have bB := xB.at_ _ _ nb bA
      refine ⟨_, rfl, tyL bB, _, rfl, _, rfl, lenL (xB.at_ _ _ nrs hrB) ?_⟩
      refine ⟨st, cl, c' + 1, (xs.length : Int), rfl, SB, by omega, by omega, by omega, fun k2 HC b2 b3 SC xC => ?_⟩
      obtain ⟨n2, rfl⟩ : ∃ j : Nat, k2 = j := ⟨k2.toNat, by omega⟩
      have bC := xC.at_ _ _ nb bB
      have hn2 : n2 < xs.length := by omega
      refine popAt (k := n2) bC (by omega) (by omega) rfl (y := xs[n2]) (by simp [hn2]) fun HD eD => ?_
      have bD : HD b = some (.lst (xs.eraseIdx n2)) := eqs eD
      refine insL n1 rfl bD (by rw [List.length_eraseIdx]; split <;> omega) (by omega) fun HE eE => ?_
      have bE := eqs eE
      have xE : ExF [b, st, cl] H' HE := exm eE (.inr (by simp)) (exm eD (.inr (by simp)) (((xA.of : ExF [b, st, cl] H' HA).trans (xB.sub (by simp))).trans (xC.sub (by simp))))
      have xE' : ExF [st, cl] H' HE := xE.drop hb
      have ebs : b ≠ st := fun e => nb (by simp [e])
      have ebc : b ≠ cl := fun e => nb (by simp [e])
      have SE : Strm st cl HE (c' + 1 + 1) := SC.ex' (F := [b]) (by simp [ebs.symm]) (by simp [ebc.symm]) (exm eE (.inr (by simp)) (exm eD (.inr (by simp)) ExF.refl))
      have rxE : RpL [b, st, cl] HE xs ds := (rxA.add hb).ex xE
      have hd2 : ds[n2]? = some ds[n2] := by simp <;> omega
      have re1 : Rp [b, st, cl] HE xs[n2] ds[n2] := rxE.2 n2 _ _ (by simp [hn2]) hd2
      have rb0 := rxE.eraseIdx n2
      have rb : RpL [b, st, cl] HE ((xs.eraseIdx n2).take n1 ++ [xs[n2]] ++ (xs.eraseIdx n2).drop n1) ((ds.eraseIdx n2).take n1 ++ [ds[n2]] ++ (ds.eraseIdx n2).drop n1) := ((rb0.take n1).append (.one re1)).append (rb0.dropN n1)
      have hbent : Bent ((ds.eraseIdx n2).take n1 ++ [ds[n2]] ++ (ds.eraseIdx n2).drop n1) := by
        have h1 := List.length_eraseIdx_le ds n2
        exact (((g.bent.erase n2).take n1).app (Bent.one (g.bent.all _ (List.mem_of_getElem? hd2))) (by rw [List.length_take]; simp; omega)).app ((g.bent.erase n2).drop n1) (by rw [List.length_append, List.length_take, List.length_drop]; simp; omega)
      have hbl : ((ds.eraseIdx n2).take n1 ++ [ds[n2]] ++ (ds.eraseIdx n2).drop n1).length ≤ 45 := by
        have h1 := List.length_eraseIdx_le ds n2
        rw [List.length_append, List.length_append, List.length_take, List.length_drop]; simp; omega
      generalize (xs.eraseIdx n2).take n1 ++ [xs[n2]] ++ (xs.eraseIdx n2).drop n1 = bs at rb bE
      generalize (ds.eraseIdx n2).take n1 ++ [ds[n2]] ++ (ds.eraseIdx n2).drop n1 = be at rb hbent hbl
      have rb' : RpL [] HE bs be := rb.sub (by simp)
      have lb := rb.1
      have two : (List.replicate 2 be).flatten = be ++ be := by simp [List.replicate]
      have twoV : (List.replicate 2 bs).flatten = bs ++ bs := by simp [List.replicate]
      have bent2 : Bent (be ++ be) := hbent.app hbent (by omega)
      -- met(bent), met(bent * 2)
      refine ⟨_, rfl, ?_⟩
      refine metB (F := []) (.list (by simp) bE rb') (.inl rfl) hbent fun r1 HF xF rf => ?_
      refine ⟨_, rfl, ?_⟩
      refine repL 2 (xF.at_ _ _ (by simp) bE) (by omega) (by decide) fun p1 HG hp1 eG => ?_
      rw [twoV] at eG
      have xG : ExF [] HF HG := exn eG hp1
      have rG : RpL [] HG (bs ++ bs) (be ++ be) := ((rb'.append rb').ex xF).ex xG
      refine metB (F := []) (.list (by simp) (eqs eG) rG) (.inl rfl) bent2 fun r2 HH xH rh => ⟨by show 2 ≤ sizeLine; decide, fun p2 HI hp2 eI => ?_⟩
      have xI : ExF [] HH HI := exn eI hp2
      have xEI : ExF [] HE HI := ((xF.trans xG).trans xH).trans xI
      -- fault(bent), fault(bent * 2)
      refine ⟨_, rfl, ?_⟩
      refine faultB (.inl (xEI.at_ _ _ (by simp) bE)) (rb'.ex xEI) hbent fun r3 HJ xJ rj => ?_
      refine ⟨_, rfl, ?_⟩
      refine repL 2 ((xEI.trans xJ).at_ _ _ (by simp) bE) (by omega) (by decide) fun p3 HL hp3 eL => ?_
      rw [twoV] at eL
      have xL : ExF [] HJ HL := exn eL hp3
      have rL : RpL [] HL (bs ++ bs) (be ++ be) := ((rb'.append rb').ex (xEI.trans xJ)).ex xL
      refine faultB (.inl (eqs eL)) rL bent2 fun r4 HM xM rm => ⟨by show 2 ≤ sizeLine; decide, fun p4 HN hp4 eN => ?_⟩
      have xN : ExF [] HM HN := exn eN hp4
      have xIN : ExF [] HI HN := ((xJ.trans xL).trans xM).trans xN
      refine ⟨[], [], .ref p2, .ref p4, .list [optD (faultL [] [] 0 be), optD (faultL [] [] 0 (be ++ be))], 3, rfl,
        .list (by simp) (xIN.at_ _ _ (by simp) (eqs eI)) (.cons (rf.ex (((xG.trans xH).trans xI).trans xIN)) (.one (rh.ex (xI.trans xIN)))),
        .list (by simp) (eqs eN) (.cons (rj.ex ((xL.trans xM).trans xN)) (.one (rm.ex xN))), by rw [ok_list, oks_cons, oks_cons]; exact ⟨⟨optD_ok _, optD_ok _, by rw [oks]⟩, by simp⟩, by decide, by decide, fun HO xO => ⟨_, rfl, iteF ?_⟩⟩
      refine ⟨_, _, _, _, _, rfl, SE.ex' (F := []) (by simp) (by simp) ((xEI.trans xIN).trans xO), by omega, ?_⟩
      exact (y'.trans xE').trans ((xEI.trans xIN).trans xO).of
    · rintro σ' H' ⟨c', v4, v5, v6, v7, rfl, S', hc', y'⟩
      rw [hD']
      exact ⟨c', _, _, _, _, _, _, _, rfl, S', by omega⟩
end
end Tw
end

section
set_option Elab.async false
set_option linter.all false
set_option maxRecDepth 100000
set_option maxHeartbeats 4000000
namespace Tw
open PySem L2 PyProof.Rows
def iAtT (K : PySem.W.Frag) (a : Addr) : TI := fun _ H R => R (Itt K a) H
theorem iter_atT {K : PySem.W.Frag} {M : List Addr} {σ : L2.St} {H : Hp} {a : Addr} {xs : List V} (ha : H a = some (.tup xs)) (hM : a ∉ M) : IterS M (iAtT K a) σ H xs := fun R h => h _ a _ H wkT ha hM ExF.refl
theorem lcAtT {K : PySem.W.Frag} {a D : Addr} {g : TG} {tt : TT} {te : TE} {vs : List Nat} {σ : L2.St} {H : Hp} {Qd : Hp → Prop} (hD : H D = none) (h : tLcU (iAtT K a) g tt te vs σ H fun v H' => v = .ref D → Qd H') :
    ∃ W : Nat → Nat → Hp → Prop, (∃ m, W 0 m (upd H D (.lst []))) ∧ ∀ i m H, W i m H →
      ((Itt K a).stop i H ∧ Qd H) ∨ ((Itt K a).go i H ∧ ∃ Nx : Hp → Prop, (∀ H', Nx H' → ∃ m', m' < m ∧ W (i + 1) m' H') ∧ ∀ x H', (Itt K a).yld i H x H' → g x (wipe σ vs) H' fun σ2 H2 => wipe σ2 vs = wipe σ vs ∧ tt σ2 H2 fun b H3 =>
        if b = true then te σ2 H3 fun y H4 => ∃ acc, H4 D = some (.lst acc) ∧ acc.length < sizeLine ∧ Nx (upd H4 D (.lst (acc ++ [y]))) else Nx H3) := by
  unfold tLcU tLc iAtT at h
  obtain ⟨W, h0, hs⟩ := h D hD
  exact ⟨W, h0, fun i m H w => (hs i m H w).imp (fun ⟨a, b⟩ => ⟨a, b rfl⟩) id⟩
theorem rd_law {K : PySem.W.Frag} {D : Ad2} {vs : List V} {H : Hp} {Q : VK} {E : XK} (h : spLaw K vs H Q E) :
    t_law K D { nx := fun _ H' => Q .non H', rt := Q } (start ["_law_script", "_law_stream", "_law_turn", "_law_lines", "_law_odd", "_law_at", "_law_bent", "_law_k", "_law_some"] vs) H := by
  obtain ⟨a, ns, rfl, hs, hl, q⟩ := h
  refine ⟨_, rfl, a, ns, rfl, hs, hl, fun st cl H1 S1 n1 n2 x1 => ?_⟩
  refine forI ⟨(5 : Int), rfl, by decide, by decide, ?_⟩
  refine forRg (n := 5) (Turn a st cl) ⟨0, _, _, _, _, _, _, _, rfl, S1, by omega⟩ (fun i σ' H' hi p => rd_turn _ rfl hi p) ?_
  rintro σ2 H2 ⟨c, u2, u3, u4, u5, u6, u7, u8, rfl, S2, hc⟩
  -- a new source of no lines
  have src : ∀ {Q' : VK} {H3 : Hp} {p : Addr} {d : PyData}, Rp [] H3 (.ref p) d → (d = .list [] ∨ d = .tuple []) → (∀ x dx a H', ExF [] H3 H' → H' x = some (.ins D.cSrc dx [("own_lines", .ref a)]) → H' a = some (.tup []) → Q' (.ref x) H') → MkR D (.ref p) H3 Q' := fun {Q' H3 p d} rd hd k => by
    have hi : items d = some [] := by rcases hd with e | e <;> subst e <;> rfl
    have ho : okx 1 d = true := by rcases hd with e | e <;> subst e <;> decide
    have hz : size d ≤ 1000000 := by rcases hd with e | e <;> subst e <;> decide
    have hm : metD d = none := by unfold metD; rw [hi]; rfl
    refine mkS (G := []) rd ho (by decide) hz hi (by decide) hm Trk.nil fun x dx a ys H' y _ _ _ h2 h3 ry => ?_
    have ry : RpL [] H' ys [] := ry
    rw [ry.nil_inv] at h3
    exact k x dx a H' y h2 h3
  refine lcI (.inr (.inl ?_))
  unfold iTup tTupU
  refine fun p1 hp1 => ?_
  generalize eA : upd H2 p1 (.dK []) = HA at *
  have eA := eA.symm
  refine ⟨by decide, fun p2 HB hp2 eB => ⟨_, rfl, ?_⟩⟩
  refine src (.list (by simp) (eqs eB) .nil) (.inl rfl) fun x dx a' HC xC hx ha => ?_
  refine litT (fun _ => .none) [] [] rfl (by simp) Trk.nil fun p3 ys HD hp3 hD rD xD => ⟨by show 7 ≤ sizeLine; decide, fun p HE hp eE => ⟨p, rfl, ⟨_, .inl (.inl (eqs eE))⟩, fun D0 hD0 => lcAtT hD0 ?_⟩⟩
  have xE : ExF [] HD HE := exn eE hp
  have xAE : ExF [] HA HE := ((exn eB hp2).trans xC).trans (xD.trans xE)
  have rD : RpL [p3] HD ys ((["read", "a"] : List Str).map PyData.str) := rD
  have tu : Rp [] HE (.ref p3) (.tuple [.str "read", .str "a"]) := .tuple (by simp) (xE.at_ _ _ (by simp) hD) ((rD.ex xE.of).sub (by simp))
  have di : Rp [] HE (.ref p1) (.dict []) := .dct (by simp) (xAE.at_ _ _ (by simp) (eqs eA))
  have hx' := (xD.trans xE).at_ _ _ (by simp) hx
  have all : ∀ (i : Nat) (v : V), ([.non, .int 5, .str "ab", .ref p1, .bl true, .ref x, .ref p3] : List V)[i]? = some v → i < 7 ∧ ∃ d, AnyV [] D.cSrc HE v d ∧ okx 2 d = true ∧ metD d = some 0 ∧ size d ≤ 10 ∧ ∀ ds, items d = some ds → ds.length ≤ 10 := by
    intro i v hv
    match i, hv with
    | 0, hv => cases hv; exact ⟨by decide, .none, .inl .non, by decide, rfl, by decide, fun ds h => nomatch h⟩
    | 1, hv => cases hv; exact ⟨by decide, .int 5, .inl (.int _), by decide, rfl, by decide, fun ds h => nomatch h⟩
    | 2, hv => cases hv; exact ⟨by decide, .str "ab", .inl (.str _), by decide +kernel, rfl, by decide, fun ds h => nomatch h⟩
    | 3, hv => cases hv; exact ⟨by decide, .dict [], .inl di, by decide, rfl, by decide, fun ds h => nomatch h⟩
    | 4, hv => cases hv; exact ⟨by decide, .bool true, .inl (.bl _), by decide, rfl, by decide, fun ds h => nomatch h⟩
    | 5, hv => cases hv; exact ⟨by decide, .none, .inr ⟨rfl, x, dx, _, rfl, hx', by simp⟩, by decide, rfl, by decide, fun ds h => nomatch h⟩
    | 6, hv => cases hv; exact ⟨by decide, .tuple [.str "read", .str "a"], .inl tu, by decide +kernel, rfl, by decide, fun ds h => by cases h; decide⟩
    | n + 7, hv => simp at hv
  refine lcMap (F := []) (xs := [.non, .int 5, .str "ab", .ref p1, .bl true, .ref x, .ref p3]) (vs := [4]) (k := 4) (iter_atT (eqs eE) (by simp)) (List.replicate 7 (.int 0)) (by simp) (by rw [sizeLine_eq]; show 7 < 16777216; decide) (fun _ => rfl) ?_ ?_
  · intro D' i v e H' hv he x9 hD1 hD2 Qc k
    obtain ⟨hi, d, av, ho, hm, hz, hln⟩ := all i v hv
    have e0 : e = .int 0 := by
      rw [List.getElem?_replicate, if_pos hi] at he
      cases he; rfl
    subst e0
    refine ⟨_, rfl, v, [], d, 2, rfl, av.ex x9.of, ho, by decide, by omega, fun ds h => Nat.le_trans (hln ds h) (by decide), fun r H'' x10 rr => ?_⟩
    rw [hm] at rr
    cases rr
    exact k _ H'' x10 (.int _)
  · intro r ys' HF hr hF rF xF eD
    cases eD
    -- same(some, [0] * 7)
    refine ⟨_, rfl, ?_⟩
    refine litL (fun _ => .none) [] [] rfl (by simp) Trk.nil fun p4 zs HG hp4 hG rG xG => ?_
    have rG : RpL [p4] HG zs (([0] : List Int).map PyData.int) := rG
    have rG := rG.all_int
    subst rG
    refine repL 7 hG (by rw [sizeLine_eq]; decide) (by decide) fun p5 HI hp5 eI => ?_
    have xI : ExF [] HG HI := exn eI hp5
    have ef : (List.replicate 7 (([0] : List Int).map V.int)).flatten = (List.replicate 7 (0 : Int)).map V.int := rfl
    rw [ef] at eI
    have ed : (List.replicate 7 (PyData.int 0)) = (List.replicate 7 (0 : Int)).map PyData.int := rfl
    refine ⟨[], [], .ref D0, .ref p5, .list (List.replicate 7 (.int 0)), 2, rfl, .list (by simp) ((xG.trans xI).at_ _ _ (by simp) hF) (rF.ex (xG.trans xI)), .list (by simp) (eqs eI) (by rw [ed]; exact RpL.ints _), by decide, by decide, by decide, fun HJ xJ => ⟨_, rfl, iteT ?_⟩⟩
    have lk : ∀ (m : Str) (v : V), m ≠ "own_lines" → List.lookup m [(("own_lines" : Str), v)] = none := fun m v hm => by
      have e : (m == ("own_lines" : Str)) = false := by simpa using hm
      simp [List.lookup, e]
    -- same([Source([]).lines(), Source(()).tells()], [[], []])
    refine ⟨by decide, fun q1 HL hq1 eL => ⟨_, rfl, ?_⟩⟩
    refine src (.list (by simp) (eqs eL) .nil) (.inl rfl) fun y1 dy1 b1 HM xM hy1 hb1 => ⟨y1, dy1, _, rfl, hy1, lk _ _ (by decide), y1, [], rfl, ⟨dy1, b1, hy1, hb1⟩, fun r1 HN nr1 hr1 xN => ?_⟩
    refine ⟨by decide, fun q2 HO hq2 eO => ⟨_, rfl, ?_⟩⟩
    have xO : ExF [] HN HO := exn eO hq2
    refine src (.tuple (by simp) (eqs eO) .nil) (.inr rfl) fun y2 dy2 b2 HP xP hy2 hb2 => ⟨y2, dy2, _, rfl, hy2, lk _ _ (by decide), y2, [], [], [], rfl, ⟨dy2, b2, hy2, hb2⟩, .nil, by simp, by decide, fun r2 HQ nr2 hr2 xQ => ⟨by show 2 ≤ sizeLine; decide, fun p6 HR hp6 eR => ?_⟩⟩
    have xR : ExF [] HQ HR := exn eR hp6
    refine ⟨by decide, fun q3 HS hq3 eS => ⟨by decide, fun q4 HT hq4 eT => ⟨by show 2 ≤ sizeLine; decide, fun p7 HU hp7 eU => ?_⟩⟩⟩
    have xRU : ExF [] HR HU := ((exn eS hq3).trans (exn eT hq4)).trans (exn eU hp7)
    have xNQ : ExF [] HN HQ := (xO.trans xP).trans xQ
    refine ⟨[], [], .ref p6, .ref p7, .list [.list [], .list []], 3, rfl,
      .list (by simp) (xRU.at_ _ _ (by simp) (eqs eR)) (.cons (.list (by simp) ((xNQ.trans (xR.trans xRU)).at_ _ _ (by simp) hr1) .nil) (.one (.list (by simp) ((xR.trans xRU).at_ _ _ (by simp) hr2) .nil))),
      .list (by simp) (eqs eU) (.cons (.list (by simp) (eqf eU hp7 (eqf eT hq4 (eqs eS))) .nil) (.one (.list (by simp) (eqf eU hp7 (eqs eT)) .nil))), by decide, by decide, by decide, fun HV xV => q HV⟩
end Tw
end

section
set_option Elab.async false
set_option linter.all false
set_option maxRecDepth 100000
set_option maxHeartbeats 4000000
namespace Tw
open PySem L2 PyProof.Rows
theorem passX {X : Cx} : Passes (L2.CX X.prog X.w) X E0 := fun _ _ _ _ _ _ _ h => by
  obtain ⟨_, _, _, _, _, _, _, _, _, _, _, _, e⟩ := h
  exact e.elim
theorem zero_spAsTuples {vs : List V} {H : Hp} {Q : VK} {E : XK} (h : spAsTuples 0 vs H Q E) : False := by
  obtain ⟨_, _, _, _, _, _, h, _⟩ := h
  exact absurd h.1 (Nat.not_lt_zero _)
theorem zero_spLIsExpr {vs : List V} {H : Hp} {Q : VK} {E : XK} (h : spLIsExpr 0 vs H Q E) : False := by
  obtain ⟨_, _, _, _, _, _, _, _, h, _⟩ := h
  exact absurd h.1 (Nat.not_lt_zero _)
theorem zero_spAExpr {vs : List V} {H : Hp} {Q : VK} {E : XK} (h : spAExpr 0 vs H Q E) : False := by
  obtain ⟨_, _, _, _, _, _, _, n, _, _, h, _⟩ := h
  exact absurd h (Nat.not_lt_zero _)
theorem zero_spSame {vs : List V} {H : Hp} {Q : VK} {E : XK} (h : spSame 0 vs H Q E) : False := by
  obtain ⟨_, _, _, _, _, _, _, _, _, _, h, _⟩ := h
  exact absurd h (Nat.not_lt_zero _)
theorem zero_spLoose {vs : List V} {H : Hp} {Q : VK} {E : XK} (h : spLoose 0 vs H Q E) : False := by
  obtain ⟨_, _, _, _, _, _, _, _, _, _, _, _, _, _, h, _⟩ := h
  exact absurd h (Nat.not_lt_zero _)
section
variable {X : Cx} {D : Ad2} {CX : CXT} {k : Nat} {f : Addr} {fd : FuncData} {ps ks : List Str} {x : Str} {p pos : Pos} {e : Expr} {es : List Expr} {t : TA} {te : TE}
theorem pe_makeU (M : Mk X.K D.cSrc f) (Fd : FnOk X.prog X.w X.K X.mg X.base CX k f fd ps (spSInit D.cSrc D.cBad)) (hr : Room (k + 1) X.A) (hg : Gl X x) (hm : X.mg x = some (.ref D.cSrc)) (hb : Binds X.K fd ps []) (hx : Passes CX X E0)
    (ha : PA X (e :: es) t) (hdb : (x == ("__debug__" : Str)) = false := by decide) (he : starEach (e :: es) X.env = (false, eval e X.env) :: starEach es X.env := by rfl) (hpl : (backTo pos (starEach es X.env)).any (·.1) = false := by rfl) :
    PE X (.Call (.Name x p) (e :: es) [] pos) (tMakeU D t) := by
  refine ⟨fun pins s σ H Q I h => ?_⟩
  refine wpAny_Call_Name_kw (ld_glob I hg hm ?_ hdb)
  refine PySem.W.callWith_K (h₀ := X.base) I.ok.mod.kin M.kp (thn (ha.run pos pins s σ H _ I h) fun us s1 ⟨vs, H1, I1, r, v, ev, q⟩ => ⟨I1.kIn, ?_⟩) he hpl
  subst ev
  unfold MkR at q
  exact run_make M Fd hr hb .nil hx I1 r q
theorem pe_makeKU {kw : Str} {kpos : Pos} (M : Mk X.K D.cSrc f) (Fd : FnOk X.prog X.w X.K X.mg X.base CX k f fd ps (spSInit D.cSrc D.cBad)) (hr : Room (k + 1) X.A) (hg : Gl X x) (hm : X.mg x = some (.ref D.cSrc)) (hb : KBn X.K fd ps 1 [kw] (fun us ws => us ++ ws) (fun vs zs => vs ++ zs)) (hx : Passes CX X E0) (ha : PE X e te)
    (hall : (backToKw pos (keywordEach [⟨some kw, e, kpos⟩] X.env)).all (·.1.isSome) = true := by rfl) (hks : (backToKw pos (keywordEach [⟨some kw, e, kpos⟩] X.env)).filterMap (·.1) = [kw] := by rfl) (hdb : (x == ("__debug__" : Str)) = false := by decide)
    (hpl : ((backTo pos (starEach [] X.env)).any (·.1) || (backToKw pos (keywordEach [⟨some kw, e, kpos⟩] X.env)).any (·.1.isNone)) = false := by rfl) :
    PE X (.Call (.Name x p) [] [⟨some kw, e, kpos⟩] pos) (tMakeU D (tCons te tNil)) := by
  refine ⟨fun pins s σ H Q I h => ?_⟩
  refine wpAny_Call_Name_kw (ld_glob I hg hm ?_ hdb)
  refine PySem.W.callWith_KW0 (h₀ := X.base) I.ok.mod.kin M.kp hall ?_ hpl
  refine thn ((pk_cons (nm := some kw) (kpos := kpos) ha pk_nil).run pos pins s σ H _ I h) fun ws s2 ⟨zs, H2, I2, rz, v, ev, q2⟩ => ⟨I2.kIn, ?_⟩
  subst ev
  rw [hks]
  unfold MkR at q2
  exact run_makeN (n := 0) (us := []) (vs := []) M Fd hr hb hx I2 .nil rz rfl rfl q2
end
def top (i : Nat) : Stmt := PySem.Challenge.pw_twoslots_k01_whole_sources.main.body.getD i (.Pass ⟨0, 0, 0, 0⟩)
abbrev s_p_BadLines_init : Stmt := inClass (top 2) 0
abbrev N_p_BadLines_init : List Str := ["self", "index"]
theorem sc_p_BadLines_init : FnScope ["self", "index"] ["self", "index"] (defScope s_p_BadLines_init) := ⟨rfl, rfl, rfl, by decide +kernel, rfl, by decide +kernel, by decide +kernel⟩
abbrev s_p_is_list : Stmt := top 8
abbrev N_p_is_list : List Str := ["thing"]
theorem sc_p_is_list : FnScope ["thing"] ["thing"] (defScope s_p_is_list) := ⟨rfl, rfl, rfl, by decide +kernel, rfl, by decide +kernel, by decide +kernel⟩
abbrev s_p_is_name : Stmt := top 9
abbrev N_p_is_name : List Str := ["thing", "sign"]
theorem sc_p_is_name : FnScope ["thing", "sign"] ["thing"] (defScope s_p_is_name) := ⟨rfl, rfl, rfl, by decide +kernel, rfl, by decide +kernel, by decide +kernel⟩
abbrev s_p_as_tuples : Stmt := top 10
abbrev N_p_as_tuples : List Str := ["thing", "part"]
theorem sc_p_as_tuples : FnScope ["thing", "part"] ["thing"] (defScope s_p_as_tuples) := ⟨rfl, rfl, rfl, by decide +kernel, rfl, by decide +kernel, by decide +kernel⟩
abbrev s_p_is_expr : Stmt := top 12
abbrev N_p_is_expr : List Str := ["known", "thing", "waiting", "here"]
theorem sc_p_is_expr : FnScope ["known", "thing", "waiting", "here"] ["known", "thing"] (defScope s_p_is_expr) := ⟨rfl, rfl, rfl, by decide +kernel, rfl, by decide +kernel, by decide +kernel⟩
abbrev s_p_is_line : Stmt := top 13
abbrev N_p_is_line : List Str := ["known", "told", "thing"]
theorem sc_p_is_line : FnScope ["known", "told", "thing"] ["known", "told", "thing"] (defScope s_p_is_line) := ⟨rfl, rfl, rfl, by decide +kernel, rfl, by decide +kernel, by decide +kernel⟩
abbrev s_p_Source_init : Stmt := inClass (top 14) 0
abbrev N_p_Source_init : List Str := ["self", "lines", "known", "told", "index", "thing"]
theorem sc_p_Source_init : FnScope ["self", "lines", "known", "told", "index", "thing"] ["self", "lines"] (defScope s_p_Source_init) := ⟨rfl, rfl, rfl, by decide +kernel, rfl, by decide +kernel, by decide +kernel⟩
abbrev s_p_Source_lines : Stmt := inClass (top 14) 1
abbrev N_p_Source_lines : List Str := ["self"]
theorem sc_p_Source_lines : FnScope ["self"] ["self"] (defScope s_p_Source_lines) := ⟨rfl, rfl, rfl, by decide +kernel, rfl, by decide +kernel, by decide +kernel⟩
abbrev s_p_Source_reads : Stmt := inClass (top 14) 2
abbrev N_p_Source_reads : List Str := ["self", "line"]
theorem sc_p_Source_reads : FnScope ["self", "line"] ["self"] (defScope s_p_Source_reads) := ⟨rfl, rfl, rfl, by decide +kernel, rfl, by decide +kernel, by decide +kernel⟩
abbrev s_p_Source_tells : Stmt := inClass (top 14) 3
abbrev N_p_Source_tells : List Str := ["self", "line"]
theorem sc_p_Source_tells : FnScope ["self", "line"] ["self"] (defScope s_p_Source_tells) := ⟨rfl, rfl, rfl, by decide +kernel, rfl, by decide +kernel, by decide +kernel⟩
abbrev s_p_Source_eq : Stmt := inClass (top 14) 4
abbrev N_p_Source_eq : List Str := ["self", "other"]
theorem sc_p_Source_eq : FnScope ["self", "other"] ["self", "other"] (defScope s_p_Source_eq) := ⟨rfl, rfl, rfl, by decide +kernel, rfl, by decide +kernel, by decide +kernel⟩
abbrev s_l_a_name : Stmt := top 16
abbrev N_l_a_name : List Str := ["_law_stream", "_law_taken", "_law_some", "_law_left", "_law_number", "_law_name"]
theorem sc_l_a_name : FnScope ["_law_stream", "_law_taken", "_law_some", "_law_left", "_law_number", "_law_name"] ["_law_stream", "_law_taken"] (defScope s_l_a_name) := ⟨rfl, rfl, rfl, by decide +kernel, rfl, by decide +kernel, by decide +kernel⟩
abbrev s_l_a_expr : Stmt := top 17
abbrev N_l_a_expr : List Str := ["_law_stream", "_law_known", "_law_ops", "_law_deep", "_law_way", "_law_many", "_law_k"]
theorem sc_l_a_expr : FnScope ["_law_stream", "_law_known", "_law_ops", "_law_deep", "_law_way", "_law_many", "_law_k"] ["_law_stream", "_law_known", "_law_ops", "_law_deep"] (defScope s_l_a_expr) := ⟨rfl, rfl, rfl, by decide +kernel, rfl, by decide +kernel, by decide +kernel⟩
abbrev s_l_a_lines : Stmt := top 18
abbrev N_l_a_lines : List Str := ["_law_stream", "_law_many", "_law_deep", "_law_ops", "_law_lines", "_law_known", "_law_told", "_law_k", "_law_way", "_law_left", "_law_name"]
theorem sc_l_a_lines : FnScope ["_law_stream", "_law_many", "_law_deep", "_law_ops", "_law_lines", "_law_known", "_law_told", "_law_k", "_law_way", "_law_left", "_law_name"] ["_law_stream", "_law_many", "_law_deep"] (defScope s_l_a_lines) := ⟨rfl, rfl, rfl, by decide +kernel, rfl, by decide +kernel, by decide +kernel⟩
abbrev s_l_start : Stmt := top 19
abbrev N_l_start : List Str := ["_law_script"]
theorem sc_l_start : FnScope ["_law_script"] ["_law_script"] (defScope s_l_start) := ⟨rfl, rfl, rfl, by decide +kernel, rfl, by decide +kernel, by decide +kernel⟩
abbrev s_l_draw : Stmt := top 20
abbrev N_l_draw : List Str := ["_law_stream", "_law_many", "_law_cell", "_law_digit", "_law_mixed_here"]
theorem sc_l_draw : FnScope ["_law_stream", "_law_many", "_law_cell", "_law_digit", "_law_mixed_here"] ["_law_stream", "_law_many"] (defScope s_l_draw) := ⟨rfl, rfl, rfl, by decide +kernel, rfl, by decide +kernel, by decide +kernel⟩
abbrev s_l_pick : Stmt := top 21
abbrev N_l_pick : List Str := ["_law_stream", "_law_some"]
theorem sc_l_pick : FnScope ["_law_stream", "_law_some"] ["_law_stream", "_law_some"] (defScope s_l_pick) := ⟨rfl, rfl, rfl, by decide +kernel, rfl, by decide +kernel, by decide +kernel⟩
abbrev s_l_mixed : Stmt := top 22
abbrev N_l_mixed : List Str := ["_law_stream", "_law_some", "_law_left", "_law_k"]
theorem sc_l_mixed : FnScope ["_law_stream", "_law_some", "_law_left", "_law_k"] ["_law_stream", "_law_some"] (defScope s_l_mixed) := ⟨rfl, rfl, rfl, by decide +kernel, rfl, by decide +kernel, by decide +kernel⟩
abbrev s_l_same : Stmt := top 23
abbrev N_l_same : List Str := ["_law_found", "_law_due", "_law_x", "_law_y"]
theorem sc_l_same : FnScope ["_law_found", "_law_due", "_law_x", "_law_y"] ["_law_found", "_law_due"] (defScope s_l_same) := ⟨rfl, rfl, rfl, by decide +kernel, rfl, by decide +kernel, by decide +kernel⟩
abbrev s_l_each_once : Stmt := top 24
abbrev N_l_each_once : List Str := ["_law_things", "_law_found", "_law_thing"]
theorem sc_l_each_once : FnScope ["_law_things", "_law_found", "_law_thing"] ["_law_things"] (defScope s_l_each_once) := ⟨rfl, rfl, rfl, by decide +kernel, rfl, by decide +kernel, by decide +kernel⟩
abbrev s_l_loose : Stmt := top 25
abbrev N_l_loose : List Str := ["_law_stream", "_law_thing", "_law_found", "_law_part"]
theorem sc_l_loose : FnScope ["_law_stream", "_law_thing", "_law_found", "_law_part"] ["_law_stream", "_law_thing"] (defScope s_l_loose) := ⟨rfl, rfl, rfl, by decide +kernel, rfl, by decide +kernel, by decide +kernel⟩
abbrev s_l_is_name : Stmt := top 26
abbrev N_l_is_name : List Str := ["_law_thing", "_law_letters", "_law_figures", "_law_sign"]
theorem sc_l_is_name : FnScope ["_law_thing", "_law_letters", "_law_figures", "_law_sign"] ["_law_thing"] (defScope s_l_is_name) := ⟨rfl, rfl, rfl, by decide +kernel, rfl, by decide +kernel, by decide +kernel⟩
abbrev s_l_is_expr : Stmt := top 27
abbrev N_l_is_expr : List Str := ["_law_known", "_law_thing", "_law_part"]
theorem sc_l_is_expr : FnScope ["_law_known", "_law_thing", "_law_part"] ["_law_known", "_law_thing"] (defScope s_l_is_expr) := ⟨rfl, rfl, rfl, by decide +kernel, rfl, by decide +kernel, by decide +kernel⟩
abbrev s_l_is_line : Stmt := top 28
abbrev N_l_is_line : List Str := ["_law_known", "_law_told", "_law_thing"]
theorem sc_l_is_line : FnScope ["_law_known", "_law_told", "_law_thing"] ["_law_known", "_law_told", "_law_thing"] (defScope s_l_is_line) := ⟨rfl, rfl, rfl, by decide +kernel, rfl, by decide +kernel, by decide +kernel⟩
abbrev s_l_fault : Stmt := top 29
abbrev N_l_fault : List Str := ["_law_lines", "_law_known", "_law_told", "_law_at", "_law_thing"]
theorem sc_l_fault : FnScope ["_law_lines", "_law_known", "_law_told", "_law_at", "_law_thing"] ["_law_lines"] (defScope s_l_fault) := ⟨rfl, rfl, rfl, by decide +kernel, rfl, by decide +kernel, by decide +kernel⟩
abbrev s_l_odds : Stmt := top 30
abbrev N_l_odds : List Str := ["_law_stream", "_law_lines", "_law_name", "_law_found", "_law_odd", "_law_line"]
theorem sc_l_odds : FnScope ["_law_stream", "_law_lines", "_law_name", "_law_found", "_law_odd", "_law_line"] ["_law_stream", "_law_lines"] (defScope s_l_odds) := ⟨rfl, rfl, rfl, by decide +kernel, rfl, by decide +kernel, by decide +kernel⟩
abbrev s_l_met : Stmt := top 31
abbrev N_l_met : List Str := ["_law_thing", "e"]
theorem sc_l_met : FnScope ["_law_thing", "e"] ["_law_thing"] (defScope s_l_met) := ⟨rfl, rfl, rfl, by decide +kernel, rfl, by decide +kernel, by decide +kernel⟩
abbrev s_l_told_right : Stmt := top 32
abbrev N_l_told_right : List Str := ["_law_stream", "_law_lines", "_law_handed", "_law_was", "_law_made", "_law_due", "_law_told", "_law_other", "_law_line"]
theorem sc_l_told_right : FnScope ["_law_stream", "_law_lines", "_law_handed", "_law_was", "_law_made", "_law_due", "_law_told", "_law_other", "_law_line"] ["_law_stream", "_law_lines"] (defScope s_l_told_right) := ⟨rfl, rfl, rfl, by decide +kernel, rfl, by decide +kernel, by decide +kernel⟩
abbrev s_law : Stmt := top 33
abbrev N_law : List Str := ["_law_script", "_law_stream", "_law_turn", "_law_lines", "_law_odd", "_law_at", "_law_bent", "_law_k", "_law_some"]
theorem sc_law : FnScope ["_law_script", "_law_stream", "_law_turn", "_law_lines", "_law_odd", "_law_at", "_law_bent", "_law_k", "_law_some"] ["_law_script"] (defScope s_law) := ⟨rfl, rfl, rfl, by decide +kernel, rfl, by decide +kernel, by decide +kernel⟩
structure Txt (K : PySem.W.Frag) (mg : Str → Option Value) (D : Ad) (D2 : Ad2) : Prop where
  n_all : mg "all" = none
  n_bool : mg "bool" = none
  n_dict : mg "dict" = none
  n_enumerate : mg "enumerate" = none
  n_int : mg "int" = none
  n_isinstance : mg "isinstance" = none
  n_len : mg "len" = none
  n_list : mg "list" = none
  n_max : mg "max" = none
  n_range : mg "range" = none
  n_repr : mg "repr" = none
  n_str : mg "str" = none
  n_tuple : mg "tuple" = none
  n_zip : mg "zip" = none
  g_SMALL : ∃ u, mg "SMALL" = some u ∧ RelV (.str "abcdefghijklmnopqrstuvwxyz") u
  g_FIGURES : ∃ u, mg "FIGURES" = some u ∧ RelV (.str "0123456789") u
  g_WORDS : ∃ u, mg "WORDS" = some u ∧ RelV (.ref D.words) u
  hW : ∀ H : Hp, SqT K H D.words [.str "read", .str "tell"]
  g_Source : mg "Source" = some (.ref D2.cSrc)
  src : SrcC K D2.cSrc
  xf : XfC K D2.cBad
  oex : OexC K D2.cBad
  noIndex : PySem.W.findIn K (.ref D2.cBad) "index" = some none
  te : PySem.W.exmOne K (.ref D2.cBad) (.ref D2.cBad) = some true
section
variable {P : Program} {w : World} {K : PySem.W.Frag} {mg : Str → Option Value} {base : Heap} {D : Ad} {D2 : Ad2}
theorem ok_l_start {f : Addr} {fd : FuncData} (F : Fun K "_law_start" "_law_start" s_l_start f fd) (b : Binds K fd ["_law_script"] []) (hf : mg "_law_start" = some (.ref f)) (T : Txt K mg D D2)   : Cal P w K mg base 1 "_law_start" (spStart K) [] := by
  refine ⟨f, fd, ["_law_script"], [], F.ok sc_l_start (fun vs H Q E h => ?_) (fun cdv A outer s H vs Q E hr h => ⟨t_l_start K, ?_, rd_l_start K h⟩), hf, F.kp, b, .nil⟩
  · unfold spStart at h
    repeat (first | (obtain ⟨rfl, _⟩ := h; rfl) | (obtain ⟨_, h⟩ := h))
  · exact pss_one (ps_ret (pe_lstU (pa_cons (pe_callTy call_lstOf (by rfl) T.n_list (by decide +kernel) (pa_cons (pv 0) (pa_nil))) (pa_cons (pe_int) (pa_cons (pe_int) (pa_cons (pe_int) (pa_nil)))))))

theorem ok_l_draw {f : Addr} {fd : FuncData} (F : Fun K "_law_draw" "_law_draw" s_l_draw f fd) (b : Binds K fd ["_law_stream", "_law_many"] []) (hf : mg "_law_draw" = some (.ref f)) (T : Txt K mg D D2)   : Cal P w K mg base 1 "_law_draw" spDraw [] := by
  refine ⟨f, fd, ["_law_stream", "_law_many"], [], F.ok sc_l_draw (fun vs H Q E h => ?_) (fun cdv A outer s H vs Q E hr h => ⟨t_l_draw K, ?_, rd_l_draw K h⟩), hf, F.kp, b, .nil⟩
  · unfold spDraw at h
    repeat (first | (obtain ⟨rfl, _⟩ := h; rfl) | (obtain ⟨_, h⟩ := h))
  · exact pss_cons (ps_asg (pe_op op_addU (pe_ix ix_U (pv 0) (pe_int) (fun _ _ => rfl)) (pe_int)) (pg_sub (pv 0) (pe_int) (set_U (hu_of hr))))
      (pss_cons (ps_while PassesOwn.never (PW.pt (pw_and (pt_cmpR (op_eqU hr.units) (pe_ix ix_U (pv 0) (pe_int) (fun _ _ => rfl)) (pe_int) (nomark _)) (pw_and1 (pt_cmpR (op_neU hr.units) (pe_ix ix_U (pv 0) (pe_int) (fun _ _ => rfl)) (pe_lstU (pa_nil)) (nomark _))))) (pss_cons (ps_set (i := 2) sc_l_draw.nd rfl (Or.inl rfl) (pe_bm PySem.F.plainAttrs_list PySem.F.slot_list_pop PySem.F.type_list_pop mt_popAtU (pe_ix ix_U (pv 0) (pe_int) (fun _ _ => rfl)) (pa_cons (pe_int) (pa_nil))))
      (pss_cons (ps_asg (pe_op op_modN (pe_callTy call_in1 (by rfl) T.n_int (by decide +kernel) (pa_cons (pe_op op_addU (pe_op op_addU (pe_op op_mulU (pe_ix ix_U (pv 0) (pe_int) (fun _ _ => rfl)) (pe_int)) (pv 2)) (pe_int)) (pa_nil))) (pe_int)) (pg_sub (pv 0) (pe_int) (set_U (hu_of hr))))
      (pss_one (ps_asg (pe_ifExp (pt_cmpR op_ge (pv 2) (pe_op op_pow (pe_int) (pe_int)) (nomark _)) (pv 2) (pe_int)) (pg_sub (pv 0) (pe_int) (set_U (hu_of hr))))))))
      (pss_cons (ps_if (pt_cmpR op_gt (pe_ix ix_U (pv 0) (pe_int) (fun _ _ => rfl)) (pe_int) (nomark _)) (pss_cons (ps_set (i := 3) sc_l_draw.nd rfl (Or.inl rfl) (pe_op op_modN (pe_callTy call_in1 (by rfl) T.n_int (by decide +kernel) (pa_cons (pe_ix ix_U (pv 0) (pe_int) (fun _ _ => rfl)) (pa_nil))) (pv 1)))
      (pss_cons (ps_asg (pe_op op_fdivN (pe_ix ix_U (pv 0) (pe_int) (fun _ _ => rfl)) (pv 1)) (pg_sub (pv 0) (pe_int) (set_U (hu_of hr))))
      (pss_one (ps_ret (pv 3))))) (pss_nil))
      (pss_cons (ps_set (i := 4) sc_l_draw.nd rfl (Or.inl rfl) (pe_op op_modN (pe_callTy call_in1 (by rfl) T.n_int (by decide +kernel) (pa_cons (pe_op op_pow (pe_op op_addU (pe_op op_addU (pe_ix ix_U (pv 0) (pe_int) (fun _ _ => rfl)) (pe_op op_mulU (pe_int) (pe_ix ix_U (pv 0) (pe_int) (fun _ _ => rfl)))) (pe_int)) (pe_int)) (pa_nil))) (pe_int)))
      (pss_one (ps_ret (pe_op op_modN (pe_op op_modN (pe_callTy call_in1 (by rfl) T.n_int (by decide +kernel) (pa_cons (pe_op op_pow (pe_op op_addU (pe_op op_addU (pe_op op_mulU (pv 4) (pe_int)) (pe_op op_mulU (pe_int) (pe_ix ix_U (pv 0) (pe_int) (fun _ _ => rfl)))) (pe_int)) (pe_int)) (pa_nil))) (pe_int)) (pv 1)))))))

theorem ok_l_pick {f : Addr} {fd : FuncData} (F : Fun K "_law_pick" "_law_pick" s_l_pick f fd) (b : Binds K fd ["_law_stream", "_law_some"] []) (hf : mg "_law_pick" = some (.ref f)) (T : Txt K mg D D2) (C_l_draw : Cal P w K mg base 1 "_law_draw" spDraw [])  : Cal P w K mg base 2 "_law_pick" spPick [] := by
  refine ⟨f, fd, ["_law_stream", "_law_some"], [], F.ok sc_l_pick (fun vs H Q E h => ?_) (fun cdv A outer s H vs Q E hr h => ⟨t_l_pick K, ?_, rd_l_pick K h⟩), hf, F.kp, b, .nil⟩
  · unfold spPick at h
    repeat (first | (obtain ⟨rfl, _⟩ := h; rfl) | (obtain ⟨_, h⟩ := h))
  · exact pss_one (ps_ret (pe_ix ix_U (pv 1) (pe_c C_l_draw hr (by decide) rfl (pa_cons (pv 0) (pa_cons (pe_callB call_lenU (by rfl) T.n_len (by decide +kernel) (pa_cons (pv 1) (pa_nil))) (pa_nil)))) (fun _ _ => rfl)))

theorem ok_l_mixed {f : Addr} {fd : FuncData} (F : Fun K "_law_mixed" "_law_mixed" s_l_mixed f fd) (b : Binds K fd ["_law_stream", "_law_some"] []) (hf : mg "_law_mixed" = some (.ref f)) (T : Txt K mg D D2) (C_l_draw : Cal P w K mg base 1 "_law_draw" spDraw [])  : Cal P w K mg base 2 "_law_mixed" spMixed [] := by
  refine ⟨f, fd, ["_law_stream", "_law_some"], [], F.ok sc_l_mixed (fun vs H Q E h => ?_) (fun cdv A outer s H vs Q E hr h => ⟨t_l_mixed K, ?_, rd_l_mixed K h⟩), hf, F.kp, b, .nil⟩
  · unfold spMixed at h
    repeat (first | (obtain ⟨rfl, _⟩ := h; rfl) | (obtain ⟨_, h⟩ := h))
  · exact pss_cons (ps_set (i := 2) sc_l_mixed.nd rfl (Or.inr rfl) (pe_callTy call_lstOf (by rfl) T.n_list (by decide +kernel) (pa_cons (pv 1) (pa_nil))))
      (pss_one (ps_ret (pe_lcU (own := [("_law_k", 3)]) (g := gName 3) (tt := tYes) rfl sc_l_mixed.nd (pi_range1 rfl T.n_range (pa_cons (pe_callB call_lenU (by rfl) T.n_len (by decide +kernel) (pa_cons (pv 2) (pa_nil))) (pa_nil))) (blkOk_by (N := N_l_mixed) (sc := defScope s_l_mixed) (by decide +kernel)) (fun _ _ _ _ _ => pg_name (i := 3) sc_l_mixed.nd rfl (Or.inl rfl)) (fun _ _ _ _ _ => pts_nil) (fun _ _ _ _ _ => pe_bm PySem.F.plainAttrs_list PySem.F.slot_list_pop PySem.F.type_list_pop mt_popAtU (pv 2) (pa_cons (pe_c C_l_draw hr (by decide) rfl (pa_cons (pv 0) (pa_cons (pe_callB call_lenU (by rfl) T.n_len (by decide +kernel) (pa_cons (pv 2) (pa_nil))) (pa_nil)))) (pa_nil))))))

theorem ok_p_is_list {f : Addr} {fd : FuncData} (F : Fun K "is_list" "is_list" s_p_is_list f fd) (b : Binds K fd ["thing"] []) (hf : mg "is_list" = some (.ref f)) (T : Txt K mg D D2)   : Cal P w K mg base 1 "is_list" (spIsList K) [] := by
  refine ⟨f, fd, ["thing"], [], F.ok sc_p_is_list (fun vs H Q E h => ?_) (fun cdv A outer s H vs Q E hr h => ⟨t_p_is_list K, ?_, rd_p_is_list K h⟩), hf, F.kp, b, .nil⟩
  · unfold spIsList at h
    rcases h with h | h <;> (repeat (first | (obtain ⟨rfl, _⟩ := h; rfl) | (obtain ⟨_, h⟩ := h)))
  · exact pss_one (ps_ret (pe_callB call_isiU (by rfl) T.n_isinstance (by decide +kernel) (pa_cons (pv 0) (pa_cons (pe_tupU (pa_cons (pe_bltn rfl T.n_list (by decide +kernel) rfl) (pa_cons (pe_bltn rfl T.n_tuple (by decide +kernel) rfl) (pa_nil)))) (pa_nil)))))

theorem ok_p_is_name {f : Addr} {fd : FuncData} (F : Fun K "is_name" "is_name" s_p_is_name f fd) (b : Binds K fd ["thing"] []) (hf : mg "is_name" = some (.ref f)) (T : Txt K mg D D2)   : Cal P w K mg base 1 "is_name" spIsName [] := by
  refine ⟨f, fd, ["thing"], [], F.ok sc_p_is_name (fun vs H Q E h => ?_) (fun cdv A outer s H vs Q E hr h => ⟨t_p_is_name K D, ?_, rd_p_is_name K D T.hW h⟩), hf, F.kp, b, .nil⟩
  · unfold spIsName at h
    repeat (first | (obtain ⟨rfl, _⟩ := h; rfl) | (obtain ⟨_, h⟩ := h))
  · exact pss_cons (ps_if (PW.pt (pw_or (pt_not (pt_val (pe_callB call_isiU (by rfl) T.n_isinstance (by decide +kernel) (pa_cons (pv 0) (pa_cons (pe_bltn rfl T.n_str (by decide +kernel) rfl) (pa_nil)))))) (pw_or (pt_not (pt_chain op_lt op_le (pe_int) (pe_callB call_lenU (by rfl) T.n_len (by decide +kernel) (pa_cons (pv 0) (pa_nil))) (pe_int))) (pw_or (pt_notInU (hu65 hr) (pe_ix ix_U (pv 0) (pe_int) (fun _ _ => rfl)) (pe_gc rfl T.g_SMALL)) (pw_or1 (pt_inU (hu65 hr) (pv 0) (pe_gc rfl T.g_WORDS))))))) (pss_one (ps_ret (pe_bl))) (pss_nil))
      (pss_one (ps_ret (pe_callB (call_allU rfl) (by rfl) T.n_all (by decide +kernel) (pa_cons (pe_lcU (own := [("sign", 1)]) (g := gName 1) (tt := tYes) rfl sc_p_is_name.nd (pi_U (pv 0)) (blkOk_by (N := N_p_is_name) (sc := defScope s_p_is_name) (by decide +kernel)) (fun _ _ _ _ _ => pg_name (i := 1) sc_p_is_name.nd rfl (Or.inl rfl)) (fun _ _ _ _ _ => pts_nil) (fun _ _ _ _ _ => pe_inU (hu65 hr) (pv 1) (pe_op op_addU (pe_gc rfl T.g_SMALL) (pe_gc rfl T.g_FIGURES)))) (pa_nil)))))

theorem ok_l_is_name {f : Addr} {fd : FuncData} (F : Fun K "_law_is_name" "_law_is_name" s_l_is_name f fd) (b : Binds K fd ["_law_thing"] []) (hf : mg "_law_is_name" = some (.ref f)) (T : Txt K mg D D2)   : Cal P w K mg base 1 "_law_is_name" spIsName [] := by
  refine ⟨f, fd, ["_law_thing"], [], F.ok sc_l_is_name (fun vs H Q E h => ?_) (fun cdv A outer s H vs Q E hr h => ⟨t_l_is_name K, ?_, rd_l_is_name K h⟩), hf, F.kp, b, .nil⟩
  · unfold spIsName at h
    repeat (first | (obtain ⟨rfl, _⟩ := h; rfl) | (obtain ⟨_, h⟩ := h))
  · exact pss_cons (ps_asg (pe_tupU (pa_cons (pe_str) (pa_cons (pe_str) (pa_nil)))) (pg_tup rfl (pgs_cons (pg_name (i := 1) sc_l_is_name.nd rfl (Or.inr rfl)) (pgs_cons (pg_name (i := 2) sc_l_is_name.nd rfl (Or.inr rfl)) (pgs_nil)))))
      (pss_cons (ps_if (PW.pt (pw_or (pt_not (pt_val (pe_callB call_isiU (by rfl) T.n_isinstance (by decide +kernel) (pa_cons (pv 0) (pa_cons (pe_bltn rfl T.n_str (by decide +kernel) rfl) (pa_nil)))))) (pw_or (pt_not (pt_chain op_le op_le (pe_int) (pe_callB call_lenU (by rfl) T.n_len (by decide +kernel) (pa_cons (pv 0) (pa_nil))) (pe_int))) (pw_or1 (pt_inU (hu65 hr) (pv 0) (pe_tupU (pa_cons (pe_str) (pa_cons (pe_str) (pa_nil))))))))) (pss_one (ps_ret (pe_bl))) (pss_nil))
      (pss_one (ps_ret (pe_and (pe_inU (hu65 hr) (pe_ix ix_U (pv 0) (pe_int) (fun _ _ => rfl)) (pv 1)) (pe_one (pe_callB (call_allU rfl) (by rfl) T.n_all (by decide +kernel) (pa_cons (pe_lcU (own := [("_law_sign", 3)]) (g := gName 3) (tt := tYes) rfl sc_l_is_name.nd (pi_U (pv 0)) (blkOk_by (N := N_l_is_name) (sc := defScope s_l_is_name) (by decide +kernel)) (fun _ _ _ _ _ => pg_name (i := 3) sc_l_is_name.nd rfl (Or.inl rfl)) (fun _ _ _ _ _ => pts_nil) (fun _ _ _ _ _ => pe_inU (hu65 hr) (pv 3) (pe_op op_addU (pv 1) (pv 2)))) (pa_nil))))))))

theorem okr_p_as_tuples {f : Addr} {fd : FuncData} (F : Fun K "as_tuples" "as_tuples" s_p_as_tuples f fd) (b : Binds K fd ["thing"] []) (hf : mg "as_tuples" = some (.ref f)) (T : Txt K mg D D2) (C_p_is_list : Cal P w K mg base 1 "is_list" (spIsList K) []) : ∀ m : Nat, Cal P w K mg base (1 + m) "as_tuples" (spAsTuples m) []
  | 0 => by
    refine ⟨f, fd, ["thing"], [], (F.ok (k := 0) sc_p_as_tuples (fun vs H Q E h => ?_) (fun cdv A outer s H vs Q E hr h => ?_)), hf, F.kp, b, .nil⟩
    · exact (zero_spAsTuples h).elim
    · exact (zero_spAsTuples h).elim
  | m + 1 => by
    have C_p_as_tuples := okr_p_as_tuples F b hf T C_p_is_list m
    refine ⟨f, fd, ["thing"], [], F.ok (k := 1 + m) sc_p_as_tuples (fun vs H Q E h => ?_) (fun cdv A outer s H vs Q E hr h => ⟨t_p_as_tuples K m, ?_, rd_p_as_tuples K m h⟩), hf, F.kp, b, .nil⟩
    · unfold spAsTuples at h
      repeat (first | (obtain ⟨rfl, _⟩ := h; rfl) | (obtain ⟨_, h⟩ := h))
    · exact pss_one (ps_ret (pe_ifExp (pt_val (pe_c C_p_is_list hr (by omega) rfl (pa_cons (pv 0) (pa_nil)))) (pe_callTy call_tupOf (by rfl) T.n_tuple (by decide +kernel) (pa_cons (pe_lcU (own := [("part", 1)]) (g := gName 1) (tt := tYes) rfl sc_p_as_tuples.nd (pi_U (pv 0)) (blkOk_by (N := N_p_as_tuples) (sc := defScope s_p_as_tuples) (by decide +kernel)) (fun _ _ _ _ _ => pg_name (i := 1) sc_p_as_tuples.nd rfl (Or.inl rfl)) (fun _ _ _ _ _ => pts_nil) (fun _ _ _ _ _ => pe_c C_p_as_tuples hr (Nat.le_refl _) rfl (pa_cons (pv 1) (pa_nil)))) (pa_nil))) (pv 0)))

theorem ok_p_is_expr {f : Addr} {fd : FuncData} (F : Fun K "is_expr" "is_expr" s_p_is_expr f fd) (b : Binds K fd ["known", "thing"] []) (hf : mg "is_expr" = some (.ref f)) (T : Txt K mg D D2) (C_p_is_list : Cal P w K mg base 1 "is_list" (spIsList K) []) (C_p_is_name : Cal P w K mg base 1 "is_name" spIsName [])  : Cal P w K mg base 2 "is_expr" spPIsExpr [] := by
  refine ⟨f, fd, ["known", "thing"], [], F.ok sc_p_is_expr (fun vs H Q E h => ?_) (fun cdv A outer s H vs Q E hr h => ⟨t_p_is_expr K, ?_, rd_p_is_expr K h⟩), hf, F.kp, b, .nil⟩
  · unfold spPIsExpr at h
    repeat (first | (obtain ⟨rfl, _⟩ := h; rfl) | (obtain ⟨_, h⟩ := h))
  · exact pss_cons (ps_set (i := 2) sc_p_is_expr.nd rfl (Or.inl rfl) (pe_lstU (pa_cons (pv 1) (pa_nil))))
      (pss_cons (ps_while PassesOwn.never (pt_cmpR (op_neU hr.units) (pv 2) (pe_lstU (pa_nil)) (nomark _)) (pss_cons (ps_set (i := 3) sc_p_is_expr.nd rfl (Or.inl rfl) (pe_bm0 PySem.F.plainAttrs_list PySem.F.slot_list_pop PySem.F.type_list_pop mt_popU (pv 2)))
      (pss_one (ps_if (pt_val (pe_callB call_isiU (by rfl) T.n_isinstance (by decide +kernel) (pa_cons (pv 3) (pa_cons (pe_bltn rfl T.n_str (by decide +kernel) rfl) (pa_nil))))) (pss_one (ps_if (pt_notInU (hu65 hr) (pv 3) (pv 0)) (pss_one (ps_ret (pe_bl))) (pss_nil))) (pss_one (ps_if (PW.pt (pw_or (pt_not (pt_val (pe_c C_p_is_list hr (by decide) rfl (pa_cons (pv 3) (pa_nil))))) (pw_or (pt_cmpR (op_eqU hr.units) (pe_callB call_lenU (by rfl) T.n_len (by decide +kernel) (pa_cons (pv 3) (pa_nil))) (pe_int) (nomark _)) (pw_or1 (pt_not (pt_val (pe_c C_p_is_name hr (by decide) rfl (pa_cons (pe_ix ix_U (pv 3) (pe_int) (fun _ _ => rfl)) (pa_nil))))))))) (pss_one (ps_ret (pe_bl))) (pss_one (ps_expr (pe_bm PySem.F.plainAttrs_list PySem.F.slot_list_extend PySem.F.type_list_extend mt_extendU (pv 2) (pa_cons (pe_slice sl_U (pv 3) (po_some (pe_int)) (po_none)) (pa_nil)))))))))))
      (pss_one (ps_ret (pe_bl))))

theorem ok_p_is_line {f : Addr} {fd : FuncData} (F : Fun K "is_line" "is_line" s_p_is_line f fd) (b : Binds K fd ["known", "told", "thing"] []) (hf : mg "is_line" = some (.ref f)) (T : Txt K mg D D2) (C_p_is_list : Cal P w K mg base 1 "is_list" (spIsList K) []) (C_p_is_name : Cal P w K mg base 1 "is_name" spIsName []) (C_p_is_expr : Cal P w K mg base 2 "is_expr" spPIsExpr [])  : Cal P w K mg base 3 "is_line" spPIsLine [] := by
  refine ⟨f, fd, ["known", "told", "thing"], [], F.ok sc_p_is_line (fun vs H Q E h => ?_) (fun cdv A outer s H vs Q E hr h => ⟨t_p_is_line K, ?_, rd_p_is_line K h⟩), hf, F.kp, b, .nil⟩
  · unfold spPIsLine at h
    repeat (first | (obtain ⟨rfl, _⟩ := h; rfl) | (obtain ⟨_, h⟩ := h))
  · exact pss_cons (ps_if (PW.pt (pw_or (pt_not (pt_val (pe_c C_p_is_list hr (by decide) rfl (pa_cons (pv 2) (pa_nil))))) (pw_or (pt_notInU (hu65 hr) (pe_callB call_lenU (by rfl) T.n_len (by decide +kernel) (pa_cons (pv 2) (pa_nil))) (pe_tupU (pa_cons (pe_int) (pa_cons (pe_int) (pa_nil))))) (pw_or (pt_not (pt_val (pe_callB call_isiU (by rfl) T.n_isinstance (by decide +kernel) (pa_cons (pe_ix ix_U (pv 2) (pe_int) (fun _ _ => rfl)) (pa_cons (pe_bltn rfl T.n_str (by decide +kernel) rfl) (pa_nil)))))) (pw_or1 (pt_not (pt_val (pe_c C_p_is_name hr (by decide) rfl (pa_cons (pe_ix ix_U (pv 2) (pe_int) (fun _ _ => rfl)) (pa_nil)))))))))) (pss_one (ps_ret (pe_bl))) (pss_nil))
      (pss_cons (ps_if (pt_cmpR (op_eqU hr.units) (pe_callB call_lenU (by rfl) T.n_len (by decide +kernel) (pa_cons (pv 2) (pa_nil))) (pe_int) (nomark _)) (pss_one (ps_ret (pe_and (pe_cmpR (op_eqU hr.units) (pe_ix ix_U (pv 2) (pe_int) (fun _ _ => rfl)) (pe_str) (nomark _)) (pe_one (pe_c C_p_is_expr hr (by decide) rfl (pa_cons (pv 0) (pa_cons (pe_ix ix_U (pv 2) (pe_int) (fun _ _ => rfl)) (pa_nil)))))))) (pss_nil))
      (pss_cons (ps_if (pt_cmpR (op_eqU hr.units) (pe_ix ix_U (pv 2) (pe_int) (fun _ _ => rfl)) (pe_str) (nomark _)) (pss_one (ps_ret (pe_notInU (hu65 hr) (pe_ix ix_U (pv 2) (pe_int) (fun _ _ => rfl)) (pv 0)))) (pss_nil))
      (pss_one (ps_ret (pe_and (pe_cmpR (op_eqU hr.units) (pe_ix ix_U (pv 2) (pe_int) (fun _ _ => rfl)) (pe_str) (nomark _)) (pe_and (pe_inU (hu65 hr) (pe_ix ix_U (pv 2) (pe_int) (fun _ _ => rfl)) (pv 0)) (pe_one (pe_notInU (hu65 hr) (pe_ix ix_U (pv 2) (pe_int) (fun _ _ => rfl)) (pv 1)))))))))

theorem okr_l_is_expr {f : Addr} {fd : FuncData} (F : Fun K "_law_is_expr" "_law_is_expr" s_l_is_expr f fd) (b : Binds K fd ["_law_known", "_law_thing"] []) (hf : mg "_law_is_expr" = some (.ref f)) (T : Txt K mg D D2) (C_l_is_name : Cal P w K mg base 1 "_law_is_name" spIsName []) : ∀ m : Nat, Cal P w K mg base (1 + m) "_law_is_expr" (spLIsExpr m) []
  | 0 => by
    refine ⟨f, fd, ["_law_known", "_law_thing"], [], (F.ok (k := 0) sc_l_is_expr (fun vs H Q E h => ?_) (fun cdv A outer s H vs Q E hr h => ?_)), hf, F.kp, b, .nil⟩
    · exact (zero_spLIsExpr h).elim
    · exact (zero_spLIsExpr h).elim
  | m + 1 => by
    have C_l_is_expr := okr_l_is_expr F b hf T C_l_is_name m
    refine ⟨f, fd, ["_law_known", "_law_thing"], [], F.ok (k := 1 + m) sc_l_is_expr (fun vs H Q E h => ?_) (fun cdv A outer s H vs Q E hr h => ⟨t_l_is_expr K m, ?_, rd_l_is_expr K m h⟩), hf, F.kp, b, .nil⟩
    · unfold spLIsExpr at h
      repeat (first | (obtain ⟨rfl, _⟩ := h; rfl) | (obtain ⟨_, h⟩ := h))
    · exact pss_cons (ps_if (pt_val (pe_callB call_isiU (by rfl) T.n_isinstance (by decide +kernel) (pa_cons (pv 1) (pa_cons (pe_bltn rfl T.n_str (by decide +kernel) rfl) (pa_nil))))) (pss_one (ps_ret (pe_inU (hu65 hr) (pv 1) (pv 0)))) (pss_nil))
          (pss_cons (ps_if (PW.pt (pw_or (pt_not (pt_val (pe_callB call_isiU (by rfl) T.n_isinstance (by decide +kernel) (pa_cons (pv 1) (pa_cons (pe_tupU (pa_cons (pe_bltn rfl T.n_list (by decide +kernel) rfl) (pa_cons (pe_bltn rfl T.n_tuple (by decide +kernel) rfl) (pa_nil)))) (pa_nil)))))) (pw_or (pt_cmpR (op_eqU hr.units) (pe_callB call_lenU (by rfl) T.n_len (by decide +kernel) (pa_cons (pv 1) (pa_nil))) (pe_int) (nomark _)) (pw_or1 (pt_not (pt_val (pe_c C_l_is_name hr (by omega) rfl (pa_cons (pe_ix ix_U (pv 1) (pe_int) (fun _ _ => rfl)) (pa_nil))))))))) (pss_one (ps_ret (pe_bl))) (pss_nil))
          (pss_one (ps_ret (pe_callB (call_allU rfl) (by rfl) T.n_all (by decide +kernel) (pa_cons (pe_lcU (own := [("_law_part", 2)]) (g := gName 2) (tt := tYes) rfl sc_l_is_expr.nd (pi_U (pe_slice sl_U (pv 1) (po_some (pe_int)) (po_none))) (blkOk_by (N := N_l_is_expr) (sc := defScope s_l_is_expr) (by decide +kernel)) (fun _ _ _ _ _ => pg_name (i := 2) sc_l_is_expr.nd rfl (Or.inl rfl)) (fun _ _ _ _ _ => pts_nil) (fun _ _ _ _ _ => pe_c C_l_is_expr hr (Nat.le_refl _) rfl (pa_cons (pv 0) (pa_cons (pv 2) (pa_nil))))) (pa_nil))))))

theorem ok_l_is_line {f : Addr} {fd : FuncData} (F : Fun K "_law_is_line" "_law_is_line" s_l_is_line f fd) (b : Binds K fd ["_law_known", "_law_told", "_law_thing"] []) (hf : mg "_law_is_line" = some (.ref f)) (T : Txt K mg D D2) (C_l_is_name : Cal P w K mg base 1 "_law_is_name" spIsName []) (C_l_is_expr : Cal P w K mg base 30 "_law_is_expr" (spLIsExpr 29) [])  : Cal P w K mg base 31 "_law_is_line" spLIsLine [] := by
  refine ⟨f, fd, ["_law_known", "_law_told", "_law_thing"], [], F.ok sc_l_is_line (fun vs H Q E h => ?_) (fun cdv A outer s H vs Q E hr h => ⟨t_l_is_line K, ?_, rd_l_is_line K h⟩), hf, F.kp, b, .nil⟩
  · unfold spLIsLine at h
    repeat (first | (obtain ⟨rfl, _⟩ := h; rfl) | (obtain ⟨_, h⟩ := h))
  · exact pss_cons (ps_if (PW.pt (pw_or (pt_not (pt_val (pe_callB call_isiU (by rfl) T.n_isinstance (by decide +kernel) (pa_cons (pv 2) (pa_cons (pe_tupU (pa_cons (pe_bltn rfl T.n_list (by decide +kernel) rfl) (pa_cons (pe_bltn rfl T.n_tuple (by decide +kernel) rfl) (pa_nil)))) (pa_nil)))))) (pw_or (pt_cmpR op_lt (pe_callB call_lenU (by rfl) T.n_len (by decide +kernel) (pa_cons (pv 2) (pa_nil))) (pe_int) (nomark _)) (pw_or1 (pt_not (pt_val (pe_c C_l_is_name hr (by decide) rfl (pa_cons (pe_ix ix_U (pv 2) (pe_int) (fun _ _ => rfl)) (pa_nil))))))))) (pss_one (ps_ret (pe_bl))) (pss_nil))
      (pss_cons (ps_if (pt_cmpR (op_eqU hr.units) (pe_ix ix_U (pv 2) (pe_int) (fun _ _ => rfl)) (pe_str) (nomark _)) (pss_one (ps_ret (pe_and (pe_cmpR (op_eqU hr.units) (pe_callB call_lenU (by rfl) T.n_len (by decide +kernel) (pa_cons (pv 2) (pa_nil))) (pe_int) (nomark _)) (pe_one (pe_c C_l_is_expr hr (by decide) rfl (pa_cons (pv 0) (pa_cons (pe_ix ix_U (pv 2) (pe_int) (fun _ _ => rfl)) (pa_nil)))))))) (pss_nil))
      (pss_cons (ps_if (PW.pt (pw_or (pt_cmpR op_gt (pe_callB call_lenU (by rfl) T.n_len (by decide +kernel) (pa_cons (pv 2) (pa_nil))) (pe_int) (nomark _)) (pw_or1 (pt_notInU (hu65 hr) (pe_ix ix_U (pv 2) (pe_int) (fun _ _ => rfl)) (pe_tupU (pa_cons (pe_str) (pa_cons (pe_str) (pa_nil)))))))) (pss_one (ps_ret (pe_bl))) (pss_nil))
      (pss_one (ps_ret (pe_ifExp (pt_cmpR (op_eqU hr.units) (pe_ix ix_U (pv 2) (pe_int) (fun _ _ => rfl)) (pe_str) (nomark _)) (pe_notInU (hu65 hr) (pe_ix ix_U (pv 2) (pe_int) (fun _ _ => rfl)) (pv 0)) (pe_and (pe_inU (hu65 hr) (pe_ix ix_U (pv 2) (pe_int) (fun _ _ => rfl)) (pv 0)) (pe_one (pe_notInU (hu65 hr) (pe_ix ix_U (pv 2) (pe_int) (fun _ _ => rfl)) (pv 1)))))))))

theorem ok_l_fault {f : Addr} {fd : FuncData} (F : Fun K "_law_fault" "_law_fault" s_l_fault f fd) (b : Binds K fd ["_law_lines"] []) (hf : mg "_law_fault" = some (.ref f)) (T : Txt K mg D D2) (C_l_is_line : Cal P w K mg base 31 "_law_is_line" spLIsLine [])  : Cal P w K mg base 32 "_law_fault" spFault [] := by
  refine ⟨f, fd, ["_law_lines"], [], F.ok sc_l_fault (fun vs H Q E h => ?_) (fun cdv A outer s H vs Q E hr h => ⟨t_l_fault K, ?_, rd_l_fault K h⟩), hf, F.kp, b, .nil⟩
  · unfold spFault at h
    repeat (first | (obtain ⟨rfl, _⟩ := h; rfl) | (obtain ⟨_, h⟩ := h))
  · exact pss_cons (ps_par (i := 1) (j := 2) rfl sc_l_fault.nd rfl rfl (by decide) rfl rfl (pa_cons (pe_lstU (pa_nil)) (pa_cons (pe_lstU (pa_nil)) (pa_nil))) (by rfl))
      (pss_cons (ps_forU PassesOwn.never rfl (pi_enumU rfl T.n_enumerate (pa_cons (pv 0) (pa_nil))) (pg_tup rfl (pgs_cons (pg_name (i := 3) sc_l_fault.nd rfl (Or.inl rfl)) (pgs_cons (pg_name (i := 4) sc_l_fault.nd rfl (Or.inl rfl)) (pgs_nil)))) (pss_cons (ps_if (pt_not (pt_val (pe_c C_l_is_line hr (by decide) rfl (pa_cons (pv 1) (pa_cons (pv 2) (pa_cons (pv 4) (pa_nil))))))) (pss_one (ps_ret (pv 3))) (pss_nil))
      (pss_cons (ps_set (i := 1) sc_l_fault.nd rfl (Or.inl rfl) (pe_op op_addU (pv 1) (pe_lstU (pa_cons (pe_ix ix_U (pv 4) (pe_int) (fun _ _ => rfl)) (pa_nil)))))
      (pss_one (ps_set (i := 2) sc_l_fault.nd rfl (Or.inl rfl) (pe_op op_addU (pv 2) (pe_ifExp (pt_cmpR (op_eqU hr.units) (pe_ix ix_U (pv 4) (pe_int) (fun _ _ => rfl)) (pe_str) (nomark _)) (pe_lstU (pa_cons (pe_ix ix_U (pv 4) (pe_int) (fun _ _ => rfl)) (pa_nil))) (pe_lstU (pa_nil)))))))))
      (pss_one (ps_ret (pe_non))))

theorem ok_l_each_once {f : Addr} {fd : FuncData} (F : Fun K "_law_each_once" "_law_each_once" s_l_each_once f fd) (b : Binds K fd ["_law_things"] []) (hf : mg "_law_each_once" = some (.ref f)) (T : Txt K mg D D2)   : Cal P w K mg base 1 "_law_each_once" spOnce [] := by
  refine ⟨f, fd, ["_law_things"], [], F.ok sc_l_each_once (fun vs H Q E h => ?_) (fun cdv A outer s H vs Q E hr h => ⟨t_l_each_once K, ?_, rd_l_each_once K h⟩), hf, F.kp, b, .nil⟩
  · unfold spOnce at h
    repeat (first | (obtain ⟨rfl, _⟩ := h; rfl) | (obtain ⟨_, h⟩ := h))
  · exact pss_cons (ps_set (i := 1) sc_l_each_once.nd rfl (Or.inl rfl) (pe_lstU (pa_nil)))
      (pss_cons (ps_forU PassesOwn.never rfl (pi_U (pv 0)) (pg_name (i := 2) sc_l_each_once.nd rfl (Or.inl rfl)) (pss_one (ps_if (pt_notInU (hu65 hr) (pv 2) (pv 1)) (pss_one (ps_expr (pe_bm PySem.F.plainAttrs_list PySem.F.slot_list_append PySem.F.type_list_append mt_appendU (pv 1) (pa_cons (pv 2) (pa_nil))))) (pss_nil))))
      (pss_one (ps_ret (pv 1))))

theorem ok_l_a_name {f : Addr} {fd : FuncData} (F : Fun K "_law_a_name" "_law_a_name" s_l_a_name f fd) (b : Binds K fd ["_law_stream", "_law_taken"] []) (hf : mg "_law_a_name" = some (.ref f)) (T : Txt K mg D D2) (C_l_pick : Cal P w K mg base 2 "_law_pick" spPick [])  : Cal P w K mg base 3 "_law_a_name" spAName [] := by
  refine ⟨f, fd, ["_law_stream", "_law_taken"], [], F.ok sc_l_a_name (fun vs H Q E h => ?_) (fun cdv A outer s H vs Q E hr h => ⟨t_l_a_name K, ?_, rd_l_a_name K h⟩), hf, F.kp, b, .nil⟩
  · unfold spAName at h
    repeat (first | (obtain ⟨rfl, _⟩ := h; rfl) | (obtain ⟨_, h⟩ := h))
  · exact pss_cons (ps_set (i := 2) sc_l_a_name.nd rfl (Or.inl rfl) (pe_lt (pe_lstU (pa_cons (pe_str) (pa_cons (pe_str) (pa_cons (pe_str) (pa_cons (pe_str) (pa_cons (pe_str) (pa_cons (pe_str) (pa_cons (pe_str) (pa_cons (pe_str) (pa_cons (pe_str) (pa_cons (pe_str) (pa_cons (pe_str) (pa_cons (pe_str) (pa_cons (pe_str) (pa_cons (pe_str) (pa_cons (pe_str) (pa_nil)))))))))))))))))))
      (pss_cons (ps_par (i := 3) (j := 4) rfl sc_l_a_name.nd rfl rfl (by decide) rfl rfl (pa_cons (pe_lcU (own := [("_law_name", 5)]) (g := gName 5) (tt := tB (tNotInU K (tVar 5) (tVar 1))) rfl sc_l_a_name.nd (pi_U (pv 2)) (blkOk_by (N := N_l_a_name) (sc := defScope s_l_a_name) (by decide +kernel)) (fun _ _ _ _ _ => pg_name (i := 5) sc_l_a_name.nd rfl (Or.inl rfl)) (fun _ _ _ _ _ => pts_one (pt_notInU (hu65 hr) (pv 5) (pv 1))) (fun _ _ _ _ _ => pv 5)) (pa_cons (pe_callB call_lenU (by rfl) T.n_len (by decide +kernel) (pa_cons (pv 1) (pa_nil))) (pa_nil))) (by rfl))
      (pss_cons (ps_while PassesOwn.never (pt_inU (hu65 hr) (pe_op op_addU (pe_str) (pe_callTy call_st1 (by rfl) T.n_str (by decide +kernel) (pa_cons (pv 4) (pa_nil)))) (pv 1)) (pss_one (ps_set (i := 4) sc_l_a_name.nd rfl (Or.inl rfl) (pe_op op_addU (pv 4) (pe_int)))))
      (pss_one (ps_ret (pe_c C_l_pick hr (by decide) rfl (pa_cons (pv 0) (pa_cons (pe_op op_addU (pv 3) (pe_lstU (pa_cons (pe_op op_addU (pe_str) (pe_callTy call_st1 (by rfl) T.n_str (by decide +kernel) (pa_cons (pv 4) (pa_nil)))) (pa_nil)))) (pa_nil))))))))

theorem okr_l_a_expr {f : Addr} {fd : FuncData} (F : Fun K "_law_a_expr" "_law_a_expr" s_l_a_expr f fd) (b : Binds K fd ["_law_stream", "_law_known", "_law_ops", "_law_deep"] []) (hf : mg "_law_a_expr" = some (.ref f)) (T : Txt K mg D D2) (C_l_draw : Cal P w K mg base 1 "_law_draw" spDraw []) (C_l_pick : Cal P w K mg base 2 "_law_pick" spPick []) : ∀ m : Nat, Cal P w K mg base (3 + m) "_law_a_expr" (spAExpr m) []
  | 0 => by
    refine ⟨f, fd, ["_law_stream", "_law_known", "_law_ops", "_law_deep"], [], (F.ok (k := 2) sc_l_a_expr (fun vs H Q E h => ?_) (fun cdv A outer s H vs Q E hr h => ?_)), hf, F.kp, b, .nil⟩
    · exact (zero_spAExpr h).elim
    · exact (zero_spAExpr h).elim
  | m + 1 => by
    have C_l_a_expr := okr_l_a_expr F b hf T C_l_draw C_l_pick m
    refine ⟨f, fd, ["_law_stream", "_law_known", "_law_ops", "_law_deep"], [], F.ok (k := 3 + m) sc_l_a_expr (fun vs H Q E h => ?_) (fun cdv A outer s H vs Q E hr h => ⟨t_l_a_expr K m, ?_, rd_l_a_expr K m h⟩), hf, F.kp, b, .nil⟩
    · unfold spAExpr at h
      repeat (first | (obtain ⟨rfl, _⟩ := h; rfl) | (obtain ⟨_, h⟩ := h))
    · exact pss_cons (ps_set (i := 4) sc_l_a_expr.nd rfl (Or.inl rfl) (pe_c C_l_draw hr (by omega) rfl (pa_cons (pv 0) (pa_cons (pe_int) (pa_nil)))))
          (pss_cons (ps_if (PW.pt (pw_and (pt_cmpR (op_neU hr.units) (pv 1) (pe_lt (pe_lstU (pa_nil))) (nomark _)) (pw_and1 (PW.pt (pw_or (pt_cmpR (op_eqU hr.units) (pv 3) (pe_int) (nomark _)) (pw_or1 (pt_cmpR (op_eqU hr.units) (pv 4) (pe_int) (nomark _)))))))) (pss_one (ps_ret (pe_c C_l_pick hr (by omega) rfl (pa_cons (pv 0) (pa_cons (pv 1) (pa_nil)))))) (pss_nil))
          (pss_cons (ps_set (i := 5) sc_l_a_expr.nd rfl (Or.inl rfl) (pe_ifExp (PW.pt (pw_and (pt_cmpR (op_eqU hr.units) (pv 1) (pe_lt (pe_lstU (pa_nil))) (nomark _)) (pw_and1 (pt_cmpR (op_eqU hr.units) (pv 3) (pe_int) (nomark _))))) (pe_int) (pe_c C_l_pick hr (by omega) rfl (pa_cons (pv 0) (pa_cons (pe_lt (pe_lstU (pa_cons (pe_int) (pa_cons (pe_int) (pa_cons (pe_int) (pa_cons (pe_int) (pa_cons (pe_int) (pa_cons (pe_int) (pa_cons (pe_int) (pa_nil)))))))))) (pa_nil))))))
          (pss_one (ps_ret (pe_callTy call_tupOf (by rfl) T.n_tuple (by decide +kernel) (pa_cons (pe_op op_addU (pe_lstU (pa_cons (pe_c C_l_pick hr (by omega) rfl (pa_cons (pv 0) (pa_cons (pv 2) (pa_nil)))) (pa_nil))) (pe_lcU (own := [("_law_k", 6)]) (g := gName 6) (tt := tYes) rfl sc_l_a_expr.nd (pi_range1 rfl T.n_range (pa_cons (pv 5) (pa_nil))) (blkOk_by (N := N_l_a_expr) (sc := defScope s_l_a_expr) (by decide +kernel)) (fun _ _ _ _ _ => pg_name (i := 6) sc_l_a_expr.nd rfl (Or.inl rfl)) (fun _ _ _ _ _ => pts_nil) (fun _ _ _ _ _ => pe_c C_l_a_expr hr (Nat.le_refl _) rfl (pa_cons (pv 0) (pa_cons (pv 1) (pa_cons (pv 2) (pa_cons (pe_callB (call_mx2 rfl) (by rfl) T.n_max (by decide +kernel) (pa_cons (pe_int) (pa_cons (pe_op op_sub (pv 3) (pe_int)) (pa_nil)))) (pa_nil)))))))) (pa_nil)))))))

theorem ok_l_a_lines {f : Addr} {fd : FuncData} (F : Fun K "_law_a_lines" "_law_a_lines" s_l_a_lines f fd) (b : Binds K fd ["_law_stream", "_law_many", "_law_deep"] []) (hf : mg "_law_a_lines" = some (.ref f)) (T : Txt K mg D D2) (C_l_mixed : Cal P w K mg base 2 "_law_mixed" spMixed []) (C_l_draw : Cal P w K mg base 1 "_law_draw" spDraw []) (C_l_a_name : Cal P w K mg base 3 "_law_a_name" spAName []) (C_l_pick : Cal P w K mg base 2 "_law_pick" spPick []) (C_l_a_expr : Cal P w K mg base 8 "_law_a_expr" (spAExpr 5) []) (C_l_each_once : Cal P w K mg base 1 "_law_each_once" spOnce [])  : Cal P w K mg base 9 "_law_a_lines" spALines [] := by
  refine ⟨f, fd, ["_law_stream", "_law_many", "_law_deep"], [], F.ok sc_l_a_lines (fun vs H Q E h => ?_) (fun cdv A outer s H vs Q E hr h => ⟨t_l_a_lines K, ?_, rd_l_a_lines K h⟩), hf, F.kp, b, .nil⟩
  · unfold spALines at h
    repeat (first | (obtain ⟨rfl, _⟩ := h; rfl) | (obtain ⟨_, h⟩ := h))
  · exact pss_cons (ps_set (i := 3) sc_l_a_lines.nd rfl (Or.inl rfl) (pe_slice sl_U (pe_c C_l_mixed hr (by decide) rfl (pa_cons (pv 0) (pa_cons (pe_lt (pe_lstU (pa_cons (pe_str) (pa_cons (pe_str) (pa_cons (pe_str) (pa_cons (pe_str) (pa_cons (pe_str) (pa_cons (pe_str) (pa_nil))))))))) (pa_nil)))) (po_none) (po_some (pe_op op_addU (pe_int) (pe_c C_l_draw hr (by decide) rfl (pa_cons (pv 0) (pa_cons (pe_int) (pa_nil))))))))
      (pss_cons (ps_asg (pe_tupU (pa_cons (pe_lstU (pa_nil)) (pa_cons (pe_lstU (pa_nil)) (pa_cons (pe_lstU (pa_nil)) (pa_nil))))) (pg_tup rfl (pgs_cons (pg_name (i := 4) sc_l_a_lines.nd rfl (Or.inl rfl)) (pgs_cons (pg_name (i := 5) sc_l_a_lines.nd rfl (Or.inl rfl)) (pgs_cons (pg_name (i := 6) sc_l_a_lines.nd rfl (Or.inr rfl)) (pgs_nil))))))
      (pss_cons (ps_forU PassesOwn.never rfl (pi_range1 rfl T.n_range (pa_cons (pe_c C_l_draw hr (by decide) rfl (pa_cons (pv 0) (pa_cons (pe_int) (pa_nil)))) (pa_nil))) (pg_name (i := 7) sc_l_a_lines.nd rfl (Or.inl rfl)) (pss_cons (ps_expr (pe_bm PySem.F.plainAttrs_list PySem.F.slot_list_append PySem.F.type_list_append mt_appendU (pv 4) (pa_cons (pe_tupU (pa_cons (pe_str) (pa_cons (pe_c C_l_a_name hr (by decide) rfl (pa_cons (pv 0) (pa_cons (pv 5) (pa_nil)))) (pa_nil)))) (pa_nil))))
      (pss_one (ps_expr (pe_bm PySem.F.plainAttrs_list PySem.F.slot_list_append PySem.F.type_list_append mt_appendU (pv 5) (pa_cons (pe_ix ix_U (pe_ix ix_U (pv 4) (pe_un un_neg (pe_int)) (fun _ _ => rfl)) (pe_int) (fun _ _ => rfl)) (pa_nil)))))))
      (pss_cons (ps_forU PassesOwn.never rfl (pi_range1 rfl T.n_range (pa_cons (pv 1) (pa_nil))) (pg_name (i := 7) sc_l_a_lines.nd rfl (Or.inl rfl)) (pss_cons (ps_par (i := 8) (j := 9) rfl sc_l_a_lines.nd rfl rfl (by decide) rfl rfl (pa_cons (pe_c C_l_draw hr (by decide) rfl (pa_cons (pv 0) (pa_cons (pe_int) (pa_nil)))) (pa_cons (pe_lcU (own := [("_law_name", 10)]) (g := gName 10) (tt := tB (tNotInU K (tVar 10) (tVar 6))) rfl sc_l_a_lines.nd (pi_U (pv 5)) (blkOk_by (N := N_l_a_lines) (sc := defScope s_l_a_lines) (by decide +kernel)) (fun _ _ _ _ _ => pg_name (i := 10) sc_l_a_lines.nd rfl (Or.inl rfl)) (fun _ _ _ _ _ => pts_one (pt_notInU (hu65 hr) (pv 10) (pv 6))) (fun _ _ _ _ _ => pv 10)) (pa_nil))) (by rfl))
      (pss_cons (ps_if (pt_cmpR (op_eqU hr.units) (pv 8) (pe_int) (nomark _)) (pss_one (ps_expr (pe_bm PySem.F.plainAttrs_list PySem.F.slot_list_append PySem.F.type_list_append mt_appendU (pv 4) (pa_cons (pe_tupU (pa_cons (pe_str) (pa_cons (pe_c C_l_a_name hr (by decide) rfl (pa_cons (pv 0) (pa_cons (pv 5) (pa_nil)))) (pa_nil)))) (pa_nil))))) (pss_one (ps_if (PW.pt (pw_and (pt_cmpR (op_eqU hr.units) (pv 8) (pe_int) (nomark _)) (pw_and1 (pt_cmpR (op_neU hr.units) (pv 9) (pe_lstU (pa_nil)) (nomark _))))) (pss_cons (ps_expr (pe_bm PySem.F.plainAttrs_list PySem.F.slot_list_append PySem.F.type_list_append mt_appendU (pv 4) (pa_cons (pe_tupU (pa_cons (pe_str) (pa_cons (pe_c C_l_pick hr (by decide) rfl (pa_cons (pv 0) (pa_cons (pv 9) (pa_nil)))) (pa_nil)))) (pa_nil))))
      (pss_one (ps_expr (pe_bm PySem.F.plainAttrs_list PySem.F.slot_list_append PySem.F.type_list_append mt_appendU (pv 6) (pa_cons (pe_ix ix_U (pe_ix ix_U (pv 4) (pe_un un_neg (pe_int)) (fun _ _ => rfl)) (pe_int) (fun _ _ => rfl)) (pa_nil)))))) (pss_cons (ps_set (i := 10) sc_l_a_lines.nd rfl (Or.inl rfl) (pe_ifExp (PW.pt (pw_and (pt_cmpR (op_neU hr.units) (pv 5) (pe_lstU (pa_nil)) (nomark _)) (pw_and1 (pt_cmpR op_lt (pv 8) (pe_int) (nomark _))))) (pe_c C_l_pick hr (by decide) rfl (pa_cons (pv 0) (pa_cons (pv 5) (pa_nil)))) (pe_c C_l_a_name hr (by decide) rfl (pa_cons (pv 0) (pa_cons (pv 5) (pa_nil))))))
      (pss_one (ps_expr (pe_bm PySem.F.plainAttrs_list PySem.F.slot_list_append PySem.F.type_list_append mt_appendU (pv 4) (pa_cons (pe_tupU (pa_cons (pe_str) (pa_cons (pv 10) (pa_cons (pe_c C_l_a_expr hr (by decide) rfl (pa_cons (pv 0) (pa_cons (pv 5) (pa_cons (pv 3) (pa_cons (pv 2) (pa_nil)))))) (pa_nil))))) (pa_nil)))))))))
      (pss_one (ps_set (i := 5) sc_l_a_lines.nd rfl (Or.inl rfl) (pe_c C_l_each_once hr (by decide) rfl (pa_cons (pe_op op_addU (pv 5) (pe_lstU (pa_cons (pe_ix ix_U (pe_ix ix_U (pv 4) (pe_un un_neg (pe_int)) (fun _ _ => rfl)) (pe_int) (fun _ _ => rfl)) (pa_nil)))) (pa_nil))))))))
      (pss_cons (ps_set (i := 9) sc_l_a_lines.nd rfl (Or.inl rfl) (pe_c C_l_mixed hr (by decide) rfl (pa_cons (pv 0) (pa_cons (pe_lcU (own := [("_law_name", 10)]) (g := gName 10) (tt := tB (tNotInU K (tVar 10) (tVar 6))) rfl sc_l_a_lines.nd (pi_U (pv 5)) (blkOk_by (N := N_l_a_lines) (sc := defScope s_l_a_lines) (by decide +kernel)) (fun _ _ _ _ _ => pg_name (i := 10) sc_l_a_lines.nd rfl (Or.inl rfl)) (fun _ _ _ _ _ => pts_one (pt_notInU (hu65 hr) (pv 10) (pv 6))) (fun _ _ _ _ _ => pv 10)) (pa_nil)))))
      (pss_one (ps_ret (pe_op op_addU (pv 4) (pe_lcU (own := [("_law_name", 10)]) (g := gName 10) (tt := tYes) rfl sc_l_a_lines.nd (pi_U (pe_slice sl_U (pv 9) (po_none) (po_some (pe_c C_l_pick hr (by decide) rfl (pa_cons (pv 0) (pa_cons (pe_lt (pe_lstU (pa_cons (pe_int) (pa_cons (pe_int) (pa_cons (pe_int) (pa_cons (pe_int) (pa_cons (pe_int) (pa_cons (pe_int) (pa_cons (pe_int) (pa_nil)))))))))) (pa_nil))))))) (blkOk_by (N := N_l_a_lines) (sc := defScope s_l_a_lines) (by decide +kernel)) (fun _ _ _ _ _ => pg_name (i := 10) sc_l_a_lines.nd rfl (Or.inl rfl)) (fun _ _ _ _ _ => pts_nil) (fun _ _ _ _ _ => pe_lt (pe_tupU (pa_cons (pe_str) (pa_cons (pv 10) (pa_nil)))))))))))))

theorem okr_l_same {f : Addr} {fd : FuncData} (F : Fun K "_law_same" "_law_same" s_l_same f fd) (b : Binds K fd ["_law_found", "_law_due"] []) (hf : mg "_law_same" = some (.ref f)) (T : Txt K mg D D2)  : ∀ m : Nat, Cal P w K mg base (1 + m) "_law_same" (spSame m) []
  | 0 => by
    refine ⟨f, fd, ["_law_found", "_law_due"], [], (F.ok (k := 0) sc_l_same (fun vs H Q E h => ?_) (fun cdv A outer s H vs Q E hr h => ?_)), hf, F.kp, b, .nil⟩
    · exact (zero_spSame h).elim
    · exact (zero_spSame h).elim
  | m + 1 => by
    have C_l_same := okr_l_same F b hf T  m
    refine ⟨f, fd, ["_law_found", "_law_due"], [], F.ok (k := 1 + m) sc_l_same (fun vs H Q E h => ?_) (fun cdv A outer s H vs Q E hr h => ⟨t_l_same K m, ?_, rd_l_same K m h⟩), hf, F.kp, b, .nil⟩
    · unfold spSame at h
      repeat (first | (obtain ⟨rfl, _⟩ := h; rfl) | (obtain ⟨_, h⟩ := h))
    · exact pss_cons (ps_if (pt_val (pe_callB call_isiU (by rfl) T.n_isinstance (by decide +kernel) (pa_cons (pv 1) (pa_cons (pe_tupU (pa_cons (pe_bltn rfl T.n_list (by decide +kernel) rfl) (pa_cons (pe_bltn rfl T.n_tuple (by decide +kernel) rfl) (pa_nil)))) (pa_nil))))) (pss_cons (ps_if (PW.pt (pw_or (pt_cmpR (op_neU hr.units) (pe_callB call_isiU (by rfl) T.n_isinstance (by decide +kernel) (pa_cons (pv 0) (pa_cons (pe_bltn rfl T.n_list (by decide +kernel) rfl) (pa_nil)))) (pe_callB call_isiU (by rfl) T.n_isinstance (by decide +kernel) (pa_cons (pv 1) (pa_cons (pe_bltn rfl T.n_list (by decide +kernel) rfl) (pa_nil)))) (nomark _)) (pw_or1 (pt_cmpR (op_neU hr.units) (pe_callB call_isiU (by rfl) T.n_isinstance (by decide +kernel) (pa_cons (pv 0) (pa_cons (pe_bltn rfl T.n_tuple (by decide +kernel) rfl) (pa_nil)))) (pe_callB call_isiU (by rfl) T.n_isinstance (by decide +kernel) (pa_cons (pv 1) (pa_cons (pe_bltn rfl T.n_tuple (by decide +kernel) rfl) (pa_nil)))) (nomark _))))) (pss_one (ps_ret (pe_bl))) (pss_nil))
          (pss_one (ps_ret (pe_and (pe_cmpR (op_eqU hr.units) (pe_callB call_lenU (by rfl) T.n_len (by decide +kernel) (pa_cons (pv 0) (pa_nil))) (pe_callB call_lenU (by rfl) T.n_len (by decide +kernel) (pa_cons (pv 1) (pa_nil))) (nomark _)) (pe_one (pe_callB (call_allU rfl) (by rfl) T.n_all (by decide +kernel) (pa_cons (pe_lcU (own := [("_law_x", 2), ("_law_y", 3)]) (g := gTup K 2 (gCons (gName 2) (gCons (gName 3) (gNil)))) (tt := tYes) rfl sc_l_same.nd (RZ.pi_zipA rfl T.n_zip (pa_cons (pv 0) (pa_cons (pv 1) (pa_nil)))) (blkOk_by (N := N_l_same) (sc := defScope s_l_same) (by decide +kernel)) (fun _ _ _ _ _ => pg_tup rfl (pgs_cons (pg_name (i := 2) sc_l_same.nd rfl (Or.inl rfl)) (pgs_cons (pg_name (i := 3) sc_l_same.nd rfl (Or.inl rfl)) (pgs_nil)))) (fun _ _ _ _ _ => pts_nil) (fun _ _ _ _ _ => pe_c C_l_same hr (Nat.le_refl _) rfl (pa_cons (pv 2) (pa_cons (pv 3) (pa_nil))))) (pa_nil)))))))) (pss_nil))
          (pss_cons (ps_if (pt_val (pe_callB call_isiU (by rfl) T.n_isinstance (by decide +kernel) (pa_cons (pv 1) (pa_cons (pe_bltn rfl T.n_dict (by decide +kernel) rfl) (pa_nil))))) (pss_one (ps_no)) (pss_nil))
          (pss_cons (ps_if (pt_val (pe_callB call_isiU (by rfl) T.n_isinstance (by decide +kernel) (pa_cons (pv 1) (pa_cons (pe_bltn rfl T.n_int (by decide +kernel) rfl) (pa_nil))))) (pss_one (ps_ret (pe_and (pe_callB call_isiU (by rfl) T.n_isinstance (by decide +kernel) (pa_cons (pv 0) (pa_cons (pe_bltn rfl T.n_int (by decide +kernel) rfl) (pa_nil)))) (pe_and (pe_cmpR (op_eqU hr.units) (pe_callB call_isiU (by rfl) T.n_isinstance (by decide +kernel) (pa_cons (pv 0) (pa_cons (pe_bltn rfl T.n_bool (by decide +kernel) rfl) (pa_nil)))) (pe_callB call_isiU (by rfl) T.n_isinstance (by decide +kernel) (pa_cons (pv 1) (pa_cons (pe_bltn rfl T.n_bool (by decide +kernel) rfl) (pa_nil)))) (nomark _)) (pe_one (pe_cmpR (op_eqU hr.units) (pv 0) (pv 1) (nomark _))))))) (pss_nil))
          (pss_one (ps_ret (pe_and (pe_not (pe_callB call_isiU (by rfl) T.n_isinstance (by decide +kernel) (pa_cons (pv 0) (pa_cons (pe_tupU (pa_cons (pe_bltn rfl T.n_int (by decide +kernel) rfl) (pa_cons (pe_bltn rfl T.n_list (by decide +kernel) rfl) (pa_cons (pe_bltn rfl T.n_tuple (by decide +kernel) rfl) (pa_cons (pe_bltn rfl T.n_dict (by decide +kernel) rfl) (pa_nil)))))) (pa_nil))))) (pe_one (pe_cmpR (op_eqU hr.units) (pv 0) (pv 1) (nomark _))))))))

theorem okr_l_loose {f : Addr} {fd : FuncData} (F : Fun K "_law_loose" "_law_loose" s_l_loose f fd) (b : Binds K fd ["_law_stream", "_law_thing"] []) (hf : mg "_law_loose" = some (.ref f)) (T : Txt K mg D D2) (C_l_draw : Cal P w K mg base 1 "_law_draw" spDraw []) : ∀ m : Nat, Cal P w K mg base (2 + m) "_law_loose" (spLoose m) []
  | 0 => by
    refine ⟨f, fd, ["_law_stream", "_law_thing"], [], (F.ok (k := 1) sc_l_loose (fun vs H Q E h => ?_) (fun cdv A outer s H vs Q E hr h => ?_)), hf, F.kp, b, .nil⟩
    · exact (zero_spLoose h).elim
    · exact (zero_spLoose h).elim
  | m + 1 => by
    have C_l_loose := okr_l_loose F b hf T C_l_draw m
    refine ⟨f, fd, ["_law_stream", "_law_thing"], [], F.ok (k := 2 + m) sc_l_loose (fun vs H Q E h => ?_) (fun cdv A outer s H vs Q E hr h => ⟨t_l_loose K m, ?_, rd_l_loose K m h⟩), hf, F.kp, b, .nil⟩
    · unfold spLoose at h
      repeat (first | (obtain ⟨rfl, _⟩ := h; rfl) | (obtain ⟨_, h⟩ := h))
    · exact pss_cons (ps_if (pt_not (pt_val (pe_callB call_isiU (by rfl) T.n_isinstance (by decide +kernel) (pa_cons (pv 1) (pa_cons (pe_tupU (pa_cons (pe_bltn rfl T.n_list (by decide +kernel) rfl) (pa_cons (pe_bltn rfl T.n_tuple (by decide +kernel) rfl) (pa_nil)))) (pa_nil)))))) (pss_one (ps_ret (pv 1))) (pss_nil))
          (pss_cons (ps_setLcU (i := 2) (own := [("_law_part", 3)]) (g := gName 3) (tt := tYes) rfl sc_l_loose.nd rfl rfl (sw_true rfl rfl rfl (by decide +kernel)) (pi_U (pv 1)) (blkOk_by (N := N_l_loose) (sc := defScope s_l_loose) (by decide +kernel)) (fun _ _ _ _ _ => pg_name (i := 3) sc_l_loose.nd rfl (Or.inl rfl)) (fun _ _ _ _ _ => pts_nil) (fun _ _ _ _ _ => pe_c C_l_loose hr (Nat.le_refl _) rfl (pa_cons (pv 0) (pa_cons (pv 3) (pa_nil)))))
          (pss_one (ps_ret (pe_ifExp (pt_cmpR (op_eqU hr.units) (pe_c C_l_draw hr (by omega) rfl (pa_cons (pv 0) (pa_cons (pe_int) (pa_nil)))) (pe_int) (nomark _)) (pv 2) (pe_callTy call_tupOf (by rfl) T.n_tuple (by decide +kernel) (pa_cons (pv 2) (pa_nil)))))))

theorem ok_l_odds {f : Addr} {fd : FuncData} (F : Fun K "_law_odds" "_law_odds" s_l_odds f fd) (b : Binds K fd ["_law_stream", "_law_lines"] []) (hf : mg "_law_odds" = some (.ref f)) (T : Txt K mg D D2) (C_l_pick : Cal P w K mg base 2 "_law_pick" spPick [])  : Cal P w K mg base 3 "_law_odds" spOdds [] := by
  refine ⟨f, fd, ["_law_stream", "_law_lines"], [], F.ok sc_l_odds (fun vs H Q E h => ?_) (fun cdv A outer s H vs Q E hr h => ⟨t_l_odds K, ?_, rd_l_odds K h⟩), hf, F.kp, b, .nil⟩
  · unfold spOdds at h
    repeat (first | (obtain ⟨rfl, _⟩ := h; rfl) | (obtain ⟨_, h⟩ := h))
  · exact pss_cons (ps_set (i := 2) sc_l_odds.nd rfl (Or.inl rfl) (pe_c C_l_pick hr (by decide) rfl (pa_cons (pv 0) (pa_cons (pe_op op_addU (pe_lcU (own := [("_law_line", 5)]) (g := gName 5) (tt := tYes) rfl sc_l_odds.nd (pi_U (pv 1)) (blkOk_by (N := N_l_odds) (sc := defScope s_l_odds) (by decide +kernel)) (fun _ _ _ _ _ => pg_name (i := 5) sc_l_odds.nd rfl (Or.inl rfl)) (fun _ _ _ _ _ => pts_nil) (fun _ _ _ _ _ => pe_ix ix_U (pv 5) (pe_int) (fun _ _ => rfl))) (pe_lt (pe_lstU (pa_cons (pe_str) (pa_nil))))) (pa_nil)))))
      (pss_cons (ps_set (i := 3) sc_l_odds.nd rfl (Or.inl rfl) (pe_lt (pe_lstU (pa_cons (pe_non) (pa_cons (pe_int) (pa_cons (pe_bl) (pa_cons (pe_str) (pa_cons (pe_str) (pa_cons (pe_dnewK) (pa_cons (pe_tupU (pa_nil)) (pa_cons (pe_lstU (pa_nil)) (pa_cons (pe_tupU (pa_cons (pe_str) (pa_nil))) (pa_cons (pe_tupU (pa_cons (pe_str) (pa_cons (pe_str) (pa_nil)))) (pa_cons (pe_tupU (pa_cons (pe_str) (pa_cons (pv 2) (pa_cons (pv 2) (pa_nil))))) (pa_nil)))))))))))))))
      (pss_cons (ps_expr (pe_bm PySem.F.plainAttrs_list PySem.F.slot_list_extend PySem.F.type_list_extend mt_extendU (pv 3) (pa_cons (pe_lt (pe_lstU (pa_cons (pe_tupU (pa_cons (pe_str) (pa_cons (pv 2) (pa_nil)))) (pa_cons (pe_tupU (pa_cons (pe_lstU (pa_cons (pe_str) (pa_nil))) (pa_cons (pv 2) (pa_nil)))) (pa_cons (pe_tupU (pa_cons (pe_str) (pa_cons (pv 2) (pa_nil)))) (pa_cons (pe_tupU (pa_cons (pe_str) (pa_cons (pv 2) (pa_nil)))) (pa_cons (pe_lstU (pa_cons (pe_str) (pa_cons (pe_str) (pa_cons (pv 2) (pa_nil))))) (pa_nil)))))))) (pa_nil))))
      (pss_cons (ps_expr (pe_bm PySem.F.plainAttrs_list PySem.F.slot_list_extend PySem.F.type_list_extend mt_extendU (pv 3) (pa_cons (pe_lt (pe_lstU (pa_cons (pe_tupU (pa_cons (pe_str) (pa_cons (pe_str) (pa_nil)))) (pa_cons (pe_tupU (pa_cons (pe_str) (pa_cons (pv 2) (pa_nil)))) (pa_nil))))) (pa_nil))))
      (pss_cons (ps_forU PassesOwn.never rfl (pi_U (pe_lt (pe_tupU (pa_cons (pe_str) (pa_cons (pe_str) (pa_cons (pe_str) (pa_cons (pe_str) (pa_cons (pe_str) (pa_cons (pe_str) (pa_cons (pe_str) (pa_cons (pe_str) (pa_cons (pe_int) (pa_cons (pe_non) (pa_cons (pe_lstU (pa_cons (pe_str) (pa_nil))) (pa_cons (pe_str) (pa_cons (pe_str) (pa_nil))))))))))))))))) (pg_name (i := 4) sc_l_odds.nd rfl (Or.inl rfl)) (pss_cons (ps_expr (pe_bm PySem.F.plainAttrs_list PySem.F.slot_list_extend PySem.F.type_list_extend mt_extendU (pv 3) (pa_cons (pe_lt (pe_lstU (pa_cons (pe_tupU (pa_cons (pe_str) (pa_cons (pv 4) (pa_nil)))) (pa_cons (pe_lstU (pa_cons (pe_str) (pa_cons (pv 4) (pa_cons (pe_tupU (pa_cons (pe_str) (pa_nil))) (pa_nil))))) (pa_cons (pe_tupU (pa_cons (pe_str) (pa_cons (pe_str) (pa_cons (pe_lstU (pa_cons (pv 4) (pa_nil))) (pa_nil))))) (pa_nil)))))) (pa_nil))))
      (pss_one (ps_expr (pe_bm PySem.F.plainAttrs_list PySem.F.slot_list_append PySem.F.type_list_append mt_appendU (pv 3) (pa_cons (pe_lt (pe_tupU (pa_cons (pe_str) (pa_cons (pe_str) (pa_cons (pe_tupU (pa_cons (pe_str) (pa_cons (pe_lstU (pa_cons (pv 4) (pa_cons (pv 2) (pa_nil)))) (pa_nil)))) (pa_nil)))))) (pa_nil)))))))
      (pss_cons (ps_forU PassesOwn.never rfl (pi_U (pe_lt (pe_tupU (pa_cons (pe_non) (pa_cons (pe_int) (pa_cons (pe_bl) (pa_cons (pe_tupU (pa_nil)) (pa_cons (pe_str) (pa_cons (pe_dnewK) (pa_cons (pe_lstU (pa_cons (pe_int) (pa_nil))) (pa_cons (pe_tupU (pa_cons (pe_str) (pa_cons (pe_non) (pa_nil)))) (pa_cons (pe_lstU (pa_cons (pe_str) (pa_cons (pe_tupU (pa_cons (pe_str) (pa_cons (pe_str) (pa_nil)))) (pa_nil)))) (pa_cons (pe_lstU (pa_cons (pe_tupU (pa_cons (pe_str) (pa_nil))) (pa_nil))) (pa_cons (pe_tupU (pa_cons (pe_str) (pa_cons (pe_str) (pa_cons (pe_tupU (pa_nil)) (pa_nil))))) (pa_nil))))))))))))))) (pg_name (i := 4) sc_l_odds.nd rfl (Or.inl rfl)) (pss_one (ps_expr (pe_bm PySem.F.plainAttrs_list PySem.F.slot_list_append PySem.F.type_list_append mt_appendU (pv 3) (pa_cons (pe_lt (pe_tupU (pa_cons (pe_str) (pa_cons (pe_str) (pa_cons (pv 4) (pa_nil)))))) (pa_nil))))))
      (pss_one (ps_ret (pv 3))))))))

theorem okm_p_BadLines_init {f : Addr} {fd : FuncData} (F : Fun K "__init__" "BadLines.__init__" s_p_BadLines_init f fd) (T : Txt K mg D D2)   : FnOk P w K mg base CX0 1 f fd ["self", "index"] (spOneF "index" D2.cBad) := by
  refine F.ok sc_p_BadLines_init (fun vs H Q E h => ?_) (fun cdv A outer s H vs Q E hr h => ⟨t_p_BadLines_init K D2, ?_, rd_p_BadLines_init T.oex T.noIndex h⟩)
  · unfold spOneF at h
    repeat (first | (obtain ⟨rfl, _⟩ := h; rfl) | (obtain ⟨_, h⟩ := h))
  · exact pss_one (ps_ost (pv 0) (pv 1))

theorem okm_p_Source_init {f : Addr} {fd : FuncData} (F : Fun K "__init__" "Source.__init__" s_p_Source_init f fd) (T : Txt K mg D D2) (C_p_is_list : Cal P w K mg base 1 "is_list" (spIsList K) []) (C_p_is_line : Cal P w K mg base 3 "is_line" spPIsLine []) (C_p_as_tuples : Cal P w K mg base 31 "as_tuples" (spAsTuples 30) []) (B_bad : OwnErr P w K mg base 1 "BadLines" D2.cBad (spOneF "index" D2.cBad)) : FnOk P w K mg base (L2.CX P w) 32 f fd ["self", "lines"] (spSInit D2.cSrc D2.cBad) := by
  refine F.okX sc_p_Source_init (fun vs H Q E h => ?_) (fun cdv A outer s H vs Q E hr h => ⟨t_p_Source_init K D2 E, ?_, rd_p_Source_init T.src h⟩)
  · unfold spSInit at h
    repeat (first | (obtain ⟨rfl, _⟩ := h; rfl) | (obtain ⟨_, h⟩ := h))
  · exact pss_cons (ps_par (i := 2) (j := 3) rfl sc_p_Source_init.nd rfl rfl (by decide) rfl rfl (pa_cons (pe_dnewK) (pa_cons (pe_dnewK) (pa_nil))) (by rfl))
      (pss_cons (ps_if (pt_not (pt_val (pe_c C_p_is_list hr (by decide) rfl (pa_cons (pv 1) (pa_nil))))) (pss_one (ps_rz B_bad rfl hr (by decide) (takes_of rfl rfl rfl rfl) rfl (pa_cons (pe_int) (pa_nil)))) (pss_nil))
      (pss_cons (ps_forU PassesOwn.leaving rfl (pi_enumU rfl T.n_enumerate (pa_cons (pv 1) (pa_nil))) (pg_tup rfl (pgs_cons (pg_name (i := 4) sc_p_Source_init.nd rfl (Or.inl rfl)) (pgs_cons (pg_name (i := 5) sc_p_Source_init.nd rfl (Or.inl rfl)) (pgs_nil)))) (pss_cons (ps_if (pt_not (pt_val (pe_c C_p_is_line hr (by decide) rfl (pa_cons (pv 2) (pa_cons (pv 3) (pa_cons (pv 5) (pa_nil))))))) (pss_one (ps_rz B_bad rfl hr (by decide) (takes_of rfl rfl rfl rfl) rfl (pa_cons (pv 4) (pa_nil)))) (pss_nil))
      (pss_cons (ps_asg (pe_bl) (pg_sub (pv 2) (pe_ix ix_U (pv 5) (pe_int) (fun _ _ => rfl)) (set_U (hu_of hr))))
      (pss_one (ps_if (pt_cmpR (op_eqU hr.units) (pe_ix ix_U (pv 5) (pe_int) (fun _ _ => rfl)) (pe_str) (nomark _)) (pss_one (ps_asg (pe_bl) (pg_sub (pv 3) (pe_ix ix_U (pv 5) (pe_int) (fun _ _ => rfl)) (set_U (hu_of hr))))) (pss_nil))))))
      (pss_one (ps_fld (pv 0) (pe_c C_p_as_tuples hr (by decide) rfl (pa_cons (pv 1) (pa_nil))) rfl))))

theorem okm_p_Source_lines {f : Addr} {fd : FuncData} (F : Fun K "lines" "Source.lines" s_p_Source_lines f fd) (T : Txt K mg D D2)   : FnOk P w K mg base CX0 1 f fd ["self"] (spSLines D2.cSrc) := by
  refine F.ok sc_p_Source_lines (fun vs H Q E h => ?_) (fun cdv A outer s H vs Q E hr h => ⟨t_p_Source_lines K D2, ?_, rd_p_Source_lines T.src h⟩)
  · unfold spSLines at h
    repeat (first | (obtain ⟨rfl, _⟩ := h; rfl) | (obtain ⟨_, h⟩ := h))
  · exact pss_one (ps_ret (pe_callTy call_lstOf (by rfl) T.n_list (by decide +kernel) (pa_cons (pe_fld (pv 0) rfl) (pa_nil))))

theorem okm_p_Source_reads {f : Addr} {fd : FuncData} (F : Fun K "reads" "Source.reads" s_p_Source_reads f fd) (T : Txt K mg D D2)   : FnOk P w K mg base CX0 1 f fd ["self"] (spSNames "read" D2.cSrc) := by
  refine F.ok sc_p_Source_reads (fun vs H Q E h => ?_) (fun cdv A outer s H vs Q E hr h => ⟨t_p_Source_reads K D2, ?_, rd_p_Source_reads T.src h⟩)
  · unfold spSNames at h
    repeat (first | (obtain ⟨rfl, _⟩ := h; rfl) | (obtain ⟨_, h⟩ := h))
  · exact pss_one (ps_ret (pe_lcU (own := [("line", 1)]) (g := gName 1) (tt := tTest (tOp (rEqU K) (tOp (rIxU K) (tVar 1) (tC (.int 0))) (tC (.str "read")))) rfl sc_p_Source_reads.nd (pi_U (pe_fld (pv 0) rfl)) (blkOk_by (N := N_p_Source_reads) (sc := defScope s_p_Source_reads) (by decide +kernel)) (fun _ _ _ _ _ => pg_name (i := 1) sc_p_Source_reads.nd rfl (Or.inl rfl)) (fun _ _ _ _ _ => pts_one (pt_cmpR (op_eqU hr.units) (pe_ix ix_U (pv 1) (pe_int) (fun _ _ => rfl)) (pe_str) (nomark _))) (fun _ _ _ _ _ => pe_ix ix_U (pv 1) (pe_int) (fun _ _ => rfl))))

theorem okm_p_Source_tells {f : Addr} {fd : FuncData} (F : Fun K "tells" "Source.tells" s_p_Source_tells f fd) (T : Txt K mg D D2)   : FnOk P w K mg base CX0 1 f fd ["self"] (spSNames "tell" D2.cSrc) := by
  refine F.ok sc_p_Source_tells (fun vs H Q E h => ?_) (fun cdv A outer s H vs Q E hr h => ⟨t_p_Source_tells K D2, ?_, rd_p_Source_tells T.src h⟩)
  · unfold spSNames at h
    repeat (first | (obtain ⟨rfl, _⟩ := h; rfl) | (obtain ⟨_, h⟩ := h))
  · exact pss_one (ps_ret (pe_lcU (own := [("line", 1)]) (g := gName 1) (tt := tTest (tOp (rEqU K) (tOp (rIxU K) (tVar 1) (tC (.int 0))) (tC (.str "tell")))) rfl sc_p_Source_tells.nd (pi_U (pe_fld (pv 0) rfl)) (blkOk_by (N := N_p_Source_tells) (sc := defScope s_p_Source_tells) (by decide +kernel)) (fun _ _ _ _ _ => pg_name (i := 1) sc_p_Source_tells.nd rfl (Or.inl rfl)) (fun _ _ _ _ _ => pts_one (pt_cmpR (op_eqU hr.units) (pe_ix ix_U (pv 1) (pe_int) (fun _ _ => rfl)) (pe_str) (nomark _))) (fun _ _ _ _ _ => pe_ix ix_U (pv 1) (pe_int) (fun _ _ => rfl))))

theorem okm_p_Source_eq {f : Addr} {fd : FuncData} (F : Fun K "__eq__" "Source.__eq__" s_p_Source_eq f fd) (T : Txt K mg D D2)   : FnOk P w K mg base CX0 1 f fd ["self", "other"] (spSEq D2.cSrc) := by
  refine F.ok sc_p_Source_eq (fun vs H Q E h => ?_) (fun cdv A outer s H vs Q E hr h => ⟨t_p_Source_eq K D2, ?_, rd_p_Source_eq T.src h⟩)
  · unfold spSEq at h
    repeat (first | (obtain ⟨rfl, _⟩ := h; rfl) | (obtain ⟨_, h⟩ := h))
  · exact pss_one (ps_ret (pe_and (pe_callB call_isiU (by rfl) T.n_isinstance (by decide +kernel) (pa_cons (pv 1) (pa_cons (pe_gc rfl ⟨_, T.g_Source, rfl⟩) pa_nil))) (pe_one (pe_cmpR (op_eqU hr.units) (pe_fld (pv 0) rfl) (pe_fld (pv 1) rfl) (nomark _)))))

theorem ok_l_met {f : Addr} {fd : FuncData} (F : Fun K "_law_met" "_law_met" s_l_met f fd) (b : Binds K fd ["_law_thing"] []) (hf : mg "_law_met" = some (.ref f)) (T : Txt K mg D D2)  (B_bad : OwnErr P w K mg base 1 "BadLines" D2.cBad (spOneF "index" D2.cBad)) {fI : Addr} {fdI : FuncData} (M_src : Mk K D2.cSrc fI) (F_init : FnOk P w K mg base (L2.CX P w) 32 fI fdI ["self", "lines"] (spSInit D2.cSrc D2.cBad)) (b_init : Binds K fdI ["self", "lines"] []) : Cal P w K mg base 34 "_law_met" (spMet D2.cSrc) [] := by
  refine ⟨f, fd, ["_law_thing"], [], F.ok sc_l_met (fun vs H Q E h => ?_) (fun cdv A outer s H vs Q E hr h => ⟨t_l_met K D2, ?_, rd_l_met T.te h⟩), hf, F.kp, b, .nil⟩
  · unfold spMet at h
    repeat (first | (obtain ⟨rfl, _⟩ := h; rfl) | (obtain ⟨_, h⟩ := h))
  · exact pss_one (ps_try_as (i := 1) (tb := fun W => tSeq (tDrop (tMakeS D2.cSrc (spSInit D2.cSrc D2.cBad) (WE W) (tCons (tVar 0) tNil))) (tRet (tC .non))) (ts := fun a cls d => tRet (tXf a cls d D2.cBad "index" (tVar 1))) (Wout := fun _ _ _ _ => False) rfl rfl sc_l_met.nd rfl rfl ⟨rfl, by decide, .inl B_bad.gC⟩ takes0
      (fun W pn xe tk _ => pss_cons (ps_expr (pe_makeS M_src F_init (hr.mono (by decide)) rfl T.g_Source b_init (fun σ => passAt tk σ) (by exact (pa_cons (pv 0) pa_nil)))) (pss_one (ps_ret pe_non)))
      (fun a oe cls d pn hz hf => pss_one (ps_ret (pe_xf T.xf T.noIndex hz hf (pv 1)))))

theorem ok_l_told_right {f : Addr} {fd : FuncData} (F : Fun K "_law_told_right" "_law_told_right" s_l_told_right f fd) (b : Binds K fd ["_law_stream", "_law_lines"] []) (T : Txt K mg D D2) (C_l_loose : Cal P w K mg base 22 "_law_loose" (spLoose 20) []) (C_l_same : Cal P w K mg base 21 "_law_same" (spSame 20) []) (C_l_fault : Cal P w K mg base 32 "_law_fault" spFault []) (B_bad : OwnErr P w K mg base 1 "BadLines" D2.cBad (spOneF "index" D2.cBad)) {fI : Addr} {fdI : FuncData} (M_src : Mk K D2.cSrc fI) (F_init : FnOk P w K mg base (L2.CX P w) 32 fI fdI ["self", "lines"] (spSInit D2.cSrc D2.cBad)) (b_init : Binds K fdI ["self", "lines"] []) (kb_init : KBn K fdI ["self", "lines"] 1 ["lines"] (fun us ws => us ++ ws) (fun vs zs => vs ++ zs)) {fL fR fT fE : Addr} {fdL fdR fdT fdE : FuncData} (m_lines : Meth K D2.cSrc "lines" fL) (F_lines : FnOk P w K mg base CX0 1 fL fdL ["self"] (spSLines D2.cSrc)) (b_lines : Binds K fdL ["self"] [])
    (m_reads : Meth K D2.cSrc "reads" fR) (F_reads : FnOk P w K mg base CX0 1 fR fdR ["self"] (spSNames "read" D2.cSrc)) (b_reads : Binds K fdR ["self"] []) (m_tells : Meth K D2.cSrc "tells" fT) (F_tells : FnOk P w K mg base CX0 1 fT fdT ["self"] (spSNames "tell" D2.cSrc)) (b_tells : Binds K fdT ["self"] [])
    (O_src : OwnE K D2.cSrc fE) (F_eq : FnOk P w K mg base CX0 1 fE fdE ["self", "other"] (spSEq D2.cSrc)) (b_eq : Binds K fdE ["self", "other"] []) : FnG P w K mg base 34 f ["_law_stream", "_law_lines"] spTold := by
  refine Fun.okG F sc_l_told_right b (fun vs H Q E h => ?_) (fun cdv A outer s H vs Q E hg hr h => ⟨t_l_told_right K D2, ?_, rd_l_told_right h⟩)
  · unfold spTold at h
    repeat (first | (obtain ⟨rfl, _⟩ := h; rfl) | (obtain ⟨_, h⟩ := h))
  · exact pss_cons (ps_set (i := 2) sc_l_told_right.nd rfl (Or.inl rfl) (pe_c C_l_loose hr (by decide) rfl (pa_cons (pv 0) (pa_cons (pv 1) (pa_nil)))))
      (pss_cons (ps_par (i := 3) (j := 4) rfl sc_l_told_right.nd rfl rfl (by decide) rfl rfl (pa_cons (pe_callB (call_repr hg (hu65 hr)) (by rfl) T.n_repr (by decide +kernel) (pa_cons (pv 2) (pa_nil))) (pa_cons (pe_makeKU M_src F_init (hr.mono (by decide)) rfl T.g_Source kb_init passX (pv 2)) (pa_nil))) (by rfl))
      (pss_cons (ps_set (i := 5) sc_l_told_right.nd rfl (Or.inl rfl) (pe_lstU (pa_cons (pv 1) (pa_cons (pe_lcU (own := [("_law_line", 8)]) (g := gName 8) (tt := tTest (tOp (rEqU K) (tOp (rIxU K) (tVar 8) (tC (.int 0))) (tC (.str "read")))) rfl sc_l_told_right.nd (pi_U (pv 1)) (blkOk_by (N := N_l_told_right) (sc := defScope s_l_told_right) (by decide +kernel)) (fun _ _ _ _ _ => pg_name (i := 8) sc_l_told_right.nd rfl (Or.inl rfl)) (fun _ _ _ _ _ => pts_one (pt_cmpR (op_eqU hr.units) (pe_ix ix_U (pv 8) (pe_int) (fun _ _ => rfl)) (pe_str) (nomark _))) (fun _ _ _ _ _ => pe_ix ix_U (pv 8) (pe_int) (fun _ _ => rfl))) (pa_cons (pe_lcU (own := [("_law_line", 8)]) (g := gName 8) (tt := tTest (tOp (rEqU K) (tOp (rIxU K) (tVar 8) (tC (.int 0))) (tC (.str "tell")))) rfl sc_l_told_right.nd (pi_U (pv 1)) (blkOk_by (N := N_l_told_right) (sc := defScope s_l_told_right) (by decide +kernel)) (fun _ _ _ _ _ => pg_name (i := 8) sc_l_told_right.nd rfl (Or.inl rfl)) (fun _ _ _ _ _ => pts_one (pt_cmpR (op_eqU hr.units) (pe_ix ix_U (pv 8) (pe_int) (fun _ _ => rfl)) (pe_str) (nomark _))) (fun _ _ _ _ _ => pe_ix ix_U (pv 8) (pe_int) (fun _ _ => rfl))) (pa_nil))))))
      (pss_cons (ps_if (PW.pt (pw_or (pt_not (pt_val (pe_c C_l_same hr (by decide) rfl (pa_cons (pe_lstU (pa_cons (pe_meth0 (pv 4) T.src.cl m_lines F_lines (hr.mono (by decide)) b_lines .nil pass0) (pa_cons (pe_meth0 (pv 4) T.src.cl m_reads F_reads (hr.mono (by decide)) b_reads .nil pass0) (pa_cons (pe_meth0 (pv 4) T.src.cl m_tells F_tells (hr.mono (by decide)) b_tells .nil pass0) (pa_nil))))) (pa_cons (pv 5) (pa_nil)))))) (pw_or1 (pt_cmpR (op_neU hr.units) (pe_callB (call_repr hg (hu65 hr)) (by rfl) T.n_repr (by decide +kernel) (pa_cons (pv 2) (pa_nil))) (pv 3) (nomark _))))) (pss_one (ps_ret (pe_bl))) (pss_nil))
      (pss_cons (ps_if (pt_val (pe_callB call_isiU (by rfl) T.n_isinstance (by decide +kernel) (pa_cons (pv 2) (pa_cons (pe_bltn rfl T.n_list (by decide +kernel) rfl) (pa_nil))))) (pss_one (ps_expr (pe_bm PySem.F.plainAttrs_list PySem.F.slot_list_append PySem.F.type_list_append mt_appendU (pv 2) (pa_cons (pe_lt (pe_tupU (pa_cons (pe_str) (pa_cons (pe_str) (pa_nil))))) (pa_nil))))) (pss_nil))
      (pss_cons (ps_forU PassesOwn.never rfl (pi_U (pe_tupU (pa_cons (pe_meth0 (pv 4) T.src.cl m_lines F_lines (hr.mono (by decide)) b_lines .nil pass0) (pa_cons (pe_meth0 (pv 4) T.src.cl m_reads F_reads (hr.mono (by decide)) b_reads .nil pass0) (pa_cons (pe_meth0 (pv 4) T.src.cl m_tells F_tells (hr.mono (by decide)) b_tells .nil pass0) (pa_nil)))))) (pg_name (i := 6) sc_l_told_right.nd rfl (Or.inl rfl)) (pss_one (ps_expr (pe_bm PySem.F.plainAttrs_list PySem.F.slot_list_append PySem.F.type_list_append mt_appendU (pv 6) (pa_cons (pe_str) (pa_nil))))))
      (pss_cons (ps_if (pt_not (pt_val (pe_c C_l_same hr (by decide) rfl (pa_cons (pe_lstU (pa_cons (pe_meth0 (pv 4) T.src.cl m_lines F_lines (hr.mono (by decide)) b_lines .nil pass0) (pa_cons (pe_meth0 (pv 4) T.src.cl m_reads F_reads (hr.mono (by decide)) b_reads .nil pass0) (pa_cons (pe_meth0 (pv 4) T.src.cl m_tells F_tells (hr.mono (by decide)) b_tells .nil pass0) (pa_nil))))) (pa_cons (pv 5) (pa_nil)))))) (pss_one (ps_ret (pe_bl))) (pss_nil))
      (pss_cons (ps_if (PW.pt (pw_or (pt_not (pt_cmpR (op_eqOwn O_src F_eq b_eq pass0 (hr.mono (by decide))) (pv 4) (pe_makeU M_src F_init (hr.mono (by decide)) rfl T.g_Source b_init passX (pa_cons (pv 1) (pa_nil))) (nomark _))) (pw_or (pt_cmpR (op_neOwn O_src F_eq b_eq pass0 (hr.mono (by decide))) (pv 4) (pe_makeU M_src F_init (hr.mono (by decide)) rfl T.g_Source b_init passX (pa_cons (pv 1) (pa_nil))) (nomark _)) (pw_or (pt_cmpR (op_eqOwn O_src F_eq b_eq pass0 (hr.mono (by decide))) (pv 4) (pv 1) (nomark _)) (pw_or1 (pt_not (pt_cmpR (op_neOwn O_src F_eq b_eq pass0 (hr.mono (by decide))) (pv 4) (pe_callTy call_tupOf (by rfl) T.n_tuple (by decide +kernel) (pa_cons (pv 1) (pa_nil))) (nomark _)))))))) (pss_one (ps_ret (pe_bl))) (pss_nil))
      (pss_cons (ps_forU PassesOwn.never rfl (pi_U (pe_tupU (pa_cons (pe_slice sl_U (pv 1) (po_none) (po_some (pe_un un_neg (pe_int)))) (pa_cons (pe_op op_addU (pv 1) (pe_lt (pe_lstU (pa_cons (pe_tupU (pa_cons (pe_str) (pa_cons (pe_str) (pa_nil)))) (pa_nil))))) (pa_cons (pe_revL (pv 1)) (pa_nil)))))) (pg_name (i := 7) sc_l_told_right.nd rfl (Or.inl rfl)) (pss_one (ps_if (PW.pt (pw_and (pt_cmpR op_isN (pe_c C_l_fault hr (by decide) rfl (pa_cons (pv 7) (pa_nil))) (pe_non) (nomark _)) (pw_and1 (pt_cmpR (op_neU hr.units) (pe_cmpR (op_eqOwn O_src F_eq b_eq pass0 (hr.mono (by decide))) (pv 4) (pe_makeU M_src F_init (hr.mono (by decide)) rfl T.g_Source b_init passX (pa_cons (pv 7) (pa_nil))) (nomark _)) (pe_cmpR (op_eqU hr.units) (pv 7) (pv 1) (nomark _)) (nomark _))))) (pss_one (ps_ret (pe_bl))) (pss_nil))))
      (pss_one (ps_ret (pe_bl)))))))))))

theorem ok_law {f : Addr} {fd : FuncData} (F : Fun K "law" "law" s_law f fd) (b : Binds K fd ["_law_script"] []) (T : Txt K mg D D2) (C_l_start : Cal P w K mg base 1 "_law_start" (spStart K) []) (C_l_draw : Cal P w K mg base 1 "_law_draw" spDraw []) (C_l_a_lines : Cal P w K mg base 9 "_law_a_lines" spALines []) (C_l_fault : Cal P w K mg base 32 "_law_fault" spFault []) (C_l_told_right : CalG P w K mg base 34 "_law_told_right" spTold) (C_l_odds : Cal P w K mg base 3 "_law_odds" spOdds []) (C_l_mixed : Cal P w K mg base 2 "_law_mixed" spMixed []) (C_l_pick : Cal P w K mg base 2 "_law_pick" spPick []) (C_l_met : Cal P w K mg base 34 "_law_met" (spMet D2.cSrc) []) (C_l_same : Cal P w K mg base 21 "_law_same" (spSame 20) []) (B_bad : OwnErr P w K mg base 1 "BadLines" D2.cBad (spOneF "index" D2.cBad)) {fI : Addr} {fdI : FuncData} (M_src : Mk K D2.cSrc fI) (F_init : FnOk P w K mg base (L2.CX P w) 32 fI fdI ["self", "lines"] (spSInit D2.cSrc D2.cBad)) (b_init : Binds K fdI ["self", "lines"] []) (kb_init : KBn K fdI ["self", "lines"] 1 ["lines"] (fun us ws => us ++ ws) (fun vs zs => vs ++ zs)) {fL fR fT fE : Addr} {fdL fdR fdT fdE : FuncData} (m_lines : Meth K D2.cSrc "lines" fL) (F_lines : FnOk P w K mg base CX0 1 fL fdL ["self"] (spSLines D2.cSrc)) (b_lines : Binds K fdL ["self"] [])
    (m_reads : Meth K D2.cSrc "reads" fR) (F_reads : FnOk P w K mg base CX0 1 fR fdR ["self"] (spSNames "read" D2.cSrc)) (b_reads : Binds K fdR ["self"] []) (m_tells : Meth K D2.cSrc "tells" fT) (F_tells : FnOk P w K mg base CX0 1 fT fdT ["self"] (spSNames "tell" D2.cSrc)) (b_tells : Binds K fdT ["self"] [])
    (O_src : OwnE K D2.cSrc fE) (F_eq : FnOk P w K mg base CX0 1 fE fdE ["self", "other"] (spSEq D2.cSrc)) (b_eq : Binds K fdE ["self", "other"] []) : FnG P w K mg base 35 f ["_law_script"] (spLaw K) := by
  refine Fun.okG F sc_law b (fun vs H Q E h => ?_) (fun cdv A outer s H vs Q E hg hr h => ⟨t_law K D2, ?_, rd_law h⟩)
  · unfold spLaw at h
    repeat (first | (obtain ⟨rfl, _⟩ := h; rfl) | (obtain ⟨_, h⟩ := h))
  · exact pss_cons (ps_set (i := 1) sc_law.nd rfl (Or.inl rfl) (pe_c C_l_start hr (by decide) rfl (pa_cons (pv 0) (pa_nil))))
      (pss_cons (ps_forU PassesOwn.never rfl (pi_range1 rfl T.n_range (pa_cons (pe_int) (pa_nil))) (pg_name (i := 2) sc_law.nd rfl (Or.inl rfl)) (pss_cons (ps_set (i := 3) sc_law.nd rfl (Or.inl rfl) (pe_c C_l_a_lines hr (by decide) rfl (pa_cons (pv 1) (pa_cons (pe_op op_addU (pe_int) (pe_c C_l_draw hr (by decide) rfl (pa_cons (pv 1) (pa_cons (pe_int) (pa_nil))))) (pa_cons (pe_c C_l_draw hr (by decide) rfl (pa_cons (pv 1) (pa_cons (pe_int) (pa_nil)))) (pa_nil))))))
      (pss_cons (ps_if (PW.pt (pw_or (pt_cmpR op_notN (pe_c C_l_fault hr (by decide) rfl (pa_cons (pv 3) (pa_nil))) (pe_non) (nomark _)) (pw_or1 (pt_not (pt_val (pe_cG C_l_told_right hg hr (by decide) rfl (pa_cons (pv 1) (pa_cons (pv 3) (pa_nil))))))))) (pss_one (ps_ret (pe_bl))) (pss_nil))
      (pss_cons (ps_forU PassesOwn.never rfl (pi_U (pe_slice sl_U (pe_c C_l_mixed hr (by decide) rfl (pa_cons (pv 1) (pa_cons (pe_c C_l_odds hr (by decide) rfl (pa_cons (pv 1) (pa_cons (pv 3) (pa_nil)))) (pa_nil)))) (po_none) (po_some (pe_int)))) (pg_name (i := 4) sc_law.nd rfl (Or.inl rfl)) (pss_cons (ps_set (i := 5) sc_law.nd rfl (Or.inl rfl) (pe_c C_l_draw hr (by decide) rfl (pa_cons (pv 1) (pa_cons (pe_op op_addU (pe_callB call_lenU (by rfl) T.n_len (by decide +kernel) (pa_cons (pv 3) (pa_nil))) (pe_int)) (pa_nil)))))
      (pss_cons (ps_set (i := 6) sc_law.nd rfl (Or.inl rfl) (pe_op op_addU (pe_op op_addU (pe_slice sl_U (pv 3) (po_none) (po_some (pv 5))) (pe_lt (pe_lstU (pa_cons (pv 4) (pa_nil))))) (pe_slice sl_U (pv 3) (po_some (pe_op op_addU (pv 5) (pe_c C_l_draw hr (by decide) rfl (pa_cons (pv 1) (pa_cons (pe_int) (pa_nil)))))) (po_none))))
      (pss_one (ps_if (pt_not (pt_val (pe_c C_l_same hr (by decide) rfl (pa_cons (pe_lstU (pa_cons (pe_c C_l_met hr (by decide) rfl (pa_cons (pe_c C_l_pick hr (by decide) rfl (pa_cons (pv 1) (pa_cons (pe_lstU (pa_cons (pv 6) (pa_cons (pe_callTy call_tupOf (by rfl) T.n_tuple (by decide +kernel) (pa_cons (pv 6) (pa_nil))) (pa_nil)))) (pa_nil)))) (pa_nil))) (pa_nil))) (pa_cons (pe_lstU (pa_cons (pe_c C_l_fault hr (by decide) rfl (pa_cons (pv 6) (pa_nil))) (pa_nil))) (pa_nil)))))) (pss_one (ps_ret (pe_bl))) (pss_nil))))))
      (pss_one (ps_forU PassesOwn.never rfl (pi_range1 rfl T.n_range (pa_cons (pe_int) (pa_nil))) (pg_name (i := 7) sc_law.nd rfl (Or.inl rfl)) (pss_cons (ps_set (i := 6) sc_law.nd rfl (Or.inl rfl) (pe_callTy call_lstOf (by rfl) T.n_list (by decide +kernel) (pa_cons (pv 3) (pa_nil))))
      (pss_cons (ps_expr (pe_bm PySem.F.plainAttrs_list PySem.F.slot_list_insert PySem.F.type_list_insert mt_insertU (pv 6) (pa_cons (pe_c C_l_draw hr (by decide) rfl (pa_cons (pv 1) (pa_cons (pe_op op_addU (pe_callB call_lenU (by rfl) T.n_len (by decide +kernel) (pa_cons (pv 3) (pa_nil))) (pe_int)) (pa_nil)))) (pa_cons (pe_bm PySem.F.plainAttrs_list PySem.F.slot_list_pop PySem.F.type_list_pop mt_popAtU (pv 6) (pa_cons (pe_c C_l_draw hr (by decide) rfl (pa_cons (pv 1) (pa_cons (pe_callB call_lenU (by rfl) T.n_len (by decide +kernel) (pa_cons (pv 3) (pa_nil))) (pa_nil)))) (pa_nil))) (pa_nil)))))
      (pss_one (ps_if (pt_not (pt_val (pe_c C_l_same hr (by decide) rfl (pa_cons (pe_lstU (pa_cons (pe_c C_l_met hr (by decide) rfl (pa_cons (pv 6) (pa_nil))) (pa_cons (pe_c C_l_met hr (by decide) rfl (pa_cons (pe_op op_mulU (pv 6) (pe_int)) (pa_nil))) (pa_nil)))) (pa_cons (pe_lstU (pa_cons (pe_c C_l_fault hr (by decide) rfl (pa_cons (pv 6) (pa_nil))) (pa_cons (pe_c C_l_fault hr (by decide) rfl (pa_cons (pe_op op_mulU (pv 6) (pe_int)) (pa_nil))) (pa_nil)))) (pa_nil)))))) (pss_one (ps_ret (pe_bl))) (pss_nil)))))))))))
      (pss_cons (ps_setLcU (i := 8) (own := [("_law_odd", 4)]) (g := gName 4) (tt := tYes) rfl sc_law.nd rfl rfl (sw_true rfl rfl rfl (by decide +kernel)) (pi_U (pe_tupU (pa_cons (pe_non) (pa_cons (pe_int) (pa_cons (pe_str) (pa_cons (pe_dnewK) (pa_cons (pe_bl) (pa_cons (pe_makeU M_src F_init (hr.mono (by decide)) rfl T.g_Source b_init passX (pa_cons (pe_lstU (pa_nil)) (pa_nil))) (pa_cons (pe_lt (pe_tupU (pa_cons (pe_str) (pa_cons (pe_str) (pa_nil))))) (pa_nil)))))))))) (blkOk_by (N := N_law) (sc := defScope s_law) (by decide +kernel)) (fun _ _ _ _ _ => pg_name (i := 4) sc_law.nd rfl (Or.inl rfl)) (fun _ _ _ _ _ => pts_nil) (fun _ _ _ _ _ => pe_c C_l_met hr (by decide) rfl (pa_cons (pv 4) (pa_nil))))
      (pss_one (ps_ret (pe_and (pe_c C_l_same hr (by decide) rfl (pa_cons (pv 8) (pa_cons (pe_op op_mulU (pe_lt (pe_lstU (pa_cons (pe_int) (pa_nil)))) (pe_int)) (pa_nil)))) (pe_one (pe_c C_l_same hr (by decide) rfl (pa_cons (pe_lstU (pa_cons (pe_meth0 (pe_makeU M_src F_init (hr.mono (by decide)) rfl T.g_Source b_init passX (pa_cons (pe_lstU (pa_nil)) (pa_nil))) T.src.cl m_lines F_lines (hr.mono (by decide)) b_lines .nil pass0) (pa_cons (pe_meth0 (pe_makeU M_src F_init (hr.mono (by decide)) rfl T.g_Source b_init passX (pa_cons (pe_tupU (pa_nil)) (pa_nil))) T.src.cl m_tells F_tells (hr.mono (by decide)) b_tells .nil pass0) (pa_nil)))) (pa_cons (pe_lstU (pa_cons (pe_lstU (pa_nil)) (pa_cons (pe_lstU (pa_nil)) (pa_nil)))) (pa_nil))))))))))

end
end Tw
end

section
set_option Elab.async false
set_option linter.all false
set_option maxRecDepth 100000
set_option maxHeartbeats 4000000
namespace Tw
open PySem L2 PyProof.Rows

theorem exm_self {K : PySem.W.Frag} {S : Addr} (h1 : PySem.W.subIn K (.ref S) (.type "BaseException") = some true) (h2 : PySem.W.isClsIn K S = true) (h3 : PySem.W.typeIn K (.ref S) = some (.type "type")) (h4 : PySem.W.subIn K (.ref S) (.ref S) = some true) :
    PySem.W.exmOne K (.ref S) (.ref S) = some true := by
  have e1 : (PySem.W.subIn K (.ref S) (.type "BaseException") == some true) = true := by rw [h1] <;> rfl
  have e2 : ((PySem.W.clsIn K S).isSome && PySem.W.typeIn K (.ref S) == some (.type "type")) = true := by
    have h2' : (PySem.W.clsIn K S).isSome = true := h2
    rw [h2', h3] <;> rfl
  show (if (PySem.W.subIn K (.ref S) (.type "BaseException") == some true) = true then (if ((PySem.W.clsIn K S).isSome && PySem.W.typeIn K (.ref S) == some (.type "type")) = true then PySem.W.subIn K (.ref S) (.ref S) else none) else none) = some true
  rw [if_pos e1, if_pos e2]
  exact h4
theorem kit_own {K : PySem.W.Frag} {S : Addr} {t : Value} {b : Bool} (hne : (t == .ref S) = false) (h2 : PySem.W.isClsIn K S = true) (h3 : PySem.W.typeIn K (.ref S) = some (.type "type")) (h4 : PySem.W.subIn K t (.ref S) = some b) : PySem.W.kitOne K t (.ref S) = some b := by
  have h2' : (PySem.W.clsIn K S).isSome = true := h2
  have e2 : ((PySem.W.clsIn K S).isSome && PySem.W.typeIn K (.ref S) == some (.type "type")) = true := by rw [h2', h3] <;> rfl
  unfold PySem.W.kitOne
  rw [hne, if_neg Bool.false_ne_true]
  show (if ((PySem.W.clsIn K S).isSome && PySem.W.typeIn K (.ref S) == some (.type "type")) = true then PySem.W.subIn K t (.ref S) else none) = some b
  rw [if_pos e2]
  exact h4
theorem kit_seq {K : PySem.W.Frag} {S : Addr} (h1 : PySem.W.subIn K (.ref S) (.type "list") = some false) (h2 : PySem.W.subIn K (.ref S) (.type "tuple") = some false) : PySem.W.kitAny K (.ref S) [.type "list", .type "tuple"] = some false := by
  have one : ∀ T : String, PySem.W.kitMeta T = true → PySem.W.subIn K (.ref S) (.type T) = some false → PySem.W.kitOne K (.ref S) (.type T) = some false := fun T m h => by
    have hne : ((Value.ref S) == (.type T)) = false := rfl
    unfold PySem.W.kitOne
    rw [hne, if_neg Bool.false_ne_true]
    show (if PySem.W.kitMeta T = true then PySem.W.subIn K (.ref S) (.type T) else none) = some false
    rw [if_pos m]
    exact h
  exact kitAny_cons (one "list" (by decide +kernel) h1) (fun _ => kitAny_cons (one "tuple" (by decide +kernel) h2) (fun _ => kitAny_nil) (fun h => nomatch h)) (fun h => nomatch h)
theorem kb_of {K : PySem.W.Frag} {f : Addr} {fd : FuncData} (Fd : Fun K "__init__" "Source.__init__" s_p_Source_init f fd) : KBn K fd ["self", "lines"] 1 ["lines"] (fun us ws => us ++ ws) (fun vs zs => vs ++ zs) := by
  obtain ⟨oc, od, kV, doc, pm, an, cdv, ct, osl, rfl, lk, hcd⟩ := Fd.ex
  exact ⟨fun s us ws _ h1 h2 => match us, ws, h1, h2 with | [_], [_], _, _ => .of_eq rfl, fun r1 r2 => r1.append r2⟩
theorem all_mk {l : PySem.W.OpenLaw} {w : World} {K : PySem.W.Frag} {h : Heap} {mg : Str → Option Value} {fa cS cB cE wd N f_l_start f_l_draw f_l_pick f_l_mixed f_p_is_list f_p_is_name f_l_is_name f_p_as_tuples f_p_is_expr f_p_is_line f_l_is_expr f_l_is_line f_l_fault f_l_each_once f_l_a_name f_l_a_expr f_l_a_lines f_l_same f_l_loose f_l_odds f_l_met f_l_told_right f_law f_p_BadLines_init f_p_Source_init f_p_Source_lines f_p_Source_reads f_p_Source_tells f_p_Source_eq : Addr} (X : K.In h) (G : h.Ns mainGlobals mg) (hfa : mg "law" = some (.ref fa))
    {dd odW od_l_start an_l_start od_l_draw an_l_draw od_l_pick an_l_pick od_l_mixed an_l_mixed od_p_is_list an_p_is_list od_p_is_name an_p_is_name od_l_is_name an_l_is_name od_p_as_tuples an_p_as_tuples od_p_is_expr an_p_is_expr od_p_is_line an_p_is_line od_l_is_expr an_l_is_expr od_l_is_line an_l_is_line od_l_fault an_l_fault od_l_each_once an_l_each_once od_l_a_name an_l_a_name od_l_a_expr an_l_a_expr od_l_a_lines an_l_a_lines od_l_same an_l_same od_l_loose an_l_loose od_l_odds an_l_odds od_l_met an_l_met od_l_told_right an_l_told_right od_law an_law od_p_BadLines_init an_p_BadLines_init od_p_Source_init an_p_Source_init od_p_Source_lines an_p_Source_lines od_p_Source_reads an_p_Source_reads od_p_Source_tells an_p_Source_tells od_p_Source_eq an_p_Source_eq : Option Addr} {slW sl_l_start sl_l_draw sl_l_pick sl_l_mixed sl_p_is_list sl_p_is_name sl_l_is_name sl_p_as_tuples sl_p_is_expr sl_p_is_line sl_l_is_expr sl_l_is_line sl_l_fault sl_l_each_once sl_l_a_name sl_l_a_expr sl_l_a_lines sl_l_same sl_l_loose sl_l_odds sl_l_met sl_l_told_right sl_law sl_p_BadLines_init sl_p_Source_init sl_p_Source_lines sl_p_Source_reads sl_p_Source_tells sl_p_Source_eq : Array (Option Value)} {oc_l_start kV_l_start dc_l_start pm_l_start cd_l_start ct_l_start oc_l_draw kV_l_draw dc_l_draw pm_l_draw cd_l_draw ct_l_draw oc_l_pick kV_l_pick dc_l_pick pm_l_pick cd_l_pick ct_l_pick oc_l_mixed kV_l_mixed dc_l_mixed pm_l_mixed cd_l_mixed ct_l_mixed oc_p_is_list kV_p_is_list dc_p_is_list pm_p_is_list cd_p_is_list ct_p_is_list oc_p_is_name kV_p_is_name dc_p_is_name pm_p_is_name cd_p_is_name ct_p_is_name oc_l_is_name kV_l_is_name dc_l_is_name pm_l_is_name cd_l_is_name ct_l_is_name oc_p_as_tuples kV_p_as_tuples dc_p_as_tuples pm_p_as_tuples cd_p_as_tuples ct_p_as_tuples oc_p_is_expr kV_p_is_expr dc_p_is_expr pm_p_is_expr cd_p_is_expr ct_p_is_expr oc_p_is_line kV_p_is_line dc_p_is_line pm_p_is_line cd_p_is_line ct_p_is_line oc_l_is_expr kV_l_is_expr dc_l_is_expr pm_l_is_expr cd_l_is_expr ct_l_is_expr oc_l_is_line kV_l_is_line dc_l_is_line pm_l_is_line cd_l_is_line ct_l_is_line oc_l_fault kV_l_fault dc_l_fault pm_l_fault cd_l_fault ct_l_fault oc_l_each_once kV_l_each_once dc_l_each_once pm_l_each_once cd_l_each_once ct_l_each_once oc_l_a_name kV_l_a_name dc_l_a_name pm_l_a_name cd_l_a_name ct_l_a_name oc_l_a_expr kV_l_a_expr dc_l_a_expr pm_l_a_expr cd_l_a_expr ct_l_a_expr oc_l_a_lines kV_l_a_lines dc_l_a_lines pm_l_a_lines cd_l_a_lines ct_l_a_lines oc_l_same kV_l_same dc_l_same pm_l_same cd_l_same ct_l_same oc_l_loose kV_l_loose dc_l_loose pm_l_loose cd_l_loose ct_l_loose oc_l_odds kV_l_odds dc_l_odds pm_l_odds cd_l_odds ct_l_odds oc_l_met kV_l_met dc_l_met pm_l_met cd_l_met ct_l_met oc_l_told_right kV_l_told_right dc_l_told_right pm_l_told_right cd_l_told_right ct_l_told_right oc_law kV_law dc_law pm_law cd_law ct_law oc_p_BadLines_init kV_p_BadLines_init dc_p_BadLines_init pm_p_BadLines_init cd_p_BadLines_init ct_p_BadLines_init oc_p_Source_init kV_p_Source_init dc_p_Source_init pm_p_Source_init cd_p_Source_init ct_p_Source_init oc_p_Source_lines kV_p_Source_lines dc_p_Source_lines pm_p_Source_lines cd_p_Source_lines ct_p_Source_lines oc_p_Source_reads kV_p_Source_reads dc_p_Source_reads pm_p_Source_reads cd_p_Source_reads ct_p_Source_reads oc_p_Source_tells kV_p_Source_tells dc_p_Source_tells pm_p_Source_tells cd_p_Source_tells ct_p_Source_tells oc_p_Source_eq kV_p_Source_eq dc_p_Source_eq pm_p_Source_eq cd_p_Source_eq ct_p_Source_eq : Value} {nm q : Str} {bs : List Value} {sn : List Str} {sub : List Value} {ab : Bool} {col : Option Bool} {m0 m1 m2 m3 m5 : Option Value} {tS tF t1 t2 : Tok} {nW : Nat}
    (aS : PySem.W.nsIn K mainGlobals "Source" = some (some (.ref cS)))
    (aB : PySem.W.nsIn K mainGlobals "BadLines" = some (some (.ref cB)))
    (a_l_start : PySem.W.nsIn K mainGlobals "_law_start" = some (some (.ref f_l_start)))
    (l_l_start : K.lookup f_l_start = some ⟨oc_l_start, od_l_start, .func (PySem.W.fnOf "_law_start" "_law_start" (defArgs s_l_start) (defBody s_l_start) (defScope s_l_start) .none kV_l_start dc_l_start pm_l_start an_l_start cd_l_start ct_l_start), sl_l_start⟩)
    (c_l_start : PySem.W.codeIn K cd_l_start "_law_start" = true)
    (k_l_start : PySem.W.keepIn K (.ref f_l_start) = true)
    (a_l_draw : PySem.W.nsIn K mainGlobals "_law_draw" = some (some (.ref f_l_draw)))
    (l_l_draw : K.lookup f_l_draw = some ⟨oc_l_draw, od_l_draw, .func (PySem.W.fnOf "_law_draw" "_law_draw" (defArgs s_l_draw) (defBody s_l_draw) (defScope s_l_draw) .none kV_l_draw dc_l_draw pm_l_draw an_l_draw cd_l_draw ct_l_draw), sl_l_draw⟩)
    (c_l_draw : PySem.W.codeIn K cd_l_draw "_law_draw" = true)
    (k_l_draw : PySem.W.keepIn K (.ref f_l_draw) = true)
    (a_l_pick : PySem.W.nsIn K mainGlobals "_law_pick" = some (some (.ref f_l_pick)))
    (l_l_pick : K.lookup f_l_pick = some ⟨oc_l_pick, od_l_pick, .func (PySem.W.fnOf "_law_pick" "_law_pick" (defArgs s_l_pick) (defBody s_l_pick) (defScope s_l_pick) .none kV_l_pick dc_l_pick pm_l_pick an_l_pick cd_l_pick ct_l_pick), sl_l_pick⟩)
    (c_l_pick : PySem.W.codeIn K cd_l_pick "_law_pick" = true)
    (k_l_pick : PySem.W.keepIn K (.ref f_l_pick) = true)
    (a_l_mixed : PySem.W.nsIn K mainGlobals "_law_mixed" = some (some (.ref f_l_mixed)))
    (l_l_mixed : K.lookup f_l_mixed = some ⟨oc_l_mixed, od_l_mixed, .func (PySem.W.fnOf "_law_mixed" "_law_mixed" (defArgs s_l_mixed) (defBody s_l_mixed) (defScope s_l_mixed) .none kV_l_mixed dc_l_mixed pm_l_mixed an_l_mixed cd_l_mixed ct_l_mixed), sl_l_mixed⟩)
    (c_l_mixed : PySem.W.codeIn K cd_l_mixed "_law_mixed" = true)
    (k_l_mixed : PySem.W.keepIn K (.ref f_l_mixed) = true)
    (a_p_is_list : PySem.W.nsIn K mainGlobals "is_list" = some (some (.ref f_p_is_list)))
    (l_p_is_list : K.lookup f_p_is_list = some ⟨oc_p_is_list, od_p_is_list, .func (PySem.W.fnOf "is_list" "is_list" (defArgs s_p_is_list) (defBody s_p_is_list) (defScope s_p_is_list) .none kV_p_is_list dc_p_is_list pm_p_is_list an_p_is_list cd_p_is_list ct_p_is_list), sl_p_is_list⟩)
    (c_p_is_list : PySem.W.codeIn K cd_p_is_list "is_list" = true)
    (k_p_is_list : PySem.W.keepIn K (.ref f_p_is_list) = true)
    (a_p_is_name : PySem.W.nsIn K mainGlobals "is_name" = some (some (.ref f_p_is_name)))
    (l_p_is_name : K.lookup f_p_is_name = some ⟨oc_p_is_name, od_p_is_name, .func (PySem.W.fnOf "is_name" "is_name" (defArgs s_p_is_name) (defBody s_p_is_name) (defScope s_p_is_name) .none kV_p_is_name dc_p_is_name pm_p_is_name an_p_is_name cd_p_is_name ct_p_is_name), sl_p_is_name⟩)
    (c_p_is_name : PySem.W.codeIn K cd_p_is_name "is_name" = true)
    (k_p_is_name : PySem.W.keepIn K (.ref f_p_is_name) = true)
    (a_l_is_name : PySem.W.nsIn K mainGlobals "_law_is_name" = some (some (.ref f_l_is_name)))
    (l_l_is_name : K.lookup f_l_is_name = some ⟨oc_l_is_name, od_l_is_name, .func (PySem.W.fnOf "_law_is_name" "_law_is_name" (defArgs s_l_is_name) (defBody s_l_is_name) (defScope s_l_is_name) .none kV_l_is_name dc_l_is_name pm_l_is_name an_l_is_name cd_l_is_name ct_l_is_name), sl_l_is_name⟩)
    (c_l_is_name : PySem.W.codeIn K cd_l_is_name "_law_is_name" = true)
    (k_l_is_name : PySem.W.keepIn K (.ref f_l_is_name) = true)
    (a_p_as_tuples : PySem.W.nsIn K mainGlobals "as_tuples" = some (some (.ref f_p_as_tuples)))
    (l_p_as_tuples : K.lookup f_p_as_tuples = some ⟨oc_p_as_tuples, od_p_as_tuples, .func (PySem.W.fnOf "as_tuples" "as_tuples" (defArgs s_p_as_tuples) (defBody s_p_as_tuples) (defScope s_p_as_tuples) .none kV_p_as_tuples dc_p_as_tuples pm_p_as_tuples an_p_as_tuples cd_p_as_tuples ct_p_as_tuples), sl_p_as_tuples⟩)
    (c_p_as_tuples : PySem.W.codeIn K cd_p_as_tuples "as_tuples" = true)
    (k_p_as_tuples : PySem.W.keepIn K (.ref f_p_as_tuples) = true)
    (a_p_is_expr : PySem.W.nsIn K mainGlobals "is_expr" = some (some (.ref f_p_is_expr)))
    (l_p_is_expr : K.lookup f_p_is_expr = some ⟨oc_p_is_expr, od_p_is_expr, .func (PySem.W.fnOf "is_expr" "is_expr" (defArgs s_p_is_expr) (defBody s_p_is_expr) (defScope s_p_is_expr) .none kV_p_is_expr dc_p_is_expr pm_p_is_expr an_p_is_expr cd_p_is_expr ct_p_is_expr), sl_p_is_expr⟩)
    (c_p_is_expr : PySem.W.codeIn K cd_p_is_expr "is_expr" = true)
    (k_p_is_expr : PySem.W.keepIn K (.ref f_p_is_expr) = true)
    (a_p_is_line : PySem.W.nsIn K mainGlobals "is_line" = some (some (.ref f_p_is_line)))
    (l_p_is_line : K.lookup f_p_is_line = some ⟨oc_p_is_line, od_p_is_line, .func (PySem.W.fnOf "is_line" "is_line" (defArgs s_p_is_line) (defBody s_p_is_line) (defScope s_p_is_line) .none kV_p_is_line dc_p_is_line pm_p_is_line an_p_is_line cd_p_is_line ct_p_is_line), sl_p_is_line⟩)
    (c_p_is_line : PySem.W.codeIn K cd_p_is_line "is_line" = true)
    (k_p_is_line : PySem.W.keepIn K (.ref f_p_is_line) = true)
    (a_l_is_expr : PySem.W.nsIn K mainGlobals "_law_is_expr" = some (some (.ref f_l_is_expr)))
    (l_l_is_expr : K.lookup f_l_is_expr = some ⟨oc_l_is_expr, od_l_is_expr, .func (PySem.W.fnOf "_law_is_expr" "_law_is_expr" (defArgs s_l_is_expr) (defBody s_l_is_expr) (defScope s_l_is_expr) .none kV_l_is_expr dc_l_is_expr pm_l_is_expr an_l_is_expr cd_l_is_expr ct_l_is_expr), sl_l_is_expr⟩)
    (c_l_is_expr : PySem.W.codeIn K cd_l_is_expr "_law_is_expr" = true)
    (k_l_is_expr : PySem.W.keepIn K (.ref f_l_is_expr) = true)
    (a_l_is_line : PySem.W.nsIn K mainGlobals "_law_is_line" = some (some (.ref f_l_is_line)))
    (l_l_is_line : K.lookup f_l_is_line = some ⟨oc_l_is_line, od_l_is_line, .func (PySem.W.fnOf "_law_is_line" "_law_is_line" (defArgs s_l_is_line) (defBody s_l_is_line) (defScope s_l_is_line) .none kV_l_is_line dc_l_is_line pm_l_is_line an_l_is_line cd_l_is_line ct_l_is_line), sl_l_is_line⟩)
    (c_l_is_line : PySem.W.codeIn K cd_l_is_line "_law_is_line" = true)
    (k_l_is_line : PySem.W.keepIn K (.ref f_l_is_line) = true)
    (a_l_fault : PySem.W.nsIn K mainGlobals "_law_fault" = some (some (.ref f_l_fault)))
    (l_l_fault : K.lookup f_l_fault = some ⟨oc_l_fault, od_l_fault, .func (PySem.W.fnOf "_law_fault" "_law_fault" (defArgs s_l_fault) (defBody s_l_fault) (defScope s_l_fault) .none kV_l_fault dc_l_fault pm_l_fault an_l_fault cd_l_fault ct_l_fault), sl_l_fault⟩)
    (c_l_fault : PySem.W.codeIn K cd_l_fault "_law_fault" = true)
    (k_l_fault : PySem.W.keepIn K (.ref f_l_fault) = true)
    (a_l_each_once : PySem.W.nsIn K mainGlobals "_law_each_once" = some (some (.ref f_l_each_once)))
    (l_l_each_once : K.lookup f_l_each_once = some ⟨oc_l_each_once, od_l_each_once, .func (PySem.W.fnOf "_law_each_once" "_law_each_once" (defArgs s_l_each_once) (defBody s_l_each_once) (defScope s_l_each_once) .none kV_l_each_once dc_l_each_once pm_l_each_once an_l_each_once cd_l_each_once ct_l_each_once), sl_l_each_once⟩)
    (c_l_each_once : PySem.W.codeIn K cd_l_each_once "_law_each_once" = true)
    (k_l_each_once : PySem.W.keepIn K (.ref f_l_each_once) = true)
    (a_l_a_name : PySem.W.nsIn K mainGlobals "_law_a_name" = some (some (.ref f_l_a_name)))
    (l_l_a_name : K.lookup f_l_a_name = some ⟨oc_l_a_name, od_l_a_name, .func (PySem.W.fnOf "_law_a_name" "_law_a_name" (defArgs s_l_a_name) (defBody s_l_a_name) (defScope s_l_a_name) .none kV_l_a_name dc_l_a_name pm_l_a_name an_l_a_name cd_l_a_name ct_l_a_name), sl_l_a_name⟩)
    (c_l_a_name : PySem.W.codeIn K cd_l_a_name "_law_a_name" = true)
    (k_l_a_name : PySem.W.keepIn K (.ref f_l_a_name) = true)
    (a_l_a_expr : PySem.W.nsIn K mainGlobals "_law_a_expr" = some (some (.ref f_l_a_expr)))
    (l_l_a_expr : K.lookup f_l_a_expr = some ⟨oc_l_a_expr, od_l_a_expr, .func (PySem.W.fnOf "_law_a_expr" "_law_a_expr" (defArgs s_l_a_expr) (defBody s_l_a_expr) (defScope s_l_a_expr) .none kV_l_a_expr dc_l_a_expr pm_l_a_expr an_l_a_expr cd_l_a_expr ct_l_a_expr), sl_l_a_expr⟩)
    (c_l_a_expr : PySem.W.codeIn K cd_l_a_expr "_law_a_expr" = true)
    (k_l_a_expr : PySem.W.keepIn K (.ref f_l_a_expr) = true)
    (a_l_a_lines : PySem.W.nsIn K mainGlobals "_law_a_lines" = some (some (.ref f_l_a_lines)))
    (l_l_a_lines : K.lookup f_l_a_lines = some ⟨oc_l_a_lines, od_l_a_lines, .func (PySem.W.fnOf "_law_a_lines" "_law_a_lines" (defArgs s_l_a_lines) (defBody s_l_a_lines) (defScope s_l_a_lines) .none kV_l_a_lines dc_l_a_lines pm_l_a_lines an_l_a_lines cd_l_a_lines ct_l_a_lines), sl_l_a_lines⟩)
    (c_l_a_lines : PySem.W.codeIn K cd_l_a_lines "_law_a_lines" = true)
    (k_l_a_lines : PySem.W.keepIn K (.ref f_l_a_lines) = true)
    (a_l_same : PySem.W.nsIn K mainGlobals "_law_same" = some (some (.ref f_l_same)))
    (l_l_same : K.lookup f_l_same = some ⟨oc_l_same, od_l_same, .func (PySem.W.fnOf "_law_same" "_law_same" (defArgs s_l_same) (defBody s_l_same) (defScope s_l_same) .none kV_l_same dc_l_same pm_l_same an_l_same cd_l_same ct_l_same), sl_l_same⟩)
    (c_l_same : PySem.W.codeIn K cd_l_same "_law_same" = true)
    (k_l_same : PySem.W.keepIn K (.ref f_l_same) = true)
    (a_l_loose : PySem.W.nsIn K mainGlobals "_law_loose" = some (some (.ref f_l_loose)))
    (l_l_loose : K.lookup f_l_loose = some ⟨oc_l_loose, od_l_loose, .func (PySem.W.fnOf "_law_loose" "_law_loose" (defArgs s_l_loose) (defBody s_l_loose) (defScope s_l_loose) .none kV_l_loose dc_l_loose pm_l_loose an_l_loose cd_l_loose ct_l_loose), sl_l_loose⟩)
    (c_l_loose : PySem.W.codeIn K cd_l_loose "_law_loose" = true)
    (k_l_loose : PySem.W.keepIn K (.ref f_l_loose) = true)
    (a_l_odds : PySem.W.nsIn K mainGlobals "_law_odds" = some (some (.ref f_l_odds)))
    (l_l_odds : K.lookup f_l_odds = some ⟨oc_l_odds, od_l_odds, .func (PySem.W.fnOf "_law_odds" "_law_odds" (defArgs s_l_odds) (defBody s_l_odds) (defScope s_l_odds) .none kV_l_odds dc_l_odds pm_l_odds an_l_odds cd_l_odds ct_l_odds), sl_l_odds⟩)
    (c_l_odds : PySem.W.codeIn K cd_l_odds "_law_odds" = true)
    (k_l_odds : PySem.W.keepIn K (.ref f_l_odds) = true)
    (a_l_met : PySem.W.nsIn K mainGlobals "_law_met" = some (some (.ref f_l_met)))
    (l_l_met : K.lookup f_l_met = some ⟨oc_l_met, od_l_met, .func (PySem.W.fnOf "_law_met" "_law_met" (defArgs s_l_met) (defBody s_l_met) (defScope s_l_met) .none kV_l_met dc_l_met pm_l_met an_l_met cd_l_met ct_l_met), sl_l_met⟩)
    (c_l_met : PySem.W.codeIn K cd_l_met "_law_met" = true)
    (k_l_met : PySem.W.keepIn K (.ref f_l_met) = true)
    (a_l_told_right : PySem.W.nsIn K mainGlobals "_law_told_right" = some (some (.ref f_l_told_right)))
    (l_l_told_right : K.lookup f_l_told_right = some ⟨oc_l_told_right, od_l_told_right, .func (PySem.W.fnOf "_law_told_right" "_law_told_right" (defArgs s_l_told_right) (defBody s_l_told_right) (defScope s_l_told_right) .none kV_l_told_right dc_l_told_right pm_l_told_right an_l_told_right cd_l_told_right ct_l_told_right), sl_l_told_right⟩)
    (c_l_told_right : PySem.W.codeIn K cd_l_told_right "_law_told_right" = true)
    (k_l_told_right : PySem.W.keepIn K (.ref f_l_told_right) = true)
    (a_law : PySem.W.nsIn K mainGlobals "law" = some (some (.ref f_law)))
    (l_law : K.lookup f_law = some ⟨oc_law, od_law, .func (PySem.W.fnOf "law" "law" (defArgs s_law) (defBody s_law) (defScope s_law) .none kV_law dc_law pm_law an_law cd_law ct_law), sl_law⟩)
    (c_law : PySem.W.codeIn K cd_law "law" = true)
    (k_law : PySem.W.keepIn K (.ref f_law) = true)
    (a_p_BadLines_init : PySem.W.findIn K (.ref cB) "__init__" = some (some (.ref f_p_BadLines_init)))
    (l_p_BadLines_init : K.lookup f_p_BadLines_init = some ⟨oc_p_BadLines_init, od_p_BadLines_init, .func (PySem.W.fnOf "__init__" "BadLines.__init__" (defArgs s_p_BadLines_init) (defBody s_p_BadLines_init) (defScope s_p_BadLines_init) .none kV_p_BadLines_init dc_p_BadLines_init pm_p_BadLines_init an_p_BadLines_init cd_p_BadLines_init ct_p_BadLines_init), sl_p_BadLines_init⟩)
    (c_p_BadLines_init : PySem.W.codeIn K cd_p_BadLines_init "BadLines.__init__" = true)
    (k_p_BadLines_init : PySem.W.keepIn K (.ref f_p_BadLines_init) = true)
    (t_p_BadLines_init : PySem.W.typeIn K (.ref f_p_BadLines_init) = some (.type "function"))
    (a_p_Source_init : PySem.W.findIn K (.ref cS) "__init__" = some (some (.ref f_p_Source_init)))
    (l_p_Source_init : K.lookup f_p_Source_init = some ⟨oc_p_Source_init, od_p_Source_init, .func (PySem.W.fnOf "__init__" "Source.__init__" (defArgs s_p_Source_init) (defBody s_p_Source_init) (defScope s_p_Source_init) .none kV_p_Source_init dc_p_Source_init pm_p_Source_init an_p_Source_init cd_p_Source_init ct_p_Source_init), sl_p_Source_init⟩)
    (c_p_Source_init : PySem.W.codeIn K cd_p_Source_init "Source.__init__" = true)
    (k_p_Source_init : PySem.W.keepIn K (.ref f_p_Source_init) = true)
    (i_p_Source_init : PySem.W.isFn K (.ref f_p_Source_init) = true)
    (a_p_Source_lines : PySem.W.findIn K (.ref cS) "lines" = some (some (.ref f_p_Source_lines)))
    (l_p_Source_lines : K.lookup f_p_Source_lines = some ⟨oc_p_Source_lines, od_p_Source_lines, .func (PySem.W.fnOf "lines" "Source.lines" (defArgs s_p_Source_lines) (defBody s_p_Source_lines) (defScope s_p_Source_lines) .none kV_p_Source_lines dc_p_Source_lines pm_p_Source_lines an_p_Source_lines cd_p_Source_lines ct_p_Source_lines), sl_p_Source_lines⟩)
    (c_p_Source_lines : PySem.W.codeIn K cd_p_Source_lines "Source.lines" = true)
    (k_p_Source_lines : PySem.W.keepIn K (.ref f_p_Source_lines) = true)
    (i_p_Source_lines : PySem.W.isFn K (.ref f_p_Source_lines) = true)
    (a_p_Source_reads : PySem.W.findIn K (.ref cS) "reads" = some (some (.ref f_p_Source_reads)))
    (l_p_Source_reads : K.lookup f_p_Source_reads = some ⟨oc_p_Source_reads, od_p_Source_reads, .func (PySem.W.fnOf "reads" "Source.reads" (defArgs s_p_Source_reads) (defBody s_p_Source_reads) (defScope s_p_Source_reads) .none kV_p_Source_reads dc_p_Source_reads pm_p_Source_reads an_p_Source_reads cd_p_Source_reads ct_p_Source_reads), sl_p_Source_reads⟩)
    (c_p_Source_reads : PySem.W.codeIn K cd_p_Source_reads "Source.reads" = true)
    (k_p_Source_reads : PySem.W.keepIn K (.ref f_p_Source_reads) = true)
    (i_p_Source_reads : PySem.W.isFn K (.ref f_p_Source_reads) = true)
    (a_p_Source_tells : PySem.W.findIn K (.ref cS) "tells" = some (some (.ref f_p_Source_tells)))
    (l_p_Source_tells : K.lookup f_p_Source_tells = some ⟨oc_p_Source_tells, od_p_Source_tells, .func (PySem.W.fnOf "tells" "Source.tells" (defArgs s_p_Source_tells) (defBody s_p_Source_tells) (defScope s_p_Source_tells) .none kV_p_Source_tells dc_p_Source_tells pm_p_Source_tells an_p_Source_tells cd_p_Source_tells ct_p_Source_tells), sl_p_Source_tells⟩)
    (c_p_Source_tells : PySem.W.codeIn K cd_p_Source_tells "Source.tells" = true)
    (k_p_Source_tells : PySem.W.keepIn K (.ref f_p_Source_tells) = true)
    (i_p_Source_tells : PySem.W.isFn K (.ref f_p_Source_tells) = true)
    (a_p_Source_eq : PySem.W.findIn K (.ref cS) "__eq__" = some (some (.ref f_p_Source_eq)))
    (l_p_Source_eq : K.lookup f_p_Source_eq = some ⟨oc_p_Source_eq, od_p_Source_eq, .func (PySem.W.fnOf "__eq__" "Source.__eq__" (defArgs s_p_Source_eq) (defBody s_p_Source_eq) (defScope s_p_Source_eq) .none kV_p_Source_eq dc_p_Source_eq pm_p_Source_eq an_p_Source_eq cd_p_Source_eq ct_p_Source_eq), sl_p_Source_eq⟩)
    (c_p_Source_eq : PySem.W.codeIn K cd_p_Source_eq "Source.__eq__" = true)
    (k_p_Source_eq : PySem.W.keepIn K (.ref f_p_Source_eq) = true)
    (i_p_Source_eq : PySem.W.isFn K (.ref f_p_Source_eq) = true)
    (pg : PySem.W.plainGet K cS Str.empty = true)
    (hd : PySem.W.hasDictIn K cS = true)
    (po : PySem.W.plainOver K cS = true)
    (sa : PySem.W.findIn K (.ref cS) "__setattr__" = some (some (.builtin "object.__setattr__")))
    (mk : PySem.W.makesIn K cS = true)
    (kS : PySem.W.keepIn K (.ref cS) = true)
    (ha : PySem.W.findIn K (.ref cS) "__class__" = some (some (.builtin "object.__class__")))
    (hn : PySem.W.specialIn K (.builtin "object.__class__") "__get__" = some (some (.builtin "getset_descriptor.__get__")))
    (htk : PySem.W.takesIn K (.builtin "object.__class__") = some true)
    (hm : PySem.W.mroIn K cS (.type "object") = some true)
    (icS : PySem.W.isClsIn K cS = true)
    (tyS : PySem.W.typeIn K (.ref cS) = some (.type "type"))
    (no : PySem.W.findIn K (.ref cS) "own_lines" = some none)
    (subL : PySem.W.subIn K (.type "list") (.ref cS) = some false)
    (subT : PySem.W.subIn K (.type "tuple") (.ref cS) = some false)
    (nl1 : PySem.W.subIn K (.ref cS) (.type "list") = some false)
    (nl2 : PySem.W.subIn K (.ref cS) (.type "tuple") = some false)
    (ne : PySem.W.findIn K (.ref cS) "__ne__" = some (some (.builtin "object.__ne__")))
    (xB : K.lookup cB = some (excClassObj nm q cB N bs [.ref cE, .type "ValueError", .type "Exception", .type "BaseException", .type "object"] true sn sub ab col dd m0 m1 m2 m3 m5 "ValueError.__new__"))
    (saB : PySem.W.findIn K (.ref cB) "__setattr__" = some (some (.builtin "object.__setattr__")))
    (exB : PySem.W.subIn K (.ref cB) (.type "BaseException") = some true)
    (tyB : PySem.W.typeIn K (.ref cB) = some (.type "type"))
    (kB : PySem.W.keepIn K (.ref cB) = true)
    (gaB : PySem.W.findIn K (.ref cB) "__getattribute__" = some (some (.builtin "BaseException.__getattribute__")))
    (ggB : PySem.W.findIn K (.ref cB) "__getattr__" = some none)
    (hdB : PySem.W.hasDictIn K cB = true)
    (noB : PySem.W.findIn K (.ref cB) "index" = some none)
    (icB : PySem.W.isClsIn K cB = true)
    (suB : PySem.W.subIn K (.ref cB) (.ref cB) = some true)
    (aSm : PySem.W.nsIn K mainGlobals "SMALL" = some (some (.str "abcdefghijklmnopqrstuvwxyz" tS)))
    (aFi : PySem.W.nsIn K mainGlobals "FIGURES" = some (some (.str "0123456789" tF)))
    (aWo : PySem.W.nsIn K mainGlobals "WORDS" = some (some (.ref wd)))
    (lWo : K.lookup wd = some ⟨.type "tuple", odW, .seq #[.str "read" t1, .str "tell" t2] nW, slW⟩)
    (z_all : PySem.W.nsIn K mainGlobals "all" = some none)
    (z_bool : PySem.W.nsIn K mainGlobals "bool" = some none)
    (z_dict : PySem.W.nsIn K mainGlobals "dict" = some none)
    (z_enumerate : PySem.W.nsIn K mainGlobals "enumerate" = some none)
    (z_int : PySem.W.nsIn K mainGlobals "int" = some none)
    (z_isinstance : PySem.W.nsIn K mainGlobals "isinstance" = some none)
    (z_len : PySem.W.nsIn K mainGlobals "len" = some none)
    (z_list : PySem.W.nsIn K mainGlobals "list" = some none)
    (z_max : PySem.W.nsIn K mainGlobals "max" = some none)
    (z_range : PySem.W.nsIn K mainGlobals "range" = some none)
    (z_repr : PySem.W.nsIn K mainGlobals "repr" = some none)
    (z_str : PySem.W.nsIn K mainGlobals "str" = some none)
    (z_tuple : PySem.W.nsIn K mainGlobals "tuple" = some none)
    (z_zip : PySem.W.nsIn K mainGlobals "zip" = some none) :
    ∃ ps : List Str, ∀ base : Heap, K.In base → base.Ns mainGlobals mg → FnG l.prog w K mg base 35 fa ps (spLaw K) := by
  have e := hfa.symm.trans (PySem.W.mg_of X G a_law)
  cases e
  have T : Txt K mg ⟨wd, 0, 0⟩ ⟨cS, cB⟩ := { n_all := PySem.W.mg_none_of X G z_all, n_bool := PySem.W.mg_none_of X G z_bool, n_dict := PySem.W.mg_none_of X G z_dict, n_enumerate := PySem.W.mg_none_of X G z_enumerate, n_int := PySem.W.mg_none_of X G z_int, n_isinstance := PySem.W.mg_none_of X G z_isinstance, n_len := PySem.W.mg_none_of X G z_len, n_list := PySem.W.mg_none_of X G z_list, n_max := PySem.W.mg_none_of X G z_max, n_range := PySem.W.mg_none_of X G z_range, n_repr := PySem.W.mg_none_of X G z_repr, n_str := PySem.W.mg_none_of X G z_str, n_tuple := PySem.W.mg_none_of X G z_tuple, n_zip := PySem.W.mg_none_of X G z_zip, g_SMALL := ⟨_, PySem.W.mg_of X G aSm, ⟨tS, rfl⟩⟩, g_FIGURES := ⟨_, PySem.W.mg_of X G aFi, ⟨tF, rfl⟩⟩, g_WORDS := ⟨_, PySem.W.mg_of X G aWo, rfl⟩, hW := fun H => .inr ⟨_, _, _, lWo, rfl, rfl, by rw [sizeLine_eq]; show 2 ≤ 16777216; decide, .cons ⟨t1, rfl⟩ (.cons ⟨t2, rfl⟩ .nil)⟩, g_Source := PySem.W.mg_of X G aS, src := ⟨⟨pg, hd, po, sa⟩, ha, hn, htk, hm, if_pos (beq_self_eq_true _), no, kit_own rfl icS tyS subL, kit_own rfl icS tyS subT, kit_seq nl1 nl2⟩, xf := ⟨gaB, ggB, exB, hdB⟩, oex := ⟨⟨nm, q, N, bs, _, sn, sub, ab, col, dd, m0, m1, m2, m3, m5, xB, rfl⟩, saB, exB, tyB, kB⟩, noIndex := noB, te := exm_self exB icB tyB suB }
  have F_l_start := fun_mk (st := s_l_start) l_l_start c_l_start k_l_start
  have b_l_start := F_l_start.binds (ps := ["_law_script"]) fun _ _ _ _ _ _ us hl => match us, hl with | [_], _ => rfl
  have F_l_draw := fun_mk (st := s_l_draw) l_l_draw c_l_draw k_l_draw
  have b_l_draw := F_l_draw.binds (ps := ["_law_stream", "_law_many"]) fun _ _ _ _ _ _ us hl => match us, hl with | [_, _], _ => rfl
  have F_l_pick := fun_mk (st := s_l_pick) l_l_pick c_l_pick k_l_pick
  have b_l_pick := F_l_pick.binds (ps := ["_law_stream", "_law_some"]) fun _ _ _ _ _ _ us hl => match us, hl with | [_, _], _ => rfl
  have F_l_mixed := fun_mk (st := s_l_mixed) l_l_mixed c_l_mixed k_l_mixed
  have b_l_mixed := F_l_mixed.binds (ps := ["_law_stream", "_law_some"]) fun _ _ _ _ _ _ us hl => match us, hl with | [_, _], _ => rfl
  have F_p_is_list := fun_mk (st := s_p_is_list) l_p_is_list c_p_is_list k_p_is_list
  have b_p_is_list := F_p_is_list.binds (ps := ["thing"]) fun _ _ _ _ _ _ us hl => match us, hl with | [_], _ => rfl
  have F_p_is_name := fun_mk (st := s_p_is_name) l_p_is_name c_p_is_name k_p_is_name
  have b_p_is_name := F_p_is_name.binds (ps := ["thing"]) fun _ _ _ _ _ _ us hl => match us, hl with | [_], _ => rfl
  have F_l_is_name := fun_mk (st := s_l_is_name) l_l_is_name c_l_is_name k_l_is_name
  have b_l_is_name := F_l_is_name.binds (ps := ["_law_thing"]) fun _ _ _ _ _ _ us hl => match us, hl with | [_], _ => rfl
  have F_p_as_tuples := fun_mk (st := s_p_as_tuples) l_p_as_tuples c_p_as_tuples k_p_as_tuples
  have b_p_as_tuples := F_p_as_tuples.binds (ps := ["thing"]) fun _ _ _ _ _ _ us hl => match us, hl with | [_], _ => rfl
  have F_p_is_expr := fun_mk (st := s_p_is_expr) l_p_is_expr c_p_is_expr k_p_is_expr
  have b_p_is_expr := F_p_is_expr.binds (ps := ["known", "thing"]) fun _ _ _ _ _ _ us hl => match us, hl with | [_, _], _ => rfl
  have F_p_is_line := fun_mk (st := s_p_is_line) l_p_is_line c_p_is_line k_p_is_line
  have b_p_is_line := F_p_is_line.binds (ps := ["known", "told", "thing"]) fun _ _ _ _ _ _ us hl => match us, hl with | [_, _, _], _ => rfl
  have F_l_is_expr := fun_mk (st := s_l_is_expr) l_l_is_expr c_l_is_expr k_l_is_expr
  have b_l_is_expr := F_l_is_expr.binds (ps := ["_law_known", "_law_thing"]) fun _ _ _ _ _ _ us hl => match us, hl with | [_, _], _ => rfl
  have F_l_is_line := fun_mk (st := s_l_is_line) l_l_is_line c_l_is_line k_l_is_line
  have b_l_is_line := F_l_is_line.binds (ps := ["_law_known", "_law_told", "_law_thing"]) fun _ _ _ _ _ _ us hl => match us, hl with | [_, _, _], _ => rfl
  have F_l_fault := fun_mk (st := s_l_fault) l_l_fault c_l_fault k_l_fault
  have b_l_fault := F_l_fault.binds (ps := ["_law_lines"]) fun _ _ _ _ _ _ us hl => match us, hl with | [_], _ => rfl
  have F_l_each_once := fun_mk (st := s_l_each_once) l_l_each_once c_l_each_once k_l_each_once
  have b_l_each_once := F_l_each_once.binds (ps := ["_law_things"]) fun _ _ _ _ _ _ us hl => match us, hl with | [_], _ => rfl
  have F_l_a_name := fun_mk (st := s_l_a_name) l_l_a_name c_l_a_name k_l_a_name
  have b_l_a_name := F_l_a_name.binds (ps := ["_law_stream", "_law_taken"]) fun _ _ _ _ _ _ us hl => match us, hl with | [_, _], _ => rfl
  have F_l_a_expr := fun_mk (st := s_l_a_expr) l_l_a_expr c_l_a_expr k_l_a_expr
  have b_l_a_expr := F_l_a_expr.binds (ps := ["_law_stream", "_law_known", "_law_ops", "_law_deep"]) fun _ _ _ _ _ _ us hl => match us, hl with | [_, _, _, _], _ => rfl
  have F_l_a_lines := fun_mk (st := s_l_a_lines) l_l_a_lines c_l_a_lines k_l_a_lines
  have b_l_a_lines := F_l_a_lines.binds (ps := ["_law_stream", "_law_many", "_law_deep"]) fun _ _ _ _ _ _ us hl => match us, hl with | [_, _, _], _ => rfl
  have F_l_same := fun_mk (st := s_l_same) l_l_same c_l_same k_l_same
  have b_l_same := F_l_same.binds (ps := ["_law_found", "_law_due"]) fun _ _ _ _ _ _ us hl => match us, hl with | [_, _], _ => rfl
  have F_l_loose := fun_mk (st := s_l_loose) l_l_loose c_l_loose k_l_loose
  have b_l_loose := F_l_loose.binds (ps := ["_law_stream", "_law_thing"]) fun _ _ _ _ _ _ us hl => match us, hl with | [_, _], _ => rfl
  have F_l_odds := fun_mk (st := s_l_odds) l_l_odds c_l_odds k_l_odds
  have b_l_odds := F_l_odds.binds (ps := ["_law_stream", "_law_lines"]) fun _ _ _ _ _ _ us hl => match us, hl with | [_, _], _ => rfl
  have F_l_met := fun_mk (st := s_l_met) l_l_met c_l_met k_l_met
  have b_l_met := F_l_met.binds (ps := ["_law_thing"]) fun _ _ _ _ _ _ us hl => match us, hl with | [_], _ => rfl
  have F_l_told_right := fun_mk (st := s_l_told_right) l_l_told_right c_l_told_right k_l_told_right
  have b_l_told_right := F_l_told_right.binds (ps := ["_law_stream", "_law_lines"]) fun _ _ _ _ _ _ us hl => match us, hl with | [_, _], _ => rfl
  have F_law := fun_mk (st := s_law) l_law c_law k_law
  have b_law := F_law.binds (ps := ["_law_script"]) fun _ _ _ _ _ _ us hl => match us, hl with | [_], _ => rfl
  have F_p_BadLines_init := fun_mk (st := s_p_BadLines_init) l_p_BadLines_init c_p_BadLines_init k_p_BadLines_init
  have b_p_BadLines_init := F_p_BadLines_init.binds (ps := ["self", "index"]) fun _ _ _ _ _ _ us hl => match us, hl with | [_, _], _ => rfl
  have F_p_Source_init := fun_mk (st := s_p_Source_init) l_p_Source_init c_p_Source_init k_p_Source_init
  have b_p_Source_init := F_p_Source_init.binds (ps := ["self", "lines"]) fun _ _ _ _ _ _ us hl => match us, hl with | [_, _], _ => rfl
  have F_p_Source_lines := fun_mk (st := s_p_Source_lines) l_p_Source_lines c_p_Source_lines k_p_Source_lines
  have b_p_Source_lines := F_p_Source_lines.binds (ps := ["self"]) fun _ _ _ _ _ _ us hl => match us, hl with | [_], _ => rfl
  have F_p_Source_reads := fun_mk (st := s_p_Source_reads) l_p_Source_reads c_p_Source_reads k_p_Source_reads
  have b_p_Source_reads := F_p_Source_reads.binds (ps := ["self"]) fun _ _ _ _ _ _ us hl => match us, hl with | [_], _ => rfl
  have F_p_Source_tells := fun_mk (st := s_p_Source_tells) l_p_Source_tells c_p_Source_tells k_p_Source_tells
  have b_p_Source_tells := F_p_Source_tells.binds (ps := ["self"]) fun _ _ _ _ _ _ us hl => match us, hl with | [_], _ => rfl
  have F_p_Source_eq := fun_mk (st := s_p_Source_eq) l_p_Source_eq c_p_Source_eq k_p_Source_eq
  have b_p_Source_eq := F_p_Source_eq.binds (ps := ["self", "other"]) fun _ _ _ _ _ _ us hl => match us, hl with | [_, _], _ => rfl
  refine ⟨["_law_script"], fun base _ _ => ?_⟩
  have C_l_start := ok_l_start (P := l.prog) (w := w) (base := base) F_l_start b_l_start (PySem.W.mg_of X G a_l_start) T 
  have C_l_draw := ok_l_draw (P := l.prog) (w := w) (base := base) F_l_draw b_l_draw (PySem.W.mg_of X G a_l_draw) T 
  have C_l_pick := ok_l_pick (P := l.prog) (w := w) (base := base) F_l_pick b_l_pick (PySem.W.mg_of X G a_l_pick) T C_l_draw
  have C_l_mixed := ok_l_mixed (P := l.prog) (w := w) (base := base) F_l_mixed b_l_mixed (PySem.W.mg_of X G a_l_mixed) T C_l_draw
  have C_p_is_list := ok_p_is_list (P := l.prog) (w := w) (base := base) F_p_is_list b_p_is_list (PySem.W.mg_of X G a_p_is_list) T 
  have C_p_is_name := ok_p_is_name (P := l.prog) (w := w) (base := base) F_p_is_name b_p_is_name (PySem.W.mg_of X G a_p_is_name) T 
  have C_l_is_name := ok_l_is_name (P := l.prog) (w := w) (base := base) F_l_is_name b_l_is_name (PySem.W.mg_of X G a_l_is_name) T 
  have C_p_as_tuples : Cal l.prog w K mg base 31 "as_tuples" (spAsTuples 30) [] := okr_p_as_tuples F_p_as_tuples b_p_as_tuples (PySem.W.mg_of X G a_p_as_tuples) T C_p_is_list 30
  have C_p_is_expr := ok_p_is_expr (P := l.prog) (w := w) (base := base) F_p_is_expr b_p_is_expr (PySem.W.mg_of X G a_p_is_expr) T C_p_is_list C_p_is_name
  have C_p_is_line := ok_p_is_line (P := l.prog) (w := w) (base := base) F_p_is_line b_p_is_line (PySem.W.mg_of X G a_p_is_line) T C_p_is_list C_p_is_name C_p_is_expr
  have C_l_is_expr : Cal l.prog w K mg base 30 "_law_is_expr" (spLIsExpr 29) [] := okr_l_is_expr F_l_is_expr b_l_is_expr (PySem.W.mg_of X G a_l_is_expr) T C_l_is_name 29
  have C_l_is_line := ok_l_is_line (P := l.prog) (w := w) (base := base) F_l_is_line b_l_is_line (PySem.W.mg_of X G a_l_is_line) T C_l_is_name C_l_is_expr
  have C_l_fault := ok_l_fault (P := l.prog) (w := w) (base := base) F_l_fault b_l_fault (PySem.W.mg_of X G a_l_fault) T C_l_is_line
  have C_l_each_once := ok_l_each_once (P := l.prog) (w := w) (base := base) F_l_each_once b_l_each_once (PySem.W.mg_of X G a_l_each_once) T 
  have C_l_a_name := ok_l_a_name (P := l.prog) (w := w) (base := base) F_l_a_name b_l_a_name (PySem.W.mg_of X G a_l_a_name) T C_l_pick
  have C_l_a_expr : Cal l.prog w K mg base 8 "_law_a_expr" (spAExpr 5) [] := okr_l_a_expr F_l_a_expr b_l_a_expr (PySem.W.mg_of X G a_l_a_expr) T C_l_draw C_l_pick 5
  have C_l_a_lines := ok_l_a_lines (P := l.prog) (w := w) (base := base) F_l_a_lines b_l_a_lines (PySem.W.mg_of X G a_l_a_lines) T C_l_mixed C_l_draw C_l_a_name C_l_pick C_l_a_expr C_l_each_once
  have C_l_same : Cal l.prog w K mg base 21 "_law_same" (spSame 20) [] := okr_l_same F_l_same b_l_same (PySem.W.mg_of X G a_l_same) T  20
  have C_l_loose : Cal l.prog w K mg base 22 "_law_loose" (spLoose 20) [] := okr_l_loose F_l_loose b_l_loose (PySem.W.mg_of X G a_l_loose) T C_l_draw 20
  have C_l_odds := ok_l_odds (P := l.prog) (w := w) (base := base) F_l_odds b_l_odds (PySem.W.mg_of X G a_l_odds) T C_l_pick
  have M_bad := okm_p_BadLines_init (P := l.prog) (w := w) (mg := mg) (base := base) F_p_BadLines_init T
  have B_bad : OwnErr l.prog w K mg base 1 "BadLines" cB (spOneF "index" cB) := ⟨T.oex, ⟨_, _, _, a_p_BadLines_init, t_p_BadLines_init, M_bad, b_p_BadLines_init⟩, PySem.W.mg_of X G aB⟩
  have M_src : Mk K cS f_p_Source_init := ⟨mk, a_p_Source_init, i_p_Source_init, kS⟩
  have I_init := okm_p_Source_init (P := l.prog) (w := w) (mg := mg) (base := base) F_p_Source_init T C_p_is_list C_p_is_line C_p_as_tuples B_bad
  have I_lines := okm_p_Source_lines (P := l.prog) (w := w) (mg := mg) (base := base) F_p_Source_lines T
  have I_reads := okm_p_Source_reads (P := l.prog) (w := w) (mg := mg) (base := base) F_p_Source_reads T
  have I_tells := okm_p_Source_tells (P := l.prog) (w := w) (mg := mg) (base := base) F_p_Source_tells T
  have I_eq := okm_p_Source_eq (P := l.prog) (w := w) (mg := mg) (base := base) F_p_Source_eq T
  have C_l_met := ok_l_met (P := l.prog) (w := w) (base := base) F_l_met b_l_met (PySem.W.mg_of X G a_l_met) T B_bad M_src I_init b_p_Source_init
  have kb_init := kb_of F_p_Source_init
  have G_told := ok_l_told_right (P := l.prog) (w := w) (base := base) F_l_told_right b_l_told_right T C_l_loose C_l_same C_l_fault B_bad M_src I_init b_p_Source_init kb_init ⟨a_p_Source_lines, i_p_Source_lines, k_p_Source_lines⟩ I_lines b_p_Source_lines ⟨a_p_Source_reads, i_p_Source_reads, k_p_Source_reads⟩ I_reads b_p_Source_reads ⟨a_p_Source_tells, i_p_Source_tells, k_p_Source_tells⟩ I_tells b_p_Source_tells ⟨a_p_Source_eq, i_p_Source_eq, ne, hm⟩ I_eq b_p_Source_eq
  have C_l_told_right : CalG l.prog w K mg base 34 "_law_told_right" spTold := ⟨⟨_, _, G_told, PySem.W.mg_of X G a_l_told_right, k_l_told_right⟩⟩
  exact ok_law F_law b_law T C_l_start C_l_draw C_l_a_lines C_l_fault C_l_told_right C_l_odds C_l_mixed C_l_pick C_l_met C_l_same B_bad M_src I_init b_p_Source_init kb_init ⟨a_p_Source_lines, i_p_Source_lines, k_p_Source_lines⟩ I_lines b_p_Source_lines ⟨a_p_Source_reads, i_p_Source_reads, k_p_Source_reads⟩ I_reads b_p_Source_reads ⟨a_p_Source_tells, i_p_Source_tells, k_p_Source_tells⟩ I_tells b_p_Source_tells ⟨a_p_Source_eq, i_p_Source_eq, ne, hm⟩ I_eq b_p_Source_eq
end Tw
end

section
open PySem PySem.W PyProof.Rows
set_option Elab.async false
set_option maxRecDepth 100000 in
set_option maxHeartbeats 0 in
theorem PySem.Challenge.cw_twoslots_k01_whole_sources_holds : PySem.Challenge.rw_twoslots_k01_whole_sources.Holds := by
  w_on; o_law; k_head; (case hw => w_witness2)
  k_fill
  refine Tw.walkG (l := PySem.Challenge.rw_twoslots_k01_whole_sources) (n := 63) (k := 35) (sp := fun w => Tw.spLaw _) rfl (by decide) rfl ⟨rfl, by decide, by decide⟩ (fun w h Y => PySem.W.kIn_of Y) ?F (fun w H a ns hl _ hS => ⟨a, ns, rfl, hS, Nat.le_trans hl (by decide), fun _ => rfl⟩)
  case F =>
    intro w mg fa h KX G hmg
    refine' Tw.all_mk KX G hmg ?aS ?aB ?a_l_start ?l_l_start ?c_l_start ?k_l_start ?a_l_draw ?l_l_draw ?c_l_draw ?k_l_draw ?a_l_pick ?l_l_pick ?c_l_pick ?k_l_pick ?a_l_mixed ?l_l_mixed ?c_l_mixed ?k_l_mixed ?a_p_is_list ?l_p_is_list ?c_p_is_list ?k_p_is_list ?a_p_is_name ?l_p_is_name ?c_p_is_name ?k_p_is_name ?a_l_is_name ?l_l_is_name ?c_l_is_name ?k_l_is_name ?a_p_as_tuples ?l_p_as_tuples ?c_p_as_tuples ?k_p_as_tuples ?a_p_is_expr ?l_p_is_expr ?c_p_is_expr ?k_p_is_expr ?a_p_is_line ?l_p_is_line ?c_p_is_line ?k_p_is_line ?a_l_is_expr ?l_l_is_expr ?c_l_is_expr ?k_l_is_expr ?a_l_is_line ?l_l_is_line ?c_l_is_line ?k_l_is_line ?a_l_fault ?l_l_fault ?c_l_fault ?k_l_fault ?a_l_each_once ?l_l_each_once ?c_l_each_once ?k_l_each_once ?a_l_a_name ?l_l_a_name ?c_l_a_name ?k_l_a_name ?a_l_a_expr ?l_l_a_expr ?c_l_a_expr ?k_l_a_expr ?a_l_a_lines ?l_l_a_lines ?c_l_a_lines ?k_l_a_lines ?a_l_same ?l_l_same ?c_l_same ?k_l_same ?a_l_loose ?l_l_loose ?c_l_loose ?k_l_loose ?a_l_odds ?l_l_odds ?c_l_odds ?k_l_odds ?a_l_met ?l_l_met ?c_l_met ?k_l_met ?a_l_told_right ?l_l_told_right ?c_l_told_right ?k_l_told_right ?a_law ?l_law ?c_law ?k_law ?a_p_BadLines_init ?l_p_BadLines_init ?c_p_BadLines_init ?k_p_BadLines_init ?t_p_BadLines_init ?a_p_Source_init ?l_p_Source_init ?c_p_Source_init ?k_p_Source_init ?i_p_Source_init ?a_p_Source_lines ?l_p_Source_lines ?c_p_Source_lines ?k_p_Source_lines ?i_p_Source_lines ?a_p_Source_reads ?l_p_Source_reads ?c_p_Source_reads ?k_p_Source_reads ?i_p_Source_reads ?a_p_Source_tells ?l_p_Source_tells ?c_p_Source_tells ?k_p_Source_tells ?i_p_Source_tells ?a_p_Source_eq ?l_p_Source_eq ?c_p_Source_eq ?k_p_Source_eq ?i_p_Source_eq ?pg ?hd ?po ?sa ?mk ?kS ?ha ?hn ?htk ?hm ?icS ?tyS ?no ?subL ?subT ?nl1 ?nl2 ?ne ?xB ?saB ?exB ?tyB ?kB ?gaB ?ggB ?hdB ?noB ?icB ?suB ?aSm ?aFi ?aWo ?lWo ?z_all ?z_bool ?z_dict ?z_enumerate ?z_int ?z_isinstance ?z_len ?z_list ?z_max ?z_range ?z_repr ?z_str ?z_tuple ?z_zip
    (case aS => k_is)
    (case aB => k_is)
    (case a_l_start => k_is)
    (case l_l_start => k_is)
    (case c_l_start => k_is)
    (case k_l_start => k_is)
    (case a_l_draw => k_is)
    (case l_l_draw => k_is)
    (case c_l_draw => k_is)
    (case k_l_draw => k_is)
    (case a_l_pick => k_is)
    (case l_l_pick => k_is)
    (case c_l_pick => k_is)
    (case k_l_pick => k_is)
    (case a_l_mixed => k_is)
    (case l_l_mixed => k_is)
    (case c_l_mixed => k_is)
    (case k_l_mixed => k_is)
    (case a_p_is_list => k_is)
    (case l_p_is_list => k_is)
    (case c_p_is_list => k_is)
    (case k_p_is_list => k_is)
    (case a_p_is_name => k_is)
    (case l_p_is_name => k_is)
    (case c_p_is_name => k_is)
    (case k_p_is_name => k_is)
    (case a_l_is_name => k_is)
    (case l_l_is_name => k_is)
    (case c_l_is_name => k_is)
    (case k_l_is_name => k_is)
    (case a_p_as_tuples => k_is)
    (case l_p_as_tuples => k_is)
    (case c_p_as_tuples => k_is)
    (case k_p_as_tuples => k_is)
    (case a_p_is_expr => k_is)
    (case l_p_is_expr => k_is)
    (case c_p_is_expr => k_is)
    (case k_p_is_expr => k_is)
    (case a_p_is_line => k_is)
    (case l_p_is_line => k_is)
    (case c_p_is_line => k_is)
    (case k_p_is_line => k_is)
    (case a_l_is_expr => k_is)
    (case l_l_is_expr => k_is)
    (case c_l_is_expr => k_is)
    (case k_l_is_expr => k_is)
    (case a_l_is_line => k_is)
    (case l_l_is_line => k_is)
    (case c_l_is_line => k_is)
    (case k_l_is_line => k_is)
    (case a_l_fault => k_is)
    (case l_l_fault => k_is)
    (case c_l_fault => k_is)
    (case k_l_fault => k_is)
    (case a_l_each_once => k_is)
    (case l_l_each_once => k_is)
    (case c_l_each_once => k_is)
    (case k_l_each_once => k_is)
    (case a_l_a_name => k_is)
    (case l_l_a_name => k_is)
    (case c_l_a_name => k_is)
    (case k_l_a_name => k_is)
    (case a_l_a_expr => k_is)
    (case l_l_a_expr => k_is)
    (case c_l_a_expr => k_is)
    (case k_l_a_expr => k_is)
    (case a_l_a_lines => k_is)
    (case l_l_a_lines => k_is)
    (case c_l_a_lines => k_is)
    (case k_l_a_lines => k_is)
    (case a_l_same => k_is)
    (case l_l_same => k_is)
    (case c_l_same => k_is)
    (case k_l_same => k_is)
    (case a_l_loose => k_is)
    (case l_l_loose => k_is)
    (case c_l_loose => k_is)
    (case k_l_loose => k_is)
    (case a_l_odds => k_is)
    (case l_l_odds => k_is)
    (case c_l_odds => k_is)
    (case k_l_odds => k_is)
    (case a_l_met => k_is)
    (case l_l_met => k_is)
    (case c_l_met => k_is)
    (case k_l_met => k_is)
    (case a_l_told_right => k_is)
    (case l_l_told_right => k_is)
    (case c_l_told_right => k_is)
    (case k_l_told_right => k_is)
    (case a_law => k_is)
    (case l_law => k_is)
    (case c_law => k_is)
    (case k_law => k_is)
    (case a_p_BadLines_init => k_is)
    (case l_p_BadLines_init => k_is)
    (case c_p_BadLines_init => k_is)
    (case k_p_BadLines_init => k_is)
    (case t_p_BadLines_init => k_is)
    (case a_p_Source_init => k_is)
    (case l_p_Source_init => k_is)
    (case c_p_Source_init => k_is)
    (case k_p_Source_init => k_is)
    (case i_p_Source_init => k_is)
    (case a_p_Source_lines => k_is)
    (case l_p_Source_lines => k_is)
    (case c_p_Source_lines => k_is)
    (case k_p_Source_lines => k_is)
    (case i_p_Source_lines => k_is)
    (case a_p_Source_reads => k_is)
    (case l_p_Source_reads => k_is)
    (case c_p_Source_reads => k_is)
    (case k_p_Source_reads => k_is)
    (case i_p_Source_reads => k_is)
    (case a_p_Source_tells => k_is)
    (case l_p_Source_tells => k_is)
    (case c_p_Source_tells => k_is)
    (case k_p_Source_tells => k_is)
    (case i_p_Source_tells => k_is)
    (case a_p_Source_eq => k_is)
    (case l_p_Source_eq => k_is)
    (case c_p_Source_eq => k_is)
    (case k_p_Source_eq => k_is)
    (case i_p_Source_eq => k_is)
    (case pg => k_is)
    (case hd => k_is)
    (case po => k_is)
    (case sa => k_is)
    (case mk => k_is)
    (case kS => k_is)
    (case ha => k_is)
    (case hn => k_is)
    (case htk => k_is)
    (case hm => k_is)
    (case icS => k_is)
    (case tyS => k_is)
    (case no => k_is)
    (case subL => k_is)
    (case subT => k_is)
    (case nl1 => k_is)
    (case nl2 => k_is)
    (case ne => k_is)
    (case xB => k_is)
    (case saB => k_is)
    (case exB => k_is)
    (case tyB => k_is)
    (case kB => k_is)
    (case gaB => k_is)
    (case ggB => k_is)
    (case hdB => k_is)
    (case noB => k_is)
    (case icB => k_is)
    (case suB => k_is)
    (case aSm => k_is)
    (case aFi => k_is)
    (case aWo => k_is)
    (case lWo => k_is)
    (case z_all => k_is)
    (case z_bool => k_is)
    (case z_dict => k_is)
    (case z_enumerate => k_is)
    (case z_int => k_is)
    (case z_isinstance => k_is)
    (case z_len => k_is)
    (case z_list => k_is)
    (case z_max => k_is)
    (case z_range => k_is)
    (case z_repr => k_is)
    (case z_str => k_is)
    (case z_tuple => k_is)
    (case z_zip => k_is)
end
