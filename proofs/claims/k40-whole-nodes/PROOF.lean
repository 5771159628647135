import PyProof.Rows.All
import Wide.All
import OpenK.AllK
import Wide.FinOn
import PyProof.EqAt
import PyProof.EqKinds
import PyProof.TupleCall
import KE.GoesEnum
import HandS.ForMost
import HandS.Exc
import HandS.WordsExc
import HandS.IsInst
import HandS.Walk
import HandS.ExcInit
import HandS.ExcField
import HandS.CallLocal
import HandS.SortRule
import HandS.SortInts
import KE.DatumOrd
import HandS.SetFor
import HandS.Strs
import HandS.TupLe
import HandS.Conv
import PySem.Challenge.RW_linklines_k40_whole_nodes
set_option Elab.async false
set_option linter.all false
set_option maxRecDepth 100000
set_option maxHeartbeats 4000000
/-! Rules for a list or a tuple alike: subscripts, walks, enumerate. -/
namespace Lk
open PySem PySem.Spec PyProof.Rows L2

/-! ### subscripts -/
def rIxS (K : PySem.W.Frag) : R2 := fun x y H Q => rIxL K x y H Q ∨ rIxT K x y H Q
theorem ix_seq {X : Cx} {K : PySem.W.Frag} (hK : X.K = K := by rfl) : IxR X (rIxS K) := by
  subst hK
  exact IxR.or ix_list ix_tup
/-! ### rules of the layer with the written part as a letter of its own (within comprehensions) -/
section
variable {X : Cx} {K : PySem.W.Frag}
def rLen (K : PySem.W.Frag) : List V → Hp → VK → Prop := fun xs H Q => ∃ p ys, xs = [.ref p] ∧ (SqL K H p ys ∨ SqT K H p ys) ∧ Q (.int ys.length) H
theorem call_len (hK : X.K = K := by rfl) : CallR X (.builtin "len") (rLen K) := by
  subst hK
  exact call_len_seq
theorem call_all (hc : X.calm = true) (hK : X.K = K := by rfl) : CallR X (.builtin "all") (rAll K) := by
  subst hK
  exact cr_all hc
theorem call_any (hc : X.calm = true) (hK : X.K = K := by rfl) : CallR X (.builtin "any") (rAny K) := by
  subst hK
  exact cr_any hc
theorem call_sum (hc : X.calm = true) (hK : X.K = K := by rfl) : CallR X (.builtin "sum") (rSum K) := by
  subst hK
  exact cr_sum hc
theorem call_isinst (hK : X.K = K := by rfl) : CallR X (.builtin "isinstance") (rIsi K) := by
  subst hK
  exact call_isi
theorem call_isinstT (hK : X.K = K := by rfl) : CallR X (.builtin "isinstance") (rIsiT K) := by
  subst hK
  exact call_isiT
theorem sl_lst (hK : X.K = K := by rfl) : SlR X (rSlL K) := by
  subst hK
  exact sl_list
theorem op_inS (hK : X.K = K := by rfl) : OpR X (compareOp .In) (rIn K false) := by
  subst hK
  exact op_in_seq
theorem op_eqData (hu : X.A.units + 64 < cLine) (hK : X.K = K := by rfl) : OpR X (compareOp .Eq) (rEqD K) := by
  subst hK
  exact op_eqD hu
theorem op_neData (hu : X.A.units + 64 < cLine) (hK : X.K = K := by rfl) : OpR X (compareOp .NotEq) (rNeD K) := by
  subst hK
  exact op_neD hu
def rListOf (K : PySem.W.Frag) : List V → Hp → VK → Prop := fun xs H Q => ∃ p ys, xs = [.ref p] ∧ (SqL K H p ys ∨ SqT K H p ys) ∧ ∀ l, H l = none → Q (.ref l) (upd H l (.lst ys))
theorem call_list (hK : X.K = K := by rfl) : CallR X (.type "list") (rListOf K) := by
  subst hK
  exact call_list_of
theorem pg_tp {es : List Expr} {k n : Nat} {t : TGs} {pos : Pos} (hc : X.calm = true) (h : PGs X es t) (hK : X.K = K := by rfl)
    (hn : (assignEach es X.env).length = n := by rfl) (hst : (assignEach es X.env).findIdx? (·.1) = none := by rfl) : PG X (.Tuple es k pos) (gTup K n t) := by
  subst hK
  exact pg_tup hc h hn hst
theorem pe_bmK {T id : String} {name : Str} {r : V → List V → Hp → VK → Prop} {o e : Expr} {es : List Expr} {to : TE} {t : TA} {apos cpos : Pos} (pa : PlainAttrs T) (slot : Slot T name id) (hty : typeOf (.builtin id) = pure (.type "method_descriptor")) (hm : MtR X id r) (ho : PE X o to) (ha : PA X (e :: es) t) (hK : X.K = K := by rfl)
    (hbase : attributeBase o name X.env (eval o X.env) = eval o X.env := by rfl)
    (hfew : ((backTo cpos (starEach (e :: es) X.env)).all (fun x => !x.1) && (backToKw cpos (keywordEach [] X.env)).all (fun x => x.1.isSome)
      && decide ((e :: es).length + ([] : List Keyword).length + (if ([] : List Keyword).isEmpty then 0 else 1) < 30)) = true := by rfl)
    (hline : (apos.endLine == cpos.line) = true := by rfl) (hs : starEach (e :: es) X.env = (false, eval e X.env) :: starEach es X.env := by rfl) (hplain : (backTo cpos (starEach es X.env)).any (·.1) = false := by rfl) :
    PE X (.Call (.Attribute o name apos) (e :: es) [] cpos) (tBM K T r to t) := by
  subst hK
  exact pe_bm pa slot hty hm ho ha hbase hfew hline hs hplain
theorem pe_bm0K {T id : String} {name : Str} {r : V → List V → Hp → VK → Prop} {o : Expr} {to : TE} {apos cpos : Pos} (pa : PlainAttrs T) (slot : Slot T name id) (hty : typeOf (.builtin id) = pure (.type "method_descriptor")) (hm : MtR X id r) (ho : PE X o to) (hK : X.K = K := by rfl)
    (hbase : attributeBase o name X.env (eval o X.env) = eval o X.env := by rfl) (hline : (apos.endLine == cpos.line) = true := by rfl) : PE X (.Call (.Attribute o name apos) [] [] cpos) (tBM0 K T r to) := by
  subst hK
  exact pe_bm0 pa slot hty hm ho hbase hline
def rTupleOf (K : PySem.W.Frag) : List V → Hp → VK → Prop := fun xs H Q => ∃ p ys, xs = [.ref p] ∧ ((SqL K H p ys ∧ ∀ l, H l = none → Q (.ref l) (upd H l (.tup ys))) ∨ (SqT K H p ys ∧ Q (.ref p) H))
theorem call_tuple (hK : X.K = K := by rfl) : CallR X (.type "tuple") (rTupleOf K) := by
  subst hK
  exact call_tuple_of
end

/-! ### a list or a tuple walked -/
def iSeq (K : PySem.W.Frag) (tl : TE) : TI := fun σ H R => tl σ H fun x H1 => ∃ a, x = .ref a ∧ (((∃ xs, SqL K H1 a xs) ∧ R (Itl K a) H1) ∨ ((∃ xs, SqT K H1 a xs) ∧ R (Itt K a) H1))
theorem pi_seq {X : Cx} {K : PySem.W.Frag} {tg l : Expr} {tl : TE} (hl : PE X l tl) (hK : X.K = K := by rfl) : PI X tg l (iSeq K tl) := by
  subst hK
  refine ⟨fun pins s σ H R I h => ?_⟩
  refine thn (hl.run pins s σ H _ I h) fun v s1 ⟨x, H1, I1, r1, q1⟩ => ?_
  obtain ⟨a, e, q1⟩ := q1
  subst e
  cases r1
  rcases q1 with ⟨⟨xs, hq⟩, q⟩ | ⟨⟨xs, hq⟩, q⟩
  · obtain ⟨its, rv, p, hz⟩ := I1.list hq
    refine wpAny_pyIter_list p.isList ?_
    refine ⟨s1.heap.objs.size, [s1.heap.objs.size], _, _, H1, rfl, I1.kept (t' := s1.toks) fun b o e => Heap.get?_push_of_some _ e, turn_list a _, ⟨_, Heap.get?_push_size _ rfl, rfl, rfl⟩, fun b hb => ?_, q⟩
    have e : b = s1.heap.objs.size := by simpa using hb
    subst e
    exact I1.fpOk (Nat.le_refl _) (I1.hok.fresh (Nat.le_refl _))
  · obtain ⟨its, rv, p, hz⟩ := I1.tuple hq
    refine wpAny_pyIter_tuple (show s1.heap.IsTuple a its.toArray from p) ?_
    refine ⟨s1.heap.objs.size, [s1.heap.objs.size], _, _, H1, rfl, I1.kept (t' := s1.toks) fun b o e => Heap.get?_push_of_some _ e, turn_tuple a _, ⟨_, Heap.get?_push_size _ rfl, rfl, rfl⟩, fun b hb => ?_, q⟩
    have e : b = s1.heap.objs.size := by simpa using hb
    subst e
    exact I1.fpOk (Nat.le_refl _) (I1.hok.fresh (Nat.le_refl _))

/-! ### enumerate(tuple) -/
theorem meets_enumerate_newT (l : Addr) (items : Array Value) (n : Nat) (dct : Option Addr) (sl : Array (Option Value)) :
    Meets (Builtin.«enumerate.__new__» ⟨[.type "enumerate", .ref l], []⟩) (fun _ R s => s.heap.get? l = some { cls := .type "tuple", dict := dct, data := .seq items n, slots := sl } ∧
      R (.ok (.ret (.ref (s.heap.push { cls := .type "tuple_iterator", data := .fields #[.ref l, .int 0 0] }).objs.size)))
        { s with heap := (s.heap.push { cls := .type "tuple_iterator", data := .fields #[.ref l, .int 0 0] }).push { cls := .type "enumerate", data := .fields #[.none, .bool false, .ref s.heap.objs.size, rawInt 0, .none, .none] } }) :=
  .of_wp fun prog w A R s h => by
    obtain ⟨hp, g, d, tk, os⟩ := s; obtain ⟨hl, h⟩ := h
    have hsub := sub_enumerate
    have hL : Heap.IsTuple (Shared.heap ⟨hp, g, d, tk, os⟩) l items := ⟨_, hl, rfl, n, rfl⟩
    wp_walk using PySem.AutoSeq1.wpAny_loadPart' hl
    refine wpAny_stack_any fun st => wpAny_pure ?_
    split
    · rename_i c _ _ _ _ _
      cases (c == Value.type "enumerate")
      · wp_walk using PySem.AutoSeq1.wpAny_loadPart' hl, wpAny_pyIter_tuple hL
        exact ⟨_, rfl, h⟩
      · wp_walk using PySem.AutoSeq1.wpAny_loadPart' hl, wpAny_pyIter_tuple hL
        exact ⟨_, rfl, h⟩
    · wp_walk using PySem.AutoSeq1.wpAny_loadPart' hl, wpAny_pyIter_tuple hL
      exact ⟨_, rfl, h⟩
section
variable {prog : Program} {w : World} {A : Around} {E : Value → Shared → Prop} {s : Shared}
theorem call_enumerate_tuple {l : Addr} {items : Array Value} {Q : Value → Shared → Prop} (hL : s.heap.IsTuple l items)
    (h : ∀ h', IsEnum h' (s.heap.objs.size + 1) s.heap.objs.size 0 .none → h'.IsTupleIter s.heap.objs.size l 0 → h'.objs.size = s.heap.objs.size + 2 →
      (∀ b o, s.heap.get? b = some o → h'.get? b = some o) → Q (.ref (s.heap.objs.size + 1)) { s with heap := h' }) :
    wpAny (model prog w) A (call (.type "enumerate") [.ref l]) Q E s := by
  obtain ⟨⟨c, dct, dt, sl⟩, hl, hc, n, hd⟩ := hL
  replace hc : c = .type "tuple" := hc
  replace hd : dt = .seq items n := hd
  subst hc hd
  refine callType_new F.called_enumerate (by decide) (F.typeCall_enumerate_1 _) (F.newCall_enumerate_1 _) (fun obj => F.args_object_init_2 obj _) F.entry_enumerate_new
    (meets_enumerate_newT l items n dct sl) ⟨hl, ?_⟩
  have hz : (s.heap.push { cls := .type "tuple_iterator", data := .fields #[.ref l, .int 0 0] }).objs.size = s.heap.objs.size + 1 := Heap.size_push ..
  show _ ∧ _
  rw [hz]
  have he : IsEnum ((s.heap.push { cls := .type "tuple_iterator", data := .fields #[.ref l, .int 0 0] }).push
      { cls := .type "enumerate", data := .fields #[.none, .bool false, .ref s.heap.objs.size, rawInt 0, .none, .none] }) (s.heap.objs.size + 1) s.heap.objs.size 0 .none := by
    have := Heap.get?_push_size (s.heap.push { cls := .type "tuple_iterator", data := .fields #[.ref l, .int 0 0] })
      (o := { cls := .type "enumerate", data := .fields #[.none, .bool false, .ref s.heap.objs.size, rawInt 0, .none, .none] }) rfl
    rw [hz] at this; exact this
  refine ⟨⟨_, he, rfl⟩, h _ he ⟨_, Heap.get?_push_of_some _ (Heap.get?_push_size _ rfl), rfl, rfl⟩ (by rw [Heap.size_push, hz]) fun b o x => Heap.get?_push_of_some _ (Heap.get?_push_of_some _ x)⟩
end
def IteT (K : PySem.W.Frag) (a : Addr) : It :=
  ⟨fun i H => ∃ (xs : List V) (x : V), SqT K H a xs ∧ xs[i]? = some x, fun i H v H' => ∃ T x, v = .ref T ∧ H T = none ∧ H' = upd H T (.tup [.int (i : Nat), x]) ∧ ∀ xs, SqT K H a xs → xs[i]? = some x, fun i H => ∃ xs : List V, SqT K H a xs ∧ xs.length = i⟩
theorem turn_enumT {P : Program} {w : World} {K : PySem.W.Frag} {elts : List Expr} {kk : Nat} {tpos : Pos} (a e it : Addr) (hai : a ≠ it) (hae : a ≠ e) :
    Turn P w K (.Tuple elts kk tpos) (IteT K a) [e, it] e (fun i h => (∃ old, IsEnum h e it ((i : Nat) : Int) old) ∧ h.IsTupleIter it a i ∧ e ≠ it) where
  mem := by simp
  obj := fun i h st b hb => by
    obtain ⟨⟨old, he⟩, ⟨o, ho, hc, hd⟩, _⟩ := st
    have e' : b = e ∨ b = it := by simpa using hb
    rcases e' with z | z
    · rw [z]; exact ⟨_, he, fun v q => nomatch q⟩
    · rw [z]; exact ⟨o, ho, fun v q => by rw [hd] at q; cases q⟩
  keep := fun i h h' st k => let ⟨⟨old, he⟩, hi, hne⟩ := st; ⟨⟨old, k e (by simp) _ he⟩, hi.at fun o q => k it (by simp) o q, hne⟩
  item := by
    intro X hP hw hK hc i pins s σ H E I hf st hg
    subst hP hw hK
    obtain ⟨⟨old, he⟩, hit, hne⟩ := st
    obtain ⟨xs, x, hq, hx⟩ := hg
    obtain ⟨its, rv, p, hz⟩ := I.tuple hq
    obtain ⟨u, hu, ru⟩ := rv.get hx
    have hel : e < s.heap.objs.size := Heap.lt_size he
    have hil : it < s.heap.objs.size := by obtain ⟨_, q, _⟩ := hit; exact Heap.lt_size q
    have pt : s.heap.IsTuple a its.toArray := p
    have hi : i < its.toArray.size := by
      have := rv.length
      have hh := (List.getElem?_eq_some_iff.mp hx).1
      simp
      omega
    have Dr := Draws.tuple (prog := X.prog) (w := X.w) (A := X.A.in1) (I.ok.hd hc) it a hai its.toArray
    refine wpAny_pyNext_enum_itemD Dr he ⟨hit, pt⟩ hi hne (by simp; exact ⟨hne, fun z => hae z.symm⟩) fun x' h' tk hP' ho hst' hT hsz hk => ?_
    have eu : x' = u := by
      have h1 : its.toArray[i]? = some x' := hP'
      have h2 : its.toArray[i]? = some u := by simpa using hu
      exact Option.some.inj (h1.symm.trans h2)
    subst eu
    obtain ⟨hit', _⟩ := hst'
    refine ⟨_, rfl, wpAny_letOwnedTupleGo_enum (s := { s with heap := h', toks := tk + 1 }) ho fun h'' he' sb => ?_⟩
    have hT2 : h''.get? s.heap.objs.size = some { cls := .type "tuple", data := .seq #[.int i tk, x'] } := (sb.2 _ (Nat.ne_of_gt hel)).trans hT
    have new : ObjOk X.prog X.w (upd H s.heap.objs.size (.tup [.int (i : Nat), x])) h'' s.heap.objs.size (.tup [.int (i : Nat), x]) :=
      ⟨by show 2 ≤ sizeLine; decide, [.int i tk, x'], .cons ⟨_, rfl⟩ (.cons ru .nil), ⟨_, hT2, rfl, _, rfl⟩⟩
    have I1 : Inv X pins σ (upd H s.heap.objs.size (.tup [.int (i : Nat), x])) { s with heap := h'', toks := tk + 1 } :=
      I.turnedNew (ch := [e, it]) (fun b ob hb q => (sb.2 b (fun z => hb (by simp [z]))).trans (hk b ob (fun z => hb (by simp [z])) (fun z => hb (by simp [z])) q)) hf (Nat.le_refl _) new
    refine ⟨.ref s.heap.objs.size, _, I1, rfl, ⟨_, x, rfl, I.hok.fresh (Nat.le_refl _), rfl, fun ys hy => by rw [I.tuple_inj hy hq]; exact hx⟩, ⟨⟨x', ?_⟩, hit'.at fun o q => (sb.2 it (Ne.symm hne)).trans q, hne⟩, fun b hb => ?_⟩
    · have e1 : ((i + 1 : Nat) : Int) = (i : Int) + 1 := by omega
      rw [e1]; exact he'
    · have hb' : b < s.heap.objs.size := by
        have e' : b = e ∨ b = it := by simpa using hb
        rcases e' with z | z
        · rw [z]; exact hel
        · rw [z]; exact hil
      rw [upd_ne (Nat.ne_of_lt hb')]
      exact (hf b hb).1
  done := by
    intro X hP hw hK hc i pins s σ H E I hf st hg
    subst hP hw hK
    obtain ⟨⟨old, he⟩, hit, hne⟩ := st
    obtain ⟨xs, hq, hx⟩ := hg
    obtain ⟨its, rv, p, hz⟩ := I.tuple hq
    obtain ⟨f0, f1, f2, f3, f4, f5⟩ := hf it (by simp)
    have hl := rv.length
    have pt : s.heap.IsTuple a its.toArray := p
    have Dr := Draws.tuple (prog := X.prog) (w := X.w) (A := X.A.in1) (I.ok.hd hc) it a hai its.toArray
    have hi : its.toArray.size = i := by simp; omega
    exact wpAny_pyNext_enum_endD Dr he (by rw [hi]; exact ⟨hit, pt⟩) fun h' eb => ⟨rfl, I.turned (t' := s.toks) (fun b o hb q => eb b o hb q) f0 f1 f3 f4 f5⟩
  self := fun A i s Q E st h => let ⟨⟨_, he⟩, _⟩ := st; wpAny_pyIter_enum he h
def iEnumS (K : PySem.W.Frag) (ta : TA) : TI := fun σ H R => ta σ H fun vs H1 => ∃ a xs, vs = [.ref a] ∧ ((SqL K H1 a xs ∧ R (Ite K a) H1) ∨ (SqT K H1 a xs ∧ R (IteT K a) H1))
theorem pi_enumS {X : Cx} {K : PySem.W.Frag} {e : Expr} {ta : TA} {p pos tpos : Pos} {elts : List Expr} {kk : Nat} (hg : Gl X "enumerate") (hm : X.mg "enumerate" = none) (ha : PA X [e] ta) (hK : X.K = K := by rfl) (hs : starEach [e] X.env = [(false, eval e X.env)] := by rfl) :
    PI X (.Tuple elts kk tpos) (.Call (.Name "enumerate" p) [e] [] pos) (iEnumS K ta) := by
  subst hK
  refine ⟨fun pins s σ H R I h => ?_⟩
  refine Call_ (ld_blt I hg hm boot_enumerate (PyProof.Rows.callWith_type1 (thn (ha.run pos pins s σ H _ I h) fun us s1 ⟨vs, H1, I1, r1, q1⟩ => ?_) hs rfl))
  obtain ⟨a, xs, ex, hq⟩ := q1
  subst ex
  cases r1 with
  | cons r rr =>
    cases rr
    cases r
    have fp : ∀ b ∈ [s1.heap.objs.size + 1, s1.heap.objs.size], FpOk X pins H1 b := fun b hb => by
      have e' : b = s1.heap.objs.size + 1 ∨ b = s1.heap.objs.size := by simpa using hb
      have hle : s1.heap.objs.size ≤ b := by
        rcases e' with z | z
        · rw [z]; exact Nat.le_add_right _ _
        · rw [z]; exact Nat.le_refl _
      exact I1.fpOk hle (I1.hok.fresh hle)
    rcases hq with ⟨hq, q⟩ | ⟨hq, q⟩
    · obtain ⟨its, rv, p', hz⟩ := I1.list hq
      refine call_enumerate_list p'.isList fun h' he hit hsz hk => wpAny_pyIter_enum he ?_
      have I2 : Inv X pins σ H1 { s1 with heap := h' } := I1.kept (t' := s1.toks) hk
      exact ⟨s1.heap.objs.size + 1, [s1.heap.objs.size + 1, s1.heap.objs.size], _, _, H1, rfl, I2, turn_enum a (s1.heap.objs.size + 1) s1.heap.objs.size, ⟨⟨.none, he⟩, hit, Nat.succ_ne_self _⟩, fp, q⟩
    · obtain ⟨its, rv, p', hz⟩ := I1.tuple hq
      have pt : s1.heap.IsTuple a its.toArray := p'
      have hal : a < s1.heap.objs.size := by
        obtain ⟨o, ho, _⟩ := pt
        exact Heap.lt_size ho
      refine call_enumerate_tuple pt fun h' he hit hsz hk => wpAny_pyIter_enum he ?_
      have I2 : Inv X pins σ H1 { s1 with heap := h' } := I1.kept (t' := s1.toks) hk
      exact ⟨s1.heap.objs.size + 1, [s1.heap.objs.size + 1, s1.heap.objs.size], _, _, H1, rfl, I2, turn_enumT a (s1.heap.objs.size + 1) s1.heap.objs.size (Nat.ne_of_lt hal) (Nat.ne_of_lt (Nat.lt_succ_of_lt hal)), ⟨⟨.none, he⟩, hit, Nat.succ_ne_self _⟩, fp, q⟩
end Lk
/-! Types by tags, heaps, a call of a local name that may raise. -/
namespace Lk
open PySem PySem.Spec PyProof.Rows L2

/-! ### types by tags -/
inductive Tg where
  | non | bl | int | str | lst | tup | dct
  deriving DecidableEq
def Tg.nm : Tg → String
  | .non => "NoneType" | .bl => "bool" | .int => "int" | .str => "str" | .lst => "list" | .tup => "tuple" | .dct => "dict"
def Tg.sub (a b : Tg) : Bool := decide (a = b) || (decide (a = .bl) && decide (b = .int))
def HasTy (K : PySem.W.Frag) (H : Hp) (v : V) (t : Tg) : Prop := TyX K H v (.type t.nm)
theorem kit_tg {K : PySem.W.Frag} : ∀ (a b : Tg), b ≠ .non → PySem.W.kitOne K (.type a.nm) (.type b.nm) = some (a.sub b) := by
  intro a b h
  cases b
  · exact absurd rfl h
  all_goals (cases a <;> exact kit_ty (by decide +kernel))
section
variable {K : PySem.W.Frag} {H H' : Hp} {a : Addr} {xs : List V}
theorem hasTy_non : HasTy K H .non .non := .base .non
theorem hasTy_bl {b : Bool} : HasTy K H (.bl b) .bl := .base (.bl b)
theorem hasTy_int {i : Int} : HasTy K H (.int i) .int := .base (.int i)
theorem hasTy_str {z : Str} : HasTy K H (.str z) .str := .base (.str z)
theorem hasTy_lst (h : SqL K H a xs) : HasTy K H (.ref a) .lst := by
  rcases h with (h | ⟨o, h⟩) | ⟨o, its, n, h1, h2, _⟩
  · exact .base (.lst h)
  · exact .base (.frz h)
  · exact .kList h1 h2
theorem hasTy_tup (h : SqT K H a xs) : HasTy K H (.ref a) .tup := by
  rcases h with (h | ⟨o, h⟩) | ⟨o, its, n, h1, h2, _⟩
  · exact .base (.tup h)
  · exact .fTuple h
  · exact .kTuple h1 h2
theorem hasTy_dct {kvs : List (Key × V)} (h : H a = some (.dK kvs)) : HasTy K H (.ref a) .dct := .base (.dK h)

/-! ### heaps -/
theorem same_new {p : Addr} {o : HO} (h : H p = none) : Same H (upd H p o) := fun b x e => by
  rw [upd_ne (ne_of_none e h)]
  exact e
theorem _root_.L2.Same.new {p : Addr} {o : HO} (e : Same H H') (h : H' p = none) : Same H (upd H' p o) := e.trans (same_new h)
/-- what H did not know may change -/
theorem _root_.L2.Same.mut {p : Addr} {o : HO} (e : Same H H') (h : H p = none) : Same H (upd H' p o) := fun b x q => by
  rw [upd_ne (ne_of_none q h)]
  exact e b x q
theorem _root_.L2.Same.rd {u : HO} (e : Same H H') (h : Rd H a u) : Rd H' a u := by
  rcases h with h | ⟨o, h⟩
  · exact Or.inl (e a _ h)
  · exact Or.inr ⟨o, e a _ h⟩
theorem _root_.L2.Same.sqT (e : Same H H') (h : SqT K H a xs) : SqT K H' a xs := by
  rcases h with h | h
  · exact Or.inl (e.rd h)
  · exact Or.inr h
def Sq (K : PySem.W.Frag) (H : Hp) (a : Addr) (xs : List V) : Prop := SqL K H a xs ∨ SqT K H a xs
theorem _root_.L2.Same.sq (e : Same H H') (h : Sq K H a xs) : Sq K H' a xs := h.imp (fun z => e.seq z) fun z => e.sqT z
theorem _root_.L2.Same.ty {v : V} {t : Tg} (e : Same H H') (h : HasTy K H v t) : HasTy K H' v t := by
  unfold HasTy at *
  generalize hg : Value.type t.nm = g at *
  cases h with
  | base b =>
    cases b with
    | non => exact .base .non
    | bl x => exact .base (.bl x)
    | int x => exact .base (.int x)
    | str x => exact .base (.str x)
    | flt x => exact .base (.flt x)
    | lst q => exact .base (.lst (e _ _ q))
    | frz q => exact .base (.frz (e _ _ q))
    | tup q => exact .base (.tup (e _ _ q))
    | dK q => exact .base (.dK (e _ _ q))
    | dT q => exact .base (.dT (e _ _ q))
    | ins q cl ha hn htk hm => exact .base (.ins (e _ _ q) cl ha hn htk hm)
  | byt b => exact .byt b
  | set q => exact .set (e _ _ q)
  | kList q c => exact .kList q c
  | kTuple q c => exact .kTuple q c
  | kDict q c => exact .kDict q c
  | fTuple q => exact .fTuple (e _ _ q)
  | fDict q => exact .fDict (e _ _ q)
theorem sqL_of (h : H a = some (.lst xs)) : SqL K H a xs := .inl (.inl h)
theorem sqT_of (h : H a = some (.tup xs)) : SqT K H a xs := .inl (.inl h)
theorem sq_lst (h : H a = some (.lst xs)) : Sq K H a xs := .inl (sqL_of h)
theorem sq_tup (h : H a = some (.tup xs)) : Sq K H a xs := .inr (sqT_of h)
theorem Sq.ty (h : Sq K H a xs) : HasTy K H (.ref a) .lst ∨ HasTy K H (.ref a) .tup := h.imp hasTy_lst hasTy_tup
theorem none_of_upd {p q : Addr} {o : HO} (h : upd H p o q = none) : H q = none ∧ q ≠ p := by
  by_cases e : q = p
  · subst e
    rw [upd_same] at h
    cases h
  · rw [upd_ne e] at h
    exact ⟨h, e⟩
end
/-- all but what stands at p is as it was -/
def SameBut (p : Addr) (H H' : Hp) : Prop := ∀ b o, b ≠ p → H b = some o → H' b = some o
theorem SameBut.refl {p : Addr} {H : Hp} : SameBut p H H := fun _ _ _ h => h
theorem SameBut.trans {p : Addr} {H H1 H2 : Hp} (a : SameBut p H H1) (b : SameBut p H1 H2) : SameBut p H H2 := fun x o n h => b x o n (a x o n h)
theorem _root_.L2.Same.but {p : Addr} {H H' : Hp} (e : Same H H') : SameBut p H H' := fun b o _ h => e b o h
theorem SameBut.at_ {p : Addr} {H : Hp} {o : HO} : SameBut p H (upd H p o) := fun b x n h => by
  rw [upd_ne n]
  exact h
theorem SameBut.new {p q : Addr} {H H' : Hp} {o : HO} (e : SameBut p H H') (h : H' q = none) : SameBut p H (upd H' q o) := e.trans (same_new h).but
theorem SameBut.mut {p q : Addr} {H H' : Hp} {o : HO} (e : SameBut p H H') (h : H q = none) : SameBut p H (upd H' q o) := fun b x n z => by
  rw [upd_ne (ne_of_none z h)]
  exact e b x n z
theorem SameBut.free {p q : Addr} {H H' : Hp} {o : HO} (e : SameBut p H H') (hp : H' p = some o) (h : H' q = none) : H q = none := by
  cases z : H q with
  | none => rfl
  | some x =>
    have n : q ≠ p := fun y => by
      subst y
      rw [hp] at h
      cases h
    rw [e q x n z] at h
    cases h

/-! ### for loops and comprehensions over a list or a tuple -/
/-- what stands at a stays -/
def KeepsAt (a : Addr) (H H' : Hp) : Prop := ∀ o, H a = some o → H' a = some o
theorem _root_.L2.Same.keeps {a : Addr} {H H' : Hp} (e : Same H H') : KeepsAt a H H' := fun o h => e a o h
theorem SameBut.keeps {a p : Addr} {H H' : Hp} (e : SameBut p H H') (n : a ≠ p) : KeepsAt a H H' := fun o h => e a o n h
theorem KeepsAt.sqL {K : PySem.W.Frag} {a : Addr} {H H' : Hp} {xs : List V} (e : KeepsAt a H H') (h : SqL K H a xs) : SqL K H' a xs := by
  rcases h with (h | ⟨o, h⟩) | h
  · exact .inl (.inl (e _ h))
  · exact .inl (.inr ⟨o, e _ h⟩)
  · exact .inr h
theorem KeepsAt.sqT {K : PySem.W.Frag} {a : Addr} {H H' : Hp} {xs : List V} (e : KeepsAt a H H') (h : SqT K H a xs) : SqT K H' a xs := by
  rcases h with (h | ⟨o, h⟩) | h
  · exact .inl (.inl (e _ h))
  · exact .inl (.inr ⟨o, e _ h⟩)
  · exact .inr h
theorem KeepsAt.sq {K : PySem.W.Frag} {a : Addr} {H H' : Hp} {xs : List V} (e : KeepsAt a H H') (h : Sq K H a xs) : Sq K H' a xs := h.imp e.sqL e.sqT
theorem KeepsAt.refl {a : Addr} {H : Hp} : KeepsAt a H H := fun _ h => h
theorem KeepsAt.trans {a : Addr} {H H1 H2 : Hp} (x : KeepsAt a H H1) (y : KeepsAt a H1 H2) : KeepsAt a H H2 := fun o h => y o (x o h)
theorem walk_enumT {K : PySem.W.Frag} {a : Addr} {xs : List V} : Walk (IteT K a) xs.length (fun H => SqT K H a xs) (YPair (fun i => some (.int (i : Nat))) (fun i => xs[i]?)) := by
  refine ⟨fun i _ hi q => ⟨xs, xs[i], q, by simp [hi]⟩, fun _ q => ⟨xs, q, rfl⟩, fun i H v H' _ q y => ?_⟩
  obtain ⟨T, x, h1, h2, h3, h4⟩ := y
  exact ⟨T, .int (i : Nat), x, h1, h2, h3, rfl, h4 xs q⟩
/-- for x in a list or tuple -/
theorem for_seq {K : PySem.W.Frag} {a : Addr} {xs : List V} {g : TG} {tb : TS} {D : Ends} {σ : L2.St} {H : Hp} (hq : Sq K H a xs) (Pv : Nat → L2.St → Hp → Prop) (h0 : Pv 0 σ H) (hl : ∀ i σ H', Pv i σ H' → KeepsAt a H H')
    (hs : ∀ i x σ H, xs[i]? = some x → Pv i σ H → g x σ H fun σ2 H2 => tb { D with nx := Pv (i + 1), ct := Pv (i + 1), bk := D.nx } σ2 H2) (hd : ∀ σ H, Pv xs.length σ H → D.nx σ H) :
    ∃ a', V.ref a = V.ref a' ∧ (((∃ xs, SqL K H a' xs) ∧ ∃ W : Nat → Nat → L2.St → Hp → Prop, (∃ m, W 0 m σ H) ∧ ∀ i m σ H, W i m σ H →
      ((Itl K a').stop i H ∧ D.nx σ H) ∨ ((Itl K a').go i H ∧ ∃ N : L2.St → Hp → Prop, (∀ σ' H', N σ' H' → ∃ m', m' < m ∧ W (i + 1) m' σ' H') ∧ ∀ x H', (Itl K a').yld i H x H' → g x σ H' fun σ2 H2 => tb { D with nx := N, ct := N, bk := D.nx } σ2 H2)) ∨
      ((∃ xs, SqT K H a' xs) ∧ ∃ W : Nat → Nat → L2.St → Hp → Prop, (∃ m, W 0 m σ H) ∧ ∀ i m σ H, W i m σ H →
      ((Itt K a').stop i H ∧ D.nx σ H) ∨ ((Itt K a').go i H ∧ ∃ N : L2.St → Hp → Prop, (∀ σ' H', N σ' H' → ∃ m', m' < m ∧ W (i + 1) m' σ' H') ∧ ∀ x H', (Itt K a').yld i H x H' → g x σ H' fun σ2 H2 => tb { D with nx := N, ct := N, bk := D.nx } σ2 H2))) := by
  refine ⟨a, rfl, ?_⟩
  rcases hq with q | q
  · exact .inl ⟨⟨xs, q⟩, for_it walk_list Pv h0 (fun i σ' H' _ p => (hl i σ' H' p).sqL q) (fun i x σ' H1 H' _ p y => by rw [y.1]; exact hs i x σ' H1 y.2 p) hd⟩
  · exact .inr ⟨⟨xs, q⟩, for_it walk_tup Pv h0 (fun i σ' H' _ p => (hl i σ' H' p).sqT q) (fun i x σ' H1 H' _ p y => by rw [y.1]; exact hs i x σ' H1 y.2 p) hd⟩
/-- for i, x in enumerate(a list or tuple) -/
theorem for_enum {K : PySem.W.Frag} {a : Addr} {xs : List V} {g : TG} {tb : TS} {D : Ends} {σ : L2.St} {H : Hp} (hq : Sq K H a xs) (Pv : Nat → L2.St → Hp → Prop) (h0 : Pv 0 σ H) (hl : ∀ i σ H', Pv i σ H' → KeepsAt a H H')
    (hs : ∀ i x σ H T, xs[i]? = some x → Pv i σ H → H T = none → g (.ref T) σ (upd H T (.tup [.int (i : Nat), x])) fun σ2 H2 => tb { D with nx := Pv (i + 1), ct := Pv (i + 1), bk := D.nx } σ2 H2) (hd : ∀ σ H, Pv xs.length σ H → D.nx σ H) :
    ∃ a' xs', [V.ref a] = [V.ref a'] ∧ ((SqL K H a' xs' ∧ ∃ W : Nat → Nat → L2.St → Hp → Prop, (∃ m, W 0 m σ H) ∧ ∀ i m σ H, W i m σ H →
      ((Ite K a').stop i H ∧ D.nx σ H) ∨ ((Ite K a').go i H ∧ ∃ N : L2.St → Hp → Prop, (∀ σ' H', N σ' H' → ∃ m', m' < m ∧ W (i + 1) m' σ' H') ∧ ∀ x H', (Ite K a').yld i H x H' → g x σ H' fun σ2 H2 => tb { D with nx := N, ct := N, bk := D.nx } σ2 H2)) ∨
      (SqT K H a' xs' ∧ ∃ W : Nat → Nat → L2.St → Hp → Prop, (∃ m, W 0 m σ H) ∧ ∀ i m σ H, W i m σ H →
      ((IteT K a').stop i H ∧ D.nx σ H) ∨ ((IteT K a').go i H ∧ ∃ N : L2.St → Hp → Prop, (∀ σ' H', N σ' H' → ∃ m', m' < m ∧ W (i + 1) m' σ' H') ∧ ∀ x H', (IteT K a').yld i H x H' → g x σ H' fun σ2 H2 => tb { D with nx := N, ct := N, bk := D.nx } σ2 H2))) := by
  refine ⟨a, xs, rfl, ?_⟩
  have st : ∀ i x σ' H1 H', Pv i σ' H1 → YPair (fun i => some (.int (i : Nat))) (fun i => xs[i]?) i H1 x H' → g x σ' H' fun σ2 H2 => tb { D with nx := Pv (i + 1), ct := Pv (i + 1), bk := D.nx } σ2 H2 := by
    rintro i x σ' H1 H' p ⟨T, y, z, rfl, nT, rfl, e1, e2⟩
    cases e1
    exact hs i z σ' H1 T e2 p nT
  rcases hq with q | q
  · exact .inl ⟨q, for_it walk_enum Pv h0 (fun i σ' H' _ p => (hl i σ' H' p).sqL q) (fun i x σ' H1 H' _ p y => st i x σ' H1 H' p y) hd⟩
  · exact .inr ⟨q, for_it walk_enumT Pv h0 (fun i σ' H' _ p => (hl i σ' H' p).sqT q) (fun i x σ' H1 H' _ p y => st i x σ' H1 H' p y) hd⟩
/-- [e for x in a list or tuple] -/
theorem lc_seq {K : PySem.W.Frag} {a : Addr} {xs : List V} {g : TG} {tt : TT} {te : TE} {vs : List Nat} {σ : L2.St} {H : Hp} {Qd : Addr → Hp → Prop} (hq : Sq K H a xs) (Pv : Addr → Nat → Hp → Prop) (h0 : ∀ D, H D = none → Pv D 0 (upd H D (.lst []))) (hl : ∀ D i H', H D = none → Pv D i H' → KeepsAt a H H')
    (hs : ∀ D i x H', H D = none → xs[i]? = some x → Pv D i H' → g x (wipe σ vs) H' fun σ2 H2 => wipe σ2 vs = wipe σ vs ∧ tt σ2 H2 fun b H3 =>
      if b = true then te σ2 H3 fun y H4 => ∃ acc, H4 D = some (.lst acc) ∧ acc.length < sizeLine ∧ Pv D (i + 1) (upd H4 D (.lst (acc ++ [y]))) else Pv D (i + 1) H3) (hd : ∀ D H', H D = none → Pv D xs.length H' → Qd D H') :
    ∃ a', V.ref a = V.ref a' ∧ (((∃ xs, SqL K H a' xs) ∧ ∀ D : Addr, H D = none → ∃ W : Nat → Nat → Hp → Prop, (∃ m, W 0 m (upd H D (.lst []))) ∧ ∀ i m H, W i m H →
      ((Itl K a').stop i H ∧ Qd D H) ∨ ((Itl K a').go i H ∧ ∃ Nx : Hp → Prop, (∀ H', Nx H' → ∃ m', m' < m ∧ W (i + 1) m' H') ∧ ∀ x H', (Itl K a').yld i H x H' → g x (wipe σ vs) H' fun σ2 H2 => wipe σ2 vs = wipe σ vs ∧ tt σ2 H2 fun b H3 =>
        if b = true then te σ2 H3 fun y H4 => ∃ acc, H4 D = some (.lst acc) ∧ acc.length < sizeLine ∧ Nx (upd H4 D (.lst (acc ++ [y]))) else Nx H3)) ∨
      ((∃ xs, SqT K H a' xs) ∧ ∀ D : Addr, H D = none → ∃ W : Nat → Nat → Hp → Prop, (∃ m, W 0 m (upd H D (.lst []))) ∧ ∀ i m H, W i m H →
      ((Itt K a').stop i H ∧ Qd D H) ∨ ((Itt K a').go i H ∧ ∃ Nx : Hp → Prop, (∀ H', Nx H' → ∃ m', m' < m ∧ W (i + 1) m' H') ∧ ∀ x H', (Itt K a').yld i H x H' → g x (wipe σ vs) H' fun σ2 H2 => wipe σ2 vs = wipe σ vs ∧ tt σ2 H2 fun b H3 =>
        if b = true then te σ2 H3 fun y H4 => ∃ acc, H4 D = some (.lst acc) ∧ acc.length < sizeLine ∧ Nx (upd H4 D (.lst (acc ++ [y]))) else Nx H3))) := by
  refine ⟨a, rfl, ?_⟩
  rcases hq with q | q
  · exact .inl ⟨⟨xs, q⟩, fun D hD => lc_it walk_list (Pv D) (h0 D hD) (fun i H' _ p => (hl D i H' hD p).sqL q) (fun i x H1 H' _ p y => by rw [y.1]; exact hs D i x H1 hD y.2 p) (fun H' => hd D H' hD)⟩
  · exact .inr ⟨⟨xs, q⟩, fun D hD => lc_it walk_tup (Pv D) (h0 D hD) (fun i H' _ p => (hl D i H' hD p).sqT q) (fun i x H1 H' _ p y => by rw [y.1]; exact hs D i x H1 hD y.2 p) (fun H' => hd D H' hD)⟩
/-- [e for i, x in enumerate(a list or tuple)] -/
theorem lc_enum {K : PySem.W.Frag} {a : Addr} {xs : List V} {g : TG} {tt : TT} {te : TE} {vs : List Nat} {σ : L2.St} {H : Hp} {Qd : Addr → Hp → Prop} (hq : Sq K H a xs) (Pv : Addr → Nat → Hp → Prop) (h0 : ∀ D, H D = none → Pv D 0 (upd H D (.lst []))) (hl : ∀ D i H', H D = none → Pv D i H' → KeepsAt a H H')
    (hs : ∀ D i x H' T, H D = none → xs[i]? = some x → Pv D i H' → H' T = none → g (.ref T) (wipe σ vs) (upd H' T (.tup [.int (i : Nat), x])) fun σ2 H2 => wipe σ2 vs = wipe σ vs ∧ tt σ2 H2 fun b H3 =>
      if b = true then te σ2 H3 fun y H4 => ∃ acc, H4 D = some (.lst acc) ∧ acc.length < sizeLine ∧ Pv D (i + 1) (upd H4 D (.lst (acc ++ [y]))) else Pv D (i + 1) H3) (hd : ∀ D H', H D = none → Pv D xs.length H' → Qd D H') :
    ∃ a' xs', [V.ref a] = [V.ref a'] ∧ ((SqL K H a' xs' ∧ ∀ D : Addr, H D = none → ∃ W : Nat → Nat → Hp → Prop, (∃ m, W 0 m (upd H D (.lst []))) ∧ ∀ i m H, W i m H →
      ((Ite K a').stop i H ∧ Qd D H) ∨ ((Ite K a').go i H ∧ ∃ Nx : Hp → Prop, (∀ H', Nx H' → ∃ m', m' < m ∧ W (i + 1) m' H') ∧ ∀ x H', (Ite K a').yld i H x H' → g x (wipe σ vs) H' fun σ2 H2 => wipe σ2 vs = wipe σ vs ∧ tt σ2 H2 fun b H3 =>
        if b = true then te σ2 H3 fun y H4 => ∃ acc, H4 D = some (.lst acc) ∧ acc.length < sizeLine ∧ Nx (upd H4 D (.lst (acc ++ [y]))) else Nx H3)) ∨
      (SqT K H a' xs' ∧ ∀ D : Addr, H D = none → ∃ W : Nat → Nat → Hp → Prop, (∃ m, W 0 m (upd H D (.lst []))) ∧ ∀ i m H, W i m H →
      ((IteT K a').stop i H ∧ Qd D H) ∨ ((IteT K a').go i H ∧ ∃ Nx : Hp → Prop, (∀ H', Nx H' → ∃ m', m' < m ∧ W (i + 1) m' H') ∧ ∀ x H', (IteT K a').yld i H x H' → g x (wipe σ vs) H' fun σ2 H2 => wipe σ2 vs = wipe σ vs ∧ tt σ2 H2 fun b H3 =>
        if b = true then te σ2 H3 fun y H4 => ∃ acc, H4 D = some (.lst acc) ∧ acc.length < sizeLine ∧ Nx (upd H4 D (.lst (acc ++ [y]))) else Nx H3))) := by
  refine ⟨a, xs, rfl, ?_⟩
  have st : ∀ D i x H1 H', H D = none → Pv D i H1 → YPair (fun i => some (.int (i : Nat))) (fun i => xs[i]?) i H1 x H' → g x (wipe σ vs) H' fun σ2 H2 => wipe σ2 vs = wipe σ vs ∧ tt σ2 H2 fun b H3 =>
      if b = true then te σ2 H3 fun y H4 => ∃ acc, H4 D = some (.lst acc) ∧ acc.length < sizeLine ∧ Pv D (i + 1) (upd H4 D (.lst (acc ++ [y]))) else Pv D (i + 1) H3 := by
    rintro D i x H1 H' hD p ⟨T, y, z, rfl, nT, rfl, e1, e2⟩
    cases e1
    exact hs D i z H1 T hD e2 p nT
  rcases hq with q | q
  · exact .inl ⟨q, fun D hD => lc_it walk_enum (Pv D) (h0 D hD) (fun i H' _ p => (hl D i H' hD p).sqL q) (fun i x H1 H' _ p y => st D i x H1 H' hD p y) (fun H' => hd D H' hD)⟩
  · exact .inr ⟨q, fun D hD => lc_it walk_enumT (Pv D) (h0 D hD) (fun i H' _ p => (hl D i H' hD p).sqT q) (fun i x H1 H' _ p y => st D i x H1 H' hD p y) (fun H' => hd D H' hD)⟩

/-! ### an own error is made -/
/-- self.f = f -/
def sp_init (C : Addr) (f : Str) : Sp := fun vs H Q _ => ∃ a v, vs = [.ref a, v] ∧ H a = some (exo a C none) ∧ ∀ dx, H dx = none → dx ≠ a → Q .non (upd (upd H dx (exd dx [(f, v)])) a (exo a C (some dx)))
/-- what is asked of the way out of an error with one field -/
def ErrK (E : XK) (C : Addr) (f : Str) (v : V) (H : Hp) : Prop := ∀ d H', Same H H' → H d = none → H' d = some (.xd [(f, v)]) → E (.ref C) (some d) H'
theorem err_k {C : Addr} {f : Str} {H1 : Hp} {v : V} {W : XK} (h : ErrK W C f v H1) :
    ([v] : List V).length ≤ 1000 ∧ ∀ a, H1 a = none → sp_init C f (.ref a :: ([v] ++ [])) (upd H1 a (exo a C none)) (fun u H2 => u = .non ∧ ∃ (d : Addr) (fs : List (Str × V)), H2 a = some (exo a C (some d)) ∧ H2 d = some (exd d fs) ∧ H1 d = none ∧ W (.ref C) (some d) (upd (del H2 a) d (.xd fs))) (fun _ _ _ => False) := by
  refine ⟨by show 1 ≤ 1000; decide, fun a ha => ⟨a, v, rfl, upd_same, fun dx hd hne => ⟨rfl, dx, [(f, v)], upd_same, ?_, (none_of_upd hd).1, ?_⟩⟩⟩
  · rw [upd_ne hne, upd_same]
  · refine h dx _ (fun b o e => ?_) (none_of_upd hd).1 upd_same
    have n1 : b ≠ dx := ne_of_none e (none_of_upd hd).1
    have n2 : b ≠ a := ne_of_none e ha
    rw [upd_ne n1, del_ne n2, upd_ne n2, upd_ne n1, upd_ne n2]
    exact e

/-! ### a call of a local name that holds one of several defs; it may raise -/
structure HeldX (P : Program) (w : World) (K : PySem.W.Frag) (mg : Str → Option Value) (base : Heap) (k : Nat) (f : Addr) (sp : Sp) : Prop where
  ex : ∃ (fd : FuncData) (ps : List Str), FnOk P w K mg base (L2.CX P w) k f fd ps sp ∧ PySem.W.keepIn K (.ref f) = true ∧ Binds K fd ps []
def tCallLS (i : Nat) (S : Addr → Option Sp) (E : L2.St → XK) (t : TA) : TE := fun σ H Q => ∃ f sp, σ[i]? = some (some (.ref f)) ∧ S f = some sp ∧ t σ H fun vs H1 => sp vs H1 Q (E σ)
section
variable {X : Cx} {k i : Nat} {E : L2.St → XK} {x : Str} {p pos : Pos} {e : Expr} {es : List Expr} {t : TA} {S : Addr → Option Sp}
theorem pe_callLS (hS : ∀ f sp, S f = some sp → HeldX X.prog X.w X.K X.mg X.base k f sp) (hr : Room k X.A) (hN : X.N[i]? = some x) (hv : Vis X.env.scope x) (hx : ∀ σ, PassesAt (L2.CX X.prog X.w) X σ (E σ)) (ha : PA X (e :: es) t)
    (hdb : (x == ("__debug__" : Str)) = false := by decide) (hcd : (x == ("__classdict__" : Str)) = false := by decide)
    (he : starEach (e :: es) X.env = (false, eval e X.env) :: starEach es X.env := by rfl) (hpl : (backTo pos (starEach es X.env)).any (·.1) = false := by rfl) : PE X (.Call (.Name x p) (e :: es) [] pos) (tCallLS i S E t) := by
  refine ⟨fun pins s σ H Q I h => ?_⟩
  obtain ⟨f, sp, hs, hsp, ht⟩ := h
  obtain ⟨fd, ps, F, hk, hb⟩ := (hS f sp hsp).ex
  refine wpAny_Call_Name_kw (thn ((pe_var (pos := p) hN hv hdb hcd).run pins s σ H (fun v H1 => v = .ref f ∧ H1 = H) I ⟨.ref f, hs, rfl, rfl⟩) fun u s1 ⟨v, H1, I1, r1, q1⟩ => ?_)
  obtain ⟨rfl, rfl⟩ := q1
  cases r1
  refine PySem.W.callWith_K (h₀ := X.base) I.ok.mod.kin hk (thn (ha.run pos pins s1 σ _ _ I1 ht) fun us s2 ⟨vs, H2, I2, r, q⟩ => ⟨I2.kIn, ?_⟩) he hpl
  exact run_fnS F hr hb (hx σ) I2 r q
end
end Lk
namespace Lk
open PySem PySem.Spec PyProof.Rows L2
def topS (i : Nat) : Stmt := PySem.Challenge.pw_linklines_k40_whole_nodes.main.body.getD i (.Pass ⟨0, 0, 0, 0⟩)
abbrev s_is_integer : Stmt := topS 1
theorem sc_is_integer : FnScope ["thing"] ["thing"] (defScope s_is_integer) := ⟨rfl, rfl, rfl, by decide +kernel, rfl, by decide +kernel, by decide +kernel⟩
abbrev s_is_positive : Stmt := topS 2
theorem sc_is_positive : FnScope ["thing"] ["thing"] (defScope s_is_positive) := ⟨rfl, rfl, rfl, by decide +kernel, rfl, by decide +kernel, by decide +kernel⟩
abbrev s_is_list : Stmt := topS 3
theorem sc_is_list : FnScope ["thing"] ["thing"] (defScope s_is_list) := ⟨rfl, rfl, rfl, by decide +kernel, rfl, by decide +kernel, by decide +kernel⟩
abbrev s_is_pair : Stmt := topS 4
theorem sc_is_pair : FnScope ["thing"] ["thing"] (defScope s_is_pair) := ⟨rfl, rfl, rfl, by decide +kernel, rfl, by decide +kernel, by decide +kernel⟩
abbrev s_checked_changes : Stmt := topS 9
theorem sc_checked_changes : FnScope ["changes", "index", "thing"] ["changes"] (defScope s_checked_changes) := ⟨rfl, rfl, rfl, by decide +kernel, rfl, by decide +kernel, by decide +kernel⟩
abbrev s_ends_first : Stmt := topS 10
theorem sc_ends_first : FnScope ["changes", "found", "node", "end", "number", "change"] ["changes"] (defScope s_ends_first) := ⟨rfl, rfl, rfl, by decide +kernel, rfl, by decide +kernel, by decide +kernel⟩
abbrev s_least_nodes : Stmt := topS 11
theorem sc_least_nodes : FnScope ["changes", "pairs", "number"] ["changes"] (defScope s_least_nodes) := ⟨rfl, rfl, rfl, by decide +kernel, rfl, by decide +kernel, by decide +kernel⟩
abbrev s_apart : Stmt := topS 12
theorem sc_apart : FnScope ["changes"] ["changes"] (defScope s_apart) := ⟨rfl, rfl, rfl, by decide +kernel, rfl, by decide +kernel, by decide +kernel⟩
abbrev s_law_spring : Stmt := topS 14
theorem sc_law_spring : FnScope ["_law_script", "_law_k", "_law_cell", "_law_blend", "_law_one_here"] ["_law_script", "_law_k"] (defScope s_law_spring) := ⟨rfl, rfl, rfl, by decide +kernel, rfl, by decide +kernel, by decide +kernel⟩
abbrev s_law_take : Stmt := topS 15
theorem sc_law_take : FnScope ["_law_spring_here", "_law_many", "_law_digit", "_law_spread"] ["_law_spring_here", "_law_many"] (defScope s_law_take) := ⟨rfl, rfl, rfl, by decide +kernel, rfl, by decide +kernel, by decide +kernel⟩
abbrev s_law_one : Stmt := topS 16
theorem sc_law_one : FnScope ["_law_spring_here", "_law_things"] ["_law_spring_here", "_law_things"] (defScope s_law_one) := ⟨rfl, rfl, rfl, by decide +kernel, rfl, by decide +kernel, by decide +kernel⟩
abbrev s_law_mixed : Stmt := topS 17
theorem sc_law_mixed : FnScope ["_law_spring_here", "_law_things", "_law_left", "_law_turn"] ["_law_spring_here", "_law_things"] (defScope s_law_mixed) := ⟨rfl, rfl, rfl, by decide +kernel, rfl, by decide +kernel, by decide +kernel⟩
abbrev s_law_same : Stmt := topS 18
theorem sc_law_same : FnScope ["_law_found", "_law_due", "_law_x", "_law_y"] ["_law_found", "_law_due"] (defScope s_law_same) := ⟨rfl, rfl, rfl, by decide +kernel, rfl, by decide +kernel, by decide +kernel⟩
abbrev s_law_shown : Stmt := topS 19
theorem sc_law_shown : FnScope ["_law_spring_here", "_law_things"] ["_law_spring_here", "_law_things"] (defScope s_law_shown) := ⟨rfl, rfl, rfl, by decide +kernel, rfl, by decide +kernel, by decide +kernel⟩
abbrev s_law_drawn : Stmt := topS 20
theorem sc_law_drawn : FnScope ["_law_spring_here", "_law_most", "_law_greatest", "_law_found", "_law_turn", "_law_i", "_law_far"] ["_law_spring_here", "_law_most", "_law_greatest"] (defScope s_law_drawn) := ⟨rfl, rfl, rfl, by decide +kernel, rfl, by decide +kernel, by decide +kernel⟩
abbrev s_law_serves : Stmt := topS 21
theorem sc_law_serves : FnScope ["_law_nodes", "_law_changes", "_law_node", "_law_i", "_law_j"] ["_law_nodes", "_law_changes"] (defScope s_law_serves) := ⟨rfl, rfl, rfl, by decide +kernel, rfl, by decide +kernel, by decide +kernel⟩
abbrev s_law_lists : Stmt := topS 22
theorem sc_law_lists : FnScope ["_law_greatest", "_law_found", "_law_number", "_law_some"] ["_law_greatest"] (defScope s_law_lists) := ⟨rfl, rfl, rfl, by decide +kernel, rfl, by decide +kernel, by decide +kernel⟩
abbrev s_law_are_apart : Stmt := topS 23
theorem sc_law_are_apart : FnScope ["_law_changes", "_law_numbers", "_law_k", "_law_spans", "_law_is_far", "_law_one_here", "_law_other"] ["_law_changes", "_law_numbers"] (defScope s_law_are_apart) := ⟨rfl, rfl, rfl, by decide +kernel, rfl, by decide +kernel, by decide +kernel⟩
abbrev s_law_drawn_right : Stmt := topS 24
theorem sc_law_drawn_right : FnScope ["_law_spring_here", "_law_changes", "_law_best", "_law_nodes", "_law_handed", "_law_change", "_law_told", "_law_some"] ["_law_spring_here"] (defScope s_law_drawn_right) := ⟨rfl, rfl, rfl, by decide +kernel, rfl, by decide +kernel, by decide +kernel⟩
abbrev s_law_long_right : Stmt := topS 25
theorem sc_law_long_right : FnScope ["_law_spring_here", "_law_many", "_law_chain", "_law_k", "_law_wide", "_law_some", "_law_due", "_law_found"] ["_law_spring_here"] (defScope s_law_long_right) := ⟨rfl, rfl, rfl, by decide +kernel, rfl, by decide +kernel, by decide +kernel⟩
abbrev s_law_refused_right : Stmt := topS 26
theorem sc_law_refused_right : FnScope ["_law_spring_here", "_law_right", "_law_odds", "_law_odd", "_law_ask", "_law_found", "e", "_law_thing"] ["_law_spring_here"] (defScope s_law_refused_right) := ⟨rfl, rfl, rfl, by decide +kernel, rfl, by decide +kernel, by decide +kernel⟩
abbrev s_law : Stmt := topS 27
theorem sc_law : FnScope ["_law_script", "_law_turn", "_law_spring_here"] ["_law_script"] (defScope s_law) := ⟨rfl, rfl, rfl, by decide +kernel, rfl, by decide +kernel, by decide +kernel⟩
abbrev s_BadChange : Stmt := inClass (topS 7) 0
theorem sc_BadChange : FnScope ["self", "index"] ["self", "index"] (defScope s_BadChange) := ⟨rfl, rfl, rfl, by decide +kernel, rfl, by decide +kernel, by decide +kernel⟩
/-- what is known of an own error class at C with its __init__ at fI -/
structure ErrC (K : PySem.W.Frag) (C fI : Addr) (f : Str) : Prop where
  oex : OexC K C
  xf : XfC K C
  no : PySem.W.findIn K (.ref C) f = some none
  iC : PySem.W.findIn K (.ref C) "__init__" = some (some (.ref fI))
  tI : PySem.W.typeIn K (.ref fI) = some (.type "function")
  te : PySem.W.exmOne K (.ref C) (.ref C) = some true
structure Txt (K : PySem.W.Frag) (mg : Str → Option Value) (ad : Nat → Addr) (ai : Nat → Addr) (fd : Nat → FuncData) : Prop where
  F_is_integer : Fun K "is_integer" "is_integer" s_is_integer (ad 1) (fd 1)
  g_is_integer : mg "is_integer" = some (.ref (ad 1))
  b_is_integer : Binds K (fd 1) ["thing"] []
  F_is_positive : Fun K "is_positive" "is_positive" s_is_positive (ad 2) (fd 2)
  g_is_positive : mg "is_positive" = some (.ref (ad 2))
  b_is_positive : Binds K (fd 2) ["thing"] []
  F_is_list : Fun K "is_list" "is_list" s_is_list (ad 3) (fd 3)
  g_is_list : mg "is_list" = some (.ref (ad 3))
  b_is_list : Binds K (fd 3) ["thing"] []
  F_is_pair : Fun K "is_pair" "is_pair" s_is_pair (ad 4) (fd 4)
  g_is_pair : mg "is_pair" = some (.ref (ad 4))
  b_is_pair : Binds K (fd 4) ["thing"] []
  F_checked_changes : Fun K "checked_changes" "checked_changes" s_checked_changes (ad 9) (fd 9)
  g_checked_changes : mg "checked_changes" = some (.ref (ad 9))
  b_checked_changes : Binds K (fd 9) ["changes"] []
  F_ends_first : Fun K "ends_first" "ends_first" s_ends_first (ad 10) (fd 10)
  g_ends_first : mg "ends_first" = some (.ref (ad 10))
  b_ends_first : Binds K (fd 10) ["changes"] []
  F_least_nodes : Fun K "least_nodes" "least_nodes" s_least_nodes (ad 11) (fd 11)
  g_least_nodes : mg "least_nodes" = some (.ref (ad 11))
  b_least_nodes : Binds K (fd 11) ["changes"] []
  F_apart : Fun K "apart" "apart" s_apart (ad 12) (fd 12)
  g_apart : mg "apart" = some (.ref (ad 12))
  b_apart : Binds K (fd 12) ["changes"] []
  F_law_spring : Fun K "_law_spring" "_law_spring" s_law_spring (ad 14) (fd 14)
  g_law_spring : mg "_law_spring" = some (.ref (ad 14))
  b_law_spring : Binds K (fd 14) ["_law_script", "_law_k"] []
  F_law_take : Fun K "_law_take" "_law_take" s_law_take (ad 15) (fd 15)
  g_law_take : mg "_law_take" = some (.ref (ad 15))
  b_law_take : Binds K (fd 15) ["_law_spring_here", "_law_many"] []
  F_law_one : Fun K "_law_one" "_law_one" s_law_one (ad 16) (fd 16)
  g_law_one : mg "_law_one" = some (.ref (ad 16))
  b_law_one : Binds K (fd 16) ["_law_spring_here", "_law_things"] []
  F_law_mixed : Fun K "_law_mixed" "_law_mixed" s_law_mixed (ad 17) (fd 17)
  g_law_mixed : mg "_law_mixed" = some (.ref (ad 17))
  b_law_mixed : Binds K (fd 17) ["_law_spring_here", "_law_things"] []
  F_law_same : Fun K "_law_same" "_law_same" s_law_same (ad 18) (fd 18)
  g_law_same : mg "_law_same" = some (.ref (ad 18))
  b_law_same : Binds K (fd 18) ["_law_found", "_law_due"] []
  F_law_shown : Fun K "_law_shown" "_law_shown" s_law_shown (ad 19) (fd 19)
  g_law_shown : mg "_law_shown" = some (.ref (ad 19))
  b_law_shown : Binds K (fd 19) ["_law_spring_here", "_law_things"] []
  F_law_drawn : Fun K "_law_drawn" "_law_drawn" s_law_drawn (ad 20) (fd 20)
  g_law_drawn : mg "_law_drawn" = some (.ref (ad 20))
  b_law_drawn : Binds K (fd 20) ["_law_spring_here", "_law_most", "_law_greatest"] []
  F_law_serves : Fun K "_law_serves" "_law_serves" s_law_serves (ad 21) (fd 21)
  g_law_serves : mg "_law_serves" = some (.ref (ad 21))
  b_law_serves : Binds K (fd 21) ["_law_nodes", "_law_changes"] []
  F_law_lists : Fun K "_law_lists" "_law_lists" s_law_lists (ad 22) (fd 22)
  g_law_lists : mg "_law_lists" = some (.ref (ad 22))
  b_law_lists : Binds K (fd 22) ["_law_greatest"] []
  F_law_are_apart : Fun K "_law_are_apart" "_law_are_apart" s_law_are_apart (ad 23) (fd 23)
  g_law_are_apart : mg "_law_are_apart" = some (.ref (ad 23))
  b_law_are_apart : Binds K (fd 23) ["_law_changes", "_law_numbers"] []
  F_law_drawn_right : Fun K "_law_drawn_right" "_law_drawn_right" s_law_drawn_right (ad 24) (fd 24)
  g_law_drawn_right : mg "_law_drawn_right" = some (.ref (ad 24))
  b_law_drawn_right : Binds K (fd 24) ["_law_spring_here"] []
  F_law_long_right : Fun K "_law_long_right" "_law_long_right" s_law_long_right (ad 25) (fd 25)
  g_law_long_right : mg "_law_long_right" = some (.ref (ad 25))
  b_law_long_right : Binds K (fd 25) ["_law_spring_here"] []
  F_law_refused_right : Fun K "_law_refused_right" "_law_refused_right" s_law_refused_right (ad 26) (fd 26)
  g_law_refused_right : mg "_law_refused_right" = some (.ref (ad 26))
  b_law_refused_right : Binds K (fd 26) ["_law_spring_here"] []
  F_law : Fun K "law" "law" s_law (ad 27) (fd 27)
  g_law : mg "law" = some (.ref (ad 27))
  b_law : Binds K (fd 27) ["_law_script"] []
  F_BadChange : Fun K "__init__" "BadChange.__init__" s_BadChange (ai 7) (fd 7)
  g_BadChange : mg "BadChange" = some (.ref (ad 7))
  b_BadChange : Binds K (fd 7) ["self", "index"] []
  e_BadChange : ErrC K (ad 7) (ai 7) "index"
  n_abs : mg "abs" = none
  n_all : mg "all" = none
  n_any : mg "any" = none
  n_bool : mg "bool" = none
  n_dict : mg "dict" = none
  n_enumerate : mg "enumerate" = none
  n_int : mg "int" = none
  n_isinstance : mg "isinstance" = none
  n_len : mg "len" = none
  n_list : mg "list" = none
  n_range : mg "range" = none
  n_set : mg "set" = none
  n_sorted : mg "sorted" = none
  n_sum : mg "sum" = none
  n_tuple : mg "tuple" = none
  n_zip : mg "zip" = none
end Lk
namespace Lk
open PySem PySem.Spec PyProof.Rows L2
section
variable {P : Program} {w : World} {K : PySem.W.Frag} {mg : Str → Option Value} {base : Heap} {ad ai : Nat → Addr} {fd : Nat → FuncData}
/-! ### is_integer, is_positive, is_list, is_pair -/
def sp_is_integer (K : PySem.W.Frag) : Sp := fun vs H Q _ => ∃ v t, vs = [v] ∧ HasTy K H v t ∧ Q (.bl (decide (t = .int))) H
theorem ok_is_integer (T : Txt K mg ad ai fd) : FnOk P w K mg base CX0 1 (ad 1) (fd 1) ["thing"] (sp_is_integer K) := by
  refine T.F_is_integer.ok sc_is_integer (fun vs H Q E h => ?_) (fun cdv A outer s H vs Q E hr h => ?_)
  · obtain ⟨v, t, rfl, _⟩ := h
    rfl
  · obtain ⟨v, t, rfl, ht, q⟩ := h
    refine ⟨_, (pss_one (ps_ret (pe_and (pe_callB call_isi (by rfl) T.n_isinstance (by decide +kernel) (pa_cons (pv 0) (pa_cons (pe_bltn (v := .ty "int") (by rfl) T.n_int (by decide +kernel) rfl) pa_nil))) (pe_one (pe_not (pe_callB call_isi (by rfl) T.n_isinstance (by decide +kernel) (pa_cons (pv 0) (pa_cons (pe_bltn (v := .ty "bool") (by rfl) T.n_bool (by decide +kernel) rfl) pa_nil)))))))), ?_⟩
    refine ⟨v, rfl, v, .ty "int", _, _, _, rfl, .ty "int", ht, kit_tg t .int (by decide), _, rfl, ?_⟩
    cases t
    case int => exact ⟨v, rfl, v, .ty "bool", _, _, _, rfl, .ty "bool", ht, kit_tg .int .bl (by decide), _, rfl, q⟩
    case bl => exact ⟨v, rfl, v, .ty "bool", _, _, _, rfl, .ty "bool", ht, kit_tg .bl .bl (by decide), _, rfl, q⟩
    all_goals exact q
/-- not an int, or one below 1; an int from 1 on -/
def sp_is_positive (K : PySem.W.Frag) : Sp := fun vs H Q _ => ∃ v, vs = [v] ∧ ((∃ t, HasTy K H v t ∧ t ≠ .int ∧ Q (.bl false) H) ∨ ∃ i, v = .int i ∧ Q (.bl (decide (1 ≤ i))) H)
theorem ok_is_positive (T : Txt K mg ad ai fd) : FnOk P w K mg base CX0 2 (ad 2) (fd 2) ["thing"] (sp_is_positive K) := by
  have G_is_integer : FnOk P w K mg base CX0 1 (ad 1) (fd 1) ["thing"] (sp_is_integer K) := ok_is_integer T
  refine T.F_is_positive.ok sc_is_positive (fun vs H Q E h => ?_) (fun cdv A outer s H vs Q E hr h => ?_)
  · obtain ⟨v, rfl, _⟩ := h
    rfl
  · obtain ⟨v, rfl, h⟩ := h
    refine ⟨_, (pss_one (ps_ret (pe_and (pe_call G_is_integer (hr.mono (by decide)) (by rfl) T.g_is_integer T.F_is_integer.kp T.b_is_integer .nil pass0 (pa_cons (pv 0) pa_nil)) (pe_one (pe_cmpR op_ge (pv 0) pe_int (nomark _)))))), ?_⟩
    rcases h with ⟨t, ht, hn, q⟩ | ⟨i, rfl, q⟩
    · refine ⟨v, rfl, v, t, rfl, ht, _, rfl, ?_⟩
      rw [decide_eq_false hn]
      exact q
    · exact ⟨_, rfl, _, .int, rfl, hasTy_int, _, rfl, _, rfl, i, 1, rfl, rfl, q⟩
def Tg.seq : Tg → Bool
  | .lst => true | .tup => true | _ => false
def sp_is_list (K : PySem.W.Frag) : Sp := fun vs H Q _ => ∃ v t, vs = [v] ∧ HasTy K H v t ∧ ∀ H', Same H H' → Q (.bl t.seq) H'
theorem ok_is_list (T : Txt K mg ad ai fd) : FnOk P w K mg base CX0 1 (ad 3) (fd 3) ["thing"] (sp_is_list K) := by
  refine T.F_is_list.ok sc_is_list (fun vs H Q E h => ?_) (fun cdv A outer s H vs Q E hr h => ?_)
  · obtain ⟨v, t, rfl, _⟩ := h
    rfl
  · obtain ⟨v, t, rfl, ht, q⟩ := h
    refine ⟨_, (pss_one (ps_ret (pe_callB call_isiT (by rfl) T.n_isinstance (by decide +kernel) (pa_cons (pv 0) (pa_cons (pe_tup (pa_cons (pe_bltn (v := .ty "list") (by rfl) T.n_list (by decide +kernel) rfl) (pa_cons (pe_bltn (v := .ty "tuple") (by rfl) T.n_tuple (by decide +kernel) rfl) pa_nil))) pa_nil))))), ?_⟩
    refine ⟨v, rfl, by show 2 ≤ sizeLine; decide, fun p hp => ?_⟩
    have sm : Same H (upd H p (.tup [.ty "list", .ty "tuple"])) := same_new hp
    refine ⟨v, p, _, _, [.type "list", .type "tuple"], t.seq, rfl, upd_same, .cons (.ty "list") (.cons (.ty "tuple") .nil), sm.ty ht, ?_, q _ sm⟩
    cases t
    all_goals exact kitAny_cons (kit_tg _ .lst (by decide)) (fun _ => kitAny_cons (kit_tg _ .tup (by decide)) (fun _ => by first | rfl | contradiction) (fun z => by first | rfl | cases z)) (fun z => by first | rfl | cases z)
/-- a list or tuple of two -/
def sp_is_pair (K : PySem.W.Frag) : Sp := fun vs H Q _ => ∃ v, vs = [v] ∧ ((∃ t, HasTy K H v t ∧ t.seq = false ∧ ∀ H', Same H H' → Q (.bl false) H') ∨ ∃ a xs, v = .ref a ∧ Sq K H a xs ∧ ∀ H', Same H H' → Q (.bl (decide (xs.length = 2))) H')
theorem Sq.tys {H : Hp} {a : Addr} {xs : List V} (h : Sq K H a xs) : ∃ t, HasTy K H (.ref a) t ∧ t.seq = true := by
  rcases h with h | h
  · exact ⟨.lst, hasTy_lst h, rfl⟩
  · exact ⟨.tup, hasTy_tup h, rfl⟩
theorem ok_is_pair (T : Txt K mg ad ai fd) : FnOk P w K mg base CX0 2 (ad 4) (fd 4) ["thing"] (sp_is_pair K) := by
  have G_is_list : FnOk P w K mg base CX0 1 (ad 3) (fd 3) ["thing"] (sp_is_list K) := ok_is_list T
  refine T.F_is_pair.ok sc_is_pair (fun vs H Q E h => ?_) (fun cdv A outer s H vs Q E hr h => ?_)
  · obtain ⟨v, rfl, _⟩ := h
    rfl
  · obtain ⟨v, rfl, h⟩ := h
    refine ⟨_, (pss_one (ps_ret (pe_and (pe_call G_is_list (hr.mono (by decide)) (by rfl) T.g_is_list T.F_is_list.kp T.b_is_list .nil pass0 (pa_cons (pv 0) pa_nil)) (pe_one (pe_cmpR op_eq (pe_callB call_len_seq (by rfl) T.n_len (by decide +kernel) (pa_cons (pv 0) pa_nil)) pe_int (nomark _)))))), ?_⟩
    rcases h with ⟨t, ht, hn, q⟩ | ⟨a, xs, rfl, hs, q⟩
    · refine ⟨v, rfl, v, t, rfl, ht, fun H' sm => ⟨_, rfl, ?_⟩⟩
      rw [hn]
      exact q H' sm
    · obtain ⟨t, ht, hq⟩ := hs.tys
      refine ⟨_, rfl, _, t, rfl, ht, fun H' sm => ⟨_, rfl, ?_⟩⟩
      rw [hq]
      refine ⟨_, rfl, a, xs, rfl, sm.sq hs, rfl, ?_⟩
      have e : decide (V.int (xs.length : Int) = V.int 2) = decide (xs.length = 2) := by
        by_cases z : xs.length = 2
        · rw [decide_eq_true z, z]
          rfl
        · rw [decide_eq_false z]
          exact decide_eq_false fun y => z (by injection y with y; omega)
      rw [e]
      exact q H' sm
end
end Lk
namespace Lk
open PySem PySem.Spec PyProof.Rows L2
section
variable {P : Program} {w : World} {K : PySem.W.Frag} {mg : Str → Option Value} {base : Heap} {ad ai : Nat → Addr} {fd : Nat → FuncData}
theorem ok_BadChange (T : Txt K mg ad ai fd) : FnOk P w K mg base CX0 1 (ai 7) (fd 7) ["self", "index"] (sp_init (ad 7) "index") := by
  refine T.F_BadChange.ok sc_BadChange (fun vs H Q E h => ?_) (fun cdv A outer s H vs Q E hr h => ?_)
  · obtain ⟨a, v, rfl, _⟩ := h
    rfl
  · obtain ⟨a, v, rfl, ha, q⟩ := h
    refine ⟨_, pss_one (ps_ost (pv 0) (pv 1)), ?_⟩
    exact ⟨v, rfl, _, rfl, a, ad 7, rfl, T.e_BadChange.oex, T.e_BadChange.no, .inl ⟨ha, fun dx h1 h2 => q dx h1 h2⟩⟩

/-! ### changes -/
/-- a change (i, j), a list or a tuple -/
def ChgOk (K : PySem.W.Frag) (H : Hp) (v : V) (p : Int × Int) : Prop := (∃ a, v = .ref a ∧ Sq K H a [.int p.1, .int p.2]) ∧ 1 ≤ p.1 ∧ p.1 < p.2
/-- no positive integer -/
def NoPos (K : PySem.W.Frag) (H : Hp) (v : V) : Prop := (∃ t, HasTy K H v t ∧ t ≠ .int) ∨ ∃ i, v = .int i ∧ i < 1
/-- no change -/
inductive Odd (K : PySem.W.Frag) (H : Hp) : V → Prop
  | ty {v : V} {t : Tg} : HasTy K H v t → t.seq = false → Odd K H v
  | len {a : Addr} {xs : List V} : Sq K H a xs → xs.length ≠ 2 → Odd K H (.ref a)
  | fst {a : Addr} {x y : V} : Sq K H a [x, y] → NoPos K H x → Odd K H (.ref a)
  | snd {a : Addr} {i : Int} {y : V} : Sq K H a [.int i, y] → 1 ≤ i → NoPos K H y → Odd K H (.ref a)
  | ord {a : Addr} {i j : Int} : Sq K H a [.int i, .int j] → 1 ≤ i → 1 ≤ j → j ≤ i → Odd K H (.ref a)
theorem ChgOk.same {H H' : Hp} {v : V} {p : Int × Int} (e : Same H H') (h : ChgOk K H v p) : ChgOk K H' v p := by
  obtain ⟨⟨a, rfl, q⟩, r⟩ := h
  exact ⟨⟨a, rfl, e.sq q⟩, r⟩
theorem NoPos.same {H H' : Hp} {v : V} (e : Same H H') (h : NoPos K H v) : NoPos K H' v := by
  rcases h with ⟨t, h, n⟩ | h
  · exact .inl ⟨t, e.ty h, n⟩
  · exact .inr h
theorem Odd.same {H H' : Hp} {v : V} (e : Same H H') (h : Odd K H v) : Odd K H' v := by
  cases h with
  | ty h n => exact .ty (e.ty h) n
  | len h n => exact .len (e.sq h) n
  | fst h n => exact .fst (e.sq h) (NoPos.same e n)
  | snd h i n => exact .snd (e.sq h) i (NoPos.same e n)
  | ord h a b c => exact .ord (e.sq h) a b c
/-- a new list of new tuples -/
def PairsAt (H : Hp) (l : Addr) (ps : List (Int × Int)) : Prop := ∃ as : List Addr, H l = some (.lst (as.map V.ref)) ∧ Paired (fun a (p : Int × Int) => H a = some (.tup [.int p.1, .int p.2])) as ps
/-- what checked_changes asks -/
def sp_checked (K : PySem.W.Frag) (C : Addr) : Sp := fun vs H Q E => ∃ v, vs = [v] ∧
  ((∃ t, HasTy K H v t ∧ t.seq = false ∧ ErrK E C "index" (.int 0) H) ∨
   (∃ a xs ps, v = .ref a ∧ Sq K H a xs ∧ xs.length ≤ 1000 ∧ Paired (ChgOk K H) xs ps ∧ ∀ H' l, Same H H' → H l = none → PairsAt H' l ps → Q (.ref l) H') ∨
   (∃ a xs n o, v = .ref a ∧ Sq K H a xs ∧ (∀ i x, i < n → xs[i]? = some x → ∃ p, ChgOk K H x p) ∧ xs[n]? = some o ∧ Odd K H o ∧ ErrK E C "index" (.int (n : Nat)) H))
theorem ErrK.same {E : XK} {C : Addr} {f : Str} {v : V} {H H' : Hp} (e : Same H H') (h : ErrK E C f v H) : ErrK E C f v H' := fun d H2 s n x => h d H2 (e.trans s) (e.free n) x
theorem paired_get {α β : Type} {R : α → β → Prop} : ∀ {xs : List α} {ys : List β} {i : Nat} {x : α}, Paired R xs ys → xs[i]? = some x → ∃ y, ys[i]? = some y ∧ R x y
  | _, _, 0, _, .cons h _, e => ⟨_, rfl, by cases e; exact h⟩
  | _, _, i + 1, _, .cons _ t, e => paired_get (i := i) t e
  | _, _, _, _, .nil, e => by simp at e
theorem paired_len {α β : Type} {R : α → β → Prop} : ∀ {xs : List α} {ys : List β}, Paired R xs ys → xs.length = ys.length
  | _, _, .nil => rfl
  | _, _, .cons _ t => by rw [List.length_cons, List.length_cons, paired_len t]
theorem paired_mono {α β : Type} {R S : α → β → Prop} (f : ∀ x y, R x y → S x y) : ∀ {xs : List α} {ys : List β}, Paired R xs ys → Paired S xs ys
  | _, _, .nil => .nil
  | _, _, .cons h t => .cons (f _ _ h) (paired_mono f t)
theorem paired_snoc {α β : Type} {R : α → β → Prop} {x : α} {y : β} (h : R x y) : ∀ {xs : List α} {ys : List β}, Paired R xs ys → Paired R (xs ++ [x]) (ys ++ [y])
  | _, _, .nil => .cons h .nil
  | _, _, .cons z t => .cons z (paired_snoc h t)
theorem take_snoc {α : Type} : ∀ {l : List α} {i : Nat} {x : α}, l[i]? = some x → l.take (i + 1) = l.take i ++ [x]
  | [], i, x, h => by simp at h
  | a :: l, 0, x, h => by cases h; rfl
  | a :: l, i + 1, x, h => by
    show a :: l.take (i + 1) = a :: l.take i ++ [x]
    rw [take_snoc (l := l) (i := i) h]
    rfl
/-- the test of one thing -/
theorem chk_true {A B : Prop} (h : A) : if (!false) = true then A else B := h
/-- the test in the loop: thing in slot 2; c: it is refused -/
abbrev tChk (K : PySem.W.Frag) : TT :=
  tOr (tNot (tTest (tCall (sp_is_pair K) [] E0 (tCons (tVar 2) tNil))))
    (tOr (tNot (tTest (tCall (sp_is_positive K) [] E0 (tCons (tOp (rIxS K) (tVar 2) (tC (.int 0))) tNil))))
      (tOr (tNot (tTest (tCall (sp_is_positive K) [] E0 (tCons (tOp (rIxS K) (tVar 2) (tC (.int 1))) tNil))))
        (tTest (tOp (rI0 fun i j => .bl (decide (j ≤ i))) (tOp (rIxS K) (tVar 2) (tC (.int 0))) (tOp (rIxS K) (tVar 2) (tC (.int 1)))))))
end
end Lk
namespace Lk
open PySem PySem.Spec PyProof.Rows L2
section
variable {P : Program} {w : World} {K : PySem.W.Frag} {mg : Str → Option Value} {base : Heap} {ad ai : Nat → Addr} {fd : Nat → FuncData}
theorem paired_mem {α β : Type} {R S : α → β → Prop} : ∀ {xs : List α} {ys : List β}, Paired R xs ys → (∀ x y, x ∈ xs → R x y → S x y) → Paired S xs ys
  | _, _, .nil, _ => .nil
  | _, _, .cons h t, f => .cons (f _ _ (List.mem_cons_self ..) h) (paired_mem t fun x y hx => f x y (List.mem_cons_of_mem _ hx))
/-- item i of a list or tuple -/
theorem ixS {H : Hp} {a : Addr} {xs : List V} {j : Nat} {v : V} {Q : VK} (h : Sq K H a xs) (hv : xs[j]? = some v) (q : Q v H) : rIxS K (.ref a) (.int (j : Nat)) H Q := by
  rcases h with h | h
  · exact .inl ⟨a, xs, _, v, rfl, rfl, h, atI_nat hv, q⟩
  · exact .inr ⟨a, xs, _, v, rfl, rfl, h, atI_nat hv, q⟩
/-- is_positive of any value -/
theorem pos_no {H : Hp} {x : V} {Q : VK} {E : XK} (h : NoPos K H x) (q : Q (.bl false) H) : sp_is_positive K [x] H Q E := by
  refine ⟨x, rfl, ?_⟩
  rcases h with ⟨t, h, n⟩ | ⟨i, rfl, n⟩
  · exact .inl ⟨t, h, n, q⟩
  · refine .inr ⟨i, rfl, ?_⟩
    rw [decide_eq_false (by omega)]
    exact q
theorem pos_yes {H : Hp} {i : Int} {Q : VK} {E : XK} (h : 1 ≤ i) (q : Q (.bl true) H) : sp_is_positive K [.int i] H Q E := by
  refine ⟨_, rfl, .inr ⟨i, rfl, ?_⟩⟩
  rw [decide_eq_true h]
  exact q
/-- the test: True of what is no change -/
theorem chk_odd {H : Hp} {v : V} {σ : L2.St} {Q : Bool → Hp → Prop} (hσ : σ[2]? = some (some v)) (h : Odd K H v) (q : ∀ H', Same H H' → Q true H') : tChk K σ H Q := by
  cases h with
  | ty ht hn => exact ⟨v, hσ, v, rfl, .inl ⟨_, ht, hn, fun H' sm => ⟨_, rfl, q H' sm⟩⟩⟩
  | @len a xs hs hn =>
    refine ⟨_, hσ, _, rfl, .inr ⟨a, xs, rfl, hs, fun H' sm => ⟨_, rfl, ?_⟩⟩⟩
    rw [decide_eq_false hn]
    exact q H' sm
  | @fst a x y hs hn =>
    refine ⟨_, hσ, _, rfl, .inr ⟨a, _, rfl, hs, fun H' sm => ⟨_, rfl, ?_⟩⟩⟩
    show _
    refine ⟨_, hσ, ixS (j := 0) (sm.sq hs) rfl ?_⟩
    dsimp only [tNil]
    refine pos_no (hn.same sm) ?_
    exact ⟨_, rfl, q H' sm⟩
  | @snd a i y hs h1 hn =>
    refine ⟨_, hσ, _, rfl, .inr ⟨a, _, rfl, hs, fun H' sm => ⟨_, rfl, ?_⟩⟩⟩
    refine ⟨_, hσ, ixS (j := 0) (sm.sq hs) rfl ?_⟩
    dsimp only [tNil]
    refine pos_yes h1 ?_
    refine ⟨_, rfl, ?_⟩
    refine ⟨_, hσ, ixS (j := 1) (sm.sq hs) rfl ?_⟩
    dsimp only [tNil]
    refine pos_no (hn.same sm) ?_
    exact ⟨_, rfl, q H' sm⟩
  | @ord a i j hs h1 h2 h3 =>
    refine ⟨_, hσ, _, rfl, .inr ⟨a, _, rfl, hs, fun H' sm => ⟨_, rfl, ?_⟩⟩⟩
    refine ⟨_, hσ, ixS (j := 0) (sm.sq hs) rfl ?_⟩
    dsimp only [tNil]
    refine pos_yes h1 ?_
    refine ⟨_, rfl, ?_⟩
    refine ⟨_, hσ, ixS (j := 1) (sm.sq hs) rfl ?_⟩
    dsimp only [tNil]
    refine pos_yes h2 ?_
    refine ⟨_, rfl, ?_⟩
    refine ⟨_, hσ, ixS (j := 0) (sm.sq hs) rfl ?_⟩
    refine ⟨_, hσ, ixS (j := 1) (sm.sq hs) rfl ?_⟩
    refine ⟨_, _, rfl, rfl, _, rfl, ?_⟩
    rw [decide_eq_true h3]
    exact q H' sm
theorem chk_ok {H : Hp} {v : V} {p : Int × Int} {σ : L2.St} {Q : Bool → Hp → Prop} (hσ : σ[2]? = some (some v)) (h : ChgOk K H v p) (q : ∀ H', Same H H' → Q false H') : tChk K σ H Q := by
  obtain ⟨⟨a, rfl, hs⟩, h1, h2⟩ := h
  refine ⟨_, hσ, _, rfl, .inr ⟨a, _, rfl, hs, fun H' sm => ⟨_, rfl, ?_⟩⟩⟩
  refine ⟨_, hσ, ixS (j := 0) (sm.sq hs) rfl ?_⟩
  dsimp only [tNil]
  refine pos_yes h1 ?_
  refine ⟨_, rfl, ?_⟩
  refine ⟨_, hσ, ixS (j := 1) (sm.sq hs) rfl ?_⟩
  dsimp only [tNil]
  refine pos_yes (by omega) ?_
  refine ⟨_, rfl, ?_⟩
  refine ⟨_, hσ, ixS (j := 0) (sm.sq hs) rfl ?_⟩
  refine ⟨_, hσ, ixS (j := 1) (sm.sq hs) rfl ?_⟩
  refine ⟨_, _, rfl, rfl, _, rfl, ?_⟩
  rw [decide_eq_false (by omega)]
  exact q H' sm
/-- the loop over items all right up to n -/
theorem ok_checked (T : Txt K mg ad ai fd) : FnOk P w K mg base (L2.CX P w) 4 (ad 9) (fd 9) ["changes"] (sp_checked K (ad 7)) := by
  have G_is_list : FnOk P w K mg base CX0 1 (ad 3) (fd 3) ["thing"] (sp_is_list K) := ok_is_list T
  have G_is_pair : FnOk P w K mg base CX0 2 (ad 4) (fd 4) ["thing"] (sp_is_pair K) := ok_is_pair T
  have G_is_positive : FnOk P w K mg base CX0 2 (ad 2) (fd 2) ["thing"] (sp_is_positive K) := ok_is_positive T
  have G_err : FnOk P w K mg base CX0 1 (ai 7) (fd 7) ["self", "index"] (sp_init (ad 7) "index") := ok_BadChange T
  refine T.F_checked_changes.okX sc_checked_changes (fun vs H Q E h => ?_) (fun cdv A outer s H vs Q E hr h => ?_)
  · obtain ⟨v, rfl, _⟩ := h
    rfl
  · obtain ⟨v, rfl, h⟩ := h
    refine ⟨_, (pss_cons (ps_if (pt_not (pt_val (pe_call G_is_list (hr.mono (by decide)) (by rfl) T.g_is_list T.F_is_list.kp T.b_is_list .nil pass0 (pa_cons (pv 0) pa_nil)))) (pss_one (ps_raise rfl (takes_of rfl rfl rfl rfl) (pmk_oex T.e_BadChange.oex T.e_BadChange.iC T.e_BadChange.tI G_err (hr.mono (by decide)) T.b_BadChange .nil pass0 (by rfl) T.g_BadChange (pa_cons pe_int pa_nil)))) pss_nil)
      (pss_cons (ps_for PassesOwn.leaving rfl (pi_enumS (K := K) (by rfl) T.n_enumerate (pa_cons (pv 0) pa_nil)) (pg_tp (K := K) (n := 2) rfl (pgs_cons (pg_name (i := 1) sc_checked_changes.nd rfl (.inl rfl)) (pgs_cons (pg_name (i := 2) sc_checked_changes.nd rfl (.inl rfl)) pgs_nil)))
        (pss_one (ps_if (PW.pt (pw_or (pt_not (pt_val (pe_call G_is_pair (hr.mono (by decide)) (by rfl) T.g_is_pair T.F_is_pair.kp T.b_is_pair .nil pass0 (pa_cons (pv 2) pa_nil)))) (pw_or (pt_not (pt_val (pe_call G_is_positive (hr.mono (by decide)) (by rfl) T.g_is_positive T.F_is_positive.kp T.b_is_positive .nil pass0 (pa_cons (pe_ix (ix_seq (K := K)) (pv 2) pe_int (fun _ _ => rfl)) pa_nil)))) (pw_or (pt_not (pt_val (pe_call G_is_positive (hr.mono (by decide)) (by rfl) T.g_is_positive T.F_is_positive.kp T.b_is_positive .nil pass0 (pa_cons (pe_ix (ix_seq (K := K)) (pv 2) pe_int (fun _ _ => rfl)) pa_nil)))) (pw_or1 (pt_cmpR op_ge (pe_ix (ix_seq (K := K)) (pv 2) pe_int (fun _ _ => rfl)) (pe_ix (ix_seq (K := K)) (pv 2) pe_int (fun _ _ => rfl)) (nomark _)))))))
          (pss_one (ps_raise rfl (takes_of rfl rfl rfl rfl) (pmk_oex T.e_BadChange.oex T.e_BadChange.iC T.e_BadChange.tI G_err (hr.mono (by decide)) T.b_BadChange .nil pass0 (by rfl) T.g_BadChange (pa_cons (pv 1) pa_nil)))) pss_nil)))
      (pss_one (ps_ret (pe_lc (own := [("thing", 2)]) rfl sc_checked_changes.nd (pi_seq (K := K) (pv 0)) (blkOk_by (N := ["changes", "index", "thing"]) (sc := defScope s_checked_changes) (by decide +kernel)) (fun _ _ _ _ _ => (pg_name (i := 2) sc_checked_changes.nd rfl (.inl rfl))) (fun _ _ _ _ _ => pts_nil) (fun _ _ _ _ _ => (pe_tup (pa_cons (pe_ix (ix_seq (K := K)) (pv 2) pe_int (fun _ _ => rfl)) (pa_cons (pe_ix (ix_seq (K := K)) (pv 2) pe_int (fun _ _ => rfl)) pa_nil))))))))), ?_⟩
    rcases h with ⟨t, ht, hn, q⟩ | ⟨a, xs, ps, rfl, hs, hlen, hp, q⟩ | ⟨a, xs, n, o, rfl, hs, hp, ho, hodd, q⟩
    · refine ⟨v, rfl, v, t, rfl, ht, fun H1 sm => ⟨_, rfl, ?_⟩⟩
      rw [hn]
      exact err_k (q.same sm)
    · obtain ⟨t, ht, hq⟩ := hs.tys
      refine ⟨_, rfl, _, t, rfl, ht, fun H1 sm => ⟨_, rfl, ?_⟩⟩
      rw [hq]
      have hs1 := sm.sq hs
      refine ⟨_, rfl, for_enum hs1 (fun i σ H' => (∃ y1 y2, σ = [some (.ref a), y1, y2]) ∧ Same H1 H') ⟨⟨none, none, rfl⟩, Same.refl _⟩ (fun i σ H' pv => pv.2.keeps) ?_ ?_⟩
      · rintro i z2 σ H2 T' e2 ⟨⟨y1, y2, rfl⟩, s2⟩ nT
        obtain ⟨p, _, hc⟩ := paired_get hp e2
        refine ⟨T', _, rfl, sqT_of upd_same, rfl, _, _, rfl, _, _, rfl, rfl, ?_⟩
        have s3 : Same H (upd H2 T' (.tup [.int (i : Nat), z2])) := (sm.trans s2).new nT
        exact chk_ok (K := K) rfl (hc.same s3) fun H4 s4 => ⟨⟨_, _, rfl⟩, (s2.new nT).trans s4⟩
      · rintro σ H2 ⟨⟨y1, y2, rfl⟩, s2⟩
        -- the comprehension
        have hs2 := s2.sq hs1
        refine ⟨_, rfl, lc_seq hs2 (fun D i H' => Same H2 H' ∧ ∃ as : List Addr, H' D = some (.lst (as.map V.ref)) ∧ Paired (fun a (p : Int × Int) => H' a = some (.tup [.int p.1, .int p.2])) as (ps.take i) ∧ ∀ b ∈ as, b ≠ D) (fun D hD => ⟨same_new hD, [], upd_same, .nil, fun b hb => nomatch hb⟩) (fun D i H' _ pv => pv.1.keeps) ?_ ?_⟩
        · rintro D i x H4 hD e2 ⟨s3, as, hd, hpr, hne⟩
          obtain ⟨p, ep, ⟨b, rfl, hb⟩, _⟩ := paired_get hp e2
          have sA : Same H H4 := (sm.trans s2).trans s3
          have hb4 := sA.sq hb
          refine ⟨rfl, ?_⟩
          refine ⟨_, rfl, ixS (j := 0) hb4 rfl ?_⟩
          refine ⟨_, rfl, ixS (j := 1) hb4 rfl ?_⟩
          refine ⟨by show 2 ≤ sizeLine; decide, fun t nt => ?_⟩
          have ntD : D ≠ t := ne_of_none hd nt
          refine ⟨as.map V.ref, ?_, ?_, ?_⟩
          · rw [upd_ne ntD]
            exact hd
          · have l1 := paired_len hpr
            have l2 := paired_len hp
            rw [List.length_map, l1, List.length_take]
            have : ps.length ≤ sizeLine := by
              rw [← l2]
              exact Nat.le_of_lt (small1000 hlen)
            have hip := (List.getElem?_eq_some_iff.mp ep).1
            omega
          · refine ⟨fun b' o' e' => ?_, as ++ [t], ?_, ?_, ?_⟩
            · have n1 : b' ≠ D := ne_of_none e' hD
              have n2 : b' ≠ t := ne_of_none (s3 _ _ e') nt
              rw [upd_ne n1, upd_ne n2]
              exact s3 _ _ e'
            · rw [upd_same, List.map_append]
              rfl
            · rw [take_snoc ep]
              refine paired_snoc ?_ (paired_mem hpr fun c q hc hcq => ?_)
              · rw [upd_ne (Ne.symm ntD), upd_same]
              · rw [upd_ne (hne c hc), upd_ne (ne_of_none hcq nt)]
                exact hcq
            · intro c hc
              rcases List.mem_append.mp hc with hc | hc
              · exact hne c hc
              · cases List.mem_singleton.mp hc
                exact Ne.symm ntD
        · rintro D H3 hD ⟨s3, as, hd, hpr, hne⟩
          rw [paired_len hp, List.take_length] at hpr
          exact q H3 D ((sm.trans s2).trans s3) ((sm.trans s2).free hD) ⟨as, hd, hpr⟩
    · obtain ⟨t, ht, hq⟩ := hs.tys
      refine ⟨_, rfl, _, t, rfl, ht, fun H1 sm => ⟨_, rfl, ?_⟩⟩
      rw [hq]
      have hs1 := sm.sq hs
      refine ⟨_, rfl, for_enum hs1 (fun i σ H' => (∃ y1 y2, σ = [some (.ref a), y1, y2]) ∧ Same H1 H' ∧ i ≤ n) ⟨⟨none, none, rfl⟩, Same.refl _, Nat.zero_le _⟩ (fun i σ H' pv => pv.2.1.keeps) ?_ ?_⟩
      · rintro i z2 σ H2 T' e2 ⟨⟨y1, y2, rfl⟩, s2, hin⟩ nT
        refine ⟨T', _, rfl, sqT_of upd_same, rfl, _, _, rfl, _, _, rfl, rfl, ?_⟩
        have s3 : Same H (upd H2 T' (.tup [.int (i : Nat), z2])) := (sm.trans s2).new nT
        by_cases c : i < n
        · obtain ⟨p, hc⟩ := hp i z2 c e2
          exact chk_ok (K := K) rfl (hc.same s3) fun H4 s4 => ⟨⟨_, _, rfl⟩, (s2.new nT).trans s4, by omega⟩
        · have e : i = n := by omega
          subst e
          have ez : z2 = o := Option.some.inj (e2.symm.trans ho)
          subst ez
          refine chk_odd (K := K) rfl (hodd.same s3) fun H4 s4 => ?_
          refine ⟨_, rfl, ?_⟩
          exact err_k (q.same (s3.trans s4))
      · rintro σ H2 ⟨_, _, hin⟩
        have h1 := (List.getElem?_eq_some_iff.mp ho).1
        omega
end
end Lk
/-! The mathematics of k40: greedy nodes. Core Lean alone. -/
namespace M40
abbrev P2 := Int × Int
def leP (x y : P2) : Bool := decide (x.1 < y.1) || (decide (x.1 = y.1) && decide (x.2 ≤ y.2))
theorem leP_iff {x y : P2} : leP x y = true ↔ x.1 < y.1 ∨ (x.1 = y.1 ∧ x.2 ≤ y.2) := by
  unfold leP
  simp
theorem leP_total (x y : P2) : (leP x y || leP y x) = true := by
  rw [Bool.or_eq_true, leP_iff, leP_iff]
  omega
theorem leP_trans (x y z : P2) (h1 : leP x y = true) (h2 : leP y z = true) : leP x z = true := by
  rw [leP_iff] at *
  omega
theorem leP_antisymm {x y : P2} (h1 : leP x y = true) (h2 : leP y x = true) : x = y := by
  rw [leP_iff] at *
  obtain ⟨a, b⟩ := x
  obtain ⟨c, d⟩ := y
  simp only at *
  have : a = c := by omega
  have : b = d := by omega
  subst a b
  rfl
/-- two sorted lists of the same things are one -/
theorem sorted_uniq {α : Type} {le : α → α → Prop} (anti : ∀ x y, le x y → le y x → x = y) (refl : ∀ x, le x x) : ∀ {l m : List α}, l.Pairwise le → m.Pairwise le → l.Perm m → l = m
  | [], m, _, _, h => (List.Perm.eq_nil h.symm).symm
  | x :: l, [], _, _, h => absurd h.length_eq (by simp)
  | x :: l, y :: m, hl, hm, h => by
    have h1 : le y x := by
      rcases List.mem_cons.mp (h.mem_iff.mp (List.mem_cons_self (a := x) (l := l))) with e | hx
      · rw [e]
        exact refl y
      · exact (List.pairwise_cons.mp hm).1 x hx
    have h2 : le x y := by
      rcases List.mem_cons.mp (h.mem_iff.mpr (List.mem_cons_self (a := y) (l := m))) with e | hy
      · rw [e]
        exact refl x
      · exact (List.pairwise_cons.mp hl).1 y hy
    have e : x = y := anti _ _ h2 h1
    subst e
    rw [sorted_uniq anti refl (List.pairwise_cons.mp hl).2 (List.pairwise_cons.mp hm).2 h.cons_inv]
def srt (l : List P2) : List P2 := l.mergeSort leP
theorem srt_perm (l : List P2) : (srt l).Perm l := List.mergeSort_perm l leP
theorem srt_sorted (l : List P2) : (srt l).Pairwise (fun x y => leP x y = true) := List.pairwise_mergeSort (le := leP) leP_trans leP_total l
theorem srt_uniq {l m : List P2} (h : m.Perm l) (hs : m.Pairwise (fun x y => leP x y = true)) : m = srt l :=
  sorted_uniq (fun _ _ a b => leP_antisymm a b) (fun x => by have := leP_total x x; simpa using this) hs (srt_sorted l) (h.trans (srt_perm l).symm)
/-- ints -/
def srtI (l : List Int) : List Int := l.mergeSort (fun a b => decide (a ≤ b))
theorem srtI_perm (l : List Int) : (srtI l).Perm l := List.mergeSort_perm l _
theorem srtI_sorted (l : List Int) : (srtI l).Pairwise (· ≤ ·) := by
  have h := List.pairwise_mergeSort (le := fun a b : Int => decide (a ≤ b)) (fun a b c => by simp; omega) (fun a b => by simp; omega) l
  exact h.imp fun q => of_decide_eq_true q
theorem srtI_uniq {l m : List Int} (h : m.Perm l) (hs : m.Pairwise (· ≤ ·)) : m = srtI l :=
  sorted_uniq (fun _ _ a b => by omega) (fun x => Int.le_refl x) hs (srtI_sorted l) (h.trans (srtI_perm l).symm)

/-! ### the greedy walk -/
def ens (ps : List P2) : List P2 := ps.zipIdx.map fun q => (q.1.2, (q.2 : Int))
def at_ (ps : List P2) (n : Int) : P2 := ps.getD n.toNat (0, 0)
def stepE (ps : List P2) (s : List Int × Int) (x : P2) : List Int × Int := if s.2 ≤ (at_ ps x.2).1 then (s.1 ++ [x.2], x.1) else s
def picks (ps : List P2) : List Int := ((srt (ens ps)).foldl (stepE ps) ([], 0)).1
def nodes (ps : List P2) : List Int := (picks ps).map fun n => (at_ ps n).2
def Good (ps : List P2) : Prop := ∀ p ∈ ps, 1 ≤ p.1 ∧ p.1 < p.2
/-- from lo on: intervals of ps, each begins where the one ahead ended or later; their ends are M -/
inductive Picks (ps : List P2) : Int → List Int → Prop
  | nil {lo : Int} : Picks ps lo []
  | cons {lo s m : Int} {M : List Int} : (s, m) ∈ ps → lo ≤ s → Picks ps m M → Picks ps lo (m :: M)
theorem Picks.snoc {ps : List P2} {s m : Int} (h : (s, m) ∈ ps) : ∀ {M : List Int} {lo : Int}, Picks ps lo M → M.getLastD lo ≤ s → Picks ps lo (M ++ [m])
  | [], lo, _, hz => .cons h hz .nil
  | x :: M, lo, .cons a b c, hz => .cons a b (Picks.snoc h c (by rwa [List.getLastD_cons] at hz))
def Serves (N : List Int) (ps : List P2) : Prop := ∀ p ∈ ps, ∃ m ∈ N, p.1 < m ∧ m ≤ p.2
structure St (ps : List P2) (s : List Int × Int) : Prop where
  pick : Picks ps 0 (s.1.map fun n => (at_ ps n).2)
  last : s.2 = (s.1.map fun n => (at_ ps n).2).getLastD 0
  apart : s.1.Pairwise (fun a b => (at_ ps a).2 ≤ (at_ ps b).1)
  below : ∀ a ∈ s.1, (at_ ps a).2 ≤ s.2
  valid : ∀ a ∈ s.1, 0 ≤ a ∧ a.toNat < ps.length
theorem at_mem {ps : List P2} {n : Int} (h : n.toNat < ps.length) : at_ ps n ∈ ps := by
  unfold at_
  rw [List.getD_eq_getElem?_getD, List.getElem?_eq_getElem h]
  exact List.getElem_mem h
theorem walk {ps : List P2} (g : Good ps) : ∀ (L : List P2) (s : List Int × Int), St ps s → (∀ x ∈ L, 0 ≤ x.2 ∧ x.2.toNat < ps.length ∧ (at_ ps x.2).2 = x.1) → L.Pairwise (fun x y => x.1 ≤ y.1) → (∀ x ∈ L, s.2 ≤ x.1) →
    St ps (L.foldl (stepE ps) s) ∧ (∃ t, (L.foldl (stepE ps) s).1 = s.1 ++ t ∧ t.Sublist (L.map (·.2))) ∧ ∀ x ∈ L, ∃ m ∈ (L.foldl (stepE ps) s).1.map (fun n => (at_ ps n).2), (at_ ps x.2).1 < m ∧ m ≤ x.1
  | [], s, h, _, _, _ => ⟨h, ⟨[], by simp, by simp⟩, fun x hx => nomatch hx⟩
  | x :: L, s, h, hv, hp, hb => by
    obtain ⟨v0, v1, v2⟩ := hv x (List.mem_cons_self ..)
    have gx := g _ (at_mem v1)
    obtain ⟨hp1, hp2⟩ := List.pairwise_cons.mp hp
    have hv' : ∀ y ∈ L, 0 ≤ y.2 ∧ y.2.toNat < ps.length ∧ (at_ ps y.2).2 = y.1 := fun y hy => hv y (List.mem_cons_of_mem _ hy)
    show St ps (L.foldl (stepE ps) (stepE ps s x)) ∧ (∃ t, (L.foldl (stepE ps) (stepE ps s x)).1 = s.1 ++ t ∧ t.Sublist (x.2 :: L.map (·.2))) ∧ ∀ y ∈ x :: L, ∃ m ∈ (L.foldl (stepE ps) (stepE ps s x)).1.map (fun n => (at_ ps n).2), (at_ ps y.2).1 < m ∧ m ≤ y.1
    by_cases c : s.2 ≤ (at_ ps x.2).1
    · have e : stepE ps s x = (s.1 ++ [x.2], x.1) := if_pos c
      rw [e]
      have pm : ((at_ ps x.2).1, x.1) ∈ ps := by
        have := at_mem v1
        rw [← v2]
        exact this
      have h' : St ps (s.1 ++ [x.2], x.1) := by
        refine ⟨?_, ?_, ?_, ?_, ?_⟩
        · show Picks ps 0 ((s.1 ++ [x.2]).map _)
          rw [List.map_append]
          show Picks ps 0 (_ ++ [(at_ ps x.2).2])
          rw [v2]
          exact h.pick.snoc pm (by rw [← h.last]; exact c)
        · show x.1 = ((s.1 ++ [x.2]).map _).getLastD 0
          rw [List.map_append]
          simp [v2]
        · show (s.1 ++ [x.2]).Pairwise _
          rw [List.pairwise_append]
          refine ⟨h.apart, by simp, fun a ha b hb' => ?_⟩
          rw [List.mem_singleton.mp hb']
          exact Int.le_trans (h.below a ha) c
        · show ∀ a ∈ s.1 ++ [x.2], (at_ ps a).2 ≤ x.1
          intro a ha
          rcases List.mem_append.mp ha with ha | ha
          · exact Int.le_trans (h.below a ha) (by omega)
          · rw [List.mem_singleton.mp ha, v2]
            exact Int.le_refl _
        · show ∀ a ∈ s.1 ++ [x.2], 0 ≤ a ∧ a.toNat < ps.length
          intro a ha
          rcases List.mem_append.mp ha with ha | ha
          · exact h.valid a ha
          · rw [List.mem_singleton.mp ha]
            exact ⟨v0, v1⟩
      obtain ⟨w1, ⟨t, w2, w3⟩, w4⟩ := walk g L _ h' hv' hp2 (fun y hy => hp1 y hy)
      refine ⟨w1, ⟨x.2 :: t, ?_, w3.cons₂ _⟩, fun y hy => ?_⟩
      · rw [w2]
        simp
      · rcases List.mem_cons.mp hy with e2 | hy
        · subst e2
          refine ⟨y.1, ?_, by omega, Int.le_refl _⟩
          rw [w2]
          simp only [List.map_append, List.mem_append]
          left; right
          simp [v2]
        · exact w4 y hy
    · have e : stepE ps s x = s := if_neg c
      rw [e]
      obtain ⟨w1, ⟨t, w2, w3⟩, w4⟩ := walk g L s h hv' hp2 (fun y hy => hb y (List.mem_cons_of_mem _ hy))
      refine ⟨w1, ⟨t, w2, w3.cons _⟩, fun y hy => ?_⟩
      rcases List.mem_cons.mp hy with e2 | hy
      · subst e2
        have hne : s.1 ≠ [] := fun z => by
          have l := h.last
          rw [z] at l
          simp at l
          omega
        refine ⟨s.2, ?_, by omega, hb y (List.mem_cons_self ..)⟩
        rw [w2, List.map_append, List.mem_append]
        left
        have hm : (s.1.map fun n => (at_ ps n).2) ≠ [] := by simpa using hne
        rw [h.last, List.getLastD_eq_getLast?, List.getLast?_eq_getLast hm]
        exact List.getLast_mem hm
      · exact w4 y hy
theorem ens_get (ps : List P2) (x : P2) : x ∈ ens ps → 0 ≤ x.2 ∧ x.2.toNat < ps.length ∧ (at_ ps x.2).2 = x.1 := by
  intro h
  obtain ⟨⟨p, n⟩, hq, rfl⟩ := List.mem_map.mp h
  have := List.mem_zipIdx hq
  simp at this
  refine ⟨Int.natCast_nonneg n, ?_, ?_⟩
  · show ((n : Int)).toNat < ps.length
    rw [Int.toNat_natCast]
    exact this.1
  · show (at_ ps (n : Int)).2 = p.2
    unfold at_
    rw [Int.toNat_natCast, List.getD_eq_getElem?_getD, List.getElem?_eq_getElem this.1]
    show (ps[n]).2 = p.2
    exact congrArg Prod.snd this.2.symm
theorem ens_has (ps : List P2) (p : P2) (h : p ∈ ps) : ∃ n : Int, (p.2, n) ∈ ens ps ∧ at_ ps n = p := by
  obtain ⟨i, hi, e⟩ := List.mem_iff_getElem.mp h
  refine ⟨(i : Int), List.mem_map.mpr ⟨(p, i), ?_, rfl⟩, ?_⟩
  · rw [List.mem_zipIdx_iff_getElem?]
    show ps[i]? = some p
    rw [List.getElem?_eq_getElem hi, e]
  · unfold at_
    rw [Int.toNat_natCast, List.getD_eq_getElem?_getD, List.getElem?_eq_getElem hi, e]
    rfl
theorem ens_nums (ps : List P2) : (ens ps).map (·.2) = (List.range ps.length).map (fun n : Nat => (n : Int)) := by
  unfold ens
  rw [List.map_map]
  apply List.ext_getElem
  · simp
  · intro i h1 h2
    simp
/-- what is known of the picks -/
theorem picks_st {ps : List P2} (g : Good ps) : ∃ node, St ps (picks ps, node) ∧ (picks ps).Nodup ∧ Serves (nodes ps) ps := by
  have h0 : St ps ([], 0) := ⟨.nil, rfl, .nil, (fun a ha => nomatch ha), (fun a ha => nomatch ha)⟩
  have hv : ∀ x ∈ srt (ens ps), 0 ≤ x.2 ∧ x.2.toNat < ps.length ∧ (at_ ps x.2).2 = x.1 := fun x hx => ens_get ps x ((srt_perm _).mem_iff.mp hx)
  have hs : (srt (ens ps)).Pairwise (fun x y => x.1 ≤ y.1) := (srt_sorted (ens ps)).imp fun q => by
    rw [leP_iff] at q
    omega
  have hb : ∀ x ∈ srt (ens ps), (([] : List Int), (0 : Int)).2 ≤ x.1 := fun x hx => by
    obtain ⟨_, a, b⟩ := hv x hx
    have := g _ (at_mem a)
    show (0 : Int) ≤ x.1
    omega
  obtain ⟨w1, ⟨t, w2, w3⟩, w4⟩ := walk g (srt (ens ps)) ([], 0) h0 hv hs hb
  refine ⟨_, w1, ?_, fun p hp => ?_⟩
  · have e : picks ps = t := by
      show ((srt (ens ps)).foldl (stepE ps) ([], 0)).1 = t
      rw [w2]
      rfl
    rw [e]
    refine w3.nodup ?_
    have pm : ((srt (ens ps)).map (·.2)).Perm ((List.range ps.length).map (fun n : Nat => (n : Int))) := by
      rw [← ens_nums]
      exact (srt_perm _).map _
    refine pm.nodup_iff.mpr ?_
    rw [List.nodup_iff_pairwise_ne, List.pairwise_map]
    exact (List.nodup_range (n := ps.length)).imp fun {a b} q z => q (Int.ofNat.inj z)
  · obtain ⟨n, h1, h2⟩ := ens_has ps p hp
    obtain ⟨m, m1, m2, m3⟩ := w4 (p.2, n) ((srt_perm _).mem_iff.mpr h1)
    rw [h2] at m2
    exact ⟨m, m1, m2, m3⟩
theorem picks_lt {ps : List P2} : ∀ {M : List Int} {lo : Int}, Good ps → Picks ps lo M → (∀ m ∈ M, lo < m) ∧ M.Pairwise (· < ·)
  | [], _, _, _ => ⟨(fun m hm => nomatch hm), .nil⟩
  | x :: M, lo, g, .cons a b c => by
    obtain ⟨h1, h2⟩ := picks_lt g c
    have := g _ a
    simp only at this
    refine ⟨fun m hm => ?_, List.pairwise_cons.mpr ⟨fun m hm => h1 m hm, h2⟩⟩
    rcases List.mem_cons.mp hm with e | hm
    · omega
    · have := h1 m hm
      omega
/-- any ascending list that serves is as long, and lies below place by place -/
theorem below {ps : List P2} {N : List Int} (hN : N.Pairwise (· < ·)) (hs : Serves N ps) : ∀ {M : List Int} {lo : Int}, Picks ps lo M →
    M.length ≤ (N.filter (fun n => decide (lo < n))).length ∧ ∀ (k : Nat) (x y : Int), M[k]? = some y → (N.filter (fun n => decide (lo < n)))[k]? = some x → x ≤ y
  | [], _, _ => ⟨Nat.zero_le _, fun k x y h => by simp at h⟩
  | m :: M, lo, .cons (s := s) a b c => by
    obtain ⟨ih1, ih2⟩ := below hN hs c
    obtain ⟨n, hn, h1, h2⟩ := hs _ a
    simp only at h1 h2
    have hlm : lo < m := by omega
    have hF : ((N.filter (fun n => decide (lo < n)))).Pairwise (· < ·) := hN.sublist List.filter_sublist
    have hmem : n ∈ N.filter (fun n => decide (lo < n)) := List.mem_filter.mpr ⟨hn, by simp; omega⟩
    -- those above m, out of those above lo
    have hff : N.filter (fun n => decide (m < n)) = (N.filter (fun n => decide (lo < n))).filter (fun n => decide (m < n)) := by
      rw [List.filter_filter]
      congr 1
      funext z
      by_cases c : m < z
      · have c2 : lo < z := by omega
        simp [c, c2]
      · simp [c]
    rw [hff] at ih1 ih2
    clear hff
    revert hF hmem ih1 ih2
    generalize N.filter (fun n => decide (lo < n)) = F
    intro ih1 ih2 hF hmem
    cases F with
    | nil => exact absurd hmem (by simp)
    | cons f F =>
      obtain ⟨f1, f2⟩ := List.pairwise_cons.mp hF
      have fle : f ≤ m := by
        rcases List.mem_cons.mp hmem with e | e
        · omega
        · have := f1 n e
          omega
      rw [List.filter_cons_of_neg (by simp; omega)] at ih1 ih2
      have suf : ∃ t, F = t ++ F.filter (fun n => decide (m < n)) := by
        clear ih1 ih2 hmem hF f1
        induction F with
        | nil => exact ⟨[], rfl⟩
        | cons z F ih =>
          obtain ⟨z1, z2⟩ := List.pairwise_cons.mp f2
          by_cases c : m < z
          · refine ⟨[], ?_⟩
            rw [List.nil_append, List.filter_eq_self.mpr]
            intro u hu
            rcases List.mem_cons.mp hu with e | e
            · simp; omega
            · have := z1 u e
              simp; omega
          · obtain ⟨t, ht⟩ := ih z2
            refine ⟨z :: t, ?_⟩
            rw [List.filter_cons_of_neg (by simpa using c), List.cons_append, ← ht]
      obtain ⟨t, ht⟩ := suf
      refine ⟨?_, ?_⟩
      · rw [List.length_cons, List.length_cons]
        have : (F.filter (fun n => decide (m < n))).length ≤ F.length := List.length_filter_le _ _
        omega
      · intro k x y hy hx
        cases k with
        | zero =>
          simp at hy hx
          omega
        | succ k =>
          simp at hy hx
          have hk : k < M.length := (List.getElem?_eq_some_iff.mp hy).1
          have hk2 : k < (F.filter (fun n => decide (m < n))).length := by omega
          have hz := ih2 k ((F.filter (fun n => decide (m < n)))[k]) y hy (List.getElem?_eq_getElem hk2)
          -- x is F[k], the other F[t.length + k]
          have hx2 : F[t.length + k]? = some ((F.filter (fun n => decide (m < n)))[k]) := by
            have h9 : (t ++ F.filter (fun n => decide (m < n)))[t.length + k]? = some ((F.filter (fun n => decide (m < n)))[k]) := by
              rw [List.getElem?_append_right (by omega)]
              have e0 : t.length + k - t.length = k := by omega
              rw [e0]
              exact List.getElem?_eq_getElem hk2
            rw [← ht] at h9
            exact h9
          by_cases t0 : t.length = 0
          · rw [t0, Nat.zero_add, hx] at hx2
            have : x = (F.filter (fun n => decide (m < n)))[k] := Option.some.inj hx2
            omega
          · obtain ⟨i1, e1⟩ := List.getElem?_eq_some_iff.mp hx
            obtain ⟨i2, e2⟩ := List.getElem?_eq_some_iff.mp hx2
            have := List.pairwise_iff_getElem.mp f2 k (t.length + k) i1 i2 (by omega)
            omega
/-- an ascending list that serves, all above 0 -/
theorem below0 {ps : List P2} {N M : List Int} (hN : N.Pairwise (· < ·)) (hs : Serves N ps) (hp : Picks ps 0 M) : M.length ≤ N.length ∧ (N.length = M.length → ∀ (k : Nat) (x y : Int), M[k]? = some y → N[k]? = some x → x ≤ y) := by
  obtain ⟨h1, h2⟩ := below hN hs hp
  have hl : (N.filter (fun n => decide (0 < n))).length ≤ N.length := List.length_filter_le _ _
  refine ⟨Nat.le_trans h1 hl, fun e k x y hy hx => h2 k x y hy ?_⟩
  have : N.filter (fun n => decide (0 < n)) = N := by
    refine List.Sublist.eq_of_length List.filter_sublist (by omega)
  rw [this]
  exact hx
/-- a list that serves and whose nodes are ends of intervals one behind another: there is one alone -/
structure Cert (ps : List P2) (M : List Int) : Prop where
  serves : Serves M ps
  pick : Picks ps 0 M
theorem cert_uniq {ps : List P2} (g : Good ps) {M N : List Int} (h : Cert ps M) (k : Cert ps N) : M = N := by
  have a := below0 (picks_lt g h.pick).2 h.serves k.pick
  have b := below0 (picks_lt g k.pick).2 k.serves h.pick
  have el : M.length = N.length := by omega
  apply List.ext_getElem el
  intro i h1 h2
  have x := a.2 el i M[i] N[i] (List.getElem?_eq_getElem h2) (List.getElem?_eq_getElem h1)
  have y := b.2 el.symm i N[i] M[i] (List.getElem?_eq_getElem h1) (List.getElem?_eq_getElem h2)
  omega
theorem nodes_cert {ps : List P2} (g : Good ps) : Cert ps (nodes ps) := by
  obtain ⟨node, st, _, sv⟩ := picks_st g
  exact ⟨sv, st.pick⟩
theorem Picks.perm {ps qs : List P2} (h : ∀ p ∈ ps, p ∈ qs) : ∀ {M : List Int} {lo : Int}, Picks ps lo M → Picks qs lo M
  | _, _, .nil => .nil
  | _, _, .cons a b c => .cons (h _ a) b (c.perm h)
theorem Cert.perm {ps qs : List P2} {M : List Int} (h : ps.Perm qs) (c : Cert ps M) : Cert qs M := ⟨fun p hp => c.serves p (h.mem_iff.mpr hp), c.pick.perm fun p hp => h.mem_iff.mp hp⟩
theorem nodes_is {ps : List P2} (g : Good ps) {M : List Int} (c : Cert ps M) : nodes ps = M := cert_uniq g (nodes_cert g) c
theorem Good.perm {ps qs : List P2} (h : ps.Perm qs) (g : Good ps) : Good qs := fun p hp => g p (h.mem_iff.mpr hp)
/-- the picked ones stand in order, apart -/
theorem picks_apart {ps : List P2} (g : Good ps) : (picks ps).Pairwise (fun a b => (at_ ps a).2 ≤ (at_ ps b).1) ∧ (picks ps).Nodup ∧ ∀ n ∈ picks ps, 0 ≤ n ∧ n.toNat < ps.length := by
  obtain ⟨node, st, nd, _⟩ := picks_st g
  exact ⟨st.apart, nd, st.valid⟩
def apartOf (ps : List P2) : List Int := srtI (picks ps)
theorem apart_spans {ps : List P2} (g : Good ps) : srt ((apartOf ps).map (at_ ps)) = (picks ps).map (at_ ps) := by
  obtain ⟨h1, h2, h3⟩ := picks_apart g
  refine (srt_uniq (((srtI_perm (picks ps)).symm).map (at_ ps)) ?_).symm
  rw [List.pairwise_map]
  refine h1.imp_of_mem fun {a b} ha hb q => ?_
  have ga := g _ (at_mem (h3 a ha).2)
  rw [leP_iff]
  omega
theorem apart_nodup {ps : List P2} (g : Good ps) : (apartOf ps).Nodup := (srtI_perm (picks ps)).nodup_iff.mpr (picks_apart g).2.1
theorem apart_valid {ps : List P2} (g : Good ps) : ∀ n ∈ apartOf ps, 0 ≤ n ∧ n.toNat < ps.length := fun n hn => (picks_apart g).2.2 n ((srtI_perm _).mem_iff.mp hn)
theorem apart_len (ps : List P2) : (apartOf ps).length = (nodes ps).length := by
  unfold apartOf nodes
  rw [(srtI_perm (picks ps)).length_eq, List.length_map]
/-- a list of unlike ints, sorted, is what is sorted of the set of it -/
theorem set_sorted {ns ms : List Int} (h : ns.Nodup) (hs : ns.Pairwise (· ≤ ·)) (hm : ms.Pairwise (· < ·)) (he : ∀ k, k ∈ ms ↔ k ∈ ns) : ms = ns := by
  have h2 : ms.Nodup := hm.imp fun q => by omega
  refine sorted_uniq (fun _ _ a b => by omega) (fun x => Int.le_refl x) (hm.imp fun q => by omega) hs ?_
  exact (List.perm_ext_iff_of_nodup h2 h).mpr he
/-! ### rows in closed form -/
theorem picks_map {ps : List P2} {s f : Nat → Int} {lo : Int} : ∀ n : Nat, (∀ k, k < n → (s k, f k) ∈ ps) → (∀ k, k + 1 < n → f k ≤ s (k + 1)) → (0 < n → lo ≤ s 0) → Picks ps lo ((List.range n).map f)
  | 0, _, _, _ => .nil
  | n + 1, h1, h2, h3 => by
    rw [List.range_succ, List.map_append]
    refine (picks_map n (fun k hk => h1 k (by omega)) (fun k hk => h2 k (by omega)) (fun _ => h3 (by omega))).snoc (h1 n (by omega)) ?_
    cases n with
    | zero => exact h3 (by omega)
    | succ n =>
      rw [List.range_succ, List.map_append]
      have e : ((List.range n).map f ++ [n].map f).getLastD lo = f n := by simp
      rw [e]
      exact h2 n (by omega)
def chainP (m : Nat) : List P2 := (List.range m).map fun k : Nat => (2 * (0 + (k : Int)) + 1, 2 * (0 + (k : Int)) + 3)
def chainN (m : Nat) : List Int := (List.range m).map fun k : Nat => 2 * (0 + (k : Int)) + 3
def wideP (m : Nat) (w : Int) : List P2 := (List.range m).map fun k : Nat => (0 + (k : Int) + 1, 0 + (k : Int) + 1 + w)
def wideN (t : Nat) (w : Int) : List Int := (List.range t).map fun k : Nat => 1 + w * (0 + (k : Int) + 1)
theorem chain_good (m : Nat) : Good (chainP m) := by
  intro p hp
  obtain ⟨k, _, rfl⟩ := List.mem_map.mp hp
  try dsimp only
  omega
theorem wide_good (m : Nat) {w : Int} (hw : 1 ≤ w) : Good (wideP m w) := by
  intro p hp
  obtain ⟨k, _, rfl⟩ := List.mem_map.mp hp
  try dsimp only
  omega
theorem chain_cert (m : Nat) : Cert (chainP m) (chainN m) := by
  refine ⟨fun p hp => ?_, picks_map (s := fun k : Nat => 2 * (0 + (k : Int)) + 1) m (fun k hk => ?_) (fun k hk => ?_) (fun _ => ?_)⟩
  · obtain ⟨k, hk, rfl⟩ := List.mem_map.mp hp
    exact ⟨_, List.mem_map.mpr ⟨k, hk, rfl⟩, by dsimp only; omega, by dsimp only; omega⟩
  · exact List.mem_map.mpr ⟨k, List.mem_range.mpr hk, rfl⟩
  · try dsimp only
    omega
  · try dsimp only
    omega
theorem wide_cert (m : Nat) {w : Int} (h : 1 ≤ w) (h8 : w ≤ 8) : Cert (wideP m w) (wideN (((m : Int) + w - 1) / w).toNat w) := by
  have hw : w = 1 ∨ w = 2 ∨ w = 3 ∨ w = 4 ∨ w = 5 ∨ w = 6 ∨ w = 7 ∨ w = 8 := by omega
  have key : ∀ (w : Int) (t : Nat), 1 ≤ w → t = (((m : Int) + w - 1) / w).toNat → (∀ k : Nat, k < t → ∃ j : Nat, j < m ∧ (j : Int) = w * (k : Int)) → (∀ j : Nat, j < m → ∃ k : Nat, k < t ∧ (j : Int) < w * ((k : Int) + 1) ∧ w * (k : Int) ≤ (j : Int)) → (∀ k : Nat, w * ((k : Int) + 1) = w * (k : Int) + w) → Cert (wideP m w) (wideN t w) := by
    intro w t h1 ht ha hb hc
    refine ⟨fun p hp => ?_, picks_map (s := fun k : Nat => 1 + w * (k : Int)) t (fun k hk => ?_) (fun k hk => ?_) (fun h0 => ?_)⟩
    · obtain ⟨j, hj, rfl⟩ := List.mem_map.mp hp
      obtain ⟨k, k1, k2, k3⟩ := hb j (List.mem_range.mp hj)
      refine ⟨_, List.mem_map.mpr ⟨k, List.mem_range.mpr k1, rfl⟩, ?_, ?_⟩
      · try dsimp only
        rw [Int.zero_add, Int.zero_add]
        omega
      · try dsimp only
        rw [Int.zero_add, Int.zero_add, hc]
        omega
    · obtain ⟨j, j1, j2⟩ := ha k hk
      refine List.mem_map.mpr ⟨j, List.mem_range.mpr j1, ?_⟩
      try dsimp only
      rw [Int.zero_add, Int.zero_add, hc, ← j2]
      refine Prod.ext ?_ ?_
      · try dsimp only
        omega
      · try dsimp only
        omega
    · try dsimp only
      rw [Int.zero_add]
      have : ((k + 1 : Nat) : Int) = (k : Int) + 1 := by omega
      rw [this]
      omega
    · try dsimp only
      have : w * ((0 : Nat) : Int) = 0 := Int.mul_zero w
      rw [this]
      omega
  refine key w _ h rfl ?_ ?_ ?_
  · intro k hk
    refine ⟨(w * (k : Int)).toNat, ?_, ?_⟩ <;> rcases hw with rfl | rfl | rfl | rfl | rfl | rfl | rfl | rfl <;> omega
  · intro j hj
    refine ⟨((j : Int) / w).toNat, ?_, ?_, ?_⟩ <;> rcases hw with rfl | rfl | rfl | rfl | rfl | rfl | rfl | rfl <;> omega
  · intro k
    rcases hw with rfl | rfl | rfl | rfl | rfl | rfl | rfl | rfl <;> omega
theorem asc_lo : ∀ {L : List Int} {a : Int} {i : Nat} {x : Int}, L.Pairwise (· < ·) → (∀ y ∈ L, a ≤ y) → L[i]? = some x → a + (i : Int) ≤ x
  | [], _, _, _, _, _, h => by simp at h
  | y :: L, a, 0, x, _, hb, h => by
    have := hb y (List.mem_cons_self ..)
    simp at h
    omega
  | y :: L, a, i + 1, x, hp, hb, h => by
    obtain ⟨h1, h2⟩ := List.pairwise_cons.mp hp
    have := asc_lo (L := L) (a := a + 1) (i := i) (x := x) h2 (fun z hz => by have := h1 z hz; have := hb y (List.mem_cons_self ..); omega) (by simpa using h)
    omega
theorem asc_hi : ∀ {L : List Int} {b : Int} {i : Nat} {x : Int}, L.Pairwise (· < ·) → (∀ y ∈ L, y ≤ b) → L[i]? = some x → x + ((L.length : Int) - 1 - (i : Int)) ≤ b
  | [], _, _, _, _, _, h => by simp at h
  | y :: L, b, 0, x, hp, hb, h => by
    obtain ⟨h1, h2⟩ := List.pairwise_cons.mp hp
    simp at h
    subst h
    rw [List.length_cons]
    cases L with
    | nil =>
      have := hb y (List.mem_cons_self ..)
      simp
      omega
    | cons z L =>
      have q := asc_hi (L := z :: L) (b := b) (i := 0) (x := z) h2 (fun u hu => hb u (List.mem_cons_of_mem _ hu)) rfl
      have := h1 z (List.mem_cons_self ..)
      omega
  | y :: L, b, i + 1, x, hp, hb, h => by
    obtain ⟨h1, h2⟩ := List.pairwise_cons.mp hp
    have q := asc_hi (L := L) (b := b) (i := i) (x := x) h2 (fun u hu => hb u (List.mem_cons_of_mem _ hu)) (by simpa using h)
    rw [List.length_cons]
    omega
/-- all are picked: apart tells 0, 1, .. -/
theorem apart_all {ps : List P2} (g : Good ps) (h : (nodes ps).length = ps.length) : apartOf ps = (List.range ps.length).map fun k : Nat => (k : Int) := by
  have hl : (apartOf ps).length = ps.length := by rw [apart_len, h]
  have hv := apart_valid g
  have hs : (apartOf ps).Pairwise (· < ·) := by
    have a := srtI_sorted (picks ps)
    have b := apart_nodup g
    exact (a.and b).imp fun q => by have := q.1; have := q.2; omega
  apply List.ext_getElem?
  intro i
  by_cases c : i < ps.length
  · have e : (apartOf ps)[i]? = some ((apartOf ps)[i]'(by omega)) := List.getElem?_eq_getElem (by omega)
    have lo := asc_lo hs (a := 0) (fun y hy => (hv y hy).1) e
    have hi := asc_hi hs (b := (ps.length : Int) - 1) (fun y hy => by have := hv y hy; omega) e
    rw [e, List.getElem?_map, List.getElem?_range c]
    show some _ = some (i : Int)
    congr 1
    omega
  · rw [List.getElem?_eq_none (by omega), List.getElem?_eq_none (by rw [List.length_map, List.length_range]; omega)]
end M40
namespace Lk
open PySem PySem.Spec PyProof.Rows L2
section
variable {P : Program} {w : World} {K : PySem.W.Frag} {mg : Str → Option Value} {base : Heap} {ad ai : Nat → Addr} {fd : Nat → FuncData}
abbrev IsP (H : Hp) (a : Addr) (p : Int × Int) : Prop := H a = some (.tup [.int p.1, .int p.2])
/-- a new list of pairs that grows at D -/
def Grow (H1 : Hp) (D : Addr) (qs : List (Int × Int)) (H' : Hp) : Prop := Same H1 H' ∧ ∃ as : List Addr, H' D = some (.lst (as.map V.ref)) ∧ Paired (IsP H') as qs ∧ ∀ b ∈ as, b ≠ D
theorem grow0 {H1 : Hp} {D : Addr} (hD : H1 D = none) : Grow H1 D [] (upd H1 D (.lst [])) := ⟨same_new hD, [], upd_same, .nil, (fun b hb => nomatch hb)⟩
theorem grow_step {H1 H' H2 : Hp} {D : Addr} {qs : List (Int × Int)} {p : Int × Int} (g : Grow H1 D qs H') (hD : H1 D = none) (s : Same H' H2) (hl : qs.length < sizeLine) (t : Addr) (nt : H2 t = none) :
    ∃ acc, (upd H2 t (.tup [.int p.1, .int p.2])) D = some (.lst acc) ∧ acc.length < sizeLine ∧ Grow H1 D (qs ++ [p]) (upd (upd H2 t (.tup [.int p.1, .int p.2])) D (.lst (acc ++ [.ref t]))) := by
  obtain ⟨s3, as, hd, hpr, hne⟩ := g
  have hd2 := s _ _ hd
  have ntD : D ≠ t := ne_of_none hd2 nt
  refine ⟨as.map V.ref, ?_, ?_, ?_⟩
  · rw [upd_ne ntD]
    exact hd2
  · rw [List.length_map, paired_len hpr]
    exact hl
  · refine ⟨fun b' o' e' => ?_, as ++ [t], ?_, ?_, ?_⟩
    · have n1 : b' ≠ D := ne_of_none e' hD
      have e2 := s _ _ (s3 _ _ e')
      have n2 : b' ≠ t := ne_of_none e2 nt
      rw [upd_ne n1, upd_ne n2]
      exact e2
    · rw [upd_same, List.map_append]
      rfl
    · refine paired_snoc ?_ (paired_mem hpr fun c q hc hcq => ?_)
      · show (upd (upd H2 t (.tup [.int p.1, .int p.2])) D _) t = _
        rw [upd_ne (Ne.symm ntD), upd_same]
      · have hcq2 := s _ _ hcq
        show (upd (upd H2 t (.tup [.int p.1, .int p.2])) D _) c = _
        rw [upd_ne (hne c hc), upd_ne (ne_of_none hcq2 nt)]
        exact hcq2
    · intro c hc
      rcases List.mem_append.mp hc with hc | hc
      · exact hne c hc
      · cases List.mem_singleton.mp hc
        exact Ne.symm ntD
theorem Grow.pairs {H1 H' : Hp} {D : Addr} {qs : List (Int × Int)} (g : Grow H1 D qs H') : PairsAt H' D qs := by
  obtain ⟨_, as, hd, hp, _⟩ := g
  exact ⟨as, hd, hp⟩
/-- the pair that stands at a value's address -/
def keyAt (H : Hp) : V → Int × Int
  | .ref t => match H t with
    | some (.tup [.int i, .int j]) => (i, j)
    | _ => (0, 0)
  | _ => (0, 0)
theorem keyAt_of {H : Hp} {t : Addr} {p : Int × Int} (h : IsP H t p) : keyAt H (.ref t) = p := by
  show (match H t with | some (.tup [.int i, .int j]) => (i, j) | _ => (0, 0)) = p
  rw [h]
theorem keys_of {H : Hp} : ∀ {as : List Addr} {qs : List (Int × Int)}, Paired (IsP H) as qs → (as.map V.ref).map (keyAt H) = qs
  | _, _, .nil => rfl
  | _, _, .cons h t => by
    show keyAt H _ :: _ = _
    rw [keyAt_of h, keys_of t]
/-- what sorted hands back, of pairs -/
theorem sorted_keys {k : V → Int × Int} {ys xs : List V} (h1 : SrtO.Srtd (ltP k) ys) (h2 : SrtO.Stb (ltP k) ys xs) : ys.map k = M40.srt (xs.map k) := by
  refine M40.srt_uniq (h2.perm.map k) ?_
  rw [List.pairwise_map]
  refine h1.imp fun {x y} q => ?_
  have := SrtO.lexB_no.mp q
  rw [M40.leP_iff]
  omega
def sp_ends (K : PySem.W.Frag) : Sp := fun vs H Q _ => ∃ l ps, vs = [.ref l] ∧ PairsAt H l ps ∧ ps.length ≤ 1000 ∧ ∀ H' r, Same H H' → H r = none → H' r = some (.lst ((M40.picks ps).map V.int)) → Q (.ref r) H'
theorem ens_len (ps : List (Int × Int)) : (M40.ens ps).length = ps.length := by
  unfold M40.ens
  simp
theorem ens_at {ps : List (Int × Int)} {i : Nat} {p : Int × Int} (h : ps[i]? = some p) : (M40.ens ps)[i]? = some (p.2, (i : Int)) := by
  unfold M40.ens
  rw [List.getElem?_map, List.getElem?_zipIdx, h]
  simp
theorem stepE_len (ps : List (Int × Int)) : ∀ (L : List (Int × Int)) (s : List Int × Int), (L.foldl (M40.stepE ps) s).1.length ≤ s.1.length + L.length
  | [], s => by simp
  | x :: L, s => by
    show (L.foldl (M40.stepE ps) (M40.stepE ps s x)).1.length ≤ _
    have h := stepE_len ps L (M40.stepE ps s x)
    have h2 : (M40.stepE ps s x).1.length ≤ s.1.length + 1 := by
      unfold M40.stepE
      split
      · simp
      · omega
    rw [List.length_cons]
    omega
theorem ok_ends (T : Txt K mg ad ai fd) : FnOk P w K mg base CX0 1 (ad 10) (fd 10) ["changes"] (sp_ends K) := by
  refine T.F_ends_first.ok sc_ends_first (fun vs H Q E h => ?_) (fun cdv A outer s H vs Q E hr h => ?_)
  · obtain ⟨l, ps, rfl, _⟩ := h
    rfl
  · obtain ⟨l, ps, rfl, ⟨as, hl, hp⟩, hlen, q⟩ := h
    refine ⟨_, (pss_cons (ps_par (i := 1) (j := 2) (by rfl) sc_ends_first.nd rfl rfl (by decide) rfl rfl (pa_cons (pe_lst pa_nil) (pa_cons pe_int pa_nil)) (by rfl))
      (pss_cons (ps_for PassesOwn.never rfl (pi_seq (K := K) (pe_callB cr_sortedPO (by rfl) T.n_sorted (by decide +kernel) (pa_cons (pe_lc (own := [("number", 4), ("change", 5)]) rfl sc_ends_first.nd (pi_enumS (K := K) (by rfl) T.n_enumerate (pa_cons (pv 0) pa_nil)) (blkOk_by (N := ["changes", "found", "node", "end", "number", "change"]) (sc := defScope s_ends_first) (by decide +kernel)) (fun _ _ _ _ _ => (pg_tp (K := K) (n := 2) rfl (pgs_cons (pg_name (i := 4) sc_ends_first.nd rfl (.inl rfl)) (pgs_cons (pg_name (i := 5) sc_ends_first.nd rfl (.inl rfl)) pgs_nil)))) (fun _ _ _ _ _ => pts_nil) (fun _ _ _ _ _ => (pe_tup (pa_cons (pe_ix (ix_seq (K := K)) (pv 5) pe_int (fun _ _ => rfl)) (pa_cons (pv 4) pa_nil))))) pa_nil))) (pg_tp (K := K) (n := 2) rfl (pgs_cons (pg_name (i := 3) sc_ends_first.nd rfl (.inl rfl)) (pgs_cons (pg_name (i := 4) sc_ends_first.nd rfl (.inl rfl)) pgs_nil)))
        (pss_one (ps_if (pt_cmpR op_ge (pe_ix (ix_seq (K := K)) (pe_ix (ix_seq (K := K)) (pv 0) (pv 4) (fun _ _ => rfl)) pe_int (fun _ _ => rfl)) (pv 2) (nomark _)) (pss_cons (ps_expr (pe_bm PySem.F.plainAttrs_list PySem.F.slot_list_append PySem.F.type_list_append mt_append (pv 1) (pa_cons (pv 4) pa_nil)))
          (pss_one (ps_set (i := 2) sc_ends_first.nd rfl (.inl rfl) (pv 3)))) pss_nil)))
      (pss_one (ps_ret (pv 1))))), ?_⟩
    -- found, node = [], 0
    refine ⟨Nat.zero_le _, fun r nr => ⟨_, _, rfl, ?_⟩⟩
    have s1 : Same H (upd H r (.lst [])) := same_new nr
    have hl1 := s1 _ _ hl
    have hp1 : Paired (IsP (upd H r (.lst []))) as ps := paired_mono (fun a p h => s1 _ _ h) hp
    generalize hg : upd H r (.lst []) = H1 at *
    have hr1 : H1 r = some (.lst []) := by rw [← hg]; exact upd_same
    have lens := paired_len hp
    -- the comprehension
    refine ⟨_, rfl, lc_enum (K := K) (sq_lst hl1) (fun D i H' => Grow H1 D ((M40.ens ps).take i) H') (fun D hD => grow0 hD) (fun D i H' hD g => g.1.keeps) ?_ ?_⟩
    · intro D i x H2 T' hD hx g nT
      obtain ⟨p, ep, hc⟩ : ∃ p, ps[i]? = some p ∧ ∃ a, x = .ref a ∧ IsP H1 a p := by
        rw [List.getElem?_map] at hx
        cases ha : as[i]? with
        | none => rw [ha] at hx; cases hx
        | some a =>
          rw [ha] at hx
          obtain ⟨p, e1, e2⟩ := paired_get hp1 ha
          exact ⟨p, e1, a, (Option.some.inj hx).symm, e2⟩
      obtain ⟨a, rfl, hia⟩ := hc
      have sT : Same H2 (upd H2 T' (.tup [.int (i : Nat), .ref a])) := same_new nT
      refine ⟨T', _, rfl, sqT_of upd_same, rfl, _, _, rfl, _, _, rfl, rfl, ?_⟩
      refine ⟨rfl, ?_⟩
      refine ⟨_, rfl, ixS (j := 1) (sq_tup (sT _ _ (g.1 _ _ hia))) rfl ?_⟩
      refine ⟨_, rfl, by show 2 ≤ sizeLine; decide, fun t nt => ?_⟩
      have hlt : ((M40.ens ps).take i).length < sizeLine := by
        rw [List.length_take]
        exact Nat.lt_of_le_of_lt (Nat.min_le_right _ _) (by rw [ens_len]; exact small1000 hlen)
      have := grow_step (p := (p.2, (i : Int))) g hD sT hlt t nt
      rw [take_snoc (ens_at ep)]
      exact this
    · intro D H2 hD g
      rw [List.length_map, lens, ← ens_len ps, List.take_length] at g
      obtain ⟨s2, ts, hd2, hpr, hne⟩ := g
      -- sorted
      refine ⟨D, ts.map V.ref, keyAt H2, rfl, sqL_of hd2, ?_, fun ys p h1 h2 np => ?_⟩
      · intro x hx
        obtain ⟨t, ht, rfl⟩ := List.mem_map.mp hx
        obtain ⟨i, hi, e⟩ := List.mem_iff_getElem.mp ht
        obtain ⟨qq, _, hq⟩ := paired_get hpr (List.getElem?_eq_getElem hi)
        rw [e] at hq
        refine ⟨t, rfl, ?_⟩
        rw [keyAt_of hq]
        exact hq
      · have ek : ys.map (keyAt H2) = M40.srt (M40.ens ps) := by
          rw [sorted_keys h1 h2, keys_of hpr]
        have hin : ∀ x ∈ ys, ∃ t, x = V.ref t ∧ IsP H2 t (keyAt H2 x) := by
          intro x hx
          obtain ⟨t, ht, rfl⟩ := List.mem_map.mp (h2.perm.mem_iff.mp hx)
          obtain ⟨i, hi, e⟩ := List.mem_iff_getElem.mp ht
          obtain ⟨qq, _, hq⟩ := paired_get hpr (List.getElem?_eq_getElem hi)
          rw [e] at hq
          exact ⟨t, rfl, by rw [keyAt_of hq]; exact hq⟩
        have s3 : Same H2 (upd H2 p (.lst ys)) := same_new np
        have hpy : upd H2 p (.lst ys) p = some (.lst ys) := upd_same
        generalize upd H2 p (.lst ys) = H3 at s3 hpy ⊢
        have s13 : Same H1 H3 := s2.trans s3
        have rnp : r ≠ p := fun e => by
          rw [← e, s2 _ _ hr1] at np
          cases np
        -- the loop
        refine for_seq (K := K) (sq_lst hpy) (fun i σ H' => (∃ y3 y4 y5, σ = [some (.ref l), some (.ref r), some (.int (((M40.srt (M40.ens ps)).take i).foldl (M40.stepE ps) ([], 0)).2), y3, y4, y5]) ∧ H' = upd H3 r (.lst ((((M40.srt (M40.ens ps)).take i).foldl (M40.stepE ps) ([], 0)).1.map V.int))) ⟨⟨none, none, none, rfl⟩, ?_⟩ ?_ ?_ ?_
        · funext b
          by_cases e : b = r
          · subst e
            rw [upd_same]
            exact s13 _ _ hr1
          · rw [upd_ne e]
        · rintro i σ H' ⟨_, rfl⟩ o ho
          rw [upd_ne (Ne.symm rnp)]
          exact ho
        · rintro i x σ H' hx ⟨⟨y3, y4, y5, rfl⟩, rfl⟩
          have hxm : x ∈ ys := List.mem_of_getElem? hx
          obtain ⟨t, rfl, hit⟩ := hin x hxm
          have ekx : (M40.srt (M40.ens ps))[i]? = some (keyAt H2 (.ref t)) := by
            rw [← ek, List.getElem?_map, hx]
            rfl
          obtain ⟨en, hen⟩ : ∃ en, keyAt H2 (V.ref t) = en := ⟨_, rfl⟩
          rw [hen] at ekx hit
          have hval := M40.ens_get ps en ((M40.srt_perm _).mem_iff.mp (List.mem_of_getElem? ekx))
          obtain ⟨v0, v1, v2⟩ := hval
          have trn : t ≠ r := ne_of hit (s2 _ _ hr1) (by intro z; cases z)
          generalize hst : ((M40.srt (M40.ens ps)).take i).foldl (M40.stepE ps) ([], 0) = st
          have hst2 : ((M40.srt (M40.ens ps)).take (i + 1)).foldl (M40.stepE ps) ([], 0) = M40.stepE ps st en := by
            rw [take_snoc ekx, List.foldl_append, hst]
            rfl
          rw [hst2]
          refine ⟨t, _, rfl, sqT_of (by rw [upd_ne trn]; exact s3 _ _ hit), rfl, _, _, rfl, _, _, rfl, rfl, ?_⟩
          -- changes[number][0] >= node
          obtain ⟨p', ep', hip'⟩ : ∃ a', as[en.2.toNat]? = some a' ∧ IsP H1 a' (M40.at_ ps en.2) := by
            have hlt : en.2.toNat < as.length := by rw [lens]; exact v1
            obtain ⟨pp, e1, e2⟩ := paired_get hp1 (List.getElem?_eq_getElem hlt)
            refine ⟨_, List.getElem?_eq_getElem hlt, ?_⟩
            have : M40.at_ ps en.2 = pp := by
              unfold M40.at_
              rw [List.getD_eq_getElem?_getD, e1]
              rfl
            rw [this]
            exact e2
          have pr : p' ≠ r := ne_of hip' hr1 (by intro z; cases z)
          have lr : l ≠ r := ne_of_none hl nr
          have en2 : en.2 = ((en.2.toNat : Nat) : Int) := (Int.toNat_of_nonneg v0).symm
          refine ⟨_, rfl, _, rfl, ?_⟩
          show rIxS K (.ref l) (.int en.2) _ _
          rw [en2]
          refine ixS (j := en.2.toNat) (xs := as.map V.ref) (sq_lst (by rw [upd_ne lr]; exact s13 _ _ hl1)) (by rw [List.getElem?_map, ep']; rfl) ?_
          refine ixS (j := 0) (sq_tup (by rw [upd_ne pr]; exact s13 _ _ hip')) rfl ?_
          refine ⟨_, rfl, _, _, rfl, rfl, _, rfl, ?_⟩
          by_cases c : st.2 ≤ (M40.at_ ps en.2).1
          · rw [decide_eq_true c]
            have es : M40.stepE ps st en = (st.1 ++ [en.2], en.1) := if_pos c
            rw [es]
            refine ⟨_, rfl, .inl ⟨rfl, _, sqL_of upd_same⟩, _, rfl, r, _, _, rfl, rfl, upd_same, ?_, ?_⟩
            · rw [List.length_map]
              have hb := stepE_len ps ((M40.srt (M40.ens ps)).take i) ([], 0)
              rw [hst, List.length_take, (M40.srt_perm (M40.ens ps)).length_eq, ens_len] at hb
              have hb2 : st.1.length ≤ 1000 := by
                have : (([] : List Int), (0 : Int)).1.length = 0 := rfl
                omega
              exact small1000 hb2
            · refine ⟨_, rfl, ⟨_, _, _, rfl⟩, ?_⟩
              rw [upd_upd, List.map_append, Int.toNat_of_nonneg v0]
              rfl
          · rw [decide_eq_false c]
            have es : M40.stepE ps st en = st := if_neg c
            rw [es]
            exact ⟨⟨_, _, _, rfl⟩, rfl⟩
        · rintro σ H' ⟨⟨y3, y4, y5, rfl⟩, rfl⟩
          have ey : ys.length = (M40.srt (M40.ens ps)).length := by rw [← ek, List.length_map]
          rw [ey, List.take_length]
          refine ⟨_, rfl, q _ r (fun b o e => ?_) nr upd_same⟩
          rw [upd_ne (ne_of_none e nr)]
          exact s13 _ _ (s1 _ _ e)
/-- what least_nodes and apart ask of any object -/
def sp_ask (K : PySem.W.Frag) (C : Addr) (F : List (Int × Int) → List Int) : Sp := fun vs H Q E => ∃ v, vs = [v] ∧
  ((∃ t, HasTy K H v t ∧ t.seq = false ∧ ErrK E C "index" (.int 0) H) ∨
   (∃ a xs ps, v = .ref a ∧ Sq K H a xs ∧ xs.length ≤ 1000 ∧ Paired (ChgOk K H) xs ps ∧ ∀ H' l, Same H H' → H l = none → H' l = some (.lst ((F ps).map V.int)) → Q (.ref l) H') ∨
   (∃ a xs n o, v = .ref a ∧ Sq K H a xs ∧ (∀ i x, i < n → xs[i]? = some x → ∃ p, ChgOk K H x p) ∧ xs[n]? = some o ∧ Odd K H o ∧ ErrK E C "index" (.int (n : Nat)) H))
theorem sp_ask.checked {C : Addr} {F : List (Int × Int) → List Int} {v : V} {H : Hp} {Q Q' : VK} {E : XK} (h : sp_ask K C F [v] H Q E)
    (k : ∀ ps H1 l, Same H H1 → H l = none → PairsAt H1 l ps → ps.length ≤ 1000 → (∀ H' r, Same H1 H' → H1 r = none → H' r = some (.lst ((F ps).map V.int)) → Q (.ref r) H') → Q' (.ref l) H1) : sp_checked K C [v] H Q' E := by
  obtain ⟨v', e, h⟩ := h
  cases e
  refine ⟨v, rfl, ?_⟩
  rcases h with h | ⟨a, xs, ps, rfl, hs, hlen, hp, q⟩ | h
  · exact .inl h
  · refine .inr (.inl ⟨a, xs, ps, rfl, hs, hlen, hp, fun H1 l sm nl hl => k ps H1 l sm nl hl (by rw [← paired_len hp]; exact hlen) fun H' r s2 nr hr => q H' r (sm.trans s2) (sm.free nr) hr⟩)
  · exact .inr (.inr h)
theorem picks_valid {ps : List (Int × Int)} : ∀ n ∈ M40.picks ps, 0 ≤ n ∧ n.toNat < ps.length := by
  have aux : ∀ (L : List (Int × Int)) (s : List Int × Int), (∀ x ∈ L, 0 ≤ x.2 ∧ x.2.toNat < ps.length) → (∀ n ∈ s.1, 0 ≤ n ∧ n.toNat < ps.length) → ∀ n ∈ (L.foldl (M40.stepE ps) s).1, 0 ≤ n ∧ n.toNat < ps.length := by
    intro L
    induction L with
    | nil => intro s _ h; exact h
    | cons x L ih =>
      intro s hL h
      refine ih _ (fun y hy => hL y (List.mem_cons_of_mem _ hy)) ?_
      unfold M40.stepE
      split
      · intro n hn
        rcases List.mem_append.mp hn with hn | hn
        · exact h n hn
        · rw [List.mem_singleton.mp hn]
          exact hL x (List.mem_cons_self ..)
      · exact h
  refine aux _ ([], 0) (fun x hx => ?_) (fun n hn => nomatch hn)
  have := M40.ens_get ps x ((M40.srt_perm _).mem_iff.mp hx)
  exact ⟨this.1, this.2.1⟩
theorem picks_len {ps : List (Int × Int)} : (M40.picks ps).length ≤ ps.length := by
  have h := stepE_len ps (M40.srt (M40.ens ps)) ([], 0)
  rw [(M40.srt_perm (M40.ens ps)).length_eq, ens_len] at h
  have : (([] : List Int), (0 : Int)).1.length = 0 := rfl
  show ((M40.srt (M40.ens ps)).foldl (M40.stepE ps) ([], 0)).1.length ≤ ps.length
  omega
theorem ok_least (T : Txt K mg ad ai fd) : FnOk P w K mg base (L2.CX P w) 5 (ad 11) (fd 11) ["changes"] (sp_ask K (ad 7) M40.nodes) := by
  have G_checked_changes : FnOk P w K mg base (L2.CX P w) 4 (ad 9) (fd 9) ["changes"] (sp_checked K (ad 7)) := ok_checked T
  have G_ends_first : FnOk P w K mg base CX0 1 (ad 10) (fd 10) ["changes"] (sp_ends K) := ok_ends T
  refine T.F_least_nodes.okX sc_least_nodes (fun vs H Q E h => ?_) (fun cdv A outer s H vs Q E hr h => ?_)
  · obtain ⟨v, rfl, _⟩ := h
    rfl
  · obtain ⟨v, rfl⟩ : ∃ v, vs = [v] := ⟨_, h.choose_spec.1⟩
    refine ⟨_, (pss_cons (ps_set (i := 1) sc_least_nodes.nd rfl (.inr rfl) (pe_call G_checked_changes (hr.mono (by decide)) (by rfl) T.g_checked_changes T.F_checked_changes.kp T.b_checked_changes .nil (passes_call (takes_of rfl rfl rfl rfl) fun _ _ _ _ h => h) (pa_cons (pv 0) pa_nil)))
      (pss_one (ps_ret (pe_lc (own := [("number", 2)]) rfl sc_least_nodes.nd (pi_seq (K := K) (pe_call G_ends_first (hr.mono (by decide)) (by rfl) T.g_ends_first T.F_ends_first.kp T.b_ends_first .nil pass0 (pa_cons (pv 1) pa_nil))) (blkOk_by (N := ["changes", "pairs", "number"]) (sc := defScope s_least_nodes) (by decide +kernel)) (fun _ _ _ _ _ => (pg_name (i := 2) sc_least_nodes.nd rfl (.inl rfl))) (fun _ _ _ _ _ => pts_nil) (fun _ _ _ _ _ => (pe_ix (ix_seq (K := K)) (pe_ix (ix_seq (K := K)) (pv 1) (pv 2) (fun _ _ => rfl)) pe_int (fun _ _ => rfl))))))), ?_⟩
    refine ⟨v, rfl, ?_⟩
    dsimp only [tNil]
    refine h.checked fun ps H1 l s1 nl hl hlen q => ?_
    refine ⟨_, rfl, l, ps, rfl, hl, hlen, fun H2 r s2 nr hr2 => ?_⟩
    obtain ⟨as, hla, hpa⟩ := hl
    refine lc_seq (K := K) (sq_lst hr2) (fun D i H' => Same H2 H' ∧ H' D = some (.lst (((M40.nodes ps).take i).map V.int))) (fun D hD => ⟨same_new hD, upd_same⟩) (fun D i H' hD pv => pv.1.keeps) ?_ ?_
    · rintro D i x H3 hD hx ⟨s3, hd3⟩
      obtain ⟨n, hn, rfl⟩ : ∃ n, (M40.picks ps)[i]? = some n ∧ x = .int n := by
        rw [List.getElem?_map] at hx
        cases hn : (M40.picks ps)[i]? with
        | none => rw [hn] at hx; cases hx
        | some n => rw [hn] at hx; exact ⟨n, rfl, (Option.some.inj hx).symm⟩
      obtain ⟨v0, v1⟩ := picks_valid n (List.mem_of_getElem? hn)
      have lens := paired_len hpa
      have hlt : n.toNat < as.length := by rw [lens]; exact v1
      obtain ⟨pp, e1, e2⟩ := paired_get hpa (List.getElem?_eq_getElem hlt)
      have en2 : n = ((n.toNat : Nat) : Int) := (Int.toNat_of_nonneg v0).symm
      have s13 := s2.trans s3
      have enode : (M40.nodes ps)[i]? = some pp.2 := by
        show ((M40.picks ps).map _)[i]? = _
        rw [List.getElem?_map, hn]
        show some (M40.at_ ps n).2 = _
        unfold M40.at_
        rw [List.getD_eq_getElem?_getD, e1]
        rfl
      refine ⟨rfl, ?_⟩
      refine ⟨_, rfl, _, rfl, ?_⟩
      show rIxS K (.ref l) (.int n) _ _
      rw [en2]
      refine ixS (j := n.toNat) (xs := as.map V.ref) (sq_lst (s13 _ _ hla)) (by rw [List.getElem?_map, List.getElem?_eq_getElem hlt]; rfl) ?_
      refine ixS (j := 1) (sq_tup (s13 _ _ e2)) rfl ?_
      refine ⟨_, hd3, ?_, fun b o e => ?_, ?_⟩
      · rw [List.length_map, List.length_take]
        have hn2 : (M40.nodes ps).length ≤ 1000 := by
          show ((M40.picks ps).map _).length ≤ 1000
          rw [List.length_map]
          exact Nat.le_trans picks_len hlen
        exact Nat.lt_of_le_of_lt (Nat.min_le_right _ _) (small1000 hn2)
      · rw [upd_ne (ne_of_none e hD)]
        exact s3 _ _ e
      · rw [upd_same, take_snoc enode, List.map_append]
        rfl
    · rintro D H3 hD ⟨s3, hd3⟩
      have e : ((M40.picks ps).map V.int).length = (M40.nodes ps).length := by
        show _ = ((M40.picks ps).map _).length
        rw [List.length_map, List.length_map]
      rw [e, List.take_length] at hd3
      exact q H3 D (s2.trans s3) (s2.free hD) hd3
theorem ok_apart (T : Txt K mg ad ai fd) : FnOk P w K mg base (L2.CX P w) 5 (ad 12) (fd 12) ["changes"] (sp_ask K (ad 7) M40.apartOf) := by
  have G_checked_changes : FnOk P w K mg base (L2.CX P w) 4 (ad 9) (fd 9) ["changes"] (sp_checked K (ad 7)) := ok_checked T
  have G_ends_first : FnOk P w K mg base CX0 1 (ad 10) (fd 10) ["changes"] (sp_ends K) := ok_ends T
  refine T.F_apart.okX sc_apart (fun vs H Q E h => ?_) (fun cdv A outer s H vs Q E hr h => ?_)
  · obtain ⟨v, rfl, _⟩ := h
    rfl
  · obtain ⟨v, rfl⟩ : ∃ v, vs = [v] := ⟨_, h.choose_spec.1⟩
    refine ⟨_, (pss_one (ps_ret (pe_callB cr_sortedI (by rfl) T.n_sorted (by decide +kernel) (pa_cons (pe_call G_ends_first (hr.mono (by decide)) (by rfl) T.g_ends_first T.F_ends_first.kp T.b_ends_first .nil pass0 (pa_cons (pe_call G_checked_changes (hr.mono (by decide)) (by rfl) T.g_checked_changes T.F_checked_changes.kp T.b_checked_changes .nil (passes_call (takes_of rfl rfl rfl rfl) fun _ _ _ _ h => h) (pa_cons (pv 0) pa_nil)) pa_nil)) pa_nil)))), ?_⟩
    refine ⟨v, rfl, ?_⟩
    dsimp only [tNil]
    refine h.checked fun ps H1 l s1 nl hl hlen q => ?_
    refine ⟨l, ps, rfl, hl, hlen, fun H2 r s2 nr hr2 => ?_⟩
    refine ⟨r, M40.picks ps, rfl, sqL_of hr2, fun ns' p h1 h2 np => ?_⟩
    refine q _ p (s2.new np) (s2.free np) ?_
    rw [upd_same]
    show _ = some (HO.lst ((M40.srtI (M40.picks ps)).map V.int))
    rw [← M40.srtI_uniq h1 h2]
end
end Lk
/-! ==, !=, <, >, in of data with a Lean type (KE.Datum). -/
namespace Lk
open PySem PySem.Spec PyProof.Rows L2 PySem.W
section
variable {α : Type} [DecidableEq α] [Datum α]
/-- v holds x -/
def HasD (K : Frag) (H : Hp) (v : V) (x : α) : Prop := Dp K H v (Datum.toD x)
def rEqT (α : Type) [DecidableEq α] [Datum α] (K : Frag) : R2 := fun u v H Q => ∃ x y : α, HasD K H u x ∧ HasD K H v y ∧ Q (.bl (decide (x = y))) H
def rNeT (α : Type) [DecidableEq α] [Datum α] (K : Frag) : R2 := fun u v H Q => ∃ x y : α, HasD K H u x ∧ HasD K H v y ∧ Q (.bl (!decide (x = y))) H
variable {X : Cx} {K : Frag}
theorem op_eqT (hu : X.A.units + Datum.depth α < cLine) (hK : X.K = K := by rfl) : OpR X (compareOp .Eq) (rEqT α K) := by
  subst hK
  intro pins s σ H u v a b Q I ru rv h
  obtain ⟨x, y, hx, hy, q⟩ := h
  exact eq_datum (Dp.reads I _ _ _ hx ru) (Dp.reads I _ _ _ hy rv) hu ⟨.bl (decide (x = y)), H, I, rfl, q⟩
theorem op_neT (hu : X.A.units + Datum.depth α < cLine) (hK : X.K = K := by rfl) : OpR X (compareOp .NotEq) (rNeT α K) := by
  subst hK
  intro pins s σ H u v a b Q I ru rv h
  obtain ⟨x, y, hx, hy, q⟩ := h
  exact ne_datum (Dp.reads I _ _ _ hx ru) (Dp.reads I _ _ _ hy rv) hu ⟨.bl (!decide (x = y)), H, I, by rw [decide_not]; rfl, q⟩
end
section
variable {α : Type} [DecidableEq α] [DatumOrd α] {X : Cx} {K : Frag}
def rGtT (α : Type) [DecidableEq α] [DatumOrd α] (K : Frag) : R2 := fun u v H Q => ∃ x y : α, HasD K H u x ∧ HasD K H v y ∧ Q (.bl (DatumOrd.lt y x)) H
theorem op_gtT (hu : X.A.units + Datum.depth α < cLine) (hK : X.K = K := by rfl) : OpR X (compareOp .Gt) (rGtT α K) := by
  subst hK
  intro pins s σ H u v a b Q I ru rv h
  obtain ⟨x, y, hx, hy, q⟩ := h
  exact gt_datum (Dp.reads I _ _ _ hx ru) (Dp.reads I _ _ _ hy rv) hu ⟨.bl (DatumOrd.lt y x), H, I, rfl, q⟩
end
section
variable {K : Frag} {H H' : Hp}
mutual
theorem dp_same (e : Same H H') : ∀ {v : V} {d : PyData}, Dp K H v d → Dp K H' v d
  | _, _, .non => .non
  | _, _, .bl b => .bl b
  | _, _, .int i => .int i
  | _, _, .str x => .str x
  | _, _, .lst h t => .lst (e.seq h) (dpAll_same e t)
  | _, _, .tup h t => .tup (e.sqT h) (dpAll_same e t)
theorem dpAll_same (e : Same H H') : ∀ {vs : List V} {ds : List PyData}, DpAll K H vs ds → DpAll K H' vs ds
  | _, _, .nil => .nil
  | _, _, .cons h t => .cons (dp_same e h) (dpAll_same e t)
end
theorem dp_ints : ∀ ns : List Int, DpAll K H (ns.map V.int) (ns.map Datum.toD)
  | [] => .nil
  | n :: ns => .cons (.int n) (dp_ints ns)
theorem hasD_int {i : Int} : HasD K H (.int i) i := .int i
theorem hasD_ints {a : Addr} {ns : List Int} (h : SqL K H a (ns.map V.int)) : HasD K H (.ref a) ns := .lst h (dp_ints ns)
end
end Lk
/-! set(list of ints), sorted of it. -/
namespace Lk
open PySem PySem.Spec PyProof.Rows L2
section
variable {P : Program} {w : World} {A : Around} {E : Value → Shared → Prop} {s : Shared}
theorem call_set_lstI {l : Addr} {items : Array Value} (ns : List Int) {Q : Value → Shared → Prop} (hh : A.handled = none) (hl : s.heap.IsList l items) (hit : IntsAre items.toList ns) (hb : ns.length + 1 < scanBound)
    (h : ∀ (h' : Heap) (tk c : Nat), SetR w h' s.heap.objs.size (fun j => decide (j ∈ ns)) c → c ≤ ns.length → (∀ b o, s.heap.get? b = some o → h'.get? b = some o) → Q (.ref s.heap.objs.size) { s with heap := h', toks := tk }) :
    wpAny (model P w) A (call (.type "set") [.ref l]) Q E s := by
  have hisz : items.size = ns.length := by
    have q := IntsAre.length hit
    rw [Array.length_toList] at q
    exact q
  obtain ⟨c, tl, hmro⟩ := F.called_set.mro
  have hmade := F.called_set.made
  have hsub := F.called_set.sub
  refine wpAny_call (codeAny_of_tree ?_)
  show wpAny _ _ (callAny (.type "set") _) _ _ _
  refine wpAny_pure ⟨Code.quiet_builtin _ (by decide +kernel), codeAny_builtin F.entry_type_call ?_⟩
  rw [Around.under_plain (weight_type_call_type "set" [.ref l] []) rfl]
  have h1 := F.called_set.notType
  have h2 := F.called_set.canCreate
  have hct := F.typeCall_set_1 (.ref l)
  repeat (any_goals (first | assumption | wp_step))

  refine codeAny_mono (code_set_led1 (.ref l) (E := E) (Q₁ := fun obj s₁ => obj = .ref s.heap.objs.size ∧ s₁ = { s with heap := s.heap.push { cls := .type "set", dict := none, data := .set #[] 0 (.fresh 0 0 (!w.params.followText "set-order")) } }) ⟨rfl, rfl⟩) fun r s₁ hr => ?_
  cases r with
  | error e => exact hr
  | ok fl =>
    cases fl with
    | ret obj =>
      obtain ⟨rfl, rfl⟩ := hr
      have hS : (s.heap.push { cls := .type "set", dict := none, data := .set #[] 0 (.fresh 0 0 (!w.params.followText "set-order")) }).get? s.heap.objs.size = some { cls := .type "set", dict := none, data := .set #[] 0 (.fresh 0 0 (!w.params.followText "set-order")) } := Heap.get?_push_size _ rfl
      have hT : Shared.TypeIs { s with heap := s.heap.push { cls := .type "set", dict := none, data := .set #[] 0 (.fresh 0 0 (!w.params.followText "set-order")) } } (.ref s.heap.objs.size) "set" := ⟨_, hS, rfl⟩
      have hli := F.called_set.init.lookup
      have hbi := F.called_set.init.bind (.ref s.heap.objs.size)
      repeat (any_goals (first | assumption | wp_step))

      refine codeAny_mono (codeAny_call_builtin (R := wants (fun r s₂ => r = .none ∧ ∃ h' tk c, s₂ = { s with heap := h', toks := tk } ∧ SetR w h' s.heap.objs.size (fun j => decide (j ∈ ns)) c ∧ c ≤ ns.length ∧
          (∀ b o, s.heap.get? b = some o → h'.get? b = some o)) E) F.called_set.init.plain F.entry_set_init (check_set_init_1 hT ?_)) fun r₂ s₂ hr₂ => ?_
      · obtain ⟨ol, hol, hcl, nl, hdl⟩ := hl
        obtain ⟨ocls, odict, odata, oslots⟩ := ol
        simp only at hcl hdl
        subst hcl; subst hdl
        have hol' : (s.heap.push { cls := .type "set", dict := none, data := .set #[] 0 (.fresh 0 0 (!w.params.followText "set-order")) }).get? l = some { cls := .type "list", dict := odict, data := .seq items nl, slots := oslots } := Heap.get?_push_of_some _ hol
        have hsls := F.sub_list_set
        have hslf := F.sub_list_frozenset
        have hne : (Value.type "list" == Value.type "dict") = false := by decide
        have hl1 : (s.heap.push { cls := .type "set", dict := none, data := .set #[] 0 (.fresh 0 0 (!w.params.followText "set-order")) }).IsList l items := ⟨_, hol', rfl, nl, rfl⟩
        unfold Builtin.«set.__init__» noKeywords Builtin.Frozenset.updateFrom
        generalize hPI : pyIter = PI
        wp_walk
        subst hPI

        refine wpAny_pyIter_list hl1 ?_
        refine wpAny_bind (wpAny_runValue ?_)
        have hlS : l < s.heap.objs.size := Heap.lt_size hol
        have hh3 : A.in1.in1.in1.handled = none := by simp [hh]
        have hz1 : (s.heap.push { cls := .type "set", dict := none, data := .set #[] 0 (.fresh 0 0 (!w.params.followText "set-order")) }).objs.size = s.heap.objs.size + 1 := Heap.size_push ..
        have hneI : l ≠ (s.heap.push { cls := .type "set", dict := none, data := .set #[] 0 (.fresh 0 0 (!w.params.followText "set-order")) }).objs.size := by
          rw [Heap.size_push]; exact Nat.ne_of_lt (Nat.lt_succ_of_lt hlS)
        have hSf : s.heap.objs.size ∉ [(s.heap.push { cls := .type "set", dict := none, data := .set #[] 0 (.fresh 0 0 (!w.params.followText "set-order")) }).objs.size, l] := by
          rw [Heap.size_push]; simp only [List.mem_cons, List.mem_singleton, List.not_mem_nil, or_false, not_or]
          exact ⟨Nat.ne_of_lt (Nat.lt_succ_self _), Nat.ne_of_gt hlS⟩
        have hval : ∀ (i : Nat) (v : Value), items[i]? = some v → ∃ k t, ns[i]? = some k ∧ v = .int k t := fun i v hv => by
          have hi : i < ns.length := by rw [← hisz]; exact (Array.getElem?_eq_some_iff.mp hv).1
          obtain ⟨t, e⟩ := PyProof.Rows.IntsAre.int_at hit i v (by rw [Array.getElem?_toList]; exact hv)
          refine ⟨ns[i], t, List.getElem?_eq_getElem hi, ?_⟩
          rw [e, List.getD_eq_getElem?_getD, List.getElem?_eq_getElem hi] <;> rfl
        refine set_update_ints ((Walks.list hh3 _ l hneI items).toS) s.heap.objs.size
          hSf ns hisz hb hval (items.size - 0) 0 _ (by omega) (Nat.zero_le _)
          ⟨⟨_, Heap.get?_push_size _ rfl, rfl, rfl⟩, (hl1.push _)⟩ ?hS0 ?hR
        case hS0 =>
          have hget : ((s.heap.push { cls := .type "set", dict := none, data := .set #[] 0 (.fresh 0 0 (!w.params.followText "set-order")) }).push { cls := .type "list_iterator", data := .fields #[.ref l, .int 0 0] }).get? s.heap.objs.size
              = some { cls := .type "set", dict := none, data := .set #[] 0 (.fresh 0 0 (!w.params.followText "set-order")) } := Heap.get?_push_of_some _ hS
          exact ⟨0, Nat.le_refl 0, setR_new_at hget⟩
        case hR =>
          intro s' c' hm hc' hS'
          obtain ⟨h', g2, d', tk', os'⟩ := s'
          have eg : g2 = s.gens := hm.gens
          have ed : d' = s.drawn := hm.drawn
          have eo : os' = s.os := hm.os
          subst eg; subst ed; subst eo
          show wpAny _ _ _ _ _ _
          refine wpAny_pure ?_
          show wpAny _ _ (ret Value.none) _ _ _
          rw [hisz] at hc'
          refine wpAny_pure ⟨rfl, h', tk', c', rfl, hS', hc', fun b o e => ?_⟩
          have hb0 : b < s.heap.objs.size := Heap.lt_size e
          have hb1 : b ≠ s.heap.objs.size := Nat.ne_of_lt hb0
          have hb2 : b ≠ (s.heap.push { cls := .type "set", dict := none, data := .set #[] 0 (.fresh 0 0 (!w.params.followText "set-order")) }).objs.size := by
            rw [Heap.size_push]; exact Nat.ne_of_lt (Nat.lt_succ_of_lt hb0)
          exact hm.heap b o (by simp only [List.mem_cons, List.mem_singleton, List.not_mem_nil, or_false, not_or]; exact ⟨hb1, hb2⟩) (Heap.get?_push_of_some _ (Heap.get?_push_of_some _ e))

      · cases r₂ with
        | error e => exact hr₂
        | ok fl₂ =>
          cases fl₂ with
          | ret r =>
            obtain ⟨rfl, h', tk, c', rfl, hS', hc', hk'⟩ := hr₂
            repeat (any_goals (first | assumption | wp_step))
            exact h _ _ _ hS' hc' hk'
          | _ => exact hr₂.elim
    | _ => exact hr.elim

end
/-- set(xs), xs a list of ints -/
def rSetI (K : PySem.W.Frag) (w : World) : List V → Hp → VK → Prop := fun xs H Q => ∃ (p : Addr) (ns : List Int), xs = [V.ref p] ∧ SqL K H p (ns.map V.int) ∧ ns.length ≤ 60 ∧ ∀ (a : Addr) (c : Nat), H a = none → c ≤ ns.length → Q (.ref a) (upd H a (SetO w a (fun j => decide (j ∈ ns)) c))
theorem cr_setI {X : Cx} (hc : X.calm = true) : CallR X (.type "set") (rSetI X.K X.w) := by
  intro pins s σ H xs us Q I r h
  obtain ⟨p, ns, rfl, hq, hl, q⟩ := h
  obtain ⟨u, rfl, ru⟩ := vals1 r
  obtain rfl : u = Value.ref p := ru
  obtain ⟨its, rv, pl, hz⟩ := I.list hq
  refine call_set_lstI ns (I.ok.hd hc) pl.isList (ints_of_vals rv) (by unfold scanBound; omega) fun h' tk c R1 hcn k => ?_
  exact ⟨.ref _, _, I.laid (t' := tk) k (Nat.le_refl _) (setO_new R1), rfl, q _ c (I.hok.fresh (Nat.le_refl _)) hcn⟩
end Lk
namespace Lk
open PySem PySem.Spec PyProof.Rows L2
section
variable {P : Program} {w : World} {K : PySem.W.Frag} {mg : Str → Option Value} {base : Heap} {ad ai : Nat → Addr} {fd : Nat → FuncData}
/-! ### the spring of draws -/
def Pool (H : Hp) (p : Addr) (n : Nat) : Prop := ∃ a b c : Int, H p = some (.lst [.int a, .int b, .int c]) ∧ 0 ≤ a ∧ 0 ≤ b ∧ b < 2147483647 ∧ 0 ≤ c ∧ c ≤ n
theorem Pool.mono {H : Hp} {p : Addr} {n m : Nat} (h : Pool H p n) (l : n ≤ m) : Pool H p m := by
  obtain ⟨a, b, c, h1, h2, h3, h4, h5, h6⟩ := h
  exact ⟨a, b, c, h1, h2, h3, h4, h5, by omega⟩
theorem Pool.keeps {H H' : Hp} {p : Addr} {n : Nat} (h : Pool H p n) (k : KeepsAt p H H') : Pool H' p n := by
  obtain ⟨a, b, c, h1, h2⟩ := h
  exact ⟨a, b, c, k _ h1, h2⟩
theorem Pool.at_ {H : Hp} {p : Addr} {n : Nat} (h : Pool H p n) : ∃ xs, H p = some (.lst xs) := by
  obtain ⟨a, b, c, h1, h2⟩ := h
  exact ⟨_, h1⟩
def sp_take : Sp := fun vs H Q _ => ∃ p m n, vs = [.ref p, .int m] ∧ Pool H p n ∧ n ≤ 1000000 ∧ 1 ≤ m ∧ m ≤ 1000000 ∧ ∀ r o, 0 ≤ r → r < m → Pool (upd H p o) p (n + 1) → Q (.int r) (upd H p o)
theorem fmod_lo {a b : Int} (h : 0 < b) : 0 ≤ a.fmod b := by rw [Int.fmod_eq_emod_of_nonneg a (by omega)]; exact Int.emod_nonneg a (by omega)
theorem fmod_hi {a b : Int} (h : 0 < b) : a.fmod b < b := by rw [Int.fmod_eq_emod_of_nonneg a (by omega)]; exact Int.emod_lt_of_pos a h
theorem fdiv_lo {a b : Int} (ha : 0 ≤ a) (h : 0 < b) : 0 ≤ a.fdiv b := by rw [Int.fdiv_eq_ediv_of_nonneg a (by omega)]; exact Int.ediv_nonneg ha (by omega)
theorem ok_take (T : Txt K mg ad ai fd) : FnOk P w K mg base CX0 1 (ad 15) (fd 15) ["_law_spring_here", "_law_many"] sp_take := by
  refine T.F_law_take.ok sc_law_take (fun vs H Q E h => ?_) (fun cdv A outer s H vs Q E hr h => ?_)
  · obtain ⟨p, m, n, rfl, _⟩ := h
    rfl
  · obtain ⟨p, m, n, rfl, ⟨a, b, c, hp, ha, hb, hb2, hc, hc2⟩, hn, hm, hm2, q⟩ := h
    refine ⟨_, (pss_cons (ps_if (pt_cmpR op_gt (pe_ix (ix_seq (K := K)) (pv 0) pe_int (fun _ _ => rfl)) pe_int (nomark _)) (pss_cons (ps_set (i := 2) sc_law_take.nd rfl (.inl rfl) (pe_op op_modN (pe_callTy call_int1 (by rfl) T.n_int (by decide +kernel) (pa_cons (pe_ix (ix_seq (K := K)) (pv 0) pe_int (fun _ _ => rfl)) pa_nil)) (pv 1)))
          (pss_cons (ps_asg (pe_op op_fdivN (pe_ix (ix_seq (K := K)) (pv 0) pe_int (fun _ _ => rfl)) (pv 1)) (pg_sub (pv 0) pe_int set_list))
          (pss_one (ps_ret (pv 2))))) pss_nil)
      (pss_cons (ps_asg (pe_op op_add (pe_ix (ix_seq (K := K)) (pv 0) pe_int (fun _ _ => rfl)) pe_int) (pg_sub (pv 0) pe_int set_list))
      (pss_cons (ps_set (i := 3) sc_law_take.nd rfl (.inl rfl) (pe_op op_modN (pe_callTy call_int1 (by rfl) T.n_int (by decide +kernel) (pa_cons (pe_op op_pow (pe_op op_add (pe_op op_add (pe_ix (ix_seq (K := K)) (pv 0) pe_int (fun _ _ => rfl)) (pe_op op_mul pe_int (pe_ix (ix_seq (K := K)) (pv 0) pe_int (fun _ _ => rfl)))) pe_int) pe_int) pa_nil)) pe_int))
      (pss_one (ps_ret (pe_op op_modN (pe_op op_fdivN (pe_op op_modN (pe_callTy call_int1 (by rfl) T.n_int (by decide +kernel) (pa_cons (pe_op op_mul (pe_op op_add (pv 3) (pe_ix (ix_seq (K := K)) (pv 0) pe_int (fun _ _ => rfl))) pe_int) pa_nil)) pe_int) pe_int) (pv 1))))))), ?_⟩
    refine ⟨_, rfl, ixS (j := 0) (sq_lst hp) rfl ?_⟩
    refine ⟨_, _, rfl, rfl, _, rfl, ?_⟩
    by_cases c0 : 0 < a
    · rw [decide_eq_true c0]
      refine ⟨_, rfl, ixS (j := 0) (sq_lst hp) rfl ?_⟩
      refine .inl ⟨_, rfl, ?_⟩
      refine ⟨_, rfl, _, _, rfl, rfl, (by omega : m ≠ 0), ?_⟩
      refine ⟨_, rfl, ixS (j := 0) (sq_lst hp) rfl ?_⟩
      refine ⟨_, rfl, _, _, rfl, rfl, ⟨by omega, by omega⟩, ?_⟩
      refine ⟨_, rfl, p, _, _, 0, rfl, rfl, hp, rfl, ?_⟩
      refine ⟨_, rfl, q _ _ (fmod_lo (by omega)) (fmod_hi (by omega)) ?_⟩
      exact ⟨_, b, c, upd_same, fdiv_lo ha (by omega), hb, hb2, hc, by omega⟩
    · rw [decide_eq_false c0]
      refine ⟨_, rfl, ixS (j := 2) (sq_lst hp) rfl ?_⟩
      refine ⟨_, _, rfl, rfl, ?_⟩
      refine ⟨_, rfl, p, _, _, 2, rfl, rfl, hp, rfl, ?_⟩
      have hp2 : upd H p (.lst [.int a, .int b, .int (c + 1)]) p = some (.lst [.int a, .int b, .int (c + 1)]) := upd_same
      have hq := fun r h1 h2 => q r (.lst [.int a, .int b, .int (c + 1)]) h1 h2 ⟨a, b, c + 1, upd_same, ha, hb, hb2, by omega, by omega⟩
      refine ⟨_, rfl, ixS (j := 1) (sq_lst hp2) rfl ?_⟩
      refine ⟨_, rfl, ixS (j := 2) (sq_lst hp2) rfl ?_⟩
      refine ⟨_, _, rfl, rfl, .inl ⟨by decide, by decide⟩, ?_⟩
      refine ⟨_, _, rfl, rfl, _, _, rfl, rfl, ?_⟩
      refine ⟨_, _, rfl, rfl, ⟨by decide, by decide, ?_⟩, ?_⟩
      · omega
      refine .inl ⟨_, rfl, ?_⟩
      refine ⟨_, _, rfl, rfl, (by decide : (2147483647 : Int) ≠ 0), ?_⟩
      refine ⟨_, rfl, _, rfl, ixS (j := 2) (sq_lst hp2) rfl ?_⟩
      refine ⟨_, _, rfl, rfl, _, _, rfl, rfl, .inr ⟨by decide, by decide⟩, ?_⟩
      refine .inl ⟨_, rfl, ?_⟩
      refine ⟨_, _, rfl, rfl, (by decide : (2147483629 : Int) ≠ 0), ?_⟩
      refine ⟨_, _, rfl, rfl, ⟨by decide, by decide⟩, ?_⟩
      refine ⟨_, rfl, _, _, rfl, rfl, (by omega : m ≠ 0), ?_⟩
      exact hq _ (fmod_lo (by omega)) (fmod_hi (by omega))
end
end Lk
namespace Lk
open PySem PySem.Spec PyProof.Rows L2
section
variable {P : Program} {w : World} {K : PySem.W.Frag} {mg : Str → Option Value} {base : Heap} {ad ai : Nat → Addr} {fd : Nat → FuncData}
theorem erase_perm {α : Type} : ∀ {l : List α} {i : Nat} (h : i < l.length), (l[i] :: l.eraseIdx i).Perm l
  | x :: l, 0, _ => .refl _
  | x :: l, i + 1, h => by
    have h2 : i < l.length := by simpa using h
    have ih := erase_perm (l := l) (i := i) h2
    show (l[i] :: x :: l.eraseIdx i).Perm (x :: l)
    exact (List.Perm.swap _ _ _).trans (ih.cons x)
theorem cutV_map (ns : List Int) (lo hi : Option Int) : ∃ ms : List Int, cutV (ns.map V.int) lo hi = ms.map V.int := by
  unfold cutV
  exact ⟨_, by rw [← List.map_drop, ← List.map_take]⟩
def sp_spring (K : PySem.W.Frag) : Sp := fun vs H Q _ => ∃ (a : Addr) (ns : List Int) (k : Int), vs = [.ref a, .int k] ∧ SqL K H a (ns.map V.int) ∧ 0 ≤ k ∧ k ≤ 100 ∧ ∀ H' p, Same H H' → H p = none → Pool H' p 0 → Q (.ref p) H'
theorem ok_spring (T : Txt K mg ad ai fd) : FnOk P w K mg base CX0 1 (ad 14) (fd 14) ["_law_script", "_law_k"] (sp_spring K) := by
  refine T.F_law_spring.ok sc_law_spring (fun vs H Q E h => ?_) (fun cdv A outer s H vs Q E hr h => ?_)
  · obtain ⟨a, ns, k, rfl, _⟩ := h
    rfl
  · obtain ⟨a, ns, k, rfl, hs, hk, hk2, q⟩ := h
    -- behind the first statement
    have rest : ∀ (H1 : Hp) (cell : Int), Same H H1 → ∀ D : Ends, D.rt = Q →
        (tSeq (tAsg (tOp (rI0 fun i j => .int (i + j)) (tC (.int 7)) (tVar 1)) (gName 3))
          (tSeq (tFor (iSeq K (tSl (rSlL K) (tVar 0) tNoPart (tPart (tC (.int 64))))) (gName 4) (tAsg (tOp (rI (fun _ j => j ≠ 0) fun i j => .int (i.fmod j)) (tCB (fun xs H Q => (∃ i, xs = [.int i] ∧ Q (.int i) H) ∨ ∃ k, xs = [.bl k] ∧ Q (.int (if k then 1 else 0)) H) (tCons (tOp (rI0 fun i j => .int (i + j)) (tOp (rI CMul fun i j => .int (i * j)) (tVar 3) (tC (.int 8191))) (tVar 4)) tNil)) (tC (.int 2147483647))) (gName 3)))
          (tRet (tLst (tCons (tIf (tTest (tOp (rI0 fun i j => .bl (decide (j ≤ i))) (tCB (fun xs H Q => ∃ i, xs = [.int i] ∧ Q (.int (if i < 0 then -i else i)) H) (tCons (tVar 2) tNil)) (tOp (rI CPow fun i j => .int (i ^ j.toNat)) (tC (.int 10)) (tC (.int 18))))) (tCB (fun xs H Q => ∃ i, xs = [.int i] ∧ Q (.int (if i < 0 then -i else i)) H) (tCons (tVar 2) tNil)) (tC (.int 0)))
            (tCons (tOp (rI (fun _ j => j ≠ 0) fun i j => .int (i.fmod j)) (tCB (fun xs H Q => (∃ i, xs = [.int i] ∧ Q (.int i) H) ∨ ∃ k, xs = [.bl k] ∧ Q (.int (if k then 1 else 0)) H) (tCons (tOp (rI0 fun i j => .int (i + j)) (tVar 2) (tVar 3)) tNil)) (tC (.int 2147483647))) (tCons (tC (.int 0)) tNil))))))) D [some (.ref a), some (.int k), some (.int cell), none, none] H1 := by
      intro H1 cell s1 D hD
      refine ⟨_, rfl, _, _, rfl, rfl, ?_⟩
      refine ⟨_, rfl, _, rfl, _, _, rfl, s1.seq hs, fun c nc => ?_⟩
      obtain ⟨ms, em⟩ := cutV_map ns none (some 64)
      rw [em]
      have hc : upd H1 c (.lst (ms.map V.int)) c = some (.lst (ms.map V.int)) := upd_same
      have s2 : Same H1 (upd H1 c (.lst (ms.map V.int))) := same_new nc
      generalize upd H1 c (.lst (ms.map V.int)) = H2 at hc s2 ⊢
      refine for_seq (K := K) (sq_lst hc) (fun i σ H' => (∃ b y, σ = [some (.ref a), some (.int k), some (.int cell), some (.int b), y] ∧ 0 ≤ b ∧ b < 2147483647) ∧ H' = H2) ⟨⟨_, _, rfl, by omega, by omega⟩, rfl⟩ (fun i σ H' h => by rw [h.2]; exact KeepsAt.refl) ?_ ?_
      · rintro i x σ H' hx ⟨⟨b, y, rfl, b0, b1⟩, rfl⟩
        obtain ⟨z, rfl⟩ : ∃ z, x = .int z := by
          obtain ⟨z, _, e⟩ := List.mem_map.mp (List.mem_of_getElem? hx)
          exact ⟨z, e.symm⟩
        refine ⟨_, rfl, _, _, rfl, rfl, .inl ⟨by omega, by omega⟩, ?_⟩
        refine ⟨_, rfl, _, _, rfl, rfl, ?_⟩
        refine .inl ⟨_, rfl, ?_⟩
        refine ⟨_, _, rfl, rfl, (by decide : (2147483647 : Int) ≠ 0), ?_⟩
        exact ⟨⟨_, _, rfl, fmod_lo (by omega), fmod_hi (by omega)⟩, rfl⟩
      · rintro σ H' ⟨⟨b, y, rfl, b0, b1⟩, rfl⟩
        have fin : ∀ z : Int, 0 ≤ z → ∀ b : Int, 0 ≤ b → b < 2147483647 → [V.int z, V.int b, V.int 0].length ≤ sizeLine ∧ ∀ p, H' p = none → D.rt (.ref p) (upd H' p (.lst [V.int z, V.int b, V.int 0])) := by
          intro z hz b hb hb2
          refine ⟨by show 3 ≤ sizeLine; decide, fun p np => ?_⟩
          rw [hD]
          exact q _ p ((s1.trans s2).new np) ((s1.trans s2).free np) ⟨z, b, 0, upd_same, hz, hb, hb2, by omega, by omega⟩
        refine ⟨_, rfl, _, rfl, _, _, rfl, rfl, ⟨by decide, by decide, by decide⟩, _, _, rfl, rfl, _, rfl, ?_⟩
        refine ite2 (fun c => ?_) (fun c => ?_)
        · refine ⟨_, rfl, _, rfl, ?_⟩
          refine ⟨_, rfl, _, rfl, _, _, rfl, rfl, .inl ⟨_, rfl, _, _, rfl, rfl, (by decide : (2147483647 : Int) ≠ 0), ?_⟩⟩
          refine fin _ ?_ _ (fmod_lo (by omega)) (fmod_hi (by omega))
          split <;> omega
        · refine ⟨_, rfl, _, rfl, _, _, rfl, rfl, .inl ⟨_, rfl, _, _, rfl, rfl, (by decide : (2147483647 : Int) ≠ 0), ?_⟩⟩
          exact fin _ (Int.le_refl 0) _ (fmod_lo (by omega)) (fmod_hi (by omega))
    refine ⟨_, (pss_cons (ps_set (i := 2) sc_law_spring.nd rfl (.inl rfl) (pe_ifExp (pt_cmpR op_lt (pv 1) (pe_callB (call_len (K := K)) (by rfl) T.n_len (by decide +kernel) (pa_cons (pv 0) pa_nil)) (nomark _)) (pe_ix (ix_seq (K := K)) (pv 0) (pv 1) (fun _ _ => rfl)) (pe_op op_add (pe_op op_modN (pe_callTy call_int1 (by rfl) T.n_int (by decide +kernel) (pa_cons (pe_callB (call_sum (K := K) rfl) (by rfl) T.n_sum (by decide +kernel) (pa_cons (pe_slice (sl_lst (K := K)) (pv 0) po_none (po_some pe_int)) pa_nil)) pa_nil)) pe_int) (pe_op op_mul pe_int (pv 1)))))
      (pss_cons (ps_set (i := 3) sc_law_spring.nd rfl (.inl rfl) (pe_op op_add pe_int (pv 1)))
      (pss_cons (ps_for PassesOwn.never rfl (pi_seq (K := K) (pe_slice (sl_lst (K := K)) (pv 0) po_none (po_some pe_int))) (pg_name (i := 4) sc_law_spring.nd rfl (.inl rfl))
          (pss_one (ps_set (i := 3) sc_law_spring.nd rfl (.inl rfl) (pe_op op_modN (pe_callTy call_int1 (by rfl) T.n_int (by decide +kernel) (pa_cons (pe_op op_add (pe_op op_mul (pv 3) pe_int) (pv 4)) pa_nil)) pe_int))))
      (pss_one (ps_ret (pe_lst (pa_cons (pe_ifExp (pt_cmpR op_ge (pe_callB call_abs (by rfl) T.n_abs (by decide +kernel) (pa_cons (pv 2) pa_nil)) (pe_op op_pow pe_int pe_int) (nomark _)) (pe_callB call_abs (by rfl) T.n_abs (by decide +kernel) (pa_cons (pv 2) pa_nil)) pe_int) (pa_cons (pe_op op_modN (pe_callTy call_int1 (by rfl) T.n_int (by decide +kernel) (pa_cons (pe_op op_add (pv 2) (pv 3)) pa_nil)) pe_int) (pa_cons pe_int pa_nil))))))))), ?_⟩
    refine ⟨_, rfl, _, rfl, _, _, rfl, .inl hs, _, _, rfl, rfl, _, rfl, ?_⟩
    refine ite2 (fun c => ?_) (fun c => ?_)
    · have hlt : k < ((ns.map V.int).length : Int) := of_decide_eq_true c
      rw [List.length_map] at hlt
      have hkn : k.toNat < ns.length := by omega
      have ek : k = ((k.toNat : Nat) : Int) := (Int.toNat_of_nonneg hk).symm
      refine ⟨_, rfl, _, rfl, ?_⟩
      show rIxS K (.ref a) (.int k) _ _
      rw [ek]
      refine ixS (j := k.toNat) (.inl hs) (by rw [List.getElem?_map, List.getElem?_eq_getElem hkn]; rfl) ?_
      rw [← ek]
      exact rest H _ (Same.refl _) _ rfl
    · refine ⟨_, rfl, _, rfl, _, _, rfl, hs, fun c nc => ?_⟩
      obtain ⟨ms, em⟩ := cutV_map ns none (some 1)
      rw [em]
      refine ⟨_, ms, rfl, sqL_of upd_same, ?_⟩
      refine .inl ⟨_, rfl, ?_⟩
      refine ⟨_, _, rfl, rfl, (by decide : (1000003 : Int) ≠ 0), ?_⟩
      refine ⟨_, rfl, _, _, rfl, rfl, .inl ⟨by decide, by decide⟩, ?_⟩
      refine ⟨_, _, rfl, rfl, ?_⟩
      exact rest _ _ (same_new nc) _ rfl
def sp_one (K : PySem.W.Frag) : Sp := fun vs H Q _ => ∃ p a xs n, vs = [.ref p, .ref a] ∧ Pool H p n ∧ n ≤ 1000000 ∧ Sq K H a xs ∧ a ≠ p ∧ 1 ≤ xs.length ∧ xs.length ≤ 1000 ∧ ∀ x o, x ∈ xs → Pool (upd H p o) p (n + 1) → Q x (upd H p o)
theorem ok_one (T : Txt K mg ad ai fd) : FnOk P w K mg base CX0 2 (ad 16) (fd 16) ["_law_spring_here", "_law_things"] (sp_one K) := by
  have G_law_take : FnOk P w K mg base CX0 1 (ad 15) (fd 15) ["_law_spring_here", "_law_many"] sp_take := ok_take T
  refine T.F_law_one.ok sc_law_one (fun vs H Q E h => ?_) (fun cdv A outer s H vs Q E hr h => ?_)
  · obtain ⟨p, a, xs, n, rfl, _⟩ := h
    rfl
  · obtain ⟨p, a, xs, n, rfl, hp, hn, hs, hne, h1, h2, q⟩ := h
    refine ⟨_, (pss_one (ps_ret (pe_ix (ix_seq (K := K)) (pv 1) (pe_call G_law_take (hr.mono (by decide)) (by rfl) T.g_law_take T.F_law_take.kp T.b_law_take .nil pass0 (pa_cons (pv 0) (pa_cons (pe_callB (call_len (K := K)) (by rfl) T.n_len (by decide +kernel) (pa_cons (pv 1) pa_nil)) pa_nil))) (fun _ _ => rfl)))), ?_⟩
    refine ⟨_, rfl, _, rfl, _, rfl, _, _, rfl, hs, ?_⟩
    refine ⟨p, _, n, rfl, hp, hn, by omega, by omega, fun r o r0 r1 hp2 => ?_⟩
    have er : r = ((r.toNat : Nat) : Int) := (Int.toNat_of_nonneg r0).symm
    have hlt : r.toNat < xs.length := by omega
    rw [er]
    refine ixS (j := r.toNat) (KeepsAt.sq (SameBut.at_.keeps hne) hs) (List.getElem?_eq_getElem hlt) ?_
    exact q _ o (List.getElem_mem hlt) hp2
/-- the things in any order -/
def sp_mixed (K : PySem.W.Frag) : Sp := fun vs H Q _ => ∃ p a xs n, vs = [.ref p, .ref a] ∧ Pool H p n ∧ Sq K H a xs ∧ xs.length ≤ 1000 ∧ n + xs.length ≤ 1000000 ∧ ∀ H' l ys, SameBut p H H' → Pool H' p (n + xs.length) → H l = none → ys.Perm xs → H' l = some (.lst ys) → Q (.ref l) H'
theorem ok_mixed (T : Txt K mg ad ai fd) : FnOk P w K mg base CX0 2 (ad 17) (fd 17) ["_law_spring_here", "_law_things"] (sp_mixed K) := by
  have G_law_take : FnOk P w K mg base CX0 1 (ad 15) (fd 15) ["_law_spring_here", "_law_many"] sp_take := ok_take T
  refine T.F_law_mixed.ok sc_law_mixed (fun vs H Q E h => ?_) (fun cdv A outer s H vs Q E hr h => ?_)
  · obtain ⟨p, a, xs, n, rfl, _⟩ := h
    rfl
  · obtain ⟨p, a, xs, n, rfl, hp, hs, hl, hn, q⟩ := h
    refine ⟨_, (pss_cons (ps_set (i := 2) sc_law_mixed.nd rfl (.inr rfl) (pe_callTy (call_list (K := K)) (by rfl) T.n_list (by decide +kernel) (pa_cons (pv 1) pa_nil)))
      (pss_one (ps_ret (pe_lc (own := [("_law_turn", 3)]) rfl sc_law_mixed.nd (pi_range1 (by rfl) T.n_range (pa_cons (pe_callB (call_len (K := K)) (by rfl) T.n_len (by decide +kernel) (pa_cons (pv 2) pa_nil)) pa_nil)) (blkOk_by (N := ["_law_spring_here", "_law_things", "_law_left", "_law_turn"]) (sc := defScope s_law_mixed) (by decide +kernel)) (fun _ _ _ _ _ => (pg_name (i := 3) sc_law_mixed.nd rfl (.inl rfl))) (fun _ _ _ _ _ => pts_nil) (fun _ _ _ _ _ => (pe_bmK (K := K) PySem.F.plainAttrs_list PySem.F.slot_list_pop PySem.F.type_list_pop mt_popAt (pv 2) (pa_cons (pe_call G_law_take (hr.mono (by decide)) (by rfl) T.g_law_take T.F_law_take.kp T.b_law_take .nil pass0 (pa_cons (pv 0) (pa_cons (pe_callB (call_len (K := K)) (by rfl) T.n_len (by decide +kernel) (pa_cons (pv 2) pa_nil)) pa_nil))) pa_nil))))))), ?_⟩
    refine ⟨_, rfl, a, xs, rfl, hs, fun l nl => ?_⟩
    have s1 : Same H (upd H l (.lst xs)) := same_new nl
    have hl1 : upd H l (.lst xs) l = some (.lst xs) := upd_same
    generalize upd H l (.lst xs) = H1 at s1 hl1 ⊢
    have hp1 := hp.keeps s1.keeps
    obtain ⟨ps0, hps0⟩ := hp.at_
    have lp : l ≠ p := fun e => by
      rw [e, hps0] at nl
      cases nl
    refine ⟨_, rfl, l, xs, rfl, .inl (sqL_of hl1), (xs.length : Int), rfl, by omega, by omega, fun D hD => ?_⟩
    have Dp : D ≠ p := fun e => by
      have := s1 _ _ hps0
      rw [e, this] at hD
      cases hD
    have Dl : D ≠ l := fun e => by
      rw [e, hl1] at hD
      cases hD
    refine lc_range (lo := 0) (n := xs.length) (fun i H' => ∃ acc rem, SameBut p H H' ∧ Pool H' p (n + i) ∧ H' D = some (.lst acc) ∧ H' l = some (.lst rem) ∧ acc.length = i ∧ (acc ++ rem).Perm xs) ⟨[], xs, ?_, ?_, upd_same, ?_, rfl, .refl _⟩ ?_ ?_
    · exact s1.but.new hD
    · exact hp1.keeps ((same_new hD).keeps)
    · rw [upd_ne (Ne.symm Dl)]
      exact hl1
    · rintro i H2 hi ⟨acc, rem, sb, hp2, hd2, hl2, la, pm⟩
      have hlr : rem.length = xs.length - i := by
        have := pm.length_eq
        rw [List.length_append] at this
        omega
      refine ⟨rfl, ?_⟩
      refine ⟨_, rfl, .inl ⟨rfl, _, sqL_of hl2⟩, _, rfl, _, rfl, l, rem, rfl, .inl (sqL_of hl2), ?_⟩
      refine ⟨p, _, n + i, rfl, hp2, by omega, by omega, by omega, fun r o r0 r1 hp3 => ?_⟩
      have hlt : r.toNat < rem.length := by omega
      have hl3 : upd H2 p o l = some (.lst rem) := by rw [upd_ne lp]; exact hl2
      refine ⟨l, rem, r, r.toNat, rem[r.toNat], rfl, rfl, hl3, by omega, by omega, ?_, List.getElem?_eq_getElem hlt, ?_⟩
      · exact seqIndex_of r0 (by omega)
      · refine ⟨acc, ?_, ?_, acc ++ [rem[r.toNat]], rem.eraseIdx r.toNat, ?_, ?_, upd_same, ?_, ?_, ?_⟩
        · rw [upd_ne Dl, upd_ne Dp]
          exact hd2
        · rw [la]
          exact small1000 (by omega)
        · refine SameBut.mut (SameBut.mut (sb.trans SameBut.at_) nl) ?_
          exact s1.free hD
        · have e1 : n + (i + 1) = n + i + 1 := by omega
          rw [e1]
          refine hp3.keeps fun u hu => ?_
          rw [upd_ne (Ne.symm Dp), upd_ne (Ne.symm lp)]
          exact hu
        · rw [upd_ne (Ne.symm Dl), upd_same]
        · rw [List.length_append, la]
          rfl
        · rw [List.append_assoc]
          exact ((erase_perm hlt).append_left acc).trans pm
    · rintro H2 ⟨acc, rem, sb, hp2, hd2, hl2, la, pm⟩
      have hr0 : rem = [] := by
        have := pm.length_eq
        rw [List.length_append] at this
        exact List.eq_nil_of_length_eq_zero (by omega)
      subst hr0
      rw [List.append_nil] at pm
      exact q H2 D acc sb hp2 (s1.free hD) pm hd2
/-- a list or a tuple of the same things -/
def sp_shown (K : PySem.W.Frag) : Sp := fun vs H Q _ => ∃ p a xs n, vs = [.ref p, .ref a] ∧ Pool H p n ∧ n ≤ 1000000 ∧ Sq K H a xs ∧ a ≠ p ∧ ∀ H' l, SameBut p H H' → Pool H' p (n + 1) → Sq K H' l xs → l ≠ p → (l = a ∨ H l = none) → Q (.ref l) H'
theorem ok_shown (T : Txt K mg ad ai fd) : FnOk P w K mg base CX0 2 (ad 19) (fd 19) ["_law_spring_here", "_law_things"] (sp_shown K) := by
  have G_law_take : FnOk P w K mg base CX0 1 (ad 15) (fd 15) ["_law_spring_here", "_law_many"] sp_take := ok_take T
  refine T.F_law_shown.ok sc_law_shown (fun vs H Q E h => ?_) (fun cdv A outer s H vs Q E hr h => ?_)
  · obtain ⟨p, a, xs, n, rfl, _⟩ := h
    rfl
  · obtain ⟨p, a, xs, n, rfl, hp, hn, hs, hne, q⟩ := h
    refine ⟨_, (pss_one (ps_ret (pe_ifExp (pt_cmpR op_eq (pe_call G_law_take (hr.mono (by decide)) (by rfl) T.g_law_take T.F_law_take.kp T.b_law_take .nil pass0 (pa_cons (pv 0) (pa_cons pe_int pa_nil))) pe_int (nomark _)) (pe_callTy (call_list (K := K)) (by rfl) T.n_list (by decide +kernel) (pa_cons (pv 1) pa_nil)) (pe_callTy (call_tuple (K := K)) (by rfl) T.n_tuple (by decide +kernel) (pa_cons (pv 1) pa_nil))))), ?_⟩
    refine ⟨_, rfl, ?_⟩
    refine ⟨p, 2, n, rfl, hp, hn, by omega, by omega, fun r o r0 r1 hp2 => ?_⟩
    have hs2 : Sq K (upd H p o) a xs := KeepsAt.sq (SameBut.at_.keeps hne) hs
    have new : ∀ l u, (upd H p o) l = none → Sq K (upd (upd H p o) l u) l xs → Q (.ref l) (upd (upd H p o) l u) := by
      intro l u nl hq
      have nlp : l ≠ p := (none_of_upd nl).2
      refine q _ l (SameBut.at_.new nl) (hp2.keeps ?_) hq nlp (.inr (none_of_upd nl).1)
      exact (same_new nl).keeps
    refine ⟨rfl, _, rfl, ?_⟩
    refine ite2 (fun c => ?_) (fun c => ?_)
    · exact ⟨_, rfl, a, xs, rfl, hs2, fun l nl => new l _ nl (sq_lst upd_same)⟩
    · refine ⟨_, rfl, a, xs, rfl, ?_⟩
      rcases hs2 with z | z
      · exact .inl ⟨z, fun l nl => new l _ nl (sq_tup upd_same)⟩
      · exact .inr ⟨z, q _ a SameBut.at_ hp2 (.inr z) hne (.inl rfl)⟩
end
end Lk
namespace Lk
open PySem PySem.Spec PyProof.Rows L2
/-! ### new lists that a comprehension fills -/
/-- with values: behind i turns the first i of vs -/
def PvV (H : Hp) (vs : List V) (D : Addr) (i : Nat) (H' : Hp) : Prop := Same H H' ∧ H' D = some (.lst (vs.take i))
theorem vals0 {H : Hp} {vs : List V} {D : Addr} (hD : H D = none) : PvV H vs D 0 (upd H D (.lst [])) := ⟨same_new hD, upd_same⟩
theorem vals_step {H H' H4 : Hp} {vs : List V} {D : Addr} {i : Nat} {y : V} (h : PvV H vs D i H') (hD : H D = none) (s : Same H' H4) (hy : vs[i]? = some y) (hl : vs.length ≤ 100000) :
    ∃ acc, H4 D = some (.lst acc) ∧ acc.length < sizeLine ∧ PvV H vs D (i + 1) (upd H4 D (.lst (acc ++ [y]))) := by
  obtain ⟨s1, hd⟩ := h
  refine ⟨vs.take i, s _ _ hd, ?_, fun b o e => ?_, ?_⟩
  · have hi := (List.getElem?_eq_some_iff.mp hy).1
    rw [List.length_take, sizeLine_eq]
    omega
  · rw [upd_ne (ne_of_none e hD)]
    exact s _ _ (s1 _ _ e)
  · rw [upd_same, take_snoc hy]
theorem valsE {H H' : Hp} {vs : List V} {D : Addr} {n : Nat} (h : PvV H vs D n H') (hn : n = vs.length) : Same H H' ∧ H' D = some (.lst vs) := by
  subst hn
  obtain ⟨s, h⟩ := h
  rw [List.take_length] at h
  exact ⟨s, h⟩
/-- with new objects -/
def GrowO {β : Type} (obj : β → HO) (H1 : Hp) (D : Addr) (qs : List β) (H' : Hp) : Prop := Same H1 H' ∧ ∃ as : List Addr, H' D = some (.lst (as.map V.ref)) ∧ Paired (fun a q => H' a = some (obj q)) as qs ∧ ∀ b ∈ as, b ≠ D ∧ H1 b = none
theorem growO0 {β : Type} {obj : β → HO} {H1 : Hp} {D : Addr} (hD : H1 D = none) : GrowO obj H1 D [] (upd H1 D (.lst [])) := ⟨same_new hD, [], upd_same, .nil, (fun b hb => nomatch hb)⟩
theorem growO_step {β : Type} {obj : β → HO} {H1 H' H2 : Hp} {D : Addr} {qs : List β} {q : β} (g : GrowO obj H1 D qs H') (hD : H1 D = none) (s : Same H' H2) (hl : qs.length < 100000) (t : Addr) (nt : H2 t = none) :
    ∃ acc, (upd H2 t (obj q)) D = some (.lst acc) ∧ acc.length < sizeLine ∧ GrowO obj H1 D (qs ++ [q]) (upd (upd H2 t (obj q)) D (.lst (acc ++ [.ref t]))) := by
  obtain ⟨s3, as, hd, hpr, hne⟩ := g
  have hd2 := s _ _ hd
  have ntD : D ≠ t := ne_of_none hd2 nt
  refine ⟨as.map V.ref, ?_, ?_, ?_⟩
  · rw [upd_ne ntD]
    exact hd2
  · rw [List.length_map, paired_len hpr, sizeLine_eq]
    omega
  · refine ⟨fun b' o' e' => ?_, as ++ [t], ?_, ?_, ?_⟩
    · have n1 : b' ≠ D := ne_of_none e' hD
      have e2 := s _ _ (s3 _ _ e')
      have n2 : b' ≠ t := ne_of_none e2 nt
      rw [upd_ne n1, upd_ne n2]
      exact e2
    · rw [upd_same, List.map_append]
      rfl
    · refine paired_snoc ?_ (paired_mem hpr fun c x hc hcq => ?_)
      · show (upd (upd H2 t (obj q)) D _) t = _
        rw [upd_ne (Ne.symm ntD), upd_same]
      · have hcq2 := s _ _ hcq
        show (upd (upd H2 t (obj q)) D _) c = _
        rw [upd_ne (hne c hc).1, upd_ne (ne_of_none hcq2 nt)]
        exact hcq2
    · intro c hc
      rcases List.mem_append.mp hc with hc | hc
      · exact hne c hc
      · cases List.mem_singleton.mp hc
        exact ⟨Ne.symm ntD, s3.free (s.free nt)⟩
theorem paired_app {α β : Type} {R : α → β → Prop} : ∀ {xs xs' : List α} {ys ys' : List β}, Paired R xs ys → Paired R xs' ys' → Paired R (xs ++ xs') (ys ++ ys')
  | _, _, _, _, .nil, h => h
  | _, _, _, _, .cons a t, h => .cons a (paired_app t h)
theorem paired_perm {α β : Type} {R : α → β → Prop} {xs xs' : List α} (h : xs'.Perm xs) : ∀ {ys : List β}, Paired R xs ys → ∃ ys', ys'.Perm ys ∧ Paired R xs' ys' := by
  induction h with
  | nil => intro ys q; exact ⟨ys, .refl _, q⟩
  | cons x _ ih =>
    intro ys q
    cases q with
    | cons a t =>
      obtain ⟨ys', p, r⟩ := ih t
      exact ⟨_ :: ys', p.cons _, .cons a r⟩
  | swap x y l =>
    intro ys q
    cases q with
    | cons a t =>
      cases t with
      | cons b t => exact ⟨_, List.Perm.swap _ _ _, .cons b (.cons a t)⟩
  | trans _ _ ih1 ih2 =>
    intro ys q
    obtain ⟨ys1, p1, r1⟩ := ih2 q
    obtain ⟨ys2, p2, r2⟩ := ih1 r1
    exact ⟨ys2, p2.trans p1, r2⟩
theorem paired_all {α β : Type} {R : α → β → Prop} {G : β → Prop} : ∀ {xs : List α}, (∀ x ∈ xs, ∃ y, R x y ∧ G y) → ∃ ys, Paired R xs ys ∧ ∀ y ∈ ys, G y
  | [], _ => ⟨[], .nil, (fun y hy => nomatch hy)⟩
  | x :: xs, h => by
    obtain ⟨y, h1, h2⟩ := h x (List.mem_cons_self ..)
    obtain ⟨ys, h3, h4⟩ := paired_all (xs := xs) fun z hz => h z (List.mem_cons_of_mem _ hz)
    refine ⟨y :: ys, .cons h1 h3, fun z hz => ?_⟩
    rcases List.mem_cons.mp hz with e | hz
    · rw [e]
      exact h2
    · exact h4 z hz
def backA : V → Addr
  | .ref a => a
  | _ => 0
theorem perm_refs {ys : List V} {as : List Addr} (h : ys.Perm (as.map V.ref)) : ∃ as' : List Addr, ys = as'.map V.ref ∧ as'.Perm as := by
  refine ⟨ys.map backA, ?_, ?_⟩
  · rw [List.map_map]
    refine (List.map_id ys).symm.trans (List.map_congr_left fun y hy => ?_)
    obtain ⟨a, _, rfl⟩ := List.mem_map.mp (h.mem_iff.mp hy)
    rfl
  · have := h.map backA
    rw [List.map_map] at this
    have e : as.map (backA ∘ V.ref) = as := (List.map_congr_left fun a _ => rfl).trans (List.map_id as)
    rw [e] at this
    exact this
theorem cutV_refs (as : List Addr) (lo hi : Option Int) : ∃ bs : List Addr, cutV (as.map V.ref) lo hi = bs.map V.ref ∧ bs.Sublist as := by
  unfold cutV
  refine ⟨_, by rw [← List.map_drop, ← List.map_take], ?_⟩
  exact (List.take_sublist _ _).trans (List.drop_sublist _ _)
section
variable {P : Program} {w : World} {K : PySem.W.Frag} {mg : Str → Option Value} {base : Heap} {ad ai : Nat → Addr} {fd : Nat → FuncData}
def InEight (q : Int × Int) : Prop := 1 ≤ q.1 ∧ q.1 < q.2 ∧ q.2 ≤ 8
def sp_drawn : Sp := fun vs H Q _ => ∃ (p : Addr) (m : Int) (n : Nat), vs = [.ref p, .int m, .int 8] ∧ Pool H p n ∧ 0 ≤ m ∧ m ≤ 100 ∧ n ≤ 100000 ∧ ∀ H' l ps, SameBut p H H' → Pool H' p (n + 1000) → H l = none → PairsAt H' l ps → (ps.length : Int) ≤ 2 * m → (∀ q ∈ ps, InEight q) → Q (.ref l) H'
theorem ok_drawn (T : Txt K mg ad ai fd) : FnOk P w K mg base CX0 3 (ad 20) (fd 20) ["_law_spring_here", "_law_most", "_law_greatest"] sp_drawn := by
  have G_law_take : FnOk P w K mg base CX0 1 (ad 15) (fd 15) ["_law_spring_here", "_law_many"] sp_take := ok_take T
  have G_law_one : FnOk P w K mg base CX0 2 (ad 16) (fd 16) ["_law_spring_here", "_law_things"] (sp_one K) := ok_one T
  have G_law_mixed : FnOk P w K mg base CX0 2 (ad 17) (fd 17) ["_law_spring_here", "_law_things"] (sp_mixed K) := ok_mixed T
  refine T.F_law_drawn.ok sc_law_drawn (fun vs H Q E h => ?_) (fun cdv A outer s H vs Q E hr h => ?_)
  · obtain ⟨p, m, n, rfl, _⟩ := h
    rfl
  · obtain ⟨p, m, n, rfl, hp, hm, hm2, hn, q⟩ := h
    refine ⟨_, (pss_cons (ps_set (i := 3) sc_law_drawn.nd rfl (.inl rfl) (pe_lst pa_nil))
      (pss_cons (ps_for PassesOwn.never rfl (pi_range1 (by rfl) T.n_range (pa_cons (pe_call G_law_take (hr.mono (by decide)) (by rfl) T.g_law_take T.F_law_take.kp T.b_law_take .nil pass0 (pa_cons (pv 0) (pa_cons (pe_op op_add (pv 1) pe_int) pa_nil))) pa_nil)) (pg_name (i := 4) sc_law_drawn.nd rfl (.inl rfl))
          (pss_cons (ps_set (i := 5) sc_law_drawn.nd rfl (.inl rfl) (pe_op op_add pe_int (pe_call G_law_take (hr.mono (by decide)) (by rfl) T.g_law_take T.F_law_take.kp T.b_law_take .nil pass0 (pa_cons (pv 0) (pa_cons (pe_op op_sub (pv 2) pe_int) pa_nil)))))
          (pss_cons (ps_set (i := 6) sc_law_drawn.nd rfl (.inl rfl) (pe_call G_law_one (hr.mono (by decide)) (by rfl) T.g_law_one T.F_law_one.kp T.b_law_one .nil pass0 (pa_cons (pv 0) (pa_cons (pe_lst (pa_cons pe_int (pa_cons pe_int (pa_cons (pe_op op_sub (pv 2) (pv 5)) pa_nil)))) pa_nil))))
          (pss_one (ps_expr (pe_bmK (K := K) PySem.F.plainAttrs_list PySem.F.slot_list_append PySem.F.type_list_append mt_append (pv 3) (pa_cons (pe_tup (pa_cons (pv 5) (pa_cons (pe_op op_add (pe_op op_add (pv 5) pe_int) (pe_call G_law_take (hr.mono (by decide)) (by rfl) T.g_law_take T.F_law_take.kp T.b_law_take .nil pass0 (pa_cons (pv 0) (pa_cons (pe_ifExp (pt_cmpR op_lt (pv 6) (pe_op op_sub (pv 2) (pv 5)) (nomark _)) (pv 6) (pe_op op_sub (pv 2) (pv 5))) pa_nil)))) pa_nil))) pa_nil)))))))
      (pss_one (ps_ret (pe_call G_law_mixed (hr.mono (by decide)) (by rfl) T.g_law_mixed T.F_law_mixed.kp T.b_law_mixed .nil pass0 (pa_cons (pv 0) (pa_cons (pe_op op_cat (pv 3) (pe_slice (sl_lst (K := K)) (pv 3) po_none (po_some (pe_call G_law_take (hr.mono (by decide)) (by rfl) T.g_law_take T.F_law_take.kp T.b_law_take .nil pass0 (pa_cons (pv 0) (pa_cons pe_int pa_nil)))))) pa_nil))))))), ?_⟩
    obtain ⟨ps0, hps0⟩ := hp.at_
    refine ⟨Nat.zero_le _, fun f nf => ?_⟩
    have fp : f ≠ p := fun e => by
      rw [e, hps0] at nf
      cases nf
    have s1 : Same H (upd H f (.lst [])) := same_new nf
    have hf1 : upd H f (.lst []) f = some (.lst []) := upd_same
    generalize upd H f (.lst []) = H1 at s1 hf1 ⊢
    refine ⟨_, rfl, _, rfl, _, _, rfl, rfl, ?_⟩
    refine ⟨p, _, n, rfl, hp.keeps s1.keeps, by omega, by omega, by omega, fun r o r0 r1 hp2 => ?_⟩
    refine ⟨r, rfl, by omega, by omega, ?_⟩
    refine for_range (lo := 0) (n := r.toNat) (fun i σ H' => (∃ y4 y5 y6, σ = [some (.ref p), some (.int m), some (.int 8), some (.ref f), y4, y5, y6]) ∧ SameBut p H H' ∧ Pool H' p (n + 1 + 3 * i) ∧ ∃ as ps, H' f = some (.lst (as.map V.ref)) ∧ Paired (IsP H') as ps ∧ (∀ x ∈ ps, InEight x) ∧ as.length = i) ?_ ?_ ?_
    · refine ⟨⟨_, _, _, rfl⟩, s1.but.trans SameBut.at_, hp2, [], [], ?_, .nil, (fun x hx => nomatch hx), rfl⟩
      rw [upd_ne fp]
      exact hf1
    · rintro i σ H2 hi ⟨⟨y4, y5, y6, rfl⟩, sb, hpo, as, ps, hf2, hpr, hall, hlen⟩
      -- i = 1 + take(.., 8 - 1)
      refine ⟨_, rfl, _, rfl, _, _, rfl, rfl, ?_⟩
      refine ⟨p, _, _, rfl, hpo, by omega, by decide, by decide, fun r2 o2 r20 r21 hp3 => ?_⟩
      refine ⟨_, _, rfl, rfl, ?_⟩
      -- far
      refine ⟨_, rfl, _, rfl, _, rfl, _, _, rfl, rfl, by show 3 ≤ sizeLine; decide, fun c nc => ?_⟩
      have ncp := none_of_upd nc
      have s3 : Same (upd H2 p o2) (upd (upd H2 p o2) c (.lst [.int 1, .int 2, .int (8 - (1 + r2))])) := same_new nc
      have sb3 : SameBut p H2 (upd (upd H2 p o2) c (.lst [.int 1, .int 2, .int (8 - (1 + r2))])) := SameBut.at_.new nc
      have hc3 : upd (upd H2 p o2) c (.lst [.int 1, .int 2, .int (8 - (1 + r2))]) c = some (.lst [.int 1, .int 2, .int (8 - (1 + r2))]) := upd_same
      have hp4 := hp3.keeps s3.keeps
      dsimp only [tNil]
      generalize upd (upd H2 p o2) c (.lst [.int 1, .int 2, .int (8 - (1 + r2))]) = H3 at s3 sb3 hc3 hp4 ⊢
      refine ⟨p, c, _, _, rfl, hp4, by omega, sq_lst hc3, ncp.2, by show 1 ≤ 3; decide, by show 3 ≤ 1000; decide, fun x o3 hx hp5 => ?_⟩
      obtain ⟨far, rfl, hfar⟩ : ∃ far : Int, x = .int far ∧ 1 ≤ far := by
        rcases List.mem_cons.mp hx with e | hx
        · exact ⟨1, e, by omega⟩
        rcases List.mem_cons.mp hx with e | hx
        · exact ⟨2, e, by omega⟩
        · exact ⟨_, List.mem_singleton.mp hx, by omega⟩
      have sb4 : SameBut p H2 (upd H3 p o3) := sb3.trans SameBut.at_
      have hf4 : upd H3 p o3 f = some (.lst (as.map V.ref)) := sb4 _ _ fp hf2
      generalize upd H3 p o3 = H4 at sb4 hf4 hp5 ⊢
      refine ⟨_, rfl, .inl ⟨rfl, _, sqL_of hf4⟩, _, rfl, _, rfl, _, _, rfl, rfl, _, rfl, _, rfl, _, rfl, _, rfl, _, _, rfl, rfl, _, _, rfl, rfl, _, rfl, ?_⟩
      have fin : ∀ (k : Int) (o5 : HO), 0 ≤ k → k < 8 - (1 + r2) → Pool (upd H4 p o5) p (n + 1 + 3 * i + 1 + 1 + 1) → ∀ t, upd H4 p o5 t = none → ∃ l xs y, V.ref f = V.ref l ∧ [V.ref t] = [y] ∧ (upd (upd H4 p o5) t (.tup [.int (1 + r2), .int (1 + r2 + 1 + k)])) l = some (.lst xs) ∧ xs.length < sizeLine ∧
          ((∃ y4 y5 y6, ([some (.ref p), some (.int m), some (.int 8), some (.ref f), some (.int (0 + (i : Int))), some (.int (1 + r2)), some (.int far)] : L2.St) = [some (.ref p), some (.int m), some (.int 8), some (.ref f), y4, y5, y6]) ∧ SameBut p H (upd (upd (upd H4 p o5) t (.tup [.int (1 + r2), .int (1 + r2 + 1 + k)])) l (.lst (xs ++ [y]))) ∧
            Pool (upd (upd (upd H4 p o5) t (.tup [.int (1 + r2), .int (1 + r2 + 1 + k)])) l (.lst (xs ++ [y]))) p (n + 1 + 3 * (i + 1)) ∧ ∃ as ps, (upd (upd (upd H4 p o5) t (.tup [.int (1 + r2), .int (1 + r2 + 1 + k)])) l (.lst (xs ++ [y]))) f = some (.lst (as.map V.ref)) ∧
            Paired (IsP (upd (upd (upd H4 p o5) t (.tup [.int (1 + r2), .int (1 + r2 + 1 + k)])) l (.lst (xs ++ [y])))) as ps ∧ (∀ x ∈ ps, InEight x) ∧ as.length = i + 1) := by
        intro k o5 k0 k1 hp6 t nt
        have ntp := none_of_upd nt
        have hf5 : upd H4 p o5 f = some (.lst (as.map V.ref)) := by rw [upd_ne fp]; exact hf4
        have ft : f ≠ t := ne_of_none hf5 nt
        refine ⟨f, as.map V.ref, _, rfl, rfl, by rw [upd_ne ft]; exact hf5, ?_, ⟨_, _, _, rfl⟩, ?_, ?_, as ++ [t], ps ++ [(1 + r2, 1 + r2 + 1 + k)], ?_, ?_, ?_, ?_⟩
        · rw [List.length_map]
          exact small1000 (by omega)
        · exact (((sb.trans sb4).trans SameBut.at_).new nt).mut nf
        · refine (hp6.keeps fun u hu => ?_).mono (by omega)
          rw [upd_ne (Ne.symm fp), upd_ne (Ne.symm ntp.2)]
          exact hu
        · rw [upd_same, List.map_append]
          rfl
        · refine paired_snoc ?_ (paired_mono (fun a x h => ?_) hpr)
          · show upd _ f _ t = _
            rw [upd_ne (Ne.symm ft), upd_same]
          · have n1 : a ≠ p := by
              obtain ⟨xs9, h9⟩ := hpo.at_
              exact ne_of h h9 (by intro z; cases z)
            have n2 : a ≠ f := ne_of h hf2 (by intro z; cases z)
            have h5 : upd H4 p o5 a = some (.tup [.int x.1, .int x.2]) := by rw [upd_ne n1]; exact sb4 _ _ n1 h
            show upd _ f _ a = _
            rw [upd_ne n2, upd_ne (ne_of_none h5 nt)]
            exact h5
        · intro x hx
          rcases List.mem_append.mp hx with hx | hx
          · exact hall x hx
          · rw [List.mem_singleton.mp hx]
            refine ⟨?_, ?_, ?_⟩
            · show 1 ≤ 1 + r2
              omega
            · show 1 + r2 < 1 + r2 + 1 + k
              omega
            · show 1 + r2 + 1 + k ≤ 8
              omega
        · rw [List.length_append, hlen]
          rfl
      refine ite2 (fun c => ?_) (fun c => ?_)
      · have c' : far < 8 - (1 + r2) := of_decide_eq_true c
        refine ⟨_, rfl, p, _, _, rfl, hp5, by omega, by omega, by omega, fun k o5 k0 k1 hp6 => ?_⟩
        refine ⟨_, _, rfl, rfl, by show 2 ≤ sizeLine; decide, fun t nt => ?_⟩
        exact fin k o5 k0 (by omega) hp6 t nt
      · refine ⟨_, rfl, _, rfl, _, _, rfl, rfl, p, _, _, rfl, hp5, by omega, by omega, by omega, fun k o5 k0 k1 hp6 => ?_⟩
        refine ⟨_, _, rfl, rfl, by show 2 ≤ sizeLine; decide, fun t nt => ?_⟩
        exact fin k o5 k0 k1 hp6 t nt
    · rintro σ H2 ⟨⟨y4, y5, y6, rfl⟩, sb, hpo, as, ps, hf2, hpr, hall, hlen⟩
      refine ⟨_, rfl, _, rfl, _, rfl, _, rfl, ?_⟩
      refine ⟨p, 2, _, rfl, hpo, by omega, by omega, by omega, fun k o3 k0 k1 hp3 => ?_⟩
      have hf3 : upd H2 p o3 f = some (.lst (as.map V.ref)) := by rw [upd_ne fp]; exact hf2
      have sb3 : SameBut p H2 (upd H2 p o3) := SameBut.at_
      generalize upd H2 p o3 = H3 at hf3 sb3 hp3 ⊢
      refine ⟨k, rfl, f, _, rfl, sqL_of hf3, fun c nc => ?_⟩
      obtain ⟨bs, ebs, hbs⟩ := cutV_refs as none (some k)
      rw [ebs]
      have hbl := hbs.length_le
      have s4 : Same H3 (upd H3 c (.lst (bs.map V.ref))) := same_new nc
      have hc4 : upd H3 c (.lst (bs.map V.ref)) c = some (.lst (bs.map V.ref)) := upd_same
      generalize upd H3 c (.lst (bs.map V.ref)) = H4 at s4 hc4 ⊢
      refine ⟨f, c, _, _, rfl, rfl, s4 _ _ hf3, hc4, ?_, fun d nd => ?_⟩
      · rw [List.length_map, List.length_map, sizeLine_eq]
        omega
      rw [← List.map_append]
      have s5 : Same H4 (upd H4 d (.lst ((as ++ bs).map V.ref))) := same_new nd
      have hd5 : upd H4 d (.lst ((as ++ bs).map V.ref)) d = some (.lst ((as ++ bs).map V.ref)) := upd_same
      dsimp only [tNil]
      generalize upd H4 d (.lst ((as ++ bs).map V.ref)) = H5 at s5 hd5 ⊢
      have s35 := s4.trans s5
      have hxl : ((as ++ bs).map V.ref).length ≤ 200 := by
        rw [List.length_map, List.length_append]
        omega
      refine ⟨p, d, _, _, rfl, hp3.keeps s35.keeps, sq_lst hd5, by omega, by omega, fun H6 l ys sb6 hp6 nl pm hl6 => ?_⟩
      obtain ⟨as', rfl, pm'⟩ := perm_refs pm
      obtain ⟨psp, hpsp⟩ := hpo.at_
      have isp : ∀ a ∈ as', ∃ x, IsP H6 a x ∧ InEight x := by
        intro a ha
        have ha2 : a ∈ as := by
          rcases List.mem_append.mp (pm'.mem_iff.mp ha) with h | h
          · exact h
          · exact hbs.subset h
        obtain ⟨i, hi, e⟩ := List.mem_iff_getElem.mp ha2
        obtain ⟨x, ex, hx⟩ := paired_get hpr (List.getElem?_eq_getElem hi)
        rw [e] at hx
        have n1 : a ≠ p := ne_of hx hpsp (by intro z; cases z)
        exact ⟨x, sb6 _ _ n1 (s35 _ _ (sb3 _ _ n1 hx)), hall x (List.mem_of_getElem? ex)⟩
      obtain ⟨ps', hp', hg'⟩ := paired_all isp
      have nlH : H l = none := by
        cases z : H l with
        | none => rfl
        | some u =>
          have n1 : l ≠ p := fun e => by
            obtain ⟨xs9, h9⟩ := (hp3.keeps s35.keeps).at_
            rw [e, h9] at nl
            cases nl
          have := s35 _ _ (sb3 _ _ n1 (sb _ _ n1 z))
          rw [this] at nl
          cases nl
      refine q H6 l ps' (((sb.trans sb3).trans s35.but).trans sb6) (hp6.mono (by omega)) nlH ⟨as', hl6, hp'⟩ ?_ hg'
      rw [← paired_len hp', pm'.length_eq, List.length_append]
      omega
end
end Lk
namespace Lk
open PySem PySem.Spec PyProof.Rows L2
section
variable {P : Program} {w : World} {K : PySem.W.Frag} {mg : Str → Option Value} {base : Heap} {ad ai : Nat → Addr} {fd : Nat → FuncData}
theorem map_at {α β : Type} {f : α → β} {l : List α} {i : Nat} {y : β} (h : (l.map f)[i]? = some y) : ∃ x, l[i]? = some x ∧ y = f x := by
  rw [List.getElem?_map] at h
  cases e : l[i]? with
  | none => rw [e] at h; cases h
  | some x => rw [e] at h; exact ⟨x, rfl, (Option.some.inj h).symm⟩
theorem at_map {α β : Type} {f : α → β} {l : List α} {i : Nat} {x : α} (h : l[i]? = some x) : (l.map f)[i]? = some (f x) := by
  rw [List.getElem?_map, h]
  rfl
/-! ### _law_serves -/
def inB (p : Int × Int) (n : Int) : Bool := decide (p.1 < n) && decide (n ≤ p.2)
def servesB (M : List Int) (ps : List (Int × Int)) : Bool := (ps.map fun p => (M.map (inB p)).any id).all id
theorem servesB_iff {M : List Int} {ps : List (Int × Int)} : servesB M ps = true ↔ M40.Serves M ps := by
  unfold servesB M40.Serves inB
  simp
def sp_serves (K : PySem.W.Frag) : Sp := fun vs H Q _ => ∃ (l1 : Addr) (M : List Int) (l2 : Addr) (ps : List (Int × Int)), vs = [.ref l1, .ref l2] ∧ SqL K H l1 (M.map V.int) ∧ PairsAt H l2 ps ∧ M.length ≤ 1000 ∧ ps.length ≤ 1000 ∧ ∀ H', Same H H' → Q (.bl (servesB M ps)) H'
theorem ok_serves (T : Txt K mg ad ai fd) : FnOk P w K mg base CX0 1 (ad 21) (fd 21) ["_law_nodes", "_law_changes"] (sp_serves K) := by
  refine T.F_law_serves.ok sc_law_serves (fun vs H Q E h => ?_) (fun cdv A outer s H vs Q E hr h => ?_)
  · obtain ⟨l1, M, l2, ps, rfl, _⟩ := h
    rfl
  · obtain ⟨l1, M, l2, ps, rfl, h1, ⟨as, hl2, hpr⟩, hM, hP, q⟩ := h
    refine ⟨_, (pss_one (ps_ret (pe_callB (call_all (K := K) rfl) (by rfl) T.n_all (by decide +kernel) (pa_cons (pe_lc (own := [("_law_i", 3), ("_law_j", 4)]) rfl sc_law_serves.nd (pi_seq (K := K) (pv 1)) (blkOk_by (N := ["_law_nodes", "_law_changes", "_law_node", "_law_i", "_law_j"]) (sc := defScope s_law_serves) (by decide +kernel)) (fun _ _ _ _ _ => (pg_tp (K := K) (n := 2) rfl (pgs_cons (pg_name (i := 3) sc_law_serves.nd rfl (.inr rfl)) (pgs_cons (pg_name (i := 4) sc_law_serves.nd rfl (.inr rfl)) pgs_nil)))) (fun _ _ _ _ _ => pts_nil) (fun _ _ _ _ _ => (pe_callB (call_any (K := K) rfl) (by rfl) T.n_any (by decide +kernel) (pa_cons (pe_lc (own := [("_law_node", 2)]) rfl sc_law_serves.nd (pi_seq (K := K) (pv 0)) (blkOk_by (N := ["_law_nodes", "_law_changes", "_law_node", "_law_i", "_law_j"]) (sc := { kind := ScopeKind.function, names := [(PySem.Str.ofString ".0", NameKind.local), (PySem.Str.ofString "_law_i", NameKind.cell), (PySem.Str.ofString "_law_j", NameKind.cell), (PySem.Str.ofString "any", NameKind.globalImplicit), (PySem.Str.ofString "_law_nodes", NameKind.cell)], isGenerator := false, isCoroutine := false, more := [] }) (by decide +kernel)) (fun _ _ _ _ _ => (pg_name (i := 2) sc_law_serves.nd rfl (.inl rfl))) (fun _ _ _ _ _ => pts_nil) (fun _ _ _ _ _ => (pe_chain op_lt op_le (pv 3) (pv 2) (pv 4)))) pa_nil)))) pa_nil)))), ?_⟩
    refine ⟨_, rfl, lc_seq (K := K) (sq_lst hl2) (PvV H ((ps.map fun p => (M.map (inB p)).any id).map V.bl)) (fun D hD => vals0 hD) (fun D i H' hD pv => pv.1.keeps) ?_ ?_⟩
    · intro D i x H1 hD hx pv1
      obtain ⟨a, ha, rfl⟩ := map_at hx
      obtain ⟨p, ep, hp⟩ := paired_get hpr ha
      refine ⟨a, _, rfl, sqT_of (pv1.1 _ _ hp), rfl, _, _, rfl, _, _, rfl, rfl, ?_⟩
      refine ⟨rfl, ?_⟩
      refine ⟨_, rfl, lc_seq (K := K) (.inl (pv1.1.seq h1)) (PvV H1 ((M.map (inB p)).map V.bl)) (fun D2 hD2 => vals0 hD2) (fun D2 j H' hD2 pv => pv.1.keeps) ?_ ?_⟩
      · intro D2 j y H2 hD2 hy pv2
        obtain ⟨n, hn, rfl⟩ := map_at hy
        refine ⟨rfl, ?_⟩
        refine ⟨_, rfl, _, rfl, _, _, rfl, rfl, _, rfl, ?_⟩
        have fin : ∀ b, b = inB p n → ∃ acc, H2 D2 = some (.lst acc) ∧ acc.length < sizeLine ∧ PvV H1 ((M.map (inB p)).map V.bl) D2 (j + 1) (upd H2 D2 (.lst (acc ++ [.bl b]))) := by
          intro b e
          rw [e]
          exact vals_step pv2 hD2 (Same.refl _) (at_map (at_map hn)) (by rw [List.length_map, List.length_map]; omega)
        refine ite2 (fun c => ?_) (fun c => ?_)
        · refine ⟨_, rfl, _, _, rfl, rfl, fin _ ?_⟩
          unfold inB
          rw [c, Bool.true_and]
        · refine fin _ ?_
          unfold inB
          rw [Bool.eq_false_iff.mpr c, Bool.false_and]
      · intro D2 H2 hD2 pv2
        obtain ⟨s2, hd2⟩ := valsE pv2 (by rw [List.length_map, List.length_map, List.length_map])
        refine ⟨D2, M.map (inB p), rfl, sqL_of hd2, ?_⟩
        exact vals_step pv1 hD s2 (at_map (at_map ep)) (by rw [List.length_map, List.length_map]; omega)
    · intro D H1 hD pv1
      obtain ⟨s1, hd1⟩ := valsE pv1 (by rw [List.length_map, List.length_map, List.length_map, paired_len hpr])
      exact ⟨D, _, rfl, sqL_of hd1, q H1 s1⟩
/-! ### _law_lists -/
def allL : Nat → List (List Int)
  | 0 => [[]]
  | k + 1 => allL k ++ (allL k).map (· ++ [((k : Int) + 1)])
theorem allL_len : ∀ k, (allL k).length = 2 ^ k
  | 0 => rfl
  | k + 1 => by
    show (allL k ++ (allL k).map _).length = _
    rw [List.length_append, List.length_map, allL_len k, Nat.pow_succ]
    omega
theorem allL_in : ∀ (k : Nat) (M : List Int), M ∈ allL k ↔ M.Pairwise (· < ·) ∧ ∀ m ∈ M, 1 ≤ m ∧ m ≤ (k : Int)
  | 0, M => by
    constructor
    · intro h
      have e : M = [] := List.mem_singleton.mp h
      subst e
      exact ⟨.nil, (fun m hm => nomatch hm)⟩
    · rintro ⟨_, h⟩
      cases M with
      | nil => exact List.mem_singleton.mpr rfl
      | cons x M =>
        have := h x (List.mem_cons_self ..)
        simp at this
        omega
  | k + 1, M => by
    show M ∈ allL k ++ (allL k).map _ ↔ _
    rw [List.mem_append, List.mem_map]
    constructor
    · rintro (h | ⟨N, h, rfl⟩)
      · obtain ⟨h1, h2⟩ := (allL_in k M).mp h
        exact ⟨h1, fun m hm => by have := h2 m hm; omega⟩
      · obtain ⟨h1, h2⟩ := (allL_in k N).mp h
        refine ⟨List.pairwise_append.mpr ⟨h1, by simp, fun a ha b hb => ?_⟩, fun m hm => ?_⟩
        · have := h2 a ha
          rw [List.mem_singleton.mp hb]
          omega
        · rcases List.mem_append.mp hm with hm | hm
          · have := h2 m hm
            omega
          · rw [List.mem_singleton.mp hm]
            omega
    · rintro ⟨h1, h2⟩
      by_cases c : ((k : Int) + 1) ∈ M
      · right
        have hne : M ≠ [] := List.ne_nil_of_mem c
        have hl : M.getLast hne = (k : Int) + 1 := by
          have hb := h2 _ (List.getLast_mem hne)
          rw [← List.dropLast_concat_getLast hne] at c h1
          rcases List.mem_append.mp c with c | c
          · have := (List.pairwise_append.mp h1).2.2 _ c _ (List.mem_singleton.mpr rfl)
            omega
          · exact (List.mem_singleton.mp c).symm
        refine ⟨M.dropLast, (allL_in k _).mpr ⟨h1.sublist (List.dropLast_sublist M), fun m hm => ?_⟩, ?_⟩
        · have h3 := h2 m ((List.dropLast_sublist M).subset hm)
          rw [← List.dropLast_concat_getLast hne] at h1
          have := (List.pairwise_append.mp h1).2.2 _ hm _ (List.mem_singleton.mpr rfl)
          omega
        · rw [← hl]
          exact List.dropLast_concat_getLast hne
      · left
        refine (allL_in k M).mpr ⟨h1, fun m hm => ?_⟩
        have := h2 m hm
        have : m ≠ (k : Int) + 1 := fun e => c (e ▸ hm)
        omega
theorem allL_item : ∀ (k : Nat) (M : List Int), M ∈ allL k → M.length ≤ k
  | 0, M, h => by
    rw [List.mem_singleton.mp h]
    exact Nat.le_refl 0
  | k + 1, M, h => by
    rcases List.mem_append.mp h with h | h
    · have := allL_item k M h
      omega
    · obtain ⟨N, hN, rfl⟩ := List.mem_map.mp h
      have := allL_item k N hN
      rw [List.length_append]
      show N.length + 1 ≤ k + 1
      omega
/-- a list of lists of ints -/
def ListsAt (H0 H : Hp) (l : Addr) (Ms : List (List Int)) : Prop := ∃ as : List Addr, H l = some (.lst (as.map V.ref)) ∧ Paired (fun a (M : List Int) => H a = some (.lst (M.map V.int))) as Ms ∧ ∀ a ∈ as, H0 a = none
def sp_lists : Sp := fun vs H Q _ => vs = [.int 8] ∧ ∀ H' l, Same H H' → H l = none → ListsAt H H' l (allL 8) → Q (.ref l) H'
theorem ok_lists (T : Txt K mg ad ai fd) : FnOk P w K mg base CX0 1 (ad 22) (fd 22) ["_law_greatest"] sp_lists := by
  refine T.F_law_lists.ok sc_law_lists (fun vs H Q E h => ?_) (fun cdv A outer s H vs Q E hr h => ?_)
  · obtain ⟨rfl, _⟩ := h
    rfl
  · obtain ⟨rfl, q⟩ := h
    refine ⟨_, (pss_cons (ps_set (i := 1) sc_law_lists.nd rfl (.inl rfl) (pe_lst (pa_cons (pe_lst pa_nil) pa_nil)))
      (pss_cons (ps_for PassesOwn.never rfl (pi_range2 (by rfl) T.n_range (pa_cons pe_int (pa_cons (pe_op op_add (pv 0) pe_int) pa_nil))) (pg_name (i := 2) sc_law_lists.nd rfl (.inr rfl))
          (pss_one (ps_set (i := 1) sc_law_lists.nd rfl (.inl rfl) (pe_op op_cat (pv 1) (pe_lc (own := [("_law_some", 3)]) rfl sc_law_lists.nd (pi_seq (K := K) (pv 1)) (blkOk_by (N := ["_law_greatest", "_law_found", "_law_number", "_law_some"]) (sc := defScope s_law_lists) (by decide +kernel)) (fun _ _ _ _ _ => (pg_name (i := 3) sc_law_lists.nd rfl (.inl rfl))) (fun _ _ _ _ _ => pts_nil) (fun _ _ _ _ _ => (pe_op op_cat (pv 3) (pe_lst (pa_cons (pv 2) pa_nil)))))))))
      (pss_one (ps_ret (pv 1))))), ?_⟩
    refine ⟨Nat.zero_le _, fun c nc => ?_⟩
    refine ⟨by show 1 ≤ sizeLine; decide, fun f nf => ?_⟩
    refine ⟨_, rfl, _, _, rfl, rfl, 1, 8 + 1, rfl, ⟨by decide, by decide, by decide, by decide⟩, ?_⟩
    have nc2 := none_of_upd nf
    refine for_range (lo := 1) (n := 8) (fun i σ H' => (∃ l y2 y3, σ = [some (.int 8), some (.ref l), y2, y3] ∧ H l = none ∧ ListsAt H H' l (allL i)) ∧ Same H H') ?_ ?_ ?_
    · refine ⟨⟨f, _, _, rfl, nc2.1, [c], upd_same, .cons ?_ .nil, fun a ha => by rw [List.mem_singleton.mp ha]; exact nc⟩, (same_new nc).new nf⟩
      show upd (upd H c (.lst [])) f _ c = _
      rw [upd_ne (Ne.symm nc2.2), upd_same]
      rfl
    · rintro i σ H1 hi ⟨⟨l, y2, y3, rfl, nl, as, hl, hpr, hfr⟩, s1⟩
      have hlen : (allL i).length ≤ 256 := by
        rw [allL_len]
        exact Nat.pow_le_pow_right (by decide) (by omega : i ≤ 8)
      have ei : (1 : Int) + (i : Int) = (i : Int) + 1 := by omega
      refine ⟨_, rfl, ?_⟩
      refine ⟨_, rfl, lc_seq (K := K) (sq_lst hl) (fun D j H' => GrowO (fun M : List Int => .lst (M.map V.int)) H1 D (((allL i).map (· ++ [((i : Int) + 1)])).take j) H') (fun D hD => growO0 hD) (fun D j H' hD g => g.1.keeps) ?_ ?_⟩
      · intro D j x H2 hD hx g
        obtain ⟨a, ha, rfl⟩ := map_at hx
        obtain ⟨M, eM, hM⟩ := paired_get hpr ha
        have hM2 := g.1 _ _ hM
        have hMl : M.length ≤ 8 := by
          have := allL_item i M (List.mem_of_getElem? eM)
          omega
        refine ⟨rfl, ?_⟩
        refine ⟨_, rfl, _, rfl, by show 1 ≤ sizeLine; decide, fun c2 nc2 => ?_⟩
        have s3 : Same H2 (upd H2 c2 (.lst [.int (1 + (i : Int))])) := same_new nc2
        have hc3 : upd H2 c2 (.lst [.int (1 + (i : Int))]) c2 = some (.lst [.int (1 + (i : Int))]) := upd_same
        refine ⟨a, c2, _, _, rfl, rfl, s3 _ _ hM2, hc3, ?_, fun t nt => ?_⟩
        · rw [List.length_map, sizeLine_eq]
          show M.length + 1 ≤ _
          omega
        · have hst := growO_step (q := M ++ [((i : Int) + 1)]) g hD s3 (by rw [List.length_take, List.length_map]; omega) t nt
          have e9 : (M ++ [((i : Int) + 1)]).map V.int = M.map V.int ++ [V.int (1 + (i : Int))] := by
            rw [List.map_append, ei]
            rfl
          rw [← take_snoc (at_map eM), e9] at hst
          exact hst
      · intro D H2 hD g
        rw [List.length_map, paired_len hpr] at g
        have e8 : (allL i).length = ((allL i).map (· ++ [((i : Int) + 1)])).length := by rw [List.length_map]
        rw [e8, List.take_length] at g
        obtain ⟨s2, bs, hd, hpb, hne⟩ := g
        refine ⟨l, D, _, _, rfl, rfl, s2 _ _ hl, hd, ?_, fun t nt => ?_⟩
        · rw [List.length_map, List.length_map, paired_len hpr, paired_len hpb, List.length_map, sizeLine_eq]
          omega
        · refine ⟨⟨t, _, _, rfl, (s1.trans s2).free nt, as ++ bs, ?_, ?_, fun a ha => ?_⟩, (s1.trans s2).new nt⟩
          · rw [upd_same, List.map_append]
          · have s3 : Same H2 (upd H2 t (.lst (as.map V.ref ++ bs.map V.ref))) := same_new nt
            exact paired_app (paired_mono (fun a M h => s3 _ _ (s2 _ _ h)) hpr) (paired_mono (fun a M h => s3 _ _ h) hpb)
          · rcases List.mem_append.mp ha with ha | ha
            · exact hfr a ha
            · exact s1.free (hne a ha).2
    · rintro σ H1 ⟨⟨l, y2, y3, rfl, nl, hl⟩, s1⟩
      exact ⟨_, rfl, q H1 l s1 nl hl⟩
end
end Lk
namespace Lk
open PySem PySem.Spec PyProof.Rows L2
section
variable {P : Program} {w : World} {K : PySem.W.Frag} {mg : Str → Option Value} {base : Heap} {ad ai : Nat → Addr} {fd : Nat → FuncData}
/-! ### _law_same -/
/-- isinstance(x, T) -/
theorem isi {H : Hp} {x : V} {t b : Tg} {Q : VK} (h : HasTy K H x t) (hb : b ≠ .non) (q : Q (.bl (t.sub b)) H) : rIsi K [x, .ty b.nm] H Q := ⟨x, _, _, _, _, rfl, .ty _, h, kit_tg t b hb, q⟩
def sp_same_int : Sp := fun vs H Q _ => ∃ (i j : Int), vs = [.int i, .int j] ∧ ∀ H', Same H H' → Q (.bl (decide (i = j))) H'
theorem ok_same_int (T : Txt K mg ad ai fd) : FnOk P w K mg base CX0 1 (ad 18) (fd 18) ["_law_found", "_law_due"] sp_same_int := by
  refine T.F_law_same.ok sc_law_same (fun vs H Q E h => ?_) (fun cdv A outer s H vs Q E hr h => ?_)
  · obtain ⟨i, j, rfl, _⟩ := h
    rfl
  · obtain ⟨i, j, rfl, q⟩ := h
    refine ⟨_, (pss_cons (ps_if (pt_val (pe_callB (call_isinstT (K := K)) (by rfl) T.n_isinstance (by decide +kernel) (pa_cons (pv 1) (pa_cons (pe_tup (pa_cons (pe_bltn (v := .ty "list") (by rfl) T.n_list (by decide +kernel) rfl) (pa_cons (pe_bltn (v := .ty "tuple") (by rfl) T.n_tuple (by decide +kernel) rfl) pa_nil))) pa_nil)))) (pss_cons ps_never
          (pss_one ps_never)) pss_nil)
      (pss_cons (ps_if (pt_val (pe_callB (call_isinst (K := K)) (by rfl) T.n_isinstance (by decide +kernel) (pa_cons (pv 1) (pa_cons (pe_bltn (v := .ty "dict") (by rfl) T.n_dict (by decide +kernel) rfl) pa_nil)))) (pss_one ps_never) pss_nil)
      (pss_cons (ps_if (pt_val (pe_callB (call_isinst (K := K)) (by rfl) T.n_isinstance (by decide +kernel) (pa_cons (pv 1) (pa_cons (pe_bltn (v := .ty "int") (by rfl) T.n_int (by decide +kernel) rfl) pa_nil)))) (pss_one (ps_ret (pe_and (pe_callB (call_isinst (K := K)) (by rfl) T.n_isinstance (by decide +kernel) (pa_cons (pv 0) (pa_cons (pe_bltn (v := .ty "int") (by rfl) T.n_int (by decide +kernel) rfl) pa_nil))) (pe_and (pe_cmpR op_eq (pe_callB (call_isinst (K := K)) (by rfl) T.n_isinstance (by decide +kernel) (pa_cons (pv 0) (pa_cons (pe_bltn (v := .ty "bool") (by rfl) T.n_bool (by decide +kernel) rfl) pa_nil))) (pe_callB (call_isinst (K := K)) (by rfl) T.n_isinstance (by decide +kernel) (pa_cons (pv 1) (pa_cons (pe_bltn (v := .ty "bool") (by rfl) T.n_bool (by decide +kernel) rfl) pa_nil))) (nomark _)) (pe_one (pe_cmpR op_eq (pv 0) (pv 1) (nomark _))))))) pss_nil)
      (pss_one ps_never)))), ?_⟩
    refine ⟨_, rfl, by show 2 ≤ sizeLine; decide, fun p hp => ?_⟩
    have sm : Same H (upd H p (.tup [.ty "list", .ty "tuple"])) := same_new hp
    refine ⟨_, p, _, _, [.type "list", .type "tuple"], false, rfl, upd_same, .cons (.ty "list") (.cons (.ty "tuple") .nil), hasTy_int, ?_, _, rfl, ?_⟩
    · exact kitAny_cons (kit_tg .int .lst (by decide)) (fun _ => kitAny_cons (kit_tg .int .tup (by decide)) (fun _ => rfl) (fun z => by cases z)) (fun z => by cases z)
    refine ⟨_, rfl, _, _, _, _, _, rfl, .ty _, hasTy_int, kit_tg .int .dct (by decide), ?_⟩
    refine ⟨_, rfl, ?_⟩
    refine ⟨_, rfl, _, _, _, _, _, rfl, .ty _, hasTy_int, kit_tg .int .int (by decide), ?_⟩
    refine ⟨_, rfl, ?_⟩
    refine ⟨_, rfl, _, _, _, _, _, rfl, .ty _, hasTy_int, kit_tg .int .int (by decide), ?_⟩
    refine ⟨_, rfl, ?_⟩
    refine ⟨_, rfl, _, _, _, _, _, rfl, .ty _, hasTy_int, kit_tg .int .bl (by decide), ?_⟩
    refine ⟨_, rfl, _, _, _, _, _, rfl, .ty _, hasTy_int, kit_tg .int .bl (by decide), ?_⟩
    refine ⟨rfl, _, rfl, ?_⟩
    refine ⟨_, rfl, _, rfl, rfl, ?_⟩
    have e : decide (V.int i = V.int j) = decide (i = j) := by
      by_cases c : i = j
      · rw [c, decide_eq_true rfl, decide_eq_true rfl]
      · rw [decide_eq_false c, decide_eq_false fun z => c (V.int.inj z)]
    show Q (.bl (decide (V.int i = V.int j))) _
    rw [e]
    exact q _ sm
/-- two lists of the same ints -/
def sp_same_ints (K : PySem.W.Frag) : Sp := fun vs H Q _ => ∃ (a b : Addr) (ns : List Int), vs = [.ref a, .ref b] ∧ SqL K H a (ns.map V.int) ∧ SqL K H b (ns.map V.int) ∧ ns.length ≤ 1000 ∧ ∀ H', Same H H' → Q (.bl true) H'
theorem ok_same_ints (T : Txt K mg ad ai fd) : FnOk P w K mg base CX0 2 (ad 18) (fd 18) ["_law_found", "_law_due"] (sp_same_ints K) := by
  have G_law_same : FnOk P w K mg base CX0 1 (ad 18) (fd 18) ["_law_found", "_law_due"] sp_same_int := ok_same_int T
  refine T.F_law_same.ok sc_law_same (fun vs H Q E h => ?_) (fun cdv A outer s H vs Q E hr h => ?_)
  · obtain ⟨a, b, ns, rfl, _⟩ := h
    rfl
  · obtain ⟨a, b, ns, rfl, ha, hb, hn, q⟩ := h
    refine ⟨_, (pss_cons (ps_if (pt_val (pe_callB (call_isinstT (K := K)) (by rfl) T.n_isinstance (by decide +kernel) (pa_cons (pv 1) (pa_cons (pe_tup (pa_cons (pe_bltn (v := .ty "list") (by rfl) T.n_list (by decide +kernel) rfl) (pa_cons (pe_bltn (v := .ty "tuple") (by rfl) T.n_tuple (by decide +kernel) rfl) pa_nil))) pa_nil)))) (pss_cons (ps_if (PW.pt (pw_or (pt_cmpR op_ne (pe_callB (call_isinst (K := K)) (by rfl) T.n_isinstance (by decide +kernel) (pa_cons (pv 0) (pa_cons (pe_bltn (v := .ty "list") (by rfl) T.n_list (by decide +kernel) rfl) pa_nil))) (pe_callB (call_isinst (K := K)) (by rfl) T.n_isinstance (by decide +kernel) (pa_cons (pv 1) (pa_cons (pe_bltn (v := .ty "list") (by rfl) T.n_list (by decide +kernel) rfl) pa_nil))) (nomark _)) (pw_or1 (pt_cmpR op_ne (pe_callB (call_isinst (K := K)) (by rfl) T.n_isinstance (by decide +kernel) (pa_cons (pv 0) (pa_cons (pe_bltn (v := .ty "tuple") (by rfl) T.n_tuple (by decide +kernel) rfl) pa_nil))) (pe_callB (call_isinst (K := K)) (by rfl) T.n_isinstance (by decide +kernel) (pa_cons (pv 1) (pa_cons (pe_bltn (v := .ty "tuple") (by rfl) T.n_tuple (by decide +kernel) rfl) pa_nil))) (nomark _))))) (pss_one (ps_ret pe_bl)) pss_nil)
          (pss_one (ps_ret (pe_and (pe_cmpR op_eq (pe_callB (call_len (K := K)) (by rfl) T.n_len (by decide +kernel) (pa_cons (pv 0) pa_nil)) (pe_callB (call_len (K := K)) (by rfl) T.n_len (by decide +kernel) (pa_cons (pv 1) pa_nil)) (nomark _)) (pe_one (pe_callB (call_all (K := K) rfl) (by rfl) T.n_all (by decide +kernel) (pa_cons (pe_lc (own := [("_law_x", 2), ("_law_y", 3)]) rfl sc_law_same.nd (pi_zip (by rfl) T.n_zip (pa_cons (pv 0) (pa_cons (pv 1) pa_nil))) (blkOk_by (N := ["_law_found", "_law_due", "_law_x", "_law_y"]) (sc := defScope s_law_same) (by decide +kernel)) (fun _ _ _ _ _ => (pg_tp (K := K) (n := 2) rfl (pgs_cons (pg_name (i := 2) sc_law_same.nd rfl (.inl rfl)) (pgs_cons (pg_name (i := 3) sc_law_same.nd rfl (.inl rfl)) pgs_nil)))) (fun _ _ _ _ _ => pts_nil) (fun _ _ _ _ _ => (pe_call G_law_same (hr.mono (by decide)) (by rfl) T.g_law_same T.F_law_same.kp T.b_law_same .nil pass0 (pa_cons (pv 2) (pa_cons (pv 3) pa_nil))))) pa_nil))))))) pss_nil)
      (pss_cons (ps_if (pt_val (pe_callB (call_isinst (K := K)) (by rfl) T.n_isinstance (by decide +kernel) (pa_cons (pv 1) (pa_cons (pe_bltn (v := .ty "dict") (by rfl) T.n_dict (by decide +kernel) rfl) pa_nil)))) (pss_one ps_never) pss_nil)
      (pss_cons (ps_if (pt_val (pe_callB (call_isinst (K := K)) (by rfl) T.n_isinstance (by decide +kernel) (pa_cons (pv 1) (pa_cons (pe_bltn (v := .ty "int") (by rfl) T.n_int (by decide +kernel) rfl) pa_nil)))) (pss_one ps_never) pss_nil)
      (pss_one ps_never)))), ?_⟩
    refine ⟨_, rfl, by show 2 ≤ sizeLine; decide, fun p hp => ?_⟩
    have sm : Same H (upd H p (.tup [.ty "list", .ty "tuple"])) := same_new hp
    have hp1 : upd H p (.tup [.ty "list", .ty "tuple"]) p = some (.tup [.ty "list", .ty "tuple"]) := upd_same
    dsimp only [tNil]
    generalize upd H p (.tup [.ty "list", .ty "tuple"]) = H1 at sm hp1 ⊢
    have ha1 := sm.seq ha
    have hb1 := sm.seq hb
    refine ⟨_, p, _, _, [.type "list", .type "tuple"], true, rfl, hp1, .cons (.ty "list") (.cons (.ty "tuple") .nil), hasTy_lst hb1, ?_, _, rfl, ?_⟩
    · exact kitAny_cons (kit_tg .lst .lst (by decide)) (fun z => by cases z) (fun z => rfl)
    refine ⟨_, rfl, _, _, _, _, _, rfl, .ty _, hasTy_lst ha1, kit_tg .lst .lst (by decide), ?_⟩
    refine ⟨_, rfl, _, _, _, _, _, rfl, .ty _, hasTy_lst hb1, kit_tg .lst .lst (by decide), ?_⟩
    refine ⟨rfl, _, rfl, ?_⟩
    refine ⟨_, rfl, _, _, _, _, _, rfl, .ty _, hasTy_lst ha1, kit_tg .lst .tup (by decide), ?_⟩
    refine ⟨_, rfl, _, _, _, _, _, rfl, .ty _, hasTy_lst hb1, kit_tg .lst .tup (by decide), ?_⟩
    refine ⟨rfl, _, rfl, ?_⟩
    -- len == len and all(..)
    refine ⟨_, rfl, _, _, rfl, .inl ha1, _, rfl, _, _, rfl, .inl hb1, rfl, _, rfl, ?_⟩
    rw [decide_eq_true rfl]
    refine ⟨_, rfl, _, rfl, a, b, _, _, rfl, ha1, hb1, fun D hD => ?_⟩
    refine lc_it (walk_zip (K := K) (a := a) (b := b) (xs := ns.map V.int) (ys := ns.map V.int) (n := ns.length) (by rw [List.length_map, Nat.min_self])) (PvV H1 ((ns.map fun _ => true).map V.bl) D) (vals0 hD) (fun i H' _ pv => ⟨pv.1.seq ha1, pv.1.seq hb1⟩) ?_ ?_
    · rintro i x H2 H3 hi pv ⟨t, y, z, rfl, nt, rfl, e1, e2⟩
      obtain ⟨n, hn1, rfl⟩ := map_at e1
      obtain ⟨m, hm1, rfl⟩ := map_at e2
      have : n = m := Option.some.inj (hn1.symm.trans hm1)
      subst this
      refine ⟨t, _, rfl, sqT_of upd_same, rfl, _, _, rfl, _, _, rfl, rfl, ?_⟩
      refine ⟨rfl, ?_⟩
      refine ⟨_, rfl, _, rfl, n, n, rfl, fun H4 s4 => ?_⟩
      rw [decide_eq_true rfl]
      exact vals_step pv hD ((same_new nt).trans s4) (at_map (at_map hn1)) (by rw [List.length_map, List.length_map]; omega)
    · intro H2 pv
      obtain ⟨s2, hd2⟩ := valsE pv (by rw [List.length_map, List.length_map])
      refine ⟨D, _, rfl, sqL_of hd2, ?_⟩
      have e : (ns.map fun _ => true).all id = true := by simp
      rw [e]
      exact q _ (sm.trans s2)
end
end Lk
namespace Lk
open PySem PySem.Spec PyProof.Rows L2
section
variable {P : Program} {w : World} {K : PySem.W.Frag} {mg : Str → Option Value} {base : Heap} {ad ai : Nat → Addr} {fd : Nat → FuncData}
theorem cut1V (xs : List V) : cutV xs (some 1) none = xs.drop 1 := by
  unfold cutV
  rw [show HT.sIx xs.length 0 (some 1) = min 1 xs.length from HT.sIx_nat xs.length 0 1, HT.sIx_none]
  cases xs with
  | nil => rfl
  | cons x r =>
    rw [show min 1 (x :: r).length = 1 by rw [List.length_cons]; omega]
    show List.take ((x :: r).length - 1) r = r
    rw [List.length_cons, Nat.add_sub_cancel]
    exact List.take_length
def sp_are_apart (K : PySem.W.Frag) : Sp := fun vs H Q _ => ∃ (l r : Addr) (ps : List (Int × Int)), vs = [.ref l, .ref r] ∧ PairsAt H l ps ∧ M40.Good ps ∧ ps.length ≤ 60 ∧ H r = some (.lst ((M40.apartOf ps).map V.int)) ∧ ∀ H', Same H H' → Q (.bl true) H'
theorem ok_are_apart (T : Txt K mg ad ai fd) : FnOk P w K mg base CX0 1 (ad 23) (fd 23) ["_law_changes", "_law_numbers"] (sp_are_apart K) := by
  refine T.F_law_are_apart.ok sc_law_are_apart (fun vs H Q E h => ?_) (fun cdv A outer s H vs Q E hr h => ?_)
  · obtain ⟨l, r, ps, rfl, _⟩ := h
    rfl
  · obtain ⟨l, r, ps, rfl, ⟨as, hl, hpr⟩, g, hlen, hrr, q⟩ := h
    have lens := paired_len hpr
    have hval := M40.apart_valid g
    have hns : (M40.apartOf ps).length ≤ 60 := by
      rw [M40.apart_len]
      show ((M40.picks ps).map _).length ≤ 60
      rw [List.length_map]
      exact Nat.le_trans picks_len hlen
    have hnd := M40.apart_nodup g
    have hsrt := M40.srtI_sorted (M40.picks ps)
    have hsp := M40.apart_spans g
    have hsorted : (M40.apartOf ps).Pairwise (· ≤ ·) := hsrt
    generalize M40.apartOf ps = ns at hval hns hnd hsp hsorted hrr
    refine ⟨_, (pss_cons (ps_if (pt_not (pt_val (pe_callB (call_all (K := K) rfl) (by rfl) T.n_all (by decide +kernel) (pa_cons (pe_lc (own := [("_law_k", 2)]) rfl sc_law_are_apart.nd (pi_seq (K := K) (pv 1)) (blkOk_by (N := ["_law_changes", "_law_numbers", "_law_k", "_law_spans", "_law_is_far", "_law_one_here", "_law_other"]) (sc := defScope s_law_are_apart) (by decide +kernel)) (fun _ _ _ _ _ => (pg_name (i := 2) sc_law_are_apart.nd rfl (.inl rfl))) (fun _ _ _ _ _ => pts_nil) (fun _ _ _ _ _ => (pe_and (pe_callB (call_isinst (K := K)) (by rfl) T.n_isinstance (by decide +kernel) (pa_cons (pv 2) (pa_cons (pe_bltn (v := .ty "int") (by rfl) T.n_int (by decide +kernel) rfl) pa_nil))) (pe_and (pe_not (pe_callB (call_isinst (K := K)) (by rfl) T.n_isinstance (by decide +kernel) (pa_cons (pv 2) (pa_cons (pe_bltn (v := .ty "bool") (by rfl) T.n_bool (by decide +kernel) rfl) pa_nil)))) (pe_one (pe_chain op_le op_lt pe_int (pv 2) (pe_callB (call_len (K := K)) (by rfl) T.n_len (by decide +kernel) (pa_cons (pv 0) pa_nil)))))))) pa_nil)))) (pss_one (ps_ret pe_bl)) pss_nil)
      (pss_cons (ps_set (i := 3) sc_law_are_apart.nd rfl (.inl rfl) (pe_callB cr_sortedPO (by rfl) T.n_sorted (by decide +kernel) (pa_cons (pe_lc (own := [("_law_k", 2)]) rfl sc_law_are_apart.nd (pi_seq (K := K) (pv 1)) (blkOk_by (N := ["_law_changes", "_law_numbers", "_law_k", "_law_spans", "_law_is_far", "_law_one_here", "_law_other"]) (sc := defScope s_law_are_apart) (by decide +kernel)) (fun _ _ _ _ _ => (pg_name (i := 2) sc_law_are_apart.nd rfl (.inl rfl))) (fun _ _ _ _ _ => pts_nil) (fun _ _ _ _ _ => (pe_ix (ix_seq (K := K)) (pv 0) (pv 2) (fun _ _ => rfl)))) pa_nil)))
      (pss_cons (ps_set (i := 4) sc_law_are_apart.nd rfl (.inl rfl) (pe_callB (call_all (K := K) rfl) (by rfl) T.n_all (by decide +kernel) (pa_cons (pe_lc (own := [("_law_one_here", 5), ("_law_other", 6)]) rfl sc_law_are_apart.nd (pi_zip (by rfl) T.n_zip (pa_cons (pv 3) (pa_cons (pe_slice (sl_lst (K := K)) (pv 3) (po_some pe_int) po_none) pa_nil))) (blkOk_by (N := ["_law_changes", "_law_numbers", "_law_k", "_law_spans", "_law_is_far", "_law_one_here", "_law_other"]) (sc := defScope s_law_are_apart) (by decide +kernel)) (fun _ _ _ _ _ => (pg_tp (K := K) (n := 2) rfl (pgs_cons (pg_name (i := 5) sc_law_are_apart.nd rfl (.inl rfl)) (pgs_cons (pg_name (i := 6) sc_law_are_apart.nd rfl (.inl rfl)) pgs_nil)))) (fun _ _ _ _ _ => pts_nil) (fun _ _ _ _ _ => (pe_cmpR op_le (pe_ix (ix_seq (K := K)) (pv 5) pe_int (fun _ _ => rfl)) (pe_ix (ix_seq (K := K)) (pv 6) pe_int (fun _ _ => rfl)) (nomark _)))) pa_nil)))
      (pss_one (ps_ret (pe_and (pv 4) (pe_one (pe_cmpR (op_eqT (α := List Int) (K := K) (hu_of hr)) (pe_callTy (call_list (K := K)) (by rfl) T.n_list (by decide +kernel) (pa_cons (pv 1) pa_nil)) (pe_callB (cr_sortedSet rfl) (by rfl) T.n_sorted (by decide +kernel) (pa_cons (pe_callTy (cr_setI rfl) (by rfl) T.n_set (by decide +kernel) (pa_cons (pv 1) pa_nil)) pa_nil)) (nomark _))))))))), ?_⟩
    -- all(..)
    refine ⟨_, rfl, lc_seq (K := K) (sq_lst hrr) (PvV H ((ns.map fun _ => true).map V.bl)) (fun D hD => vals0 hD) (fun D i H' hD pv => pv.1.keeps) ?_ ?_⟩
    · intro D i x H1 hD hx pv
      obtain ⟨k, hk, rfl⟩ := map_at hx
      obtain ⟨k0, k1⟩ := hval k (List.mem_of_getElem? hk)
      refine ⟨rfl, ?_⟩
      refine ⟨_, rfl, _, _, _, _, _, rfl, .ty _, hasTy_int, kit_tg .int .int (by decide), _, rfl, ?_⟩
      refine ⟨_, rfl, _, _, _, _, _, rfl, .ty _, hasTy_int, kit_tg .int .bl (by decide), _, rfl, _, rfl, ?_⟩
      refine ⟨_, rfl, _, _, rfl, rfl, _, rfl, ?_⟩
      rw [decide_eq_true k0]
      refine ⟨_, rfl, _, _, rfl, .inl (pv.1.seq (sqL_of hl)), _, _, rfl, rfl, ?_⟩
      have e : decide (k < ((as.map V.ref).length : Int)) = true := by
        rw [List.length_map, lens]
        exact decide_eq_true (by omega)
      dsimp only
      rw [e]
      exact vals_step pv hD (Same.refl _) (at_map (at_map hk)) (by rw [List.length_map, List.length_map]; omega)
    intro D H1 hD pv
    obtain ⟨s1, hd1⟩ := valsE pv (by rw [List.length_map, List.length_map, List.length_map])
    refine ⟨D, _, rfl, sqL_of hd1, _, rfl, ?_⟩
    rw [show (ns.map fun _ => true).all id = true by simp]
    -- spans
    refine ⟨_, rfl, lc_seq (K := K) (sq_lst (s1 _ _ hrr)) (PvV H1 (ns.map fun k => V.ref (as.getD k.toNat 0))) (fun D hD => vals0 hD) (fun D i H' hD pv => pv.1.keeps) ?_ ?_⟩
    · intro D2 i x H2 hD2 hx pv2
      obtain ⟨k, hk, rfl⟩ := map_at hx
      obtain ⟨k0, k1⟩ := hval k (List.mem_of_getElem? hk)
      have hlt : k.toNat < as.length := by rw [lens]; exact k1
      have ek : k = ((k.toNat : Nat) : Int) := (Int.toNat_of_nonneg k0).symm
      refine ⟨rfl, ?_⟩
      refine ⟨_, rfl, _, rfl, ?_⟩
      show rIxS K (.ref l) (.int k) _ _
      rw [ek]
      refine ixS (j := k.toNat) (xs := as.map V.ref) (sq_lst (pv2.1 _ _ (s1 _ _ hl))) (at_map (List.getElem?_eq_getElem hlt)) ?_
      refine vals_step pv2 hD2 (Same.refl _) ?_ (by rw [List.length_map]; omega)
      rw [at_map hk, List.getD_eq_getElem?_getD, List.getElem?_eq_getElem hlt]
      rfl
    intro D2 H2 hD2 pv2
    obtain ⟨s2, hd2⟩ := valsE pv2 (by rw [List.length_map, List.length_map])
    have s12 := s1.trans s2
    have isp : ∀ k ∈ ns, IsP H2 (as.getD k.toNat 0) (M40.at_ ps k) := by
      intro k hk
      obtain ⟨k0, k1⟩ := hval k hk
      have hlt : k.toNat < as.length := by rw [lens]; exact k1
      obtain ⟨pp, e1, e2⟩ := paired_get hpr (List.getElem?_eq_getElem hlt)
      have e3 : as.getD k.toNat 0 = as[k.toNat] := by rw [List.getD_eq_getElem?_getD, List.getElem?_eq_getElem hlt]; rfl
      have e4 : M40.at_ ps k = pp := by unfold M40.at_; rw [List.getD_eq_getElem?_getD, e1]; rfl
      rw [e3, e4]
      exact s12 _ _ e2
    refine ⟨D2, _, keyAt H2, rfl, sqL_of hd2, ?_, fun ys p h1 h2 np => ?_⟩
    · intro x hx
      obtain ⟨k, hk, rfl⟩ := List.mem_map.mp hx
      refine ⟨_, rfl, ?_⟩
      rw [keyAt_of (isp k hk)]
      exact isp k hk
    have ek : ys.map (keyAt H2) = (M40.picks ps).map (M40.at_ ps) := by
      rw [sorted_keys h1 h2, List.map_map, ← hsp]
      congr 1
      exact List.map_congr_left fun k hk => keyAt_of (isp k hk)
    have hin : ∀ x ∈ ys, ∃ t, x = V.ref t ∧ IsP H2 t (keyAt H2 x) := by
      intro x hx
      obtain ⟨k, hk, rfl⟩ := List.mem_map.mp (h2.perm.mem_iff.mp hx)
      exact ⟨_, rfl, by rw [keyAt_of (isp k hk)]; exact isp k hk⟩
    have hyl : ys.length ≤ 60 := by
      rw [h2.len, List.length_map]
      exact hns
    have s3 : Same H2 (upd H2 p (.lst ys)) := same_new np
    have hp3 : upd H2 p (.lst ys) p = some (.lst ys) := upd_same
    dsimp only [tNil]
    generalize upd H2 p (.lst ys) = H3 at s3 hp3 ⊢
    -- zip(spans, spans[1:])
    refine ⟨_, rfl, _, rfl, _, rfl, p, ys, rfl, sqL_of hp3, fun c nc => ?_⟩
    rw [cut1V]
    have s4 : Same H3 (upd H3 c (.lst (ys.drop 1))) := same_new nc
    have hc4 : upd H3 c (.lst (ys.drop 1)) c = some (.lst (ys.drop 1)) := upd_same
    dsimp only [tNil]
    generalize upd H3 c (.lst (ys.drop 1)) = H4 at s4 hc4 ⊢
    refine ⟨p, c, _, _, rfl, sqL_of (s4 _ _ hp3), sqL_of hc4, fun D5 hD5 => ?_⟩
    refine lc_it (walk_zip (K := K) (a := p) (b := c) (xs := ys) (ys := ys.drop 1) (n := ys.length - 1) (by rw [List.length_drop]; omega)) (PvV H4 (((List.range (ys.length - 1)).map fun _ => true).map V.bl) D5) (vals0 hD5) (fun i H' _ pv => ⟨pv.1.seq (sqL_of (s4 _ _ hp3)), pv.1.seq (sqL_of hc4)⟩) ?_ ?_
    · rintro i x H5 H6 hi pv5 ⟨t, y, z, rfl, nt, rfl, e1, e2⟩
      dsimp only at e1 e2
      rw [List.getElem?_drop] at e2
      obtain ⟨ty, rfl, hty⟩ := hin y (List.mem_of_getElem? e1)
      obtain ⟨tz, rfl, htz⟩ := hin z (List.mem_of_getElem? e2)
      have k1 : ((M40.picks ps).map (M40.at_ ps))[i]? = some (keyAt H2 (.ref ty)) := by rw [← ek]; exact at_map e1
      have k2 : ((M40.picks ps).map (M40.at_ ps))[1 + i]? = some (keyAt H2 (.ref tz)) := by rw [← ek]; exact at_map e2
      obtain ⟨n1, f1, f2⟩ := map_at k1
      obtain ⟨n2, f3, f4⟩ := map_at k2
      have hle : (keyAt H2 (.ref ty)).2 ≤ (keyAt H2 (.ref tz)).1 := by
        rw [f2, f4]
        obtain ⟨i1, j1⟩ := List.getElem?_eq_some_iff.mp f1
        obtain ⟨i2, j2⟩ := List.getElem?_eq_some_iff.mp f3
        have := List.pairwise_iff_getElem.mp (M40.picks_apart g).1 i (1 + i) i1 i2 (by omega)
        rw [j1, j2] at this
        exact this
      have sT : Same H5 (upd H5 t (.tup [.ref ty, .ref tz])) := same_new nt
      have sAll := ((s3.trans s4).trans pv5.1).trans sT
      refine ⟨t, _, rfl, sqT_of upd_same, rfl, _, _, rfl, _, _, rfl, rfl, ?_⟩
      refine ⟨rfl, ?_⟩
      refine ⟨_, rfl, ixS (j := 1) (sq_tup (sAll _ _ hty)) rfl ?_⟩
      refine ⟨_, rfl, ixS (j := 0) (sq_tup (sAll _ _ htz)) rfl ?_⟩
      refine ⟨_, _, rfl, rfl, ?_⟩
      dsimp only
      rw [decide_eq_true hle]
      refine vals_step pv5 hD5 sT ?_ (by rw [List.length_map, List.length_map, List.length_range]; omega)
      rw [List.getElem?_map, List.getElem?_map, List.getElem?_range hi]
      rfl
    intro H5 pv5
    obtain ⟨s5, hd5⟩ := valsE pv5 (by rw [List.length_map, List.length_map, List.length_range])
    refine ⟨D5, _, rfl, sqL_of hd5, ?_⟩
    have eT : (((List.range (ys.length - 1)).map fun _ => true).all id) = true := by simp
    rw [eT]
    refine ⟨_, rfl, _, rfl, ?_⟩
    -- list(numbers) == sorted(set(numbers))
    have sA := ((s12.trans s3).trans s4).trans s5
    refine ⟨_, rfl, r, _, rfl, .inl (sqL_of (sA _ _ hrr)), fun d nd => ?_⟩
    have s6 : Same H5 (upd H5 d (.lst (ns.map V.int))) := same_new nd
    have hd6 : upd H5 d (.lst (ns.map V.int)) d = some (.lst (ns.map V.int)) := upd_same
    dsimp only [tNil]
    generalize upd H5 d (.lst (ns.map V.int)) = H6 at s6 hd6 ⊢
    refine ⟨_, rfl, r, ns, rfl, sqL_of (s6 _ _ (sA _ _ hrr)), hns, fun e c' ne hc' => ?_⟩
    have s7 : Same H6 (upd H6 e (SetO w e (fun j => decide (j ∈ ns)) c')) := same_new ne
    refine ⟨e, _, _, rfl, upd_same, by omega, fun ms p2 hm1 hm2 hm3 np2 => ?_⟩
    have s8 : Same (upd H6 e (SetO w e (fun j => decide (j ∈ ns)) c')) (upd (upd H6 e (SetO w e (fun j => decide (j ∈ ns)) c')) p2 (.lst (ms.map V.int))) := same_new np2
    have ems : ms = ns := M40.set_sorted hnd hsorted hm1 fun k => by rw [hm2 k, decide_eq_true_eq]
    refine ⟨ns, ms, hasD_ints (sqL_of (s8 _ _ (s7 _ _ hd6))), hasD_ints (sqL_of upd_same), ?_⟩
    rw [ems, decide_eq_true rfl]
    exact q _ (((sA.trans s6).trans s7).trans (by rw [ems] at s8; exact s8))
end
end Lk
namespace Lk
open PySem PySem.Spec PyProof.Rows L2
/-! ### the best of all lists -/
def better (M B : List Int) : Bool := decide (M.length < B.length) || (decide (M.length = B.length) && PySem.W.listLt B M)
def stepB (ps : List (Int × Int)) (bo : Option (List Int)) (M : List Int) : Option (List Int) :=
  if servesB M ps = true then (match bo with | none => some M | some B => if better M B = true then some M else some B) else bo
theorem listLt_below : ∀ {M N : List Int}, M.length = N.length → (∀ (k : Nat) (x y : Int), N[k]? = some y → M[k]? = some x → x ≤ y) → M ≠ N → PySem.W.listLt M N = true ∧ PySem.W.listLt N M = false
  | [], [], _, _, h => absurd rfl h
  | [], _ :: _, h, _, _ => by simp at h
  | _ :: _, [], h, _, _ => by simp at h
  | x :: M, y :: N, h, hk, hne => by
    have h0 := hk 0 x y rfl rfl
    unfold PySem.W.listLt
    by_cases e : x = y
    · subst e
      rw [if_pos rfl, if_pos rfl]
      exact listLt_below (by simpa using h) (fun k a b ha hb => hk (k + 1) a b ha hb) (fun z => hne (by rw [z]))
    · rw [if_neg e, if_neg (Ne.symm e)]
      refine ⟨decide_eq_true (by omega), decide_eq_false (by omega)⟩
theorem listLt_self : ∀ M : List Int, PySem.W.listLt M M = false
  | [] => rfl
  | x :: M => by
    unfold PySem.W.listLt
    rw [if_pos rfl]
    exact listLt_self M
theorem better_self (M : List Int) : better M M = false := by
  unfold better
  rw [listLt_self, decide_eq_false (Nat.lt_irrefl _)]
  simp
theorem InEight.good {ps : List (Int × Int)} (h : ∀ q ∈ ps, InEight q) : M40.Good ps := fun q hq => ⟨(h q hq).1, (h q hq).2.1⟩
theorem nodes_best {ps : List (Int × Int)} (h : ∀ q ∈ ps, InEight q) {M : List Int} (hM : M ∈ allL 8) (hs : servesB M ps = true) (hne : M ≠ M40.nodes ps) : better (M40.nodes ps) M = true ∧ better M (M40.nodes ps) = false := by
  have c := M40.nodes_cert (InEight.good h)
  obtain ⟨b1, b2⟩ := M40.below0 ((allL_in 8 M).mp hM).1 (servesB_iff.mp hs) c.pick
  unfold better
  by_cases e : M.length = (M40.nodes ps).length
  · obtain ⟨l1, l2⟩ := listLt_below e (fun k x y hy hx => b2 e k x y hy hx) hne
    rw [l1, l2, decide_eq_true e, decide_eq_true e.symm, decide_eq_false (by omega), decide_eq_false (by omega)]
    exact ⟨rfl, rfl⟩
  · rw [decide_eq_true (by omega : (M40.nodes ps).length < M.length), decide_eq_false (by omega : ¬ M.length < (M40.nodes ps).length), decide_eq_false e]
    exact ⟨rfl, rfl⟩
theorem nodes_in {ps : List (Int × Int)} (h : ∀ q ∈ ps, InEight q) : M40.nodes ps ∈ allL 8 := by
  have g := InEight.good h
  have c := M40.nodes_cert g
  refine (allL_in 8 _).mpr ⟨(M40.picks_lt g c.pick).2, fun m hm => ?_⟩
  obtain ⟨n, hn, rfl⟩ := List.mem_map.mp hm
  obtain ⟨i1, i2, i3⟩ := h _ (M40.at_mem (picks_valid n hn).2)
  exact ⟨by show 1 ≤ (M40.at_ ps n).2; omega, i3⟩
theorem best_run {ps : List (Int × Int)} (h : ∀ q ∈ ps, InEight q) : ∀ (L : List (List Int)) (bo : Option (List Int)), (∀ M ∈ L, M ∈ allL 8) → (∀ B, bo = some B → B ∈ allL 8 ∧ servesB B ps = true) → (bo = some (M40.nodes ps) ∨ M40.nodes ps ∈ L) → L.foldl (stepB ps) bo = some (M40.nodes ps)
  | [], bo, _, _, hn => by
    rcases hn with e | e
    · exact e
    · exact nomatch e
  | M :: L, bo, hL, hb, hn => by
    show L.foldl (stepB ps) (stepB ps bo M) = _
    have hM := hL M (List.mem_cons_self ..)
    have hL' : ∀ N ∈ L, N ∈ allL 8 := fun N hN => hL N (List.mem_cons_of_mem _ hN)
    have sN : servesB (M40.nodes ps) ps = true := servesB_iff.mpr (M40.nodes_cert (InEight.good h)).serves
    by_cases e : M = M40.nodes ps
    · have st : stepB ps bo M = some (M40.nodes ps) := by
        subst e
        unfold stepB
        rw [if_pos sN]
        cases bo with
        | none => rfl
        | some B =>
          dsimp only
          by_cases e2 : B = M40.nodes ps
          · rw [e2, better_self]
            rfl
          · obtain ⟨hB1, hB2⟩ := hb B rfl
            rw [(nodes_best h hB1 hB2 e2).1]
            rfl
      rw [st]
      exact best_run h L _ hL' (fun B hB => by cases hB; exact ⟨nodes_in h, sN⟩) (.inl rfl)
    · have hn' : bo = some (M40.nodes ps) ∨ M40.nodes ps ∈ L := by
        rcases hn with z | z
        · exact .inl z
        · rcases List.mem_cons.mp z with z | z
          · exact absurd z.symm e
          · exact .inr z
      refine best_run h L _ hL' (fun B hB => ?_) ?_
      · unfold stepB at hB
        by_cases s : servesB M ps = true
        · rw [if_pos s] at hB
          cases bo with
          | none => cases hB; exact ⟨hM, s⟩
          | some B0 =>
            dsimp only at hB
            by_cases b : better M B0 = true
            · rw [if_pos b] at hB
              cases hB
              exact ⟨hM, s⟩
            · rw [if_neg b] at hB
              exact hb B hB
        · rw [if_neg s] at hB
          exact hb B hB
      · rcases hn' with z | z
        · left
          subst z
          unfold stepB
          by_cases s : servesB M ps = true
          · rw [if_pos s]
            dsimp only
            rw [(nodes_best h hM s e).2]
            rfl
          · rw [if_neg s]
        · exact .inr z
theorem best_is {ps : List (Int × Int)} (h : ∀ q ∈ ps, InEight q) : (allL 8).foldl (stepB ps) none = some (M40.nodes ps) :=
  best_run h _ none (fun M hM => hM) (fun B hB => nomatch hB) (.inr (nodes_in h))
section
variable {P : Program} {w : World} {K : PySem.W.Frag} {mg : Str → Option Value} {base : Heap} {ad ai : Nat → Addr} {fd : Nat → FuncData}
theorem paired_mem2 {α β : Type} {R S : α → β → Prop} : ∀ {xs : List α} {ys : List β}, Paired R xs ys → (∀ x y, y ∈ ys → R x y → S x y) → Paired S xs ys
  | _, _, .nil, _ => .nil
  | _, _, .cons h t, f => .cons (f _ _ (List.mem_cons_self ..) h) (paired_mem2 t fun x y hy => f x y (List.mem_cons_of_mem _ hy))
theorem paired_chg {K : PySem.W.Frag} {H H' : Hp} : ∀ {as : List Addr} {ps : List (Int × Int)}, Paired (IsP H) as ps → Same H H' → (∀ y ∈ ps, InEight y) → Paired (ChgOk K H') (as.map V.ref) ps
  | _, _, .nil, _, _ => .nil
  | _, _, .cons h t, e, g => .cons ⟨⟨_, rfl, sq_tup (e _ _ h)⟩, (g _ (List.mem_cons_self ..)).1, (g _ (List.mem_cons_self ..)).2.1⟩ (paired_chg t e fun y hy => g y (List.mem_cons_of_mem _ hy))
/-- what the slot of best holds -/
def BestAt (p : Addr) (H : Hp) (bv : V) : Option (List Int) → Prop
  | none => bv = .non
  | some B => ∃ a, bv = .ref a ∧ H a = some (.lst (B.map V.int)) ∧ a ≠ p
/-- a change, told as a list or a tuple that is neither at p nor at D -/
def ChgP (K : PySem.W.Frag) (p D : Addr) (H : Hp) (v : V) (q : Int × Int) : Prop := ∃ a, v = .ref a ∧ a ≠ p ∧ a ≠ D ∧ Sq K H a [.int q.1, .int q.2]
def sp_right : Sp := fun vs H Q _ => ∃ (p : Addr) (n : Nat), vs = [.ref p] ∧ Pool H p n ∧ n ≤ 50000 ∧ ∀ H', SameBut p H H' → Pool H' p (n + 3000) → Q (.bl true) H'
theorem PairsAt.same {H H' : Hp} {l : Addr} {ps : List (Int × Int)} (e : Same H H') (h : PairsAt H l ps) : PairsAt H' l ps := by
  obtain ⟨as, h1, h2⟩ := h
  exact ⟨as, e _ _ h1, paired_mono (fun a q z => e _ _ z) h2⟩
theorem ok_drawn_right (T : Txt K mg ad ai fd) : FnOk P w K mg base CX0 6 (ad 24) (fd 24) ["_law_spring_here"] sp_right := by
  have G_law_drawn : FnOk P w K mg base CX0 3 (ad 20) (fd 20) ["_law_spring_here", "_law_most", "_law_greatest"] sp_drawn := ok_drawn T
  have G_law_lists : FnOk P w K mg base CX0 1 (ad 22) (fd 22) ["_law_greatest"] sp_lists := ok_lists T
  have G_law_serves : FnOk P w K mg base CX0 1 (ad 21) (fd 21) ["_law_nodes", "_law_changes"] (sp_serves K) := ok_serves T
  have G_law_shown : FnOk P w K mg base CX0 2 (ad 19) (fd 19) ["_law_spring_here", "_law_things"] (sp_shown K) := ok_shown T
  have G_least_nodes : FnOk P w K mg base (L2.CX P w) 5 (ad 11) (fd 11) ["changes"] (sp_ask K (ad 7) M40.nodes) := ok_least T
  have G_apart : FnOk P w K mg base (L2.CX P w) 5 (ad 12) (fd 12) ["changes"] (sp_ask K (ad 7) M40.apartOf) := ok_apart T
  have G_law_same : FnOk P w K mg base CX0 2 (ad 18) (fd 18) ["_law_found", "_law_due"] (sp_same_ints K) := ok_same_ints T
  have G_law_are_apart : FnOk P w K mg base CX0 1 (ad 23) (fd 23) ["_law_changes", "_law_numbers"] (sp_are_apart K) := ok_are_apart T
  refine T.F_law_drawn_right.ok sc_law_drawn_right (fun vs H Q E h => ?_) (fun cdv A outer s H vs Q E hr h => ?_)
  · obtain ⟨p, n, rfl, _⟩ := h
    rfl
  · obtain ⟨p, n, rfl, hp, hn, q⟩ := h
    refine ⟨_, (pss_cons (ps_par (i := 1) (j := 2) (by rfl) sc_law_drawn_right.nd rfl rfl (by decide) rfl rfl (pa_cons (pe_call G_law_drawn (hr.mono (by decide)) (by rfl) T.g_law_drawn T.F_law_drawn.kp T.b_law_drawn .nil pass0 (pa_cons (pv 0) (pa_cons pe_int (pa_cons pe_int pa_nil)))) (pa_cons pe_non pa_nil)) (by rfl))
      (pss_cons (ps_for PassesOwn.never rfl (pi_seq (K := K) (pe_call G_law_lists (hr.mono (by decide)) (by rfl) T.g_law_lists T.F_law_lists.kp T.b_law_lists .nil pass0 (pa_cons pe_int pa_nil))) (pg_name (i := 3) sc_law_drawn_right.nd rfl (.inl rfl))
          (pss_one (ps_if (pt_val (pe_call G_law_serves (hr.mono (by decide)) (by rfl) T.g_law_serves T.F_law_serves.kp T.b_law_serves .nil pass0 (pa_cons (pv 3) (pa_cons (pv 1) pa_nil)))) (pss_one (ps_if (PW.pt (pw_or (pt_cmpR op_isN (pv 2) pe_non (nomark _)) (pw_or (pt_cmpR op_lt (pe_callB (call_len (K := K)) (by rfl) T.n_len (by decide +kernel) (pa_cons (pv 3) pa_nil)) (pe_callB (call_len (K := K)) (by rfl) T.n_len (by decide +kernel) (pa_cons (pv 2) pa_nil)) (nomark _)) (pw_or1 (PW.pt (pw_and (pt_cmpR op_eq (pe_callB (call_len (K := K)) (by rfl) T.n_len (by decide +kernel) (pa_cons (pv 3) pa_nil)) (pe_callB (call_len (K := K)) (by rfl) T.n_len (by decide +kernel) (pa_cons (pv 2) pa_nil)) (nomark _)) (pw_and1 (pt_cmpR (op_gtT (α := List Int) (K := K) (hu_of hr)) (pv 3) (pv 2) (nomark _))))))))) (pss_one (ps_set (i := 2) sc_law_drawn_right.nd rfl (.inl rfl) (pv 3))) pss_nil)) pss_nil)))
      (pss_cons (ps_set (i := 4) sc_law_drawn_right.nd rfl (.inl rfl) (pe_call G_law_shown (hr.mono (by decide)) (by rfl) T.g_law_shown T.F_law_shown.kp T.b_law_shown .nil pass0 (pa_cons (pv 0) (pa_cons (pe_lc (own := [("_law_change", 5)]) rfl sc_law_drawn_right.nd (pi_seq (K := K) (pv 1)) (blkOk_by (N := ["_law_spring_here", "_law_changes", "_law_best", "_law_nodes", "_law_handed", "_law_change", "_law_told", "_law_some"]) (sc := defScope s_law_drawn_right) (by decide +kernel)) (fun _ _ _ _ _ => (pg_name (i := 5) sc_law_drawn_right.nd rfl (.inl rfl))) (fun _ _ _ _ _ => pts_nil) (fun _ _ _ _ _ => (pe_call G_law_shown (hr.mono (by decide)) (by rfl) T.g_law_shown T.F_law_shown.kp T.b_law_shown .nil pass0 (pa_cons (pv 0) (pa_cons (pv 5) pa_nil))))) pa_nil))))
      (pss_cons (ps_par (i := 6) (j := 7) (by rfl) sc_law_drawn_right.nd rfl rfl (by decide) rfl rfl (pa_cons (pe_call G_least_nodes (hr.mono (by decide)) (by rfl) T.g_least_nodes T.F_least_nodes.kp T.b_least_nodes .nil passL (pa_cons (pv 4) pa_nil)) (pa_cons (pe_call G_apart (hr.mono (by decide)) (by rfl) T.g_apart T.F_apart.kp T.b_apart .nil passL (pa_cons (pv 4) pa_nil)) pa_nil)) (by rfl))
      (pss_cons (ps_if (PW.pt (pw_or (pt_not (pt_val (pe_call G_law_same (hr.mono (by decide)) (by rfl) T.g_law_same T.F_law_same.kp T.b_law_same .nil pass0 (pa_cons (pv 6) (pa_cons (pv 2) pa_nil))))) (pw_or (pt_not (pt_val (pe_callB (call_isinst (K := K)) (by rfl) T.n_isinstance (by decide +kernel) (pa_cons (pv 7) (pa_cons (pe_bltn (v := .ty "list") (by rfl) T.n_list (by decide +kernel) rfl) pa_nil))))) (pw_or1 (pt_cmpR op_ne (pe_callB (call_len (K := K)) (by rfl) T.n_len (by decide +kernel) (pa_cons (pv 7) pa_nil)) (pe_callB (call_len (K := K)) (by rfl) T.n_len (by decide +kernel) (pa_cons (pv 2) pa_nil)) (nomark _)))))) (pss_one (ps_ret pe_bl)) pss_nil)
      (pss_cons (ps_if (PW.pt (pw_or (pt_not (pt_val (pe_call G_law_are_apart (hr.mono (by decide)) (by rfl) T.g_law_are_apart T.F_law_are_apart.kp T.b_law_are_apart .nil pass0 (pa_cons (pv 1) (pa_cons (pv 7) pa_nil))))) (pw_or1 (pt_cmpR (op_neT (α := List Int) (K := K) (hu_of hr)) (pe_call G_apart (hr.mono (by decide)) (by rfl) T.g_apart T.F_apart.kp T.b_apart .nil passL (pa_cons (pe_callTy (call_list (K := K)) (by rfl) T.n_list (by decide +kernel) (pa_cons (pv 1) pa_nil)) pa_nil)) (pv 7) (nomark _))))) (pss_one (ps_ret pe_bl)) pss_nil)
      (pss_cons (ps_expr (pe_bmK (K := K) PySem.F.plainAttrs_list PySem.F.slot_list_append PySem.F.type_list_append mt_append (pv 6) (pa_cons pe_str pa_nil)))
      (pss_cons (ps_expr (pe_bmK (K := K) PySem.F.plainAttrs_list PySem.F.slot_list_append PySem.F.type_list_append mt_append (pv 7) (pa_cons pe_str pa_nil)))
      (pss_one (ps_ret (pe_and (pe_cmpR (op_eqT (α := List Int) (K := K) (hu_of hr)) (pe_call G_least_nodes (hr.mono (by decide)) (by rfl) T.g_least_nodes T.F_least_nodes.kp T.b_least_nodes .nil passL (pa_cons (pv 1) pa_nil)) (pv 2) (nomark _)) (pe_one (pe_cmpR op_eq (pe_callB (call_len (K := K)) (by rfl) T.n_len (by decide +kernel) (pa_cons (pe_call G_apart (hr.mono (by decide)) (by rfl) T.g_apart T.F_apart.kp T.b_apart .nil passL (pa_cons (pv 1) pa_nil)) pa_nil)) (pe_callB (call_len (K := K)) (by rfl) T.n_len (by decide +kernel) (pa_cons (pv 2) pa_nil)) (nomark _)))))))))))))), ?_⟩
    refine ⟨_, rfl, ?_⟩
    refine ⟨p, 6, n, rfl, hp, by decide, by decide, by omega, fun H1 l ps sb1 hp1 nl hpa hlen hin => ?_⟩
    refine ⟨_, _, rfl, ?_⟩
    refine ⟨rfl, fun H2 ll s2 nll hll => ?_⟩
    obtain ⟨as, hls, hpl, hfr⟩ := hll
    have hap : ∀ a ∈ as, a ≠ p := fun a ha e => by
      obtain ⟨xs1, hps1⟩ := hp1.at_
      have := hfr a ha
      rw [e, hps1] at this
      cases this
    have hpa2 := hpa.same s2
    have hp2 := hp1.keeps s2.keeps
    have hps : ps.length ≤ 12 := by omega
    have g := InEight.good hin
    -- the loop over all lists
    refine for_seq (K := K) (sq_lst hls) (fun i σ H' => (∃ bv y3, σ = [some (.ref p), some (.ref l), some bv, y3, none, none, none, none] ∧ BestAt p H2 bv (((allL 8).take i).foldl (stepB ps) none)) ∧ Same H2 H') ⟨⟨.non, none, rfl, rfl⟩, Same.refl _⟩ (fun i σ H' h => h.2.keeps) ?_ ?_
    · rintro i x σ H3 hx ⟨⟨bv, y3, rfl, hb⟩, s3⟩
      obtain ⟨a, ha, rfl⟩ := map_at hx
      obtain ⟨M, eM, hM⟩ := paired_get hpl ha
      have ap := hap a (List.mem_of_getElem? ha)
      have hMl : M.length ≤ 8 := allL_item 8 M (List.mem_of_getElem? eM)
      have hst : ((allL 8).take (i + 1)).foldl (stepB ps) none = stepB ps (((allL 8).take i).foldl (stepB ps) none) M := by
        rw [take_snoc eM, List.foldl_append]
        rfl
      rw [hst]
      generalize ((allL 8).take i).foldl (stepB ps) none = bo at hb ⊢
      refine ⟨_, rfl, _, rfl, ?_⟩
      refine ⟨a, M, l, ps, rfl, sqL_of (s3 _ _ hM), hpa2.same s3, by omega, by omega, fun H4 s4 => ?_⟩
      have s24 := s3.trans s4
      refine ⟨_, rfl, ?_⟩
      refine ite2 (fun c => ?_) (fun c => ?_)
      · cases bo with
        | none =>
          have eb : bv = .non := hb
          subst eb
          refine ⟨_, rfl, rfl, _, rfl, ?_⟩
          refine ⟨_, rfl, ⟨_, _, rfl, ?_⟩, s24⟩
          have e : stepB ps none M = some M := by
            unfold stepB
            rw [if_pos c]
          rw [e]
          exact ⟨a, rfl, hM, ap⟩
        | some B =>
          obtain ⟨b, rfl, hB, bp⟩ := hb
          refine ⟨_, rfl, rfl, _, rfl, ?_⟩
          refine ⟨_, rfl, _, _, rfl, .inl (sqL_of (s24 _ _ hM)), _, rfl, _, _, rfl, .inl (sqL_of (s24 _ _ hB)), _, _, rfl, rfl, _, rfl, ?_⟩
          rw [List.length_map, List.length_map]
          have yes : ∀ (z : better M B = true), BestAt p H2 (.ref a) (stepB ps (some B) M) := by
            intro z
            unfold stepB
            rw [if_pos c]
            dsimp only
            rw [if_pos z]
            exact ⟨a, rfl, hM, ap⟩
          have no : ∀ (z : better M B = false), BestAt p H2 (.ref b) (stepB ps (some B) M) := by
            intro z
            unfold stepB
            rw [if_pos c]
            dsimp only
            rw [z]
            exact ⟨b, rfl, hB, bp⟩
          by_cases c1 : M.length < B.length
          · rw [decide_eq_true (by omega : (M.length : Int) < (B.length : Int))]
            refine ⟨_, rfl, ⟨_, _, rfl, yes ?_⟩, s24⟩
            unfold better
            rw [decide_eq_true c1]
            rfl
          · rw [decide_eq_false (by omega : ¬ (M.length : Int) < (B.length : Int))]
            refine ⟨_, rfl, _, _, rfl, .inl (sqL_of (s24 _ _ hM)), _, rfl, _, _, rfl, .inl (sqL_of (s24 _ _ hB)), rfl, _, rfl, ?_⟩
            rw [List.length_map, List.length_map]
            by_cases c2 : M.length = B.length
            · rw [decide_eq_true (by rw [c2] : V.int (M.length : Int) = V.int (B.length : Int))]
              refine ⟨_, rfl, _, rfl, M, B, hasD_ints (sqL_of (s24 _ _ hM)), hasD_ints (sqL_of (s24 _ _ hB)), _, rfl, ?_⟩
              have eb : better M B = PySem.W.listLt B M := by
                unfold better
                rw [decide_eq_false c1, decide_eq_true c2]
                rfl
              show if PySem.W.listLt B M = true then _ else _
              rw [← eb]
              refine ite2 (fun c3 => ?_) (fun c3 => ?_)
              · exact ⟨_, rfl, ⟨_, _, rfl, yes c3⟩, s24⟩
              · exact ⟨⟨_, _, rfl, no (Bool.eq_false_iff.mpr c3)⟩, s24⟩
            · rw [decide_eq_false (fun z => c2 (by have := V.int.inj z; omega) : ¬ V.int (M.length : Int) = V.int (B.length : Int))]
              refine ⟨⟨_, _, rfl, no ?_⟩, s24⟩
              unfold better
              rw [decide_eq_false c1, decide_eq_false c2]
              rfl
      · refine ⟨⟨_, _, rfl, ?_⟩, s24⟩
        have e : stepB ps bo M = bo := by
          unfold stepB
          rw [if_neg c]
        rw [e]
        exact hb
    · rintro σ H3 ⟨⟨bv, y3, rfl, hb⟩, s3⟩
      have ea : (as.map V.ref).length = (allL 8).length := by rw [List.length_map, paired_len hpl]
      rw [ea, List.take_length, best_is hin] at hb
      obtain ⟨aB, rfl, hB, aBp⟩ := hb
      obtain ⟨xs0, hps0⟩ := hp.at_
      have lp : l ≠ p := fun e => by
        rw [e, hps0] at nl
        cases nl
      have hp3 := hp2.keeps s3.keeps
      have hpa3 := hpa2.same s3
      have hB3 := s3 _ _ hB
      obtain ⟨as3, hl3, hpr3⟩ := hpa3
      obtain ⟨xs3, hps3⟩ := hp3.at_
      have lens3 := paired_len hpr3
      -- the changes, each told as a list or a tuple
      refine ⟨_, rfl, _, rfl, lc_seq (K := K) (sq_lst hl3) (fun D i H' => SameBut p H3 H' ∧ Pool H' p (n + 1000 + i) ∧ ∃ vs, H' D = some (.lst vs) ∧ Paired (ChgP K p D H') vs (ps.take i)) (fun D hD => ⟨SameBut.refl.new hD, hp3.keeps (same_new hD).keeps, [], upd_same, .nil⟩) (fun D i H' hD pv => pv.1.keeps lp) ?_ ?_⟩
      · rintro D i x H4 hD hx ⟨sb4, hp4, vs4, hd4, hpr4⟩
        obtain ⟨a, ha, rfl⟩ := map_at hx
        obtain ⟨z, ez, hz⟩ := paired_get hpr3 ha
        have hi := (List.getElem?_eq_some_iff.mp ez).1
        have ap : a ≠ p := ne_of hz hps3 (by intro z; cases z)
        have Dp : D ≠ p := fun e => by
          rw [e, hps3] at hD
          cases hD
        have hz4 := sb4 _ _ ap hz
        have aD : a ≠ D := ne_of hz4 hd4 (by intro z; cases z)
        refine ⟨rfl, ?_⟩
        refine ⟨_, rfl, _, rfl, ?_⟩
        refine ⟨p, a, _, _, rfl, hp4, by omega, sq_tup hz4, ap, fun H5 l5 sb5 hp5 sq5 n5 or5 => ?_⟩
        have l5D : l5 ≠ D := by
          rcases or5 with e | e
          · rw [e]
            exact aD
          · exact fun z => by
              rw [z, hd4] at e
              cases e
        refine ⟨vs4, sb5 _ _ Dp hd4, ?_, (sb4.trans sb5).mut hD, ?_, vs4 ++ [.ref l5], upd_same, ?_⟩
        · rw [paired_len hpr4, List.length_take, sizeLine_eq]
          omega
        · refine (hp5.keeps fun u hu => ?_).mono (by omega)
          rw [upd_ne (Ne.symm Dp)]
          exact hu
        · rw [take_snoc ez]
          refine paired_snoc ⟨l5, rfl, n5, l5D, KeepsAt.sq (fun o ho => by rw [upd_ne l5D]; exact ho) sq5⟩ (paired_mono (fun v y h => ?_) hpr4)
          obtain ⟨b, rfl, b1, b2, b3⟩ := h
          exact ⟨b, rfl, b1, b2, KeepsAt.sq (fun o ho => by rw [upd_ne b2]; exact sb5 _ _ b1 ho) b3⟩
      rintro D H4 hD ⟨sb4, hp4, vs4, hd4, hpr4⟩
      rw [List.length_map, lens3, List.take_length] at hpr4
      rw [List.length_map, lens3] at hp4
      have Dp : D ≠ p := fun e => by
        rw [e, hps3] at hD
        cases hD
      refine ⟨p, D, vs4, _, rfl, hp4, by omega, sq_lst hd4, Dp, fun H5 hh sb5 hp5 sq5 nhp _ => ?_⟩
      -- told, some
      have hlv : vs4.length ≤ 1000 := by
        rw [paired_len hpr4]
        omega
      have chg5 : Paired (ChgOk K H5) vs4 ps := by
        refine paired_mem2 hpr4 fun v y hy h => ?_
        obtain ⟨b, rfl, b1, b2, b3⟩ := h
        exact ⟨⟨b, rfl, KeepsAt.sq (sb5.keeps b1) b3⟩, (hin y hy).1, (hin y hy).2.1⟩
      have sb35 := sb4.trans sb5
      have hB5 := sb35 _ _ aBp hB3
      have hl5 := sb35 _ _ lp hl3
      have hpr5 : Paired (IsP H5) as3 ps := paired_mono (fun a y h => sb35 _ _ (ne_of h hps3 (by intro z; cases z)) h) hpr3
      have chgT : ∀ {H' : Hp}, Same H5 H' → Paired (ChgOk K H') (as3.map V.ref) ps := by
        intro H' e
        exact paired_chg hpr5 e hin
      refine ⟨_, rfl, ?_⟩
      refine ⟨_, rfl, .inr (.inl ⟨hh, vs4, ps, rfl, sq5, hlv, chg5, fun H6 tl s6 ntl htl => ?_⟩)⟩
      refine ⟨_, rfl, ?_⟩
      refine ⟨_, rfl, .inr (.inl ⟨hh, vs4, ps, rfl, s6.sq sq5, hlv, paired_mono (fun v y h => h.same s6) chg5, fun H7 sm s7 nsm hsm => ?_⟩)⟩
      refine ⟨_, _, rfl, ?_⟩
      have s57 := s6.trans s7
      have htl7 := s7 _ _ htl
      have hnl : (M40.nodes ps).length ≤ 8 := allL_item 8 _ (nodes_in hin)
      -- the first test
      refine ⟨_, rfl, _, rfl, ?_⟩
      refine ⟨tl, aB, M40.nodes ps, rfl, sqL_of htl7, sqL_of (s57 _ _ hB5), by omega, fun H8 s8 => ?_⟩
      refine ⟨_, rfl, ?_⟩
      refine ⟨_, rfl, _, _, _, _, _, rfl, .ty _, hasTy_lst (sqL_of (s8 _ _ hsm)), kit_tg .lst .lst (by decide), _, rfl, ?_⟩
      have s58 := s57.trans s8
      refine ⟨_, rfl, _, _, rfl, .inl (sqL_of (s8 _ _ hsm)), _, rfl, _, _, rfl, .inl (sqL_of (s58 _ _ hB5)), rfl, _, rfl, ?_⟩
      refine iteNS (by rw [List.length_map, List.length_map, M40.apart_len]) ?_
      -- the second test
      refine ⟨_, rfl, _, rfl, ?_⟩
      refine ⟨l, sm, ps, rfl, ⟨as3, s58 _ _ hl5, paired_mono (fun a y h => s58 _ _ h) hpr5⟩, g, by omega, s8 _ _ hsm, fun H9 s9 => ?_⟩
      refine ⟨_, rfl, ?_⟩
      have s59 := s58.trans s9
      refine ⟨_, rfl, l, _, rfl, .inl (sqL_of (s59 _ _ hl5)), fun d nd => ?_⟩
      have s10 : Same H9 (upd H9 d (.lst (as3.map V.ref))) := same_new nd
      have hd10 : upd H9 d (.lst (as3.map V.ref)) d = some (.lst (as3.map V.ref)) := upd_same
      dsimp only [tNil]
      generalize upd H9 d (.lst (as3.map V.ref)) = H10 at s10 hd10 ⊢
      have s510 := s59.trans s10
      have hal : (as3.map V.ref).length ≤ 1000 := by
        rw [List.length_map, lens3]
        omega
      refine ⟨_, rfl, .inr (.inl ⟨d, _, ps, rfl, sq_lst hd10, hal, chgT s510, fun H11 e s11 ne he => ?_⟩)⟩
      refine ⟨_, rfl, _, _, hasD_ints (sqL_of he), hasD_ints (sqL_of (s11 _ _ (s10 _ _ (s9 _ _ (s8 _ _ hsm))))), _, rfl, ?_⟩
      refine iteNS rfl ?_
      -- told.append, some.append
      have s611 : Same H6 H11 := ((((s7.trans s8).trans s9).trans s10).trans s11)
      have htl11 := s611 _ _ htl
      have hsm11 := s11 _ _ (s10 _ _ (s9 _ _ (s8 _ _ hsm)))
      have st : sm ≠ tl := fun z => by
        rw [z, htl] at nsm
        cases nsm
      refine ⟨_, rfl, .inl ⟨rfl, _, sqL_of htl11⟩, tl, _, _, rfl, rfl, htl11, ?_, ?_⟩
      · rw [List.length_map, sizeLine_eq]
        omega
      have hsm12 : ∀ o, upd H11 tl o sm = some (.lst ((M40.apartOf ps).map V.int)) := fun o => by
        rw [upd_ne st]
        exact hsm11
      refine ⟨_, rfl, .inl ⟨rfl, _, sqL_of (hsm12 _)⟩, sm, _, _, rfl, rfl, hsm12 _, ?_, ?_⟩
      · rw [List.length_map, M40.apart_len, sizeLine_eq]
        omega
      have s513 : ∀ o u, Same H5 (upd (upd H11 tl o) sm u) := fun o u => ((s510.trans s11).mut ntl).mut (s6.free nsm)
      -- least_nodes(changes) == best and len(apart(changes)) == len(best)
      refine ⟨_, rfl, ?_⟩
      refine ⟨_, rfl, .inr (.inl ⟨l, _, ps, rfl, sq_lst (s513 _ _ _ _ hl5), hal, chgT (s513 _ _), fun H14 e2 s14 ne2 he2 => ?_⟩)⟩
      have s514 := (s513 _ _).trans s14
      refine ⟨_, rfl, _, _, hasD_ints (sqL_of he2), hasD_ints (sqL_of (s514 _ _ hB5)), _, rfl, ?_⟩
      rw [decide_eq_true rfl]
      refine ⟨_, rfl, ?_⟩
      refine ⟨_, rfl, .inr (.inl ⟨l, _, ps, rfl, sq_lst (s514 _ _ hl5), hal, chgT s514, fun H15 e3 s15 ne3 he3 => ?_⟩)⟩
      have s515 := s514.trans s15
      refine ⟨_, _, rfl, .inl (sqL_of he3), _, rfl, _, _, rfl, .inl (sqL_of (s515 _ _ hB5)), rfl, ?_⟩
      rw [List.length_map, List.length_map, M40.apart_len, decide_eq_true rfl]
      refine q H15 ((((sb1.trans s2.but).trans s3.but).trans sb35).trans s515.but) ((hp5.keeps s515.keeps).mono (by omega))
end
end Lk
namespace Lk
open PySem PySem.Spec PyProof.Rows L2
section
variable {P : Program} {w : World} {K : PySem.W.Frag} {mg : Str → Option Value} {base : Heap} {ad ai : Nat → Addr} {fd : Nat → FuncData}
abbrev objP (q : Int × Int) : HO := .tup [.int q.1, .int q.2]
theorem paired_chgG {K : PySem.W.Frag} {H H' : Hp} : ∀ {as : List Addr} {ps : List (Int × Int)}, Paired (IsP H) as ps → Same H H' → M40.Good ps → Paired (ChgOk K H') (as.map V.ref) ps
  | _, _, .nil, _, _ => .nil
  | _, _, .cons h t, e, g => .cons ⟨⟨_, rfl, sq_tup (e _ _ h)⟩, (g _ (List.mem_cons_self ..)).1, (g _ (List.mem_cons_self ..)).2⟩ (paired_chgG t e fun y hy => g y (List.mem_cons_of_mem _ hy))
/-- pairs in any order -/
theorem mixed_pairs {H2 H3 H4 : Hp} {p D l : Addr} {qs : List (Int × Int)} {as : List Addr} {ys : List V} {n : Nat} (hpr : Paired (IsP H3) as qs) (hp : Pool H3 p n) (sb : SameBut p H3 H4) (pm : ys.Perm (as.map V.ref)) (hl : H4 l = some (.lst ys)) :
    ∃ (as' : List Addr) (ps : List (Int × Int)), H4 l = some (.lst (as'.map V.ref)) ∧ Paired (IsP H4) as' ps ∧ ps.Perm qs := by
  obtain ⟨as', rfl, pm'⟩ := perm_refs pm
  obtain ⟨ps, p1, p2⟩ := paired_perm pm' hpr
  obtain ⟨xs, hx⟩ := hp.at_
  exact ⟨as', ps, hl, paired_mono (fun a q h => sb _ _ (ne_of h hx (by intro z; cases z)) h) p2, p1⟩
theorem range_take_at {α : Type} {f : Nat → α} {m i : Nat} (h : i < m) : ((List.range m).map f)[i]? = some (f i) := by
  rw [List.getElem?_map, List.getElem?_range h]
  rfl
theorem ok_long_right (T : Txt K mg ad ai fd) : FnOk P w K mg base CX0 6 (ad 25) (fd 25) ["_law_spring_here"] sp_right := by
  have G_law_take : FnOk P w K mg base CX0 1 (ad 15) (fd 15) ["_law_spring_here", "_law_many"] sp_take := ok_take T
  have G_law_mixed : FnOk P w K mg base CX0 2 (ad 17) (fd 17) ["_law_spring_here", "_law_things"] (sp_mixed K) := ok_mixed T
  have G_least_nodes : FnOk P w K mg base (L2.CX P w) 5 (ad 11) (fd 11) ["changes"] (sp_ask K (ad 7) M40.nodes) := ok_least T
  have G_apart : FnOk P w K mg base (L2.CX P w) 5 (ad 12) (fd 12) ["changes"] (sp_ask K (ad 7) M40.apartOf) := ok_apart T
  have G_law_are_apart : FnOk P w K mg base CX0 1 (ad 23) (fd 23) ["_law_changes", "_law_numbers"] (sp_are_apart K) := ok_are_apart T
  refine T.F_law_long_right.ok sc_law_long_right (fun vs H Q E h => ?_) (fun cdv A outer s H vs Q E hr h => ?_)
  · obtain ⟨p, n, rfl, _⟩ := h
    rfl
  · obtain ⟨p, n, rfl, hp, hn, q⟩ := h
    refine ⟨_, (pss_cons (ps_set (i := 1) sc_law_long_right.nd rfl (.inl rfl) (pe_op op_add pe_int (pe_call G_law_take (hr.mono (by decide)) (by rfl) T.g_law_take T.F_law_take.kp T.b_law_take .nil pass0 (pa_cons (pv 0) (pa_cons pe_int pa_nil)))))
      (pss_cons (ps_set (i := 2) sc_law_long_right.nd rfl (.inl rfl) (pe_call G_law_mixed (hr.mono (by decide)) (by rfl) T.g_law_mixed T.F_law_mixed.kp T.b_law_mixed .nil pass0 (pa_cons (pv 0) (pa_cons (pe_lc (own := [("_law_k", 3)]) rfl sc_law_long_right.nd (pi_range1 (by rfl) T.n_range (pa_cons (pv 1) pa_nil)) (blkOk_by (N := ["_law_spring_here", "_law_many", "_law_chain", "_law_k", "_law_wide", "_law_some", "_law_due", "_law_found"]) (sc := defScope s_law_long_right) (by decide +kernel)) (fun _ _ _ _ _ => (pg_name (i := 3) sc_law_long_right.nd rfl (.inl rfl))) (fun _ _ _ _ _ => pts_nil) (fun _ _ _ _ _ => (pe_tup (pa_cons (pe_op op_add (pe_op op_mul pe_int (pv 3)) pe_int) (pa_cons (pe_op op_add (pe_op op_mul pe_int (pv 3)) pe_int) pa_nil))))) pa_nil))))
      (pss_cons (ps_if (PW.pt (pw_or (pt_cmpR (op_neT (α := List Int) (K := K) (hu_of hr)) (pe_call G_least_nodes (hr.mono (by decide)) (by rfl) T.g_least_nodes T.F_least_nodes.kp T.b_least_nodes .nil passL (pa_cons (pv 2) pa_nil)) (pe_lc (own := [("_law_k", 3)]) rfl sc_law_long_right.nd (pi_range1 (by rfl) T.n_range (pa_cons (pv 1) pa_nil)) (blkOk_by (N := ["_law_spring_here", "_law_many", "_law_chain", "_law_k", "_law_wide", "_law_some", "_law_due", "_law_found"]) (sc := defScope s_law_long_right) (by decide +kernel)) (fun _ _ _ _ _ => (pg_name (i := 3) sc_law_long_right.nd rfl (.inl rfl))) (fun _ _ _ _ _ => pts_nil) (fun _ _ _ _ _ => (pe_op op_add (pe_op op_mul pe_int (pv 3)) pe_int))) (nomark _)) (pw_or1 (pt_cmpR (op_neT (α := List Int) (K := K) (hu_of hr)) (pe_call G_apart (hr.mono (by decide)) (by rfl) T.g_apart T.F_apart.kp T.b_apart .nil passL (pa_cons (pv 2) pa_nil)) (pe_listRg rfl (by rfl) T.n_list (prg_1 (by rfl) T.n_range (pv 1))) (nomark _))))) (pss_one (ps_ret pe_bl)) pss_nil)
      (pss_cons (ps_set (i := 4) sc_law_long_right.nd rfl (.inr rfl) (pe_op op_add pe_int (pe_call G_law_take (hr.mono (by decide)) (by rfl) T.g_law_take T.F_law_take.kp T.b_law_take .nil pass0 (pa_cons (pv 0) (pa_cons pe_int pa_nil)))))
      (pss_cons (ps_set (i := 5) sc_law_long_right.nd rfl (.inl rfl) (pe_call G_law_mixed (hr.mono (by decide)) (by rfl) T.g_law_mixed T.F_law_mixed.kp T.b_law_mixed .nil pass0 (pa_cons (pv 0) (pa_cons (pe_lc (own := [("_law_k", 3)]) rfl sc_law_long_right.nd (pi_range1 (by rfl) T.n_range (pa_cons (pv 1) pa_nil)) (blkOk_by (N := ["_law_spring_here", "_law_many", "_law_chain", "_law_k", "_law_wide", "_law_some", "_law_due", "_law_found"]) (sc := defScope s_law_long_right) (by decide +kernel)) (fun _ _ _ _ _ => (pg_name (i := 3) sc_law_long_right.nd rfl (.inl rfl))) (fun _ _ _ _ _ => pts_nil) (fun _ _ _ _ _ => (pe_tup (pa_cons (pe_op op_add (pv 3) pe_int) (pa_cons (pe_op op_add (pe_op op_add (pv 3) pe_int) (pv 4)) pa_nil))))) pa_nil))))
      (pss_cons (ps_setLc (i := 6) (own := [("_law_k", 3)]) rfl sc_law_long_right.nd rfl rfl (sw_true rfl rfl rfl (by decide +kernel)) (pi_range1 (by rfl) T.n_range (pa_cons (pe_op op_fdivN (pe_op op_sub (pe_op op_add (pv 1) (pv 4)) pe_int) (pv 4)) pa_nil)) (blkOk_by (N := ["_law_spring_here", "_law_many", "_law_chain", "_law_k", "_law_wide", "_law_some", "_law_due", "_law_found"]) (sc := defScope s_law_long_right) (by decide +kernel)) (fun _ _ _ _ _ => (pg_name (i := 3) sc_law_long_right.nd rfl (.inl rfl))) (fun _ _ _ _ _ => pts_nil) (fun _ _ _ _ _ => (pe_op op_add pe_int (pe_op op_mul (pv 4) (pe_op op_add (pv 3) pe_int)))))
      (pss_cons (ps_if (pt_cmpR (op_neT (α := List Int) (K := K) (hu_of hr)) (pe_call G_least_nodes (hr.mono (by decide)) (by rfl) T.g_least_nodes T.F_least_nodes.kp T.b_least_nodes .nil passL (pa_cons (pv 5) pa_nil)) (pv 6) (nomark _)) (pss_one (ps_ret pe_bl)) pss_nil)
      (pss_cons (ps_set (i := 7) sc_law_long_right.nd rfl (.inl rfl) (pe_call G_apart (hr.mono (by decide)) (by rfl) T.g_apart T.F_apart.kp T.b_apart .nil passL (pa_cons (pv 5) pa_nil)))
      (pss_one (ps_ret (pe_and (pe_cmpR op_eq (pe_callB (call_len (K := K)) (by rfl) T.n_len (by decide +kernel) (pa_cons (pv 7) pa_nil)) (pe_callB (call_len (K := K)) (by rfl) T.n_len (by decide +kernel) (pa_cons (pv 6) pa_nil)) (nomark _)) (pe_one (pe_call G_law_are_apart (hr.mono (by decide)) (by rfl) T.g_law_are_apart T.F_law_are_apart.kp T.b_law_are_apart .nil pass0 (pa_cons (pv 5) (pa_cons (pv 7) pa_nil))))))))))))))), ?_⟩
    obtain ⟨xs0, hps0⟩ := hp.at_
    -- many
    refine ⟨_, rfl, ?_⟩
    refine ⟨p, 14, n, rfl, hp, by omega, by omega, by omega, fun r o r0 r1 hp1 => ⟨_, _, rfl, rfl, ?_⟩⟩
    have sb1 : SameBut p H (upd H p o) := SameBut.at_
    generalize upd H p o = H1 at sb1 hp1 ⊢
    obtain ⟨m, hm⟩ : ∃ m : Nat, (1 + r) = (m : Int) := ⟨(1 + r).toNat, by omega⟩
    dsimp only
    rw [hm]
    have hm1 : 1 ≤ m := by omega
    have hm2 : m ≤ 14 := by omega
    obtain ⟨xs1, hps1⟩ := hp1.at_
    -- the chain
    refine ⟨_, rfl, _, rfl, (m : Int), rfl, by omega, by omega, fun D hD => ?_⟩
    refine lc_range (lo := 0) (n := m) (fun i H' => GrowO objP H1 D ((M40.chainP m).take i) H') (growO0 hD) ?_ ?_
    · intro i H2 hi g
      refine ⟨rfl, ?_⟩
      refine ⟨_, rfl, _, _, rfl, rfl, .inl ⟨by decide, by decide⟩, _, _, rfl, rfl, _, rfl, _, _, rfl, rfl, .inl ⟨by decide, by decide⟩, _, _, rfl, rfl, by show 2 ≤ sizeLine; decide, fun t nt => ?_⟩
      have hst := growO_step (q := (2 * (0 + (i : Int)) + 1, 2 * (0 + (i : Int)) + 3)) g hD (Same.refl _) (by rw [List.length_take]; omega) t nt
      rw [← take_snoc (show (M40.chainP m)[i]? = some _ from range_take_at hi)] at hst
      exact hst
    intro H2 g
    have el : m = (M40.chainP m).length := by unfold M40.chainP; rw [List.length_map, List.length_range]
    rw [show (M40.chainP m).take m = M40.chainP m by rw [List.take_of_length_le (by omega)]] at g
    obtain ⟨s2, as, hd2, hpr2, _⟩ := g
    have hp2 := hp1.keeps s2.keeps
    have hal : (as.map V.ref).length = m := by rw [List.length_map, paired_len hpr2, ← el]
    refine ⟨p, D, _, _, rfl, hp2, sq_lst hd2, by omega, by omega, fun H3 l ys sb3 hp3 nl pm hl3 => ?_⟩
    obtain ⟨as3, ps3, hl3', hpr3, pm3⟩ := mixed_pairs (H2 := H2) (D := D) hpr2 hp2 sb3 pm hl3
    have g3 : M40.Good ps3 := (M40.chain_good m).perm pm3.symm
    have en3 : M40.nodes ps3 = M40.chainN m := M40.nodes_is g3 ((M40.chain_cert m).perm pm3.symm)
    have el3 : ps3.length = m := by rw [pm3.length_eq, ← el]
    have ea3 : M40.apartOf ps3 = (List.range m).map fun k : Nat => (k : Int) := by
      have h := M40.apart_all g3 (by rw [en3, el3]; unfold M40.chainN; rw [List.length_map, List.length_range])
      rw [el3] at h
      exact h
    have ha3 : (as3.map V.ref).length ≤ 1000 := by rw [List.length_map, paired_len hpr3, el3]; omega
    -- the first test
    refine ⟨_, rfl, ?_⟩
    refine ⟨_, rfl, .inr (.inl ⟨l, _, ps3, rfl, sq_lst hl3', ha3, paired_chgG hpr3 (Same.refl _) g3, fun H4 tl s4 ntl htl => ?_⟩)⟩
    refine ⟨_, rfl, (m : Int), rfl, by omega, by omega, fun D4 hD4 => ?_⟩
    refine lc_range (lo := 0) (n := m) (PvV H4 ((M40.chainN m).map V.int) D4) (vals0 hD4) ?_ ?_
    · intro i H5 hi pv
      refine ⟨rfl, ?_⟩
      refine ⟨_, rfl, _, _, rfl, rfl, .inl ⟨by decide, by decide⟩, _, _, rfl, rfl, ?_⟩
      refine vals_step pv hD4 (Same.refl _) (at_map (show (M40.chainN m)[i]? = some _ from range_take_at hi)) ?_
      unfold M40.chainN
      rw [List.length_map, List.length_map, List.length_range]
      omega
    intro H5 pv
    obtain ⟨s5, hd5⟩ := valsE pv (by unfold M40.chainN; rw [List.length_map, List.length_map, List.length_range])
    rw [en3] at htl
    refine ⟨_, _, hasD_ints (sqL_of (s5 _ _ htl)), hasD_ints (sqL_of hd5), _, rfl, ?_⟩
    refine iteNS rfl ?_
    have s35 := s4.trans s5
    refine ⟨_, rfl, ?_⟩
    refine ⟨_, rfl, .inr (.inl ⟨l, _, ps3, rfl, sq_lst (s35 _ _ hl3'), ha3, paired_chgG hpr3 s35 g3, fun H6 e6 s6 ne6 he6 => ?_⟩)⟩
    refine ⟨_, rfl, _, rfl, RgOk.of_le (by omega) (by omega) (by omega) (by omega), fun q7 nq7 => ?_⟩
    have erg : rgV 0 (m : Int) = ((List.range m).map fun k : Nat => (k : Int)).map V.int := by
      unfold rgV
      rw [List.map_map, show ((m : Int) - 0).toNat = m by omega]
      refine List.map_congr_left fun k _ => ?_
      show V.int (0 + (k : Int)) = V.int (k : Int)
      rw [Int.zero_add]
    rw [erg]
    rw [ea3] at he6
    have s7 : Same H6 (upd H6 q7 (.lst (((List.range m).map fun k : Nat => (k : Int)).map V.int))) := same_new nq7
    refine ⟨_, _, hasD_ints (sqL_of (s7 _ _ he6)), hasD_ints (sqL_of upd_same), _, rfl, ?_⟩
    refine iteNS rfl ?_
    -- wide
    have s37 := (s35.trans s6).trans s7
    generalize upd H6 q7 (.lst (((List.range m).map fun k : Nat => (k : Int)).map V.int)) = H7 at s7 s37 ⊢
    have hp7 := hp3.keeps s37.keeps
    refine ⟨_, rfl, ?_⟩
    refine ⟨p, 8, _, rfl, hp7, by omega, by omega, by omega, fun wd o8 w0 w1 hp8 => ⟨_, _, rfl, rfl, ?_⟩⟩
    have sb8 : SameBut p H7 (upd H7 p o8) := SameBut.at_
    generalize upd H7 p o8 = H8 at sb8 hp8 ⊢
    -- some
    refine ⟨_, rfl, _, rfl, (m : Int), rfl, by omega, by omega, fun D8 hD8 => ?_⟩
    refine lc_range (lo := 0) (n := m) (fun i H' => GrowO objP H8 D8 ((M40.wideP m (1 + wd)).take i) H') (growO0 hD8) ?_ ?_
    · intro i H9 hi g
      refine ⟨rfl, ?_⟩
      refine ⟨_, rfl, _, _, rfl, rfl, _, rfl, _, _, rfl, rfl, _, rfl, _, _, rfl, rfl, by show 2 ≤ sizeLine; decide, fun t nt => ?_⟩
      have hst := growO_step (q := (0 + (i : Int) + 1, 0 + (i : Int) + 1 + (1 + wd))) g hD8 (Same.refl _) (by rw [List.length_take]; omega) t nt
      rw [← take_snoc (show (M40.wideP m (1 + wd))[i]? = some _ from range_take_at hi)] at hst
      exact hst
    intro H9 g
    have elw : m = (M40.wideP m (1 + wd)).length := by unfold M40.wideP; rw [List.length_map, List.length_range]
    rw [show (M40.wideP m (1 + wd)).take m = M40.wideP m (1 + wd) by rw [List.take_of_length_le (by omega)]] at g
    obtain ⟨s9, as9, hd9, hpr9, _⟩ := g
    have hp9 := hp8.keeps s9.keeps
    have hal9 : (as9.map V.ref).length = m := by rw [List.length_map, paired_len hpr9, ← elw]
    refine ⟨p, D8, _, _, rfl, hp9, sq_lst hd9, by omega, by omega, fun H10 l10 ys10 sb10 hp10 nl10 pm10 hl10 => ?_⟩
    obtain ⟨as10, ps10, hl10', hpr10, pm10'⟩ := mixed_pairs (H2 := H9) (D := D8) hpr9 hp9 sb10 pm10 hl10
    have g10 : M40.Good ps10 := (M40.wide_good m (by omega)).perm pm10'.symm
    have en10 : M40.nodes ps10 = M40.wideN (((m : Int) + (1 + wd) - 1) / (1 + wd)).toNat (1 + wd) := M40.nodes_is g10 ((M40.wide_cert m (by omega) (by omega)).perm pm10'.symm)
    have el10 : ps10.length = m := by rw [pm10'.length_eq, ← elw]
    have ha10 : (as10.map V.ref).length ≤ 1000 := by rw [List.length_map, paired_len hpr10, el10]; omega
    -- due
    have hdiv : ((m : Int) + (1 + wd) - 1).fdiv (1 + wd) = ((m : Int) + (1 + wd) - 1) / (1 + wd) := Int.fdiv_eq_ediv_of_nonneg _ (by omega)
    obtain ⟨t, ht⟩ : ∃ t : Nat, ((m : Int) + (1 + wd) - 1) / (1 + wd) = (t : Int) := ⟨(((m : Int) + (1 + wd) - 1) / (1 + wd)).toNat, by
      have : 0 ≤ ((m : Int) + (1 + wd) - 1) / (1 + wd) := Int.ediv_nonneg (by omega) (by omega)
      omega⟩
    have ht2 : t ≤ 22 := by
      have : ((m : Int) + (1 + wd) - 1) / (1 + wd) ≤ (m : Int) + (1 + wd) - 1 := Int.ediv_le_self _ (by omega)
      omega
    rw [ht, Int.toNat_natCast] at en10
    refine ⟨_, rfl, _, rfl, _, _, rfl, rfl, _, _, rfl, rfl, _, rfl, _, _, rfl, rfl, ⟨by omega, by omega⟩, (t : Int), ?_, by omega, by omega, fun D11 hD11 => ?_⟩
    · show [V.int (((m : Int) + (1 + wd) - 1).fdiv (1 + wd))] = [V.int (t : Int)]
      rw [hdiv, ht]
    refine lc_range (lo := 0) (n := t) (PvV H10 ((M40.wideN t (1 + wd)).map V.int) D11) (vals0 hD11) ?_ ?_
    · intro i H11 hi pv
      refine ⟨rfl, ?_⟩
      refine ⟨_, rfl, _, rfl, _, _, rfl, rfl, _, _, rfl, rfl, .inl ⟨by omega, by omega⟩, _, _, rfl, rfl, ?_⟩
      refine vals_step pv hD11 (Same.refl _) (at_map (show (M40.wideN t (1 + wd))[i]? = some _ from range_take_at hi)) ?_
      unfold M40.wideN
      rw [List.length_map, List.length_map, List.length_range]
      omega
    intro H11 pv
    obtain ⟨s11, hd11⟩ := valsE pv (by unfold M40.wideN; rw [List.length_map, List.length_map, List.length_range])
    -- the second test
    refine ⟨_, rfl, ?_⟩
    refine ⟨_, rfl, .inr (.inl ⟨l10, _, ps10, rfl, sq_lst (s11 _ _ hl10'), ha10, paired_chgG hpr10 s11 g10, fun H12 e12 s12 ne12 he12 => ?_⟩)⟩
    rw [en10] at he12
    refine ⟨_, rfl, _, _, hasD_ints (sqL_of he12), hasD_ints (sqL_of (s12 _ _ hd11)), _, rfl, ?_⟩
    refine iteNS rfl ?_
    have s1012 := s11.trans s12
    refine ⟨_, rfl, ?_⟩
    refine ⟨_, rfl, .inr (.inl ⟨l10, _, ps10, rfl, sq_lst (s1012 _ _ hl10'), ha10, paired_chgG hpr10 s1012 g10, fun H13 e13 s13 ne13 he13 => ?_⟩)⟩
    have s1013 := s1012.trans s13
    have hlen13 : ((M40.apartOf ps10).map V.int).length = ((M40.wideN t (1 + wd)).map V.int).length := by
      rw [List.length_map, List.length_map, M40.apart_len, en10]
    refine ⟨_, rfl, _, _, rfl, .inl (sqL_of he13), _, rfl, _, _, rfl, .inl (sqL_of (s13 _ _ (s12 _ _ hd11))), rfl, _, rfl, ?_⟩
    rw [hlen13, decide_eq_true rfl]
    refine ⟨_, rfl, _, rfl, ?_⟩
    refine ⟨l10, e13, ps10, rfl, ⟨as10, s1013 _ _ hl10', paired_mono (fun a y h => s1013 _ _ h) hpr10⟩, g10, by omega, he13, fun H14 s14 => ?_⟩
    exact q H14 (((((((sb1.trans s2.but).trans sb3).trans s37.but).trans sb8).trans s9.but).trans sb10).trans (s1013.trans s14).but) ((hp10.keeps (s1013.trans s14).keeps).mono (by omega))
end
end Lk
namespace Lk
open PySem PySem.Spec PyProof.Rows L2
section
variable {P : Program} {w : World} {K : PySem.W.Frag} {mg : Str → Option Value} {base : Heap} {ad ai : Nat → Addr} {fd : Nat → FuncData}
theorem pe_fun {X : Cx} {x : Str} {f : Addr} {pos : Pos} (hg : Gl X x) (hm : X.mg x = some (.ref f)) (hd : (x == ("__debug__" : Str)) = false := by decide) : PE X (.Name x pos) (tC (.ref f)) := pe_glob (v := .ref f) hg hm rfl hd
/-! ### what is no change -/
def NoPosV (x : V) : Prop := x = .non ∨ (∃ b, x = .bl b) ∨ (∃ z, x = .str z) ∨ ∃ i, x = .int i ∧ i < 1
def OddT (xs : List V) : Prop := xs.length ≠ 2 ∨ (∃ x y, xs = [x, y] ∧ NoPosV x) ∨ (∃ i y, xs = [.int i, y] ∧ 1 ≤ i ∧ NoPosV y) ∨ ∃ i j : Int, xs = [.int i, .int j] ∧ 1 ≤ i ∧ 1 ≤ j ∧ j ≤ i
def FlatV (v : V) : Prop := v = .non ∨ (∃ i, v = .int i) ∨ (∃ z, v = .str z) ∨ ∃ b, v = .bl b
def OddAt (H : Hp) (v : V) : Prop := FlatV v ∨ (∃ t xs, v = .ref t ∧ H t = some (.tup xs) ∧ OddT xs) ∨ ∃ d kvs, v = .ref d ∧ H d = some (.dK kvs)
theorem NoPosV.no {H : Hp} {x : V} (h : NoPosV x) : NoPos K H x := by
  rcases h with rfl | ⟨b, rfl⟩ | ⟨z, rfl⟩ | h
  · exact .inl ⟨.non, hasTy_non, by decide⟩
  · exact .inl ⟨.bl, hasTy_bl, by decide⟩
  · exact .inl ⟨.str, hasTy_str, by decide⟩
  · exact .inr h
theorem FlatV.ty {H : Hp} {v : V} (h : FlatV v) : ∃ t, HasTy K H v t ∧ t.seq = false := by
  rcases h with rfl | ⟨i, rfl⟩ | ⟨z, rfl⟩ | ⟨b, rfl⟩
  · exact ⟨.non, hasTy_non, rfl⟩
  · exact ⟨.int, hasTy_int, rfl⟩
  · exact ⟨.str, hasTy_str, rfl⟩
  · exact ⟨.bl, hasTy_bl, rfl⟩
theorem OddAt.odd {H : Hp} {v : V} (h : OddAt H v) : Odd K H v := by
  rcases h with h | ⟨t, xs, rfl, ht, hx⟩ | ⟨d, kvs, rfl, hd⟩
  · obtain ⟨t, h1, h2⟩ := h.ty (K := K) (H := H)
    exact .ty h1 h2
  · rcases hx with h | ⟨x, y, rfl, h⟩ | ⟨i, y, rfl, h1, h⟩ | ⟨i, j, rfl, h1, h2, h3⟩
    · exact .len (sq_tup ht) h
    · exact .fst (sq_tup ht) h.no
    · exact .snd (sq_tup ht) h1 h.no
    · exact .ord (sq_tup ht) h1 h2 h3
  · exact .ty (t := .dct) (hasTy_dct hd) rfl
theorem OddAt.sb {H H' : Hp} {p : Addr} {xs : List V} {v : V} (e : SameBut p H H') (hp : H p = some (.lst xs)) (h : OddAt H v) : OddAt H' v := by
  rcases h with h | ⟨t, ys, rfl, ht, hx⟩ | ⟨d, kvs, rfl, hd⟩
  · exact .inl h
  · exact .inr (.inl ⟨t, ys, rfl, e _ _ (ne_of ht hp (by intro z; cases z)) ht, hx⟩)
  · exact .inr (.inr ⟨d, kvs, rfl, e _ _ (ne_of hd hp (by intro z; cases z)) hd⟩)
theorem OddAt.same {H H' : Hp} {v : V} (e : Same H H') (h : OddAt H v) : OddAt H' v := by
  rcases h with h | ⟨t, ys, rfl, ht, hx⟩ | ⟨d, kvs, rfl, hd⟩
  · exact .inl h
  · exact .inr (.inl ⟨t, ys, rfl, e _ _ ht, hx⟩)
  · exact .inr (.inr ⟨d, kvs, rfl, e _ _ hd⟩)
/-- the promises of the two that are asked -/
def Sask (K : PySem.W.Frag) (ad : Nat → Addr) (f : Addr) : Option Sp := if f = ad 11 then some (sp_ask K (ad 7) M40.nodes) else if f = ad 12 then some (sp_ask K (ad 7) M40.apartOf) else none
theorem sask_of {f : Addr} (h : f = ad 11 ∨ f = ad 12) : ∃ F, Sask K ad f = some (sp_ask K (ad 7) F) := by
  unfold Sask
  by_cases c : f = ad 11
  · exact ⟨_, if_pos c⟩
  · rw [if_neg c]
    rcases h with h | h
    · exact absurd h c
    · exact ⟨_, if_pos h⟩
theorem sask_held (T : Txt K mg ad ai fd) : ∀ f sp, Sask K ad f = some sp → HeldX P w K mg base 5 f sp := by
  intro f sp h
  unfold Sask at h
  by_cases c : f = ad 11
  · rw [if_pos c] at h
    cases h
    subst c
    exact ⟨_, _, ok_least T, T.F_least_nodes.kp, T.b_least_nodes⟩
  · rw [if_neg c] at h
    by_cases c2 : f = ad 12
    · rw [if_pos c2] at h
      cases h
      subst c2
      exact ⟨_, _, ok_apart T, T.F_apart.kp, T.b_apart⟩
    · rw [if_neg c2] at h
      cases h
theorem ok_refused_right (T : Txt K mg ad ai fd) : FnOk P w K mg base CX0 6 (ad 26) (fd 26) ["_law_spring_here"] sp_right := by
  have G_law_drawn : FnOk P w K mg base CX0 3 (ad 20) (fd 20) ["_law_spring_here", "_law_most", "_law_greatest"] sp_drawn := ok_drawn T
  have G_law_shown : FnOk P w K mg base CX0 2 (ad 19) (fd 19) ["_law_spring_here", "_law_things"] (sp_shown K) := ok_shown T
  have G_least_nodes : FnOk P w K mg base (L2.CX P w) 5 (ad 11) (fd 11) ["changes"] (sp_ask K (ad 7) M40.nodes) := ok_least T
  have G_apart : FnOk P w K mg base (L2.CX P w) 5 (ad 12) (fd 12) ["changes"] (sp_ask K (ad 7) M40.apartOf) := ok_apart T
  have G_law_same : FnOk P w K mg base CX0 1 (ad 18) (fd 18) ["_law_found", "_law_due"] sp_same_int := ok_same_int T
  have hS_law_ask : ∀ f sp, Sask K ad f = some sp → HeldX P w K mg base 5 f sp := sask_held T
  let S_law_ask := Sask K ad
  refine T.F_law_refused_right.ok sc_law_refused_right (fun vs H Q E h => ?_) (fun cdv A outer s H vs Q E hr h => ?_)
  · obtain ⟨p, n, rfl, _⟩ := h
    rfl
  · obtain ⟨p, n, rfl, hp, hn, q⟩ := h
    refine ⟨_, (pss_cons (ps_set (i := 1) sc_law_refused_right.nd rfl (.inl rfl) (pe_call G_law_drawn (hr.mono (by decide)) (by rfl) T.g_law_drawn T.F_law_drawn.kp T.b_law_drawn .nil pass0 (pa_cons (pv 0) (pa_cons pe_int (pa_cons pe_int pa_nil)))))
      (pss_cons (ps_set (i := 2) sc_law_refused_right.nd rfl (.inl rfl) (pe_lst (pa_cons pe_non (pa_cons pe_int (pa_cons pe_str (pa_cons (pe_tup pa_nil) (pa_cons (pe_tup (pa_cons pe_int pa_nil)) (pa_cons (pe_tup (pa_cons pe_int (pa_cons pe_int (pa_cons pe_int pa_nil)))) (pa_cons (pe_tup (pa_cons pe_int (pa_cons pe_int pa_nil))) (pa_cons (pe_tup (pa_cons pe_int (pa_cons pe_int pa_nil))) (pa_cons (pe_tup (pa_cons pe_int (pa_cons pe_int pa_nil))) (pa_cons (pe_tup (pa_cons (pe_un un_neg pe_int) (pa_cons pe_int pa_nil))) (pa_cons (pe_tup (pa_cons pe_bl (pa_cons pe_int pa_nil))) (pa_cons (pe_tup (pa_cons pe_int (pa_cons pe_non pa_nil))) (pa_cons (pe_tup (pa_cons pe_str (pa_cons pe_int pa_nil))) (pa_cons pe_dnewK pa_nil))))))))))))))))
      (pss_cons (ps_for PassesOwn.never rfl (pi_seq (K := K) (pv 2)) (pg_name (i := 3) sc_law_refused_right.nd rfl (.inl rfl))
          (pss_one (ps_for PassesOwn.never rfl (pi_seq (K := K) (pe_tup (pa_cons (pe_fun (by rfl) T.g_least_nodes) (pa_cons (pe_fun (by rfl) T.g_apart) pa_nil)))) (pg_name (i := 4) sc_law_refused_right.nd rfl (.inl rfl))
            (pss_cons (ps_set (i := 5) sc_law_refused_right.nd rfl (.inl rfl) pe_non)
            (pss_cons (ps_try_as (i := 6) rfl rfl sc_law_refused_right.nd rfl rfl ⟨rfl, by decide, .inl T.g_BadChange⟩ takes0 (fun W pn xe tk _ => (pss_one (ps_expr (pe_callLS (i := 4) (S := S_law_ask) hS_law_ask (hr.mono (by decide)) rfl (.inl rfl) (fun σ => passAt tk σ) (pa_cons (pe_call G_law_shown (hr.mono (by decide)) (by rfl) T.g_law_shown T.F_law_shown.kp T.b_law_shown .nil pass0 (pa_cons (pv 0) (pa_cons (pe_op op_cat (pv 1) (pe_lst (pa_cons (pv 3) (pa_cons pe_non pa_nil)))) pa_nil))) pa_nil))))) (fun a oe cls d pn hz hf => (pss_one (ps_set (i := 5) sc_law_refused_right.nd rfl (.inl rfl) (pe_xf T.e_BadChange.xf T.e_BadChange.no hz hf (pv 6))))))
            (pss_one (ps_if (pt_not (pt_val (pe_call G_law_same (hr.mono (by decide)) (by rfl) T.g_law_same T.F_law_same.kp T.b_law_same .nil pass0 (pa_cons (pv 5) (pa_cons (pe_callB (call_len (K := K)) (by rfl) T.n_len (by decide +kernel) (pa_cons (pv 1) pa_nil)) pa_nil))))) (pss_one (ps_ret pe_bl)) pss_nil)))))))
      (pss_cons (ps_for PassesOwn.never rfl (pi_seq (K := K) (pe_tup (pa_cons pe_non (pa_cons pe_int (pa_cons pe_str (pa_cons pe_dnewK (pa_cons pe_bl pa_nil))))))) (pg_name (i := 7) sc_law_refused_right.nd rfl (.inl rfl))
          (pss_one (ps_for PassesOwn.never rfl (pi_seq (K := K) (pe_tup (pa_cons (pe_fun (by rfl) T.g_least_nodes) (pa_cons (pe_fun (by rfl) T.g_apart) pa_nil)))) (pg_name (i := 4) sc_law_refused_right.nd rfl (.inl rfl))
            (pss_cons (ps_set (i := 5) sc_law_refused_right.nd rfl (.inl rfl) pe_non)
            (pss_cons (ps_try_as (i := 6) rfl rfl sc_law_refused_right.nd rfl rfl ⟨rfl, by decide, .inl T.g_BadChange⟩ takes0 (fun W pn xe tk _ => (pss_one (ps_expr (pe_callLS (i := 4) (S := S_law_ask) hS_law_ask (hr.mono (by decide)) rfl (.inl rfl) (fun σ => passAt tk σ) (pa_cons (pv 7) pa_nil))))) (fun a oe cls d pn hz hf => (pss_one (ps_set (i := 5) sc_law_refused_right.nd rfl (.inl rfl) (pe_xf T.e_BadChange.xf T.e_BadChange.no hz hf (pv 6))))))
            (pss_one (ps_if (pt_not (pt_val (pe_call G_law_same (hr.mono (by decide)) (by rfl) T.g_law_same T.F_law_same.kp T.b_law_same .nil pass0 (pa_cons (pv 5) (pa_cons pe_int pa_nil))))) (pss_one (ps_ret pe_bl)) pss_nil)))))))
      (pss_one (ps_ret (pe_and (pe_cmpR (op_eqT (α := List Int) (K := K) (hu_of hr)) (pe_call G_least_nodes (hr.mono (by decide)) (by rfl) T.g_least_nodes T.F_least_nodes.kp T.b_least_nodes .nil passL (pa_cons (pe_lst pa_nil) pa_nil)) (pe_lst pa_nil) (nomark _)) (pe_one (pe_cmpR (op_eqT (α := List Int) (K := K) (hu_of hr)) (pe_call G_apart (hr.mono (by decide)) (by rfl) T.g_apart T.F_apart.kp T.b_apart .nil passL (pa_cons (pe_tup pa_nil) pa_nil)) (pe_lst pa_nil) (nomark _)))))))))), ?_⟩
    obtain ⟨xs0, hps0⟩ := hp.at_
    refine ⟨_, rfl, ?_⟩
    refine ⟨p, 3, n, rfl, hp, by decide, by decide, by omega, fun H1 rl ps sb1 hp1 nrl hpa hlen hin => ?_⟩
    have rlp : rl ≠ p := fun e => by
      rw [e, hps0] at nrl
      cases nrl
    obtain ⟨as, hrl, hpr⟩ := hpa
    have g := InEight.good hin
    -- odds
    have sA : Same H1 H1 := Same.refl _
    refine ⟨by show 0 ≤ sizeLine; decide, fun t1 nt1 => ?_⟩
    have ct1 : Same H1 (upd H1 t1 (.tup [])) := same_new nt1
    have ht1 : upd H1 t1 (.tup []) t1 = some (.tup []) := upd_same
    try dsimp only
    generalize upd H1 t1 (.tup []) = J1 at ct1 ht1 ⊢
    replace sA := sA.trans ct1
    refine ⟨by show 1 ≤ sizeLine; decide, fun t2 nt2 => ?_⟩
    have ct2 : Same J1 (upd J1 t2 (.tup [.int 1])) := same_new nt2
    have ht2 : upd J1 t2 (.tup [.int 1]) t2 = some (.tup [.int 1]) := upd_same
    try dsimp only
    generalize upd J1 t2 (.tup [.int 1]) = J2 at ct2 ht2 ⊢
    replace ht1 := ct2 _ _ ht1
    replace sA := sA.trans ct2
    refine ⟨by show 3 ≤ sizeLine; decide, fun t3 nt3 => ?_⟩
    have ct3 : Same J2 (upd J2 t3 (.tup [.int 1, .int 2, .int 3])) := same_new nt3
    have ht3 : upd J2 t3 (.tup [.int 1, .int 2, .int 3]) t3 = some (.tup [.int 1, .int 2, .int 3]) := upd_same
    try dsimp only
    generalize upd J2 t3 (.tup [.int 1, .int 2, .int 3]) = J3 at ct3 ht3 ⊢
    replace ht1 := ct3 _ _ ht1
    replace ht2 := ct3 _ _ ht2
    replace sA := sA.trans ct3
    refine ⟨by show 2 ≤ sizeLine; decide, fun t4 nt4 => ?_⟩
    have ct4 : Same J3 (upd J3 t4 (.tup [.int 2, .int 2])) := same_new nt4
    have ht4 : upd J3 t4 (.tup [.int 2, .int 2]) t4 = some (.tup [.int 2, .int 2]) := upd_same
    try dsimp only
    generalize upd J3 t4 (.tup [.int 2, .int 2]) = J4 at ct4 ht4 ⊢
    replace ht1 := ct4 _ _ ht1
    replace ht2 := ct4 _ _ ht2
    replace ht3 := ct4 _ _ ht3
    replace sA := sA.trans ct4
    refine ⟨by show 2 ≤ sizeLine; decide, fun t5 nt5 => ?_⟩
    have ct5 : Same J4 (upd J4 t5 (.tup [.int 3, .int 1])) := same_new nt5
    have ht5 : upd J4 t5 (.tup [.int 3, .int 1]) t5 = some (.tup [.int 3, .int 1]) := upd_same
    try dsimp only
    generalize upd J4 t5 (.tup [.int 3, .int 1]) = J5 at ct5 ht5 ⊢
    replace ht1 := ct5 _ _ ht1
    replace ht2 := ct5 _ _ ht2
    replace ht3 := ct5 _ _ ht3
    replace ht4 := ct5 _ _ ht4
    replace sA := sA.trans ct5
    refine ⟨by show 2 ≤ sizeLine; decide, fun t6 nt6 => ?_⟩
    have ct6 : Same J5 (upd J5 t6 (.tup [.int 0, .int 1])) := same_new nt6
    have ht6 : upd J5 t6 (.tup [.int 0, .int 1]) t6 = some (.tup [.int 0, .int 1]) := upd_same
    try dsimp only
    generalize upd J5 t6 (.tup [.int 0, .int 1]) = J6 at ct6 ht6 ⊢
    replace ht1 := ct6 _ _ ht1
    replace ht2 := ct6 _ _ ht2
    replace ht3 := ct6 _ _ ht3
    replace ht4 := ct6 _ _ ht4
    replace ht5 := ct6 _ _ ht5
    replace sA := sA.trans ct6
    refine ⟨_, rfl, by show 2 ≤ sizeLine; decide, fun t7 nt7 => ?_⟩
    have ct7 : Same J6 (upd J6 t7 (.tup [.int (-1), .int 4])) := same_new nt7
    have ht7 : upd J6 t7 (.tup [.int (-1), .int 4]) t7 = some (.tup [.int (-1), .int 4]) := upd_same
    dsimp only
    generalize upd J6 t7 (.tup [.int (-1), .int 4]) = J7 at ct7 ht7 ⊢
    replace ht1 := ct7 _ _ ht1
    replace ht2 := ct7 _ _ ht2
    replace ht3 := ct7 _ _ ht3
    replace ht4 := ct7 _ _ ht4
    replace ht5 := ct7 _ _ ht5
    replace ht6 := ct7 _ _ ht6
    replace sA := sA.trans ct7
    refine ⟨by show 2 ≤ sizeLine; decide, fun t8 nt8 => ?_⟩
    have ct8 : Same J7 (upd J7 t8 (.tup [.bl true, .int 2])) := same_new nt8
    have ht8 : upd J7 t8 (.tup [.bl true, .int 2]) t8 = some (.tup [.bl true, .int 2]) := upd_same
    try dsimp only
    generalize upd J7 t8 (.tup [.bl true, .int 2]) = J8 at ct8 ht8 ⊢
    replace ht1 := ct8 _ _ ht1
    replace ht2 := ct8 _ _ ht2
    replace ht3 := ct8 _ _ ht3
    replace ht4 := ct8 _ _ ht4
    replace ht5 := ct8 _ _ ht5
    replace ht6 := ct8 _ _ ht6
    replace ht7 := ct8 _ _ ht7
    replace sA := sA.trans ct8
    refine ⟨by show 2 ≤ sizeLine; decide, fun t9 nt9 => ?_⟩
    have ct9 : Same J8 (upd J8 t9 (.tup [.int 1, .non])) := same_new nt9
    have ht9 : upd J8 t9 (.tup [.int 1, .non]) t9 = some (.tup [.int 1, .non]) := upd_same
    try dsimp only
    generalize upd J8 t9 (.tup [.int 1, .non]) = J9 at ct9 ht9 ⊢
    replace ht1 := ct9 _ _ ht1
    replace ht2 := ct9 _ _ ht2
    replace ht3 := ct9 _ _ ht3
    replace ht4 := ct9 _ _ ht4
    replace ht5 := ct9 _ _ ht5
    replace ht6 := ct9 _ _ ht6
    replace ht7 := ct9 _ _ ht7
    replace ht8 := ct9 _ _ ht8
    replace sA := sA.trans ct9
    refine ⟨by show 2 ≤ sizeLine; decide, fun t10 nt10 => ?_⟩
    have ct10 : Same J9 (upd J9 t10 (.tup [.str "1", .int 2])) := same_new nt10
    have ht10 : upd J9 t10 (.tup [.str "1", .int 2]) t10 = some (.tup [.str "1", .int 2]) := upd_same
    try dsimp only
    generalize upd J9 t10 (.tup [.str "1", .int 2]) = J10 at ct10 ht10 ⊢
    replace ht1 := ct10 _ _ ht1
    replace ht2 := ct10 _ _ ht2
    replace ht3 := ct10 _ _ ht3
    replace ht4 := ct10 _ _ ht4
    replace ht5 := ct10 _ _ ht5
    replace ht6 := ct10 _ _ ht6
    replace ht7 := ct10 _ _ ht7
    replace ht8 := ct10 _ _ ht8
    replace ht9 := ct10 _ _ ht9
    replace sA := sA.trans ct10
    intro d nd
    have cd : Same J10 (upd J10 d (.dK [])) := same_new nd
    have hd : upd J10 d (.dK []) d = some (.dK []) := upd_same
    generalize upd J10 d (.dK []) = J11 at cd hd ⊢
    replace ht1 := cd _ _ ht1
    replace ht2 := cd _ _ ht2
    replace ht3 := cd _ _ ht3
    replace ht4 := cd _ _ ht4
    replace ht5 := cd _ _ ht5
    replace ht6 := cd _ _ ht6
    replace ht7 := cd _ _ ht7
    replace ht8 := cd _ _ ht8
    replace ht9 := cd _ _ ht9
    replace ht10 := cd _ _ ht10
    replace sA := sA.trans cd
    refine ⟨by show 14 ≤ sizeLine; decide, fun ol nol => ?_⟩
    obtain ⟨ods, hods⟩ : ∃ ods : List V, ods = [.non, .int 5, .str "ab", .ref t1, .ref t2, .ref t3, .ref t4, .ref t5, .ref t6, .ref t7, .ref t8, .ref t9, .ref t10, .ref d] := ⟨_, rfl⟩
    have hodd : ∀ v ∈ ods, OddAt J11 v := by
      intro v hv
      rw [hods] at hv
      simp only [List.mem_cons, List.not_mem_nil, or_false] at hv
      rcases hv with rfl | rfl | rfl | rfl | rfl | rfl | rfl | rfl | rfl | rfl | rfl | rfl | rfl | rfl
      · exact .inl (.inl rfl)
      · exact .inl (.inr (.inl ⟨_, rfl⟩))
      · exact .inl (.inr (.inr (.inl ⟨_, rfl⟩)))
      · exact .inr (.inl ⟨_, _, rfl, ht1, .inl (by decide)⟩)
      · exact .inr (.inl ⟨_, _, rfl, ht2, .inl (by show 1 ≠ 2; decide)⟩)
      · exact .inr (.inl ⟨_, _, rfl, ht3, .inl (by show 3 ≠ 2; decide)⟩)
      · exact .inr (.inl ⟨_, _, rfl, ht4, .inr (.inr (.inr ⟨_, _, rfl, by decide, by decide, by decide⟩))⟩)
      · exact .inr (.inl ⟨_, _, rfl, ht5, .inr (.inr (.inr ⟨_, _, rfl, by decide, by decide, by decide⟩))⟩)
      · exact .inr (.inl ⟨_, _, rfl, ht6, .inr (.inl ⟨_, _, rfl, .inr (.inr (.inr ⟨_, rfl, by decide⟩))⟩)⟩)
      · exact .inr (.inl ⟨_, _, rfl, ht7, .inr (.inl ⟨_, _, rfl, .inr (.inr (.inr ⟨_, rfl, by decide⟩))⟩)⟩)
      · exact .inr (.inl ⟨_, _, rfl, ht8, .inr (.inl ⟨_, _, rfl, .inr (.inl ⟨_, rfl⟩)⟩)⟩)
      · exact .inr (.inl ⟨_, _, rfl, ht9, .inr (.inr (.inl ⟨_, _, rfl, by decide, .inl rfl⟩))⟩)
      · exact .inr (.inl ⟨_, _, rfl, ht10, .inr (.inl ⟨_, _, rfl, .inr (.inr (.inl ⟨_, rfl⟩))⟩)⟩)
      · exact .inr (.inr ⟨_, _, rfl, hd⟩)
    have hol14 : ods.length = 14 := by rw [hods]; rfl
    rw [← hods]
    clear hods ht1 ht2 ht3 ht4 ht5 ht6 ht7 ht8 ht9 ht10
    have cO : Same J11 (upd J11 ol (.lst ods)) := same_new nol
    have hol : upd J11 ol (.lst ods) ol = some (.lst ods) := upd_same
    generalize upd J11 ol (.lst ods) = H2 at cO hol ⊢
    have s2 := sA.trans cO
    have hodd2 : ∀ v ∈ ods, OddAt H2 v := fun v hv => (hodd v hv).same cO
    have hp2 := hp1.keeps s2.keeps
    have hrl2 := s2 _ _ hrl
    have hpr2 : Paired (IsP H2) as ps := paired_mono (fun a y h => s2 _ _ h) hpr
    obtain ⟨xs2, hps2⟩ := hp2.at_
    have olp : ol ≠ p := fun e => by
      obtain ⟨xs1, hps1⟩ := hp1.at_
      rw [e, sA _ _ hps1] at nol
      cases nol
    have lens := paired_len hpr
    have hps : ps.length ≤ 6 := by omega
    -- for odd in odds
    refine ⟨_, rfl, for_seq (K := K) (sq_lst hol) (fun i σ H' => (∃ y3 y4 y5 y7, σ = [some (.ref p), some (.ref rl), some (.ref ol), y3, y4, y5, none, y7]) ∧ SameBut p H2 H' ∧ Pool H' p (n + 1000 + 2 * i)) ⟨⟨_, _, _, _, rfl⟩, SameBut.refl, hp2⟩ (fun i σ H' h => h.2.1.keeps olp) ?_ ?_⟩
    · rintro i v σ H3 hv ⟨⟨y3, y4, y5, y7, rfl⟩, sb3, hp3⟩
      have hi := (List.getElem?_eq_some_iff.mp hv).1
      have hodd3 : OddAt H3 v := (hodd2 v (List.mem_of_getElem? hv)).sb sb3 hps2
      obtain ⟨xs3, hps3⟩ := hp3.at_
      -- for ask in (least_nodes, apart)
      refine ⟨by show 2 ≤ sizeLine; decide, fun tf ntf => ?_⟩
      have s4 : Same H3 (upd H3 tf (.tup [.ref (ad 11), .ref (ad 12)])) := same_new ntf
      have htf : upd H3 tf (.tup [.ref (ad 11), .ref (ad 12)]) tf = some (.tup [.ref (ad 11), .ref (ad 12)]) := upd_same
      generalize upd H3 tf (.tup [.ref (ad 11), .ref (ad 12)]) = H4 at s4 htf ⊢
      have hp4 := hp3.keeps s4.keeps
      obtain ⟨xs4, hps4⟩ := hp4.at_
      have tfp : tf ≠ p := ne_of htf hps4 (by intro z; cases z)
      refine for_seq (K := K) (sq_tup htf) (fun j σ H' => (∃ y4 y5 y7, σ = [some (.ref p), some (.ref rl), some (.ref ol), some v, y4, y5, none, y7]) ∧ SameBut p H4 H' ∧ Pool H' p (n + 1000 + 2 * i + j)) ⟨⟨_, _, _, rfl⟩, SameBut.refl, hp4⟩ (fun j σ H' h => h.2.1.keeps tfp) ?_ ?_
      · rintro j f σ H5 hf ⟨⟨y4, y5, y7, rfl⟩, sb5, hp5⟩
        have hj : j < 2 := (List.getElem?_eq_some_iff.mp hf).1
        obtain ⟨fa, rfl, hfa⟩ : ∃ fa, f = .ref fa ∧ (fa = ad 11 ∨ fa = ad 12) := by
          have hm := List.mem_of_getElem? hf
          simp only [List.mem_cons, List.not_mem_nil, or_false] at hm
          rcases hm with e | e
          · exact ⟨_, e, .inl rfl⟩
          · exact ⟨_, e, .inr rfl⟩
        obtain ⟨F, hF⟩ := sask_of (K := K) hfa
        have sb25 : SameBut p H2 H5 := (sb3.trans s4.but).trans sb5
        have hrl5 := sb25 _ _ rlp hrl2
        have hodd5 : OddAt H5 v := (hodd2 v (List.mem_of_getElem? hv)).sb sb25 hps2
        have hpr5 : Paired (IsP H5) as ps := paired_mono (fun a y h => sb25 _ _ (ne_of h hps2 (by intro z; cases z)) h) hpr2
        -- the call
        refine ⟨fa, _, rfl, hF, ?_⟩
        refine ⟨_, rfl, _, rfl, _, rfl, by show 2 ≤ sizeLine; decide, fun c nc => ?_⟩
        have s6 : Same H5 (upd H5 c (.lst [v, .non])) := same_new nc
        have hc6 : upd H5 c (.lst [v, .non]) c = some (.lst [v, .non]) := upd_same
        generalize upd H5 c (.lst [v, .non]) = H6 at s6 hc6 ⊢
        refine ⟨rl, c, _, _, rfl, rfl, s6 _ _ hrl5, hc6, ?_, fun d7 nd7 => ?_⟩
        · rw [List.length_map, lens, sizeLine_eq]
          show ps.length + 2 ≤ _
          omega
        have s7 : Same H6 (upd H6 d7 (.lst (as.map V.ref ++ [v, .non]))) := same_new nd7
        have hd7 : upd H6 d7 (.lst (as.map V.ref ++ [v, .non])) d7 = some (.lst (as.map V.ref ++ [v, .non])) := upd_same
        dsimp only [tNil]
        generalize upd H6 d7 (.lst (as.map V.ref ++ [v, .non])) = H7 at s7 hd7 ⊢
        have s57 := s6.trans s7
        have hp7 := hp5.keeps s57.keeps
        obtain ⟨xs7, hps7⟩ := hp7.at_
        have d7p : d7 ≠ p := fun e => by
          have := s6 _ _ (hp5.at_.choose_spec)
          rw [e, this] at nd7
          cases nd7
        refine ⟨p, d7, _, _, rfl, hp7, by omega, sq_lst hd7, d7p, fun H8 l8 sb8 hp8 sq8 n8 _ => ?_⟩
        have sb58 : SameBut p H5 H8 := s57.but.trans sb8
        have hodd8 : OddAt H8 v := hodd5.sb sb58 (hp5.at_.choose_spec)
        have hpr8 : Paired (IsP H8) as ps := paired_mono (fun a y h => sb58 _ _ (ne_of h (hp5.at_.choose_spec) (by intro z; cases z)) h) hpr5
        refine ⟨_, rfl, .inr (.inr ⟨l8, _, as.length, v, rfl, sq8, ?_, ?_, hodd8.odd, ?_⟩)⟩
        · intro k x hk hx
          rw [List.getElem?_append_left (by rw [List.length_map]; exact hk)] at hx
          obtain ⟨a, ha, rfl⟩ := map_at hx
          obtain ⟨y, ey, hy⟩ := paired_get hpr8 ha
          exact ⟨y, ⟨a, rfl, sq_tup hy⟩, (g y (List.mem_of_getElem? ey)).1, (g y (List.mem_of_getElem? ey)).2⟩
        · rw [List.getElem?_append_right (by rw [List.length_map]; exact Nat.le_refl _), List.length_map, Nat.sub_self]
          rfl
        · intro dx H9 s9 ndx hdx
          refine ⟨true, T.e_BadChange.te, fun _ a0 na0 => ?_, fun z => Bool.noConfusion z⟩
          refine ⟨_, rfl, rfl, rfl, dx, _, _, rfl, hdx, rfl, ?_⟩
          -- if not same(found, len(right))
          have sb59 : SameBut p H5 H9 := sb58.trans s9.but
          refine ⟨_, rfl, _, rfl, rl, _, rfl, .inl (sqL_of (sb59 _ _ rlp hrl5)), ?_⟩
          refine ⟨_, _, rfl, fun H10 s10 => ⟨_, rfl, ?_⟩⟩
          rw [List.length_map, decide_eq_true rfl]
          exact ⟨⟨_, _, _, rfl⟩, (sb5.trans sb59).trans s10.but, ((hp8.keeps s9.keeps).keeps s10.keeps).mono (by omega)⟩
      · rintro σ H5 ⟨⟨y4, y5, y7, rfl⟩, sb5, hp5⟩
        refine ⟨⟨_, _, _, _, rfl⟩, (sb3.trans s4.but).trans sb5, hp5.mono ?_⟩
        show n + 1000 + 2 * i + 2 ≤ n + 1000 + 2 * (i + 1)
        omega
    · rintro σ H3 ⟨⟨y3, y4, y5, y7, rfl⟩, sb3, hp3⟩
      -- for thing in (None, 5, 'ab', {}, True)
      intro d4 nd4
      have s4 : Same H3 (upd H3 d4 (.dK [])) := same_new nd4
      have hd4 : upd H3 d4 (.dK []) d4 = some (.dK []) := upd_same
      generalize upd H3 d4 (.dK []) = H4 at s4 hd4 ⊢
      refine ⟨by show 5 ≤ sizeLine; decide, fun tt ntt => ?_⟩
      obtain ⟨ths, hths⟩ : ∃ ths : List V, ths = [.non, .int 5, .str "ab", .ref d4, .bl true] := ⟨_, rfl⟩
      have hty4 : ∀ v ∈ ths, ∃ t, HasTy K H4 v t ∧ t.seq = false := by
        intro v hv
        rw [hths] at hv
        simp only [List.mem_cons, List.not_mem_nil, or_false] at hv
        rcases hv with rfl | rfl | rfl | rfl | rfl
        · exact ⟨.non, hasTy_non, rfl⟩
        · exact ⟨.int, hasTy_int, rfl⟩
        · exact ⟨.str, hasTy_str, rfl⟩
        · exact ⟨.dct, hasTy_dct hd4, rfl⟩
        · exact ⟨.bl, hasTy_bl, rfl⟩
      rw [← hths]
      have s5 : Same H4 (upd H4 tt (.tup ths)) := same_new ntt
      have htt : upd H4 tt (.tup ths) tt = some (.tup ths) := upd_same
      generalize upd H4 tt (.tup ths) = H5 at s5 htt ⊢
      refine for_seq (K := K) (sq_tup htt) (fun i σ H' => (∃ y3 y4 y5 y7, σ = [some (.ref p), some (.ref rl), some (.ref ol), y3, y4, y5, none, y7]) ∧ Same H5 H') ⟨⟨_, _, _, _, rfl⟩, Same.refl _⟩ (fun i σ H' h => h.2.keeps) ?_ ?_
      · rintro i v σ H6 hv ⟨⟨y3, y4, y5, y7, rfl⟩, s6⟩
        obtain ⟨tg, htg, hsq⟩ := hty4 v (List.mem_of_getElem? hv)
        refine ⟨by show 2 ≤ sizeLine; decide, fun tf ntf => ?_⟩
        have s7 : Same H6 (upd H6 tf (.tup [.ref (ad 11), .ref (ad 12)])) := same_new ntf
        have htf : upd H6 tf (.tup [.ref (ad 11), .ref (ad 12)]) tf = some (.tup [.ref (ad 11), .ref (ad 12)]) := upd_same
        generalize upd H6 tf (.tup [.ref (ad 11), .ref (ad 12)]) = H7 at s7 htf ⊢
        refine for_seq (K := K) (sq_tup htf) (fun j σ H' => (∃ y3 y4 y5, σ = [some (.ref p), some (.ref rl), some (.ref ol), y3, y4, y5, none, some v]) ∧ Same H7 H') ⟨⟨_, _, _, rfl⟩, Same.refl _⟩ (fun j σ H' h => h.2.keeps) ?_ ?_
        · rintro j f σ H8 hf ⟨⟨y3, y4, y5, rfl⟩, s8⟩
          obtain ⟨fa, rfl, hfa⟩ : ∃ fa, f = .ref fa ∧ (fa = ad 11 ∨ fa = ad 12) := by
            have hm := List.mem_of_getElem? hf
            simp only [List.mem_cons, List.not_mem_nil, or_false] at hm
            rcases hm with e | e
            · exact ⟨_, e, .inl rfl⟩
            · exact ⟨_, e, .inr rfl⟩
          obtain ⟨F, hF⟩ := sask_of (K := K) hfa
          have s48 : Same H4 H8 := ((s5.trans s6).trans s7).trans s8
          refine ⟨fa, _, rfl, hF, ?_⟩
          refine ⟨_, rfl, ?_⟩
          refine ⟨_, rfl, .inl ⟨tg, s48.ty htg, hsq, ?_⟩⟩
          intro dx H9 s9 ndx hdx
          refine ⟨true, T.e_BadChange.te, fun _ a0 na0 => ?_, fun z => Bool.noConfusion z⟩
          refine ⟨_, rfl, rfl, rfl, dx, _, _, rfl, hdx, rfl, ?_⟩
          refine ⟨_, rfl, ?_⟩
          refine ⟨_, _, rfl, fun H10 s10 => ⟨_, rfl, ?_⟩⟩
          rw [decide_eq_true rfl]
          exact ⟨⟨_, _, _, rfl⟩, (s8.trans s9).trans s10⟩
        · rintro σ H8 ⟨⟨y3, y4, y5, rfl⟩, s8⟩
          exact ⟨⟨_, _, _, _, rfl⟩, (s6.trans s7).trans s8⟩
      · rintro σ H6 ⟨⟨y3, y4, y5, y7, rfl⟩, s6⟩
        have en : M40.nodes [] = [] := by simp [M40.nodes, M40.picks, M40.srt, M40.ens]
        have ea : M40.apartOf [] = [] := by simp [M40.apartOf, M40.srtI, M40.picks, M40.srt, M40.ens]
        refine ⟨Nat.zero_le _, fun e1 n1 => ?_⟩
        have s7 : Same H6 (upd H6 e1 (.lst [])) := same_new n1
        have he1 : upd H6 e1 (.lst []) e1 = some (.lst []) := upd_same
        dsimp only [tNil]
        generalize upd H6 e1 (.lst []) = H7 at s7 he1 ⊢
        refine ⟨_, rfl, .inr (.inl ⟨e1, [], [], rfl, sq_lst he1, by decide, .nil, fun H8 r8 s8 nr8 hr8 => ?_⟩)⟩
        rw [en] at hr8
        refine ⟨Nat.zero_le _, fun e2 n2 => ?_⟩
        have s9 : Same H8 (upd H8 e2 (.lst [])) := same_new n2
        have he2 : upd H8 e2 (.lst []) e2 = some (.lst []) := upd_same
        generalize upd H8 e2 (.lst []) = H9 at s9 he2 ⊢
        refine ⟨[], [], hasD_ints (sqL_of (s9 _ _ hr8)), hasD_ints (sqL_of he2), _, rfl, ?_⟩
        rw [decide_eq_true rfl]
        refine ⟨Nat.zero_le _, fun e3 n3 => ?_⟩
        have s10 : Same H9 (upd H9 e3 (.tup [])) := same_new n3
        have he3 : upd H9 e3 (.tup []) e3 = some (.tup []) := upd_same
        dsimp only [tNil]
        generalize upd H9 e3 (.tup []) = H10 at s10 he3 ⊢
        refine ⟨_, rfl, .inr (.inl ⟨e3, [], [], rfl, sq_tup he3, by decide, .nil, fun H11 r11 s11 nr11 hr11 => ?_⟩)⟩
        rw [ea] at hr11
        refine ⟨Nat.zero_le _, fun e4 n4 => ?_⟩
        have s12 : Same H11 (upd H11 e4 (.lst [])) := same_new n4
        have he4 : upd H11 e4 (.lst []) e4 = some (.lst []) := upd_same
        generalize upd H11 e4 (.lst []) = H12 at s12 he4 ⊢
        refine ⟨[], [], hasD_ints (sqL_of (s12 _ _ hr11)), hasD_ints (sqL_of he4), ?_⟩
        rw [decide_eq_true rfl]
        have sF : Same H3 H12 := ((((((((s4.trans s5).trans s6).trans s7).trans s8).trans s9).trans s10).trans s11).trans s12)
        refine q H12 (((sb1.trans s2.but).trans sb3).trans sF.but) ((hp3.keeps sF.keeps).mono ?_)
        rw [hol14]
        omega
end
end Lk
namespace Lk
open PySem PySem.Spec PyProof.Rows L2
def sp_law (K : PySem.W.Frag) : Sp := fun vs H Q _ => ∃ (a : Addr) (ns : List Int), vs = [.ref a] ∧ SqL K H a (ns.map V.int) ∧ ns.length ≤ 63 ∧ ∀ H', Q (.bl true) H'
theorem ok_law {P : Program} {w : World} {K : PySem.W.Frag} {mg : Str → Option Value} {base : Heap} {ad ai : Nat → Addr} {fd : Nat → FuncData} (T : Txt K mg ad ai fd) : FnOk P w K mg base CX0 7 (ad 27) (fd 27) ["_law_script"] (sp_law K) := by
  have G_law_spring : FnOk P w K mg base CX0 1 (ad 14) (fd 14) ["_law_script", "_law_k"] (sp_spring K) := ok_spring T
  have G_law_drawn_right : FnOk P w K mg base CX0 6 (ad 24) (fd 24) ["_law_spring_here"] sp_right := ok_drawn_right T
  have G_law_long_right : FnOk P w K mg base CX0 6 (ad 25) (fd 25) ["_law_spring_here"] sp_right := ok_long_right T
  have G_law_refused_right : FnOk P w K mg base CX0 6 (ad 26) (fd 26) ["_law_spring_here"] sp_right := ok_refused_right T
  refine T.F_law.ok sc_law (fun vs H Q E h => ?_) (fun cdv A outer s H vs Q E hr h => ?_)
  · obtain ⟨a, ns, rfl, _⟩ := h
    rfl
  · obtain ⟨a, ns, rfl, hs, hl, q⟩ := h
    refine ⟨_, (pss_cons (ps_for PassesOwn.never rfl (pi_range1 (by rfl) T.n_range (pa_cons pe_int pa_nil)) (pg_name (i := 1) sc_law.nd rfl (.inl rfl))
          (pss_cons (ps_set (i := 2) sc_law.nd rfl (.inl rfl) (pe_call G_law_spring (hr.mono (by decide)) (by rfl) T.g_law_spring T.F_law_spring.kp T.b_law_spring .nil pass0 (pa_cons (pv 0) (pa_cons (pv 1) pa_nil))))
          (pss_one (ps_if (PW.pt (pw_or (pt_not (pt_val (pe_call G_law_drawn_right (hr.mono (by decide)) (by rfl) T.g_law_drawn_right T.F_law_drawn_right.kp T.b_law_drawn_right .nil pass0 (pa_cons (pv 2) pa_nil)))) (pw_or (pt_not (pt_val (pe_call G_law_long_right (hr.mono (by decide)) (by rfl) T.g_law_long_right T.F_law_long_right.kp T.b_law_long_right .nil pass0 (pa_cons (pv 2) pa_nil)))) (pw_or1 (pt_not (pt_val (pe_call G_law_refused_right (hr.mono (by decide)) (by rfl) T.g_law_refused_right T.F_law_refused_right.kp T.b_law_refused_right .nil pass0 (pa_cons (pv 2) pa_nil)))))))) (pss_one (ps_ret pe_bl)) pss_nil))))
      (pss_one (ps_ret pe_bl))), ?_⟩
    refine ⟨3, rfl, by decide, by decide, ?_⟩
    refine for_range (lo := 0) (n := 3) (fun i σ H' => (∃ y1 y2, σ = [some (.ref a), y1, y2]) ∧ Same H H') ⟨⟨_, _, rfl⟩, Same.refl _⟩ ?_ ?_
    · rintro i σ H1 hi ⟨⟨y1, y2, rfl⟩, s1⟩
      refine ⟨_, rfl, _, rfl, ?_⟩
      refine ⟨a, ns, _, rfl, s1.seq hs, by omega, by omega, fun H2 p s2 np hp2 => ?_⟩
      refine ⟨_, rfl, ?_⟩
      refine ⟨p, 0, rfl, hp2, by omega, fun H3 sb3 hp3 => ⟨_, rfl, ?_⟩⟩
      refine ⟨_, rfl, ?_⟩
      refine ⟨p, _, rfl, hp3, by omega, fun H4 sb4 hp4 => ⟨_, rfl, ?_⟩⟩
      refine ⟨_, rfl, ?_⟩
      refine ⟨p, _, rfl, hp4, by omega, fun H5 sb5 hp5 => ⟨_, rfl, ?_⟩⟩
      refine ⟨⟨_, _, rfl⟩, fun b o e => ?_⟩
      have e1 := s1 _ _ e
      have nb : b ≠ p := ne_of_none e1 np
      exact ((sb3.trans sb4).trans sb5) _ _ nb (s2 _ _ e1)
    · rintro σ H1 ⟨⟨y1, y2, rfl⟩, s1⟩
      exact q H1
end Lk
namespace Lk
open PySem PySem.Spec PyProof.Rows L2
theorem exm_self {K : PySem.W.Frag} {S : Addr} (h1 : PySem.W.subIn K (.ref S) (.type "BaseException") = some true) (h2 : PySem.W.isClsIn K S = true) (h3 : PySem.W.typeIn K (.ref S) = some (.type "type")) (h4 : PySem.W.subIn K (.ref S) (.ref S) = some true) :
    PySem.W.exmOne K (.ref S) (.ref S) = some true := by
  have e1 : (PySem.W.subIn K (.ref S) (.type "BaseException") == some true) = true := by rw [h1] <;> rfl
  have e2 : ((PySem.W.clsIn K S).isSome && PySem.W.typeIn K (.ref S) == some (.type "type")) = true := by
    have h2' : (PySem.W.clsIn K S).isSome = true := h2
    rw [h2', h3] <;> rfl
  show (if (PySem.W.subIn K (.ref S) (.type "BaseException") == some true) = true then (if ((PySem.W.clsIn K S).isSome && PySem.W.typeIn K (.ref S) == some (.type "type")) = true then PySem.W.subIn K (.ref S) (.ref S) else none) else none) = some true
  rw [if_pos e1, if_pos e2]
  exact h4
theorem all_mk {l : PySem.W.OpenLaw} {w : World} {K : PySem.W.Frag} {h : Heap} {mg : Str → Option Value} {fa : Addr} (X : K.In h) (G : h.Ns mainGlobals mg) (hfa : mg "law" = some (.ref fa))
    {f1 : Addr} {od1 an1 : Option Addr} {sl1 : Array (Option Value)} {oc1 kV1 dc1 pm1 cd1 ct1 : Value}
    {f2 : Addr} {od2 an2 : Option Addr} {sl2 : Array (Option Value)} {oc2 kV2 dc2 pm2 cd2 ct2 : Value}
    {f3 : Addr} {od3 an3 : Option Addr} {sl3 : Array (Option Value)} {oc3 kV3 dc3 pm3 cd3 ct3 : Value}
    {f4 : Addr} {od4 an4 : Option Addr} {sl4 : Array (Option Value)} {oc4 kV4 dc4 pm4 cd4 ct4 : Value}
    {f9 : Addr} {od9 an9 : Option Addr} {sl9 : Array (Option Value)} {oc9 kV9 dc9 pm9 cd9 ct9 : Value}
    {f10 : Addr} {od10 an10 : Option Addr} {sl10 : Array (Option Value)} {oc10 kV10 dc10 pm10 cd10 ct10 : Value}
    {f11 : Addr} {od11 an11 : Option Addr} {sl11 : Array (Option Value)} {oc11 kV11 dc11 pm11 cd11 ct11 : Value}
    {f12 : Addr} {od12 an12 : Option Addr} {sl12 : Array (Option Value)} {oc12 kV12 dc12 pm12 cd12 ct12 : Value}
    {f14 : Addr} {od14 an14 : Option Addr} {sl14 : Array (Option Value)} {oc14 kV14 dc14 pm14 cd14 ct14 : Value}
    {f15 : Addr} {od15 an15 : Option Addr} {sl15 : Array (Option Value)} {oc15 kV15 dc15 pm15 cd15 ct15 : Value}
    {f16 : Addr} {od16 an16 : Option Addr} {sl16 : Array (Option Value)} {oc16 kV16 dc16 pm16 cd16 ct16 : Value}
    {f17 : Addr} {od17 an17 : Option Addr} {sl17 : Array (Option Value)} {oc17 kV17 dc17 pm17 cd17 ct17 : Value}
    {f18 : Addr} {od18 an18 : Option Addr} {sl18 : Array (Option Value)} {oc18 kV18 dc18 pm18 cd18 ct18 : Value}
    {f19 : Addr} {od19 an19 : Option Addr} {sl19 : Array (Option Value)} {oc19 kV19 dc19 pm19 cd19 ct19 : Value}
    {f20 : Addr} {od20 an20 : Option Addr} {sl20 : Array (Option Value)} {oc20 kV20 dc20 pm20 cd20 ct20 : Value}
    {f21 : Addr} {od21 an21 : Option Addr} {sl21 : Array (Option Value)} {oc21 kV21 dc21 pm21 cd21 ct21 : Value}
    {f22 : Addr} {od22 an22 : Option Addr} {sl22 : Array (Option Value)} {oc22 kV22 dc22 pm22 cd22 ct22 : Value}
    {f23 : Addr} {od23 an23 : Option Addr} {sl23 : Array (Option Value)} {oc23 kV23 dc23 pm23 cd23 ct23 : Value}
    {f24 : Addr} {od24 an24 : Option Addr} {sl24 : Array (Option Value)} {oc24 kV24 dc24 pm24 cd24 ct24 : Value}
    {f25 : Addr} {od25 an25 : Option Addr} {sl25 : Array (Option Value)} {oc25 kV25 dc25 pm25 cd25 ct25 : Value}
    {f26 : Addr} {od26 an26 : Option Addr} {sl26 : Array (Option Value)} {oc26 kV26 dc26 pm26 cd26 ct26 : Value}
    {f27 : Addr} {od27 an27 : Option Addr} {sl27 : Array (Option Value)} {oc27 kV27 dc27 pm27 cd27 ct27 : Value}
    {C7 B7 f7 : Addr} {od7 an7 : Option Addr} {sl7 : Array (Option Value)} {oc7 kV7 dc7 pm7 cd7 ct7 : Value}
    {nm7 q7 : Str} {N7 : Addr} {bs7 : List Value} {sn7 : List Str} {sub7 : List Value} {ab7 : Bool} {col7 : Option Bool} {dd7 : Option Addr} {m07 m17 m27 m37 m57 : Option Value}
    (a1 : PySem.W.nsIn K mainGlobals "is_integer" = some (some (.ref f1)))
    (l1 : K.lookup f1 = some ⟨oc1, od1, .func (PySem.W.fnOf "is_integer" "is_integer" (defArgs s_is_integer) (defBody s_is_integer) (defScope s_is_integer) .none kV1 dc1 pm1 an1 cd1 ct1), sl1⟩)
    (c1 : PySem.W.codeIn K cd1 "is_integer" = true) (k1 : PySem.W.keepIn K (.ref f1) = true)
    (a2 : PySem.W.nsIn K mainGlobals "is_positive" = some (some (.ref f2)))
    (l2 : K.lookup f2 = some ⟨oc2, od2, .func (PySem.W.fnOf "is_positive" "is_positive" (defArgs s_is_positive) (defBody s_is_positive) (defScope s_is_positive) .none kV2 dc2 pm2 an2 cd2 ct2), sl2⟩)
    (c2 : PySem.W.codeIn K cd2 "is_positive" = true) (k2 : PySem.W.keepIn K (.ref f2) = true)
    (a3 : PySem.W.nsIn K mainGlobals "is_list" = some (some (.ref f3)))
    (l3 : K.lookup f3 = some ⟨oc3, od3, .func (PySem.W.fnOf "is_list" "is_list" (defArgs s_is_list) (defBody s_is_list) (defScope s_is_list) .none kV3 dc3 pm3 an3 cd3 ct3), sl3⟩)
    (c3 : PySem.W.codeIn K cd3 "is_list" = true) (k3 : PySem.W.keepIn K (.ref f3) = true)
    (a4 : PySem.W.nsIn K mainGlobals "is_pair" = some (some (.ref f4)))
    (l4 : K.lookup f4 = some ⟨oc4, od4, .func (PySem.W.fnOf "is_pair" "is_pair" (defArgs s_is_pair) (defBody s_is_pair) (defScope s_is_pair) .none kV4 dc4 pm4 an4 cd4 ct4), sl4⟩)
    (c4 : PySem.W.codeIn K cd4 "is_pair" = true) (k4 : PySem.W.keepIn K (.ref f4) = true)
    (a9 : PySem.W.nsIn K mainGlobals "checked_changes" = some (some (.ref f9)))
    (l9 : K.lookup f9 = some ⟨oc9, od9, .func (PySem.W.fnOf "checked_changes" "checked_changes" (defArgs s_checked_changes) (defBody s_checked_changes) (defScope s_checked_changes) .none kV9 dc9 pm9 an9 cd9 ct9), sl9⟩)
    (c9 : PySem.W.codeIn K cd9 "checked_changes" = true) (k9 : PySem.W.keepIn K (.ref f9) = true)
    (a10 : PySem.W.nsIn K mainGlobals "ends_first" = some (some (.ref f10)))
    (l10 : K.lookup f10 = some ⟨oc10, od10, .func (PySem.W.fnOf "ends_first" "ends_first" (defArgs s_ends_first) (defBody s_ends_first) (defScope s_ends_first) .none kV10 dc10 pm10 an10 cd10 ct10), sl10⟩)
    (c10 : PySem.W.codeIn K cd10 "ends_first" = true) (k10 : PySem.W.keepIn K (.ref f10) = true)
    (a11 : PySem.W.nsIn K mainGlobals "least_nodes" = some (some (.ref f11)))
    (l11 : K.lookup f11 = some ⟨oc11, od11, .func (PySem.W.fnOf "least_nodes" "least_nodes" (defArgs s_least_nodes) (defBody s_least_nodes) (defScope s_least_nodes) .none kV11 dc11 pm11 an11 cd11 ct11), sl11⟩)
    (c11 : PySem.W.codeIn K cd11 "least_nodes" = true) (k11 : PySem.W.keepIn K (.ref f11) = true)
    (a12 : PySem.W.nsIn K mainGlobals "apart" = some (some (.ref f12)))
    (l12 : K.lookup f12 = some ⟨oc12, od12, .func (PySem.W.fnOf "apart" "apart" (defArgs s_apart) (defBody s_apart) (defScope s_apart) .none kV12 dc12 pm12 an12 cd12 ct12), sl12⟩)
    (c12 : PySem.W.codeIn K cd12 "apart" = true) (k12 : PySem.W.keepIn K (.ref f12) = true)
    (a14 : PySem.W.nsIn K mainGlobals "_law_spring" = some (some (.ref f14)))
    (l14 : K.lookup f14 = some ⟨oc14, od14, .func (PySem.W.fnOf "_law_spring" "_law_spring" (defArgs s_law_spring) (defBody s_law_spring) (defScope s_law_spring) .none kV14 dc14 pm14 an14 cd14 ct14), sl14⟩)
    (c14 : PySem.W.codeIn K cd14 "_law_spring" = true) (k14 : PySem.W.keepIn K (.ref f14) = true)
    (a15 : PySem.W.nsIn K mainGlobals "_law_take" = some (some (.ref f15)))
    (l15 : K.lookup f15 = some ⟨oc15, od15, .func (PySem.W.fnOf "_law_take" "_law_take" (defArgs s_law_take) (defBody s_law_take) (defScope s_law_take) .none kV15 dc15 pm15 an15 cd15 ct15), sl15⟩)
    (c15 : PySem.W.codeIn K cd15 "_law_take" = true) (k15 : PySem.W.keepIn K (.ref f15) = true)
    (a16 : PySem.W.nsIn K mainGlobals "_law_one" = some (some (.ref f16)))
    (l16 : K.lookup f16 = some ⟨oc16, od16, .func (PySem.W.fnOf "_law_one" "_law_one" (defArgs s_law_one) (defBody s_law_one) (defScope s_law_one) .none kV16 dc16 pm16 an16 cd16 ct16), sl16⟩)
    (c16 : PySem.W.codeIn K cd16 "_law_one" = true) (k16 : PySem.W.keepIn K (.ref f16) = true)
    (a17 : PySem.W.nsIn K mainGlobals "_law_mixed" = some (some (.ref f17)))
    (l17 : K.lookup f17 = some ⟨oc17, od17, .func (PySem.W.fnOf "_law_mixed" "_law_mixed" (defArgs s_law_mixed) (defBody s_law_mixed) (defScope s_law_mixed) .none kV17 dc17 pm17 an17 cd17 ct17), sl17⟩)
    (c17 : PySem.W.codeIn K cd17 "_law_mixed" = true) (k17 : PySem.W.keepIn K (.ref f17) = true)
    (a18 : PySem.W.nsIn K mainGlobals "_law_same" = some (some (.ref f18)))
    (l18 : K.lookup f18 = some ⟨oc18, od18, .func (PySem.W.fnOf "_law_same" "_law_same" (defArgs s_law_same) (defBody s_law_same) (defScope s_law_same) .none kV18 dc18 pm18 an18 cd18 ct18), sl18⟩)
    (c18 : PySem.W.codeIn K cd18 "_law_same" = true) (k18 : PySem.W.keepIn K (.ref f18) = true)
    (a19 : PySem.W.nsIn K mainGlobals "_law_shown" = some (some (.ref f19)))
    (l19 : K.lookup f19 = some ⟨oc19, od19, .func (PySem.W.fnOf "_law_shown" "_law_shown" (defArgs s_law_shown) (defBody s_law_shown) (defScope s_law_shown) .none kV19 dc19 pm19 an19 cd19 ct19), sl19⟩)
    (c19 : PySem.W.codeIn K cd19 "_law_shown" = true) (k19 : PySem.W.keepIn K (.ref f19) = true)
    (a20 : PySem.W.nsIn K mainGlobals "_law_drawn" = some (some (.ref f20)))
    (l20 : K.lookup f20 = some ⟨oc20, od20, .func (PySem.W.fnOf "_law_drawn" "_law_drawn" (defArgs s_law_drawn) (defBody s_law_drawn) (defScope s_law_drawn) .none kV20 dc20 pm20 an20 cd20 ct20), sl20⟩)
    (c20 : PySem.W.codeIn K cd20 "_law_drawn" = true) (k20 : PySem.W.keepIn K (.ref f20) = true)
    (a21 : PySem.W.nsIn K mainGlobals "_law_serves" = some (some (.ref f21)))
    (l21 : K.lookup f21 = some ⟨oc21, od21, .func (PySem.W.fnOf "_law_serves" "_law_serves" (defArgs s_law_serves) (defBody s_law_serves) (defScope s_law_serves) .none kV21 dc21 pm21 an21 cd21 ct21), sl21⟩)
    (c21 : PySem.W.codeIn K cd21 "_law_serves" = true) (k21 : PySem.W.keepIn K (.ref f21) = true)
    (a22 : PySem.W.nsIn K mainGlobals "_law_lists" = some (some (.ref f22)))
    (l22 : K.lookup f22 = some ⟨oc22, od22, .func (PySem.W.fnOf "_law_lists" "_law_lists" (defArgs s_law_lists) (defBody s_law_lists) (defScope s_law_lists) .none kV22 dc22 pm22 an22 cd22 ct22), sl22⟩)
    (c22 : PySem.W.codeIn K cd22 "_law_lists" = true) (k22 : PySem.W.keepIn K (.ref f22) = true)
    (a23 : PySem.W.nsIn K mainGlobals "_law_are_apart" = some (some (.ref f23)))
    (l23 : K.lookup f23 = some ⟨oc23, od23, .func (PySem.W.fnOf "_law_are_apart" "_law_are_apart" (defArgs s_law_are_apart) (defBody s_law_are_apart) (defScope s_law_are_apart) .none kV23 dc23 pm23 an23 cd23 ct23), sl23⟩)
    (c23 : PySem.W.codeIn K cd23 "_law_are_apart" = true) (k23 : PySem.W.keepIn K (.ref f23) = true)
    (a24 : PySem.W.nsIn K mainGlobals "_law_drawn_right" = some (some (.ref f24)))
    (l24 : K.lookup f24 = some ⟨oc24, od24, .func (PySem.W.fnOf "_law_drawn_right" "_law_drawn_right" (defArgs s_law_drawn_right) (defBody s_law_drawn_right) (defScope s_law_drawn_right) .none kV24 dc24 pm24 an24 cd24 ct24), sl24⟩)
    (c24 : PySem.W.codeIn K cd24 "_law_drawn_right" = true) (k24 : PySem.W.keepIn K (.ref f24) = true)
    (a25 : PySem.W.nsIn K mainGlobals "_law_long_right" = some (some (.ref f25)))
    (l25 : K.lookup f25 = some ⟨oc25, od25, .func (PySem.W.fnOf "_law_long_right" "_law_long_right" (defArgs s_law_long_right) (defBody s_law_long_right) (defScope s_law_long_right) .none kV25 dc25 pm25 an25 cd25 ct25), sl25⟩)
    (c25 : PySem.W.codeIn K cd25 "_law_long_right" = true) (k25 : PySem.W.keepIn K (.ref f25) = true)
    (a26 : PySem.W.nsIn K mainGlobals "_law_refused_right" = some (some (.ref f26)))
    (l26 : K.lookup f26 = some ⟨oc26, od26, .func (PySem.W.fnOf "_law_refused_right" "_law_refused_right" (defArgs s_law_refused_right) (defBody s_law_refused_right) (defScope s_law_refused_right) .none kV26 dc26 pm26 an26 cd26 ct26), sl26⟩)
    (c26 : PySem.W.codeIn K cd26 "_law_refused_right" = true) (k26 : PySem.W.keepIn K (.ref f26) = true)
    (a27 : PySem.W.nsIn K mainGlobals "law" = some (some (.ref f27)))
    (l27 : K.lookup f27 = some ⟨oc27, od27, .func (PySem.W.fnOf "law" "law" (defArgs s_law) (defBody s_law) (defScope s_law) .none kV27 dc27 pm27 an27 cd27 ct27), sl27⟩)
    (c27 : PySem.W.codeIn K cd27 "law" = true) (k27 : PySem.W.keepIn K (.ref f27) = true)
    (a7 : PySem.W.nsIn K mainGlobals "BadChange" = some (some (.ref C7)))
    (x7 : K.lookup C7 = some (excClassObj nm7 q7 C7 N7 bs7 [.ref B7, .type "ValueError", .type "Exception", .type "BaseException", .type "object"] true sn7 sub7 ab7 col7 dd7 m07 m17 m27 m37 m57 "ValueError.__new__"))
    (sa7 : PySem.W.findIn K (.ref C7) "__setattr__" = some (some (.builtin "object.__setattr__")))
    (ga7 : PySem.W.findIn K (.ref C7) "__getattribute__" = some (some (.builtin "BaseException.__getattribute__")))
    (gg7 : PySem.W.findIn K (.ref C7) "__getattr__" = some none)
    (nf7 : PySem.W.findIn K (.ref C7) "index" = some none)
    (ii7 : PySem.W.findIn K (.ref C7) "__init__" = some (some (.ref f7)))
    (ti7 : PySem.W.typeIn K (.ref f7) = some (.type "function"))
    (kc7 : PySem.W.keepIn K (.ref C7) = true)
    (ec7 : PySem.W.subIn K (.ref C7) (.type "BaseException") = some true)
    (tc7 : PySem.W.typeIn K (.ref C7) = some (.type "type"))
    (hc7 : PySem.W.hasDictIn K C7 = true)
    (ic7 : PySem.W.isClsIn K C7 = true)
    (sc7 : PySem.W.subIn K (.ref C7) (.ref C7) = some true)
    (l7 : K.lookup f7 = some ⟨oc7, od7, .func (PySem.W.fnOf "__init__" "BadChange.__init__" (defArgs s_BadChange) (defBody s_BadChange) (defScope s_BadChange) .none kV7 dc7 pm7 an7 cd7 ct7), sl7⟩)
    (c7 : PySem.W.codeIn K cd7 "BadChange.__init__" = true) (k7 : PySem.W.keepIn K (.ref f7) = true)
    (z0 : PySem.W.nsIn K mainGlobals "abs" = some none)
    (z1 : PySem.W.nsIn K mainGlobals "all" = some none)
    (z2 : PySem.W.nsIn K mainGlobals "any" = some none)
    (z3 : PySem.W.nsIn K mainGlobals "bool" = some none)
    (z4 : PySem.W.nsIn K mainGlobals "dict" = some none)
    (z5 : PySem.W.nsIn K mainGlobals "enumerate" = some none)
    (z6 : PySem.W.nsIn K mainGlobals "int" = some none)
    (z7 : PySem.W.nsIn K mainGlobals "isinstance" = some none)
    (z8 : PySem.W.nsIn K mainGlobals "len" = some none)
    (z9 : PySem.W.nsIn K mainGlobals "list" = some none)
    (z10 : PySem.W.nsIn K mainGlobals "range" = some none)
    (z11 : PySem.W.nsIn K mainGlobals "set" = some none)
    (z12 : PySem.W.nsIn K mainGlobals "sorted" = some none)
    (z13 : PySem.W.nsIn K mainGlobals "sum" = some none)
    (z14 : PySem.W.nsIn K mainGlobals "tuple" = some none)
    (z15 : PySem.W.nsIn K mainGlobals "zip" = some none) :
    ∃ fd : FuncData, (∀ (s : Shared) (v : Value), BindsTo s fd ⟨[v], []⟩ [("_law_script", v)]) ∧ ∀ base : Heap, K.In base → base.Ns mainGlobals mg → FnOk l.prog w K mg base CX0 7 fa fd ["_law_script"] (sp_law K) := by
  have e := hfa.symm.trans (PySem.W.mg_of X G a27)
  cases e
  let ad : Nat → Addr := fun n => match n with | 1 => f1 | 2 => f2 | 3 => f3 | 4 => f4 | 9 => f9 | 10 => f10 | 11 => f11 | 12 => f12 | 14 => f14 | 15 => f15 | 16 => f16 | 17 => f17 | 18 => f18 | 19 => f19 | 20 => f20 | 21 => f21 | 22 => f22 | 23 => f23 | 24 => f24 | 25 => f25 | 26 => f26 | 27 => fa | 7 => C7 | _ => 0
  let ai : Nat → Addr := fun n => match n with | 7 => f7 | _ => 0
  let fd : Nat → FuncData := fun n => match n with | 1 => PySem.W.fnOf "is_integer" "is_integer" (defArgs s_is_integer) (defBody s_is_integer) (defScope s_is_integer) .none kV1 dc1 pm1 an1 cd1 ct1 | 2 => PySem.W.fnOf "is_positive" "is_positive" (defArgs s_is_positive) (defBody s_is_positive) (defScope s_is_positive) .none kV2 dc2 pm2 an2 cd2 ct2 | 3 => PySem.W.fnOf "is_list" "is_list" (defArgs s_is_list) (defBody s_is_list) (defScope s_is_list) .none kV3 dc3 pm3 an3 cd3 ct3 | 4 => PySem.W.fnOf "is_pair" "is_pair" (defArgs s_is_pair) (defBody s_is_pair) (defScope s_is_pair) .none kV4 dc4 pm4 an4 cd4 ct4 | 9 => PySem.W.fnOf "checked_changes" "checked_changes" (defArgs s_checked_changes) (defBody s_checked_changes) (defScope s_checked_changes) .none kV9 dc9 pm9 an9 cd9 ct9 | 10 => PySem.W.fnOf "ends_first" "ends_first" (defArgs s_ends_first) (defBody s_ends_first) (defScope s_ends_first) .none kV10 dc10 pm10 an10 cd10 ct10 | 11 => PySem.W.fnOf "least_nodes" "least_nodes" (defArgs s_least_nodes) (defBody s_least_nodes) (defScope s_least_nodes) .none kV11 dc11 pm11 an11 cd11 ct11 | 12 => PySem.W.fnOf "apart" "apart" (defArgs s_apart) (defBody s_apart) (defScope s_apart) .none kV12 dc12 pm12 an12 cd12 ct12 | 14 => PySem.W.fnOf "_law_spring" "_law_spring" (defArgs s_law_spring) (defBody s_law_spring) (defScope s_law_spring) .none kV14 dc14 pm14 an14 cd14 ct14 | 15 => PySem.W.fnOf "_law_take" "_law_take" (defArgs s_law_take) (defBody s_law_take) (defScope s_law_take) .none kV15 dc15 pm15 an15 cd15 ct15 | 16 => PySem.W.fnOf "_law_one" "_law_one" (defArgs s_law_one) (defBody s_law_one) (defScope s_law_one) .none kV16 dc16 pm16 an16 cd16 ct16 | 17 => PySem.W.fnOf "_law_mixed" "_law_mixed" (defArgs s_law_mixed) (defBody s_law_mixed) (defScope s_law_mixed) .none kV17 dc17 pm17 an17 cd17 ct17 | 18 => PySem.W.fnOf "_law_same" "_law_same" (defArgs s_law_same) (defBody s_law_same) (defScope s_law_same) .none kV18 dc18 pm18 an18 cd18 ct18 | 19 => PySem.W.fnOf "_law_shown" "_law_shown" (defArgs s_law_shown) (defBody s_law_shown) (defScope s_law_shown) .none kV19 dc19 pm19 an19 cd19 ct19 | 20 => PySem.W.fnOf "_law_drawn" "_law_drawn" (defArgs s_law_drawn) (defBody s_law_drawn) (defScope s_law_drawn) .none kV20 dc20 pm20 an20 cd20 ct20 | 21 => PySem.W.fnOf "_law_serves" "_law_serves" (defArgs s_law_serves) (defBody s_law_serves) (defScope s_law_serves) .none kV21 dc21 pm21 an21 cd21 ct21 | 22 => PySem.W.fnOf "_law_lists" "_law_lists" (defArgs s_law_lists) (defBody s_law_lists) (defScope s_law_lists) .none kV22 dc22 pm22 an22 cd22 ct22 | 23 => PySem.W.fnOf "_law_are_apart" "_law_are_apart" (defArgs s_law_are_apart) (defBody s_law_are_apart) (defScope s_law_are_apart) .none kV23 dc23 pm23 an23 cd23 ct23 | 24 => PySem.W.fnOf "_law_drawn_right" "_law_drawn_right" (defArgs s_law_drawn_right) (defBody s_law_drawn_right) (defScope s_law_drawn_right) .none kV24 dc24 pm24 an24 cd24 ct24 | 25 => PySem.W.fnOf "_law_long_right" "_law_long_right" (defArgs s_law_long_right) (defBody s_law_long_right) (defScope s_law_long_right) .none kV25 dc25 pm25 an25 cd25 ct25 | 26 => PySem.W.fnOf "_law_refused_right" "_law_refused_right" (defArgs s_law_refused_right) (defBody s_law_refused_right) (defScope s_law_refused_right) .none kV26 dc26 pm26 an26 cd26 ct26 | 27 => PySem.W.fnOf "law" "law" (defArgs s_law) (defBody s_law) (defScope s_law) .none kV27 dc27 pm27 an27 cd27 ct27 | 7 => PySem.W.fnOf "__init__" "BadChange.__init__" (defArgs s_BadChange) (defBody s_BadChange) (defScope s_BadChange) .none kV7 dc7 pm7 an7 cd7 ct7 | _ => PySem.W.fnOf "law" "law" (defArgs s_law) (defBody s_law) (defScope s_law) .none kV27 dc27 pm27 an27 cd27 ct27
  have F1 : Fun K "is_integer" "is_integer" s_is_integer f1 (PySem.W.fnOf "is_integer" "is_integer" (defArgs s_is_integer) (defBody s_is_integer) (defScope s_is_integer) .none kV1 dc1 pm1 an1 cd1 ct1) := fun_mk (st := s_is_integer) l1 c1 k1
  have F2 : Fun K "is_positive" "is_positive" s_is_positive f2 (PySem.W.fnOf "is_positive" "is_positive" (defArgs s_is_positive) (defBody s_is_positive) (defScope s_is_positive) .none kV2 dc2 pm2 an2 cd2 ct2) := fun_mk (st := s_is_positive) l2 c2 k2
  have F3 : Fun K "is_list" "is_list" s_is_list f3 (PySem.W.fnOf "is_list" "is_list" (defArgs s_is_list) (defBody s_is_list) (defScope s_is_list) .none kV3 dc3 pm3 an3 cd3 ct3) := fun_mk (st := s_is_list) l3 c3 k3
  have F4 : Fun K "is_pair" "is_pair" s_is_pair f4 (PySem.W.fnOf "is_pair" "is_pair" (defArgs s_is_pair) (defBody s_is_pair) (defScope s_is_pair) .none kV4 dc4 pm4 an4 cd4 ct4) := fun_mk (st := s_is_pair) l4 c4 k4
  have F9 : Fun K "checked_changes" "checked_changes" s_checked_changes f9 (PySem.W.fnOf "checked_changes" "checked_changes" (defArgs s_checked_changes) (defBody s_checked_changes) (defScope s_checked_changes) .none kV9 dc9 pm9 an9 cd9 ct9) := fun_mk (st := s_checked_changes) l9 c9 k9
  have F10 : Fun K "ends_first" "ends_first" s_ends_first f10 (PySem.W.fnOf "ends_first" "ends_first" (defArgs s_ends_first) (defBody s_ends_first) (defScope s_ends_first) .none kV10 dc10 pm10 an10 cd10 ct10) := fun_mk (st := s_ends_first) l10 c10 k10
  have F11 : Fun K "least_nodes" "least_nodes" s_least_nodes f11 (PySem.W.fnOf "least_nodes" "least_nodes" (defArgs s_least_nodes) (defBody s_least_nodes) (defScope s_least_nodes) .none kV11 dc11 pm11 an11 cd11 ct11) := fun_mk (st := s_least_nodes) l11 c11 k11
  have F12 : Fun K "apart" "apart" s_apart f12 (PySem.W.fnOf "apart" "apart" (defArgs s_apart) (defBody s_apart) (defScope s_apart) .none kV12 dc12 pm12 an12 cd12 ct12) := fun_mk (st := s_apart) l12 c12 k12
  have F14 : Fun K "_law_spring" "_law_spring" s_law_spring f14 (PySem.W.fnOf "_law_spring" "_law_spring" (defArgs s_law_spring) (defBody s_law_spring) (defScope s_law_spring) .none kV14 dc14 pm14 an14 cd14 ct14) := fun_mk (st := s_law_spring) l14 c14 k14
  have F15 : Fun K "_law_take" "_law_take" s_law_take f15 (PySem.W.fnOf "_law_take" "_law_take" (defArgs s_law_take) (defBody s_law_take) (defScope s_law_take) .none kV15 dc15 pm15 an15 cd15 ct15) := fun_mk (st := s_law_take) l15 c15 k15
  have F16 : Fun K "_law_one" "_law_one" s_law_one f16 (PySem.W.fnOf "_law_one" "_law_one" (defArgs s_law_one) (defBody s_law_one) (defScope s_law_one) .none kV16 dc16 pm16 an16 cd16 ct16) := fun_mk (st := s_law_one) l16 c16 k16
  have F17 : Fun K "_law_mixed" "_law_mixed" s_law_mixed f17 (PySem.W.fnOf "_law_mixed" "_law_mixed" (defArgs s_law_mixed) (defBody s_law_mixed) (defScope s_law_mixed) .none kV17 dc17 pm17 an17 cd17 ct17) := fun_mk (st := s_law_mixed) l17 c17 k17
  have F18 : Fun K "_law_same" "_law_same" s_law_same f18 (PySem.W.fnOf "_law_same" "_law_same" (defArgs s_law_same) (defBody s_law_same) (defScope s_law_same) .none kV18 dc18 pm18 an18 cd18 ct18) := fun_mk (st := s_law_same) l18 c18 k18
  have F19 : Fun K "_law_shown" "_law_shown" s_law_shown f19 (PySem.W.fnOf "_law_shown" "_law_shown" (defArgs s_law_shown) (defBody s_law_shown) (defScope s_law_shown) .none kV19 dc19 pm19 an19 cd19 ct19) := fun_mk (st := s_law_shown) l19 c19 k19
  have F20 : Fun K "_law_drawn" "_law_drawn" s_law_drawn f20 (PySem.W.fnOf "_law_drawn" "_law_drawn" (defArgs s_law_drawn) (defBody s_law_drawn) (defScope s_law_drawn) .none kV20 dc20 pm20 an20 cd20 ct20) := fun_mk (st := s_law_drawn) l20 c20 k20
  have F21 : Fun K "_law_serves" "_law_serves" s_law_serves f21 (PySem.W.fnOf "_law_serves" "_law_serves" (defArgs s_law_serves) (defBody s_law_serves) (defScope s_law_serves) .none kV21 dc21 pm21 an21 cd21 ct21) := fun_mk (st := s_law_serves) l21 c21 k21
  have F22 : Fun K "_law_lists" "_law_lists" s_law_lists f22 (PySem.W.fnOf "_law_lists" "_law_lists" (defArgs s_law_lists) (defBody s_law_lists) (defScope s_law_lists) .none kV22 dc22 pm22 an22 cd22 ct22) := fun_mk (st := s_law_lists) l22 c22 k22
  have F23 : Fun K "_law_are_apart" "_law_are_apart" s_law_are_apart f23 (PySem.W.fnOf "_law_are_apart" "_law_are_apart" (defArgs s_law_are_apart) (defBody s_law_are_apart) (defScope s_law_are_apart) .none kV23 dc23 pm23 an23 cd23 ct23) := fun_mk (st := s_law_are_apart) l23 c23 k23
  have F24 : Fun K "_law_drawn_right" "_law_drawn_right" s_law_drawn_right f24 (PySem.W.fnOf "_law_drawn_right" "_law_drawn_right" (defArgs s_law_drawn_right) (defBody s_law_drawn_right) (defScope s_law_drawn_right) .none kV24 dc24 pm24 an24 cd24 ct24) := fun_mk (st := s_law_drawn_right) l24 c24 k24
  have F25 : Fun K "_law_long_right" "_law_long_right" s_law_long_right f25 (PySem.W.fnOf "_law_long_right" "_law_long_right" (defArgs s_law_long_right) (defBody s_law_long_right) (defScope s_law_long_right) .none kV25 dc25 pm25 an25 cd25 ct25) := fun_mk (st := s_law_long_right) l25 c25 k25
  have F26 : Fun K "_law_refused_right" "_law_refused_right" s_law_refused_right f26 (PySem.W.fnOf "_law_refused_right" "_law_refused_right" (defArgs s_law_refused_right) (defBody s_law_refused_right) (defScope s_law_refused_right) .none kV26 dc26 pm26 an26 cd26 ct26) := fun_mk (st := s_law_refused_right) l26 c26 k26
  have F27 : Fun K "law" "law" s_law fa (PySem.W.fnOf "law" "law" (defArgs s_law) (defBody s_law) (defScope s_law) .none kV27 dc27 pm27 an27 cd27 ct27) := fun_mk (st := s_law) l27 c27 k27
  have F7 : Fun K "__init__" "BadChange.__init__" s_BadChange f7 (PySem.W.fnOf "__init__" "BadChange.__init__" (defArgs s_BadChange) (defBody s_BadChange) (defScope s_BadChange) .none kV7 dc7 pm7 an7 cd7 ct7) := fun_mk (st := s_BadChange) l7 c7 k7
  have T : Txt K mg ad ai fd :=
    { F_is_integer := F1, g_is_integer := PySem.W.mg_of X G a1, b_is_integer := F1.binds (ps := ["thing"]) fun _ _ _ _ _ _ us hl => match us, hl with | [_], _ => rfl,
      F_is_positive := F2, g_is_positive := PySem.W.mg_of X G a2, b_is_positive := F2.binds (ps := ["thing"]) fun _ _ _ _ _ _ us hl => match us, hl with | [_], _ => rfl,
      F_is_list := F3, g_is_list := PySem.W.mg_of X G a3, b_is_list := F3.binds (ps := ["thing"]) fun _ _ _ _ _ _ us hl => match us, hl with | [_], _ => rfl,
      F_is_pair := F4, g_is_pair := PySem.W.mg_of X G a4, b_is_pair := F4.binds (ps := ["thing"]) fun _ _ _ _ _ _ us hl => match us, hl with | [_], _ => rfl,
      F_checked_changes := F9, g_checked_changes := PySem.W.mg_of X G a9, b_checked_changes := F9.binds (ps := ["changes"]) fun _ _ _ _ _ _ us hl => match us, hl with | [_], _ => rfl,
      F_ends_first := F10, g_ends_first := PySem.W.mg_of X G a10, b_ends_first := F10.binds (ps := ["changes"]) fun _ _ _ _ _ _ us hl => match us, hl with | [_], _ => rfl,
      F_least_nodes := F11, g_least_nodes := PySem.W.mg_of X G a11, b_least_nodes := F11.binds (ps := ["changes"]) fun _ _ _ _ _ _ us hl => match us, hl with | [_], _ => rfl,
      F_apart := F12, g_apart := PySem.W.mg_of X G a12, b_apart := F12.binds (ps := ["changes"]) fun _ _ _ _ _ _ us hl => match us, hl with | [_], _ => rfl,
      F_law_spring := F14, g_law_spring := PySem.W.mg_of X G a14, b_law_spring := F14.binds (ps := ["_law_script", "_law_k"]) fun _ _ _ _ _ _ us hl => match us, hl with | [_, _], _ => rfl,
      F_law_take := F15, g_law_take := PySem.W.mg_of X G a15, b_law_take := F15.binds (ps := ["_law_spring_here", "_law_many"]) fun _ _ _ _ _ _ us hl => match us, hl with | [_, _], _ => rfl,
      F_law_one := F16, g_law_one := PySem.W.mg_of X G a16, b_law_one := F16.binds (ps := ["_law_spring_here", "_law_things"]) fun _ _ _ _ _ _ us hl => match us, hl with | [_, _], _ => rfl,
      F_law_mixed := F17, g_law_mixed := PySem.W.mg_of X G a17, b_law_mixed := F17.binds (ps := ["_law_spring_here", "_law_things"]) fun _ _ _ _ _ _ us hl => match us, hl with | [_, _], _ => rfl,
      F_law_same := F18, g_law_same := PySem.W.mg_of X G a18, b_law_same := F18.binds (ps := ["_law_found", "_law_due"]) fun _ _ _ _ _ _ us hl => match us, hl with | [_, _], _ => rfl,
      F_law_shown := F19, g_law_shown := PySem.W.mg_of X G a19, b_law_shown := F19.binds (ps := ["_law_spring_here", "_law_things"]) fun _ _ _ _ _ _ us hl => match us, hl with | [_, _], _ => rfl,
      F_law_drawn := F20, g_law_drawn := PySem.W.mg_of X G a20, b_law_drawn := F20.binds (ps := ["_law_spring_here", "_law_most", "_law_greatest"]) fun _ _ _ _ _ _ us hl => match us, hl with | [_, _, _], _ => rfl,
      F_law_serves := F21, g_law_serves := PySem.W.mg_of X G a21, b_law_serves := F21.binds (ps := ["_law_nodes", "_law_changes"]) fun _ _ _ _ _ _ us hl => match us, hl with | [_, _], _ => rfl,
      F_law_lists := F22, g_law_lists := PySem.W.mg_of X G a22, b_law_lists := F22.binds (ps := ["_law_greatest"]) fun _ _ _ _ _ _ us hl => match us, hl with | [_], _ => rfl,
      F_law_are_apart := F23, g_law_are_apart := PySem.W.mg_of X G a23, b_law_are_apart := F23.binds (ps := ["_law_changes", "_law_numbers"]) fun _ _ _ _ _ _ us hl => match us, hl with | [_, _], _ => rfl,
      F_law_drawn_right := F24, g_law_drawn_right := PySem.W.mg_of X G a24, b_law_drawn_right := F24.binds (ps := ["_law_spring_here"]) fun _ _ _ _ _ _ us hl => match us, hl with | [_], _ => rfl,
      F_law_long_right := F25, g_law_long_right := PySem.W.mg_of X G a25, b_law_long_right := F25.binds (ps := ["_law_spring_here"]) fun _ _ _ _ _ _ us hl => match us, hl with | [_], _ => rfl,
      F_law_refused_right := F26, g_law_refused_right := PySem.W.mg_of X G a26, b_law_refused_right := F26.binds (ps := ["_law_spring_here"]) fun _ _ _ _ _ _ us hl => match us, hl with | [_], _ => rfl,
      F_law := F27, g_law := PySem.W.mg_of X G a27, b_law := F27.binds (ps := ["_law_script"]) fun _ _ _ _ _ _ us hl => match us, hl with | [_], _ => rfl,
      F_BadChange := F7, g_BadChange := PySem.W.mg_of X G a7, b_BadChange := F7.binds (ps := ["self", "index"]) fun _ _ _ _ _ _ us hl => match us, hl with | [_, _], _ => rfl,
      e_BadChange := { oex := { cls := ⟨nm7, q7, N7, bs7, _, sn7, sub7, ab7, col7, dd7, m07, m17, m27, m37, m57, x7, rfl⟩, sa := sa7, exC := ec7, tyC := tc7, kC := kc7 }, xf := ⟨ga7, gg7, ec7, hc7⟩, no := nf7, iC := ii7, tI := ti7, te := exm_self ec7 ic7 tc7 sc7 },
      n_abs := PySem.W.mg_none_of X G z0,
      n_all := PySem.W.mg_none_of X G z1,
      n_any := PySem.W.mg_none_of X G z2,
      n_bool := PySem.W.mg_none_of X G z3,
      n_dict := PySem.W.mg_none_of X G z4,
      n_enumerate := PySem.W.mg_none_of X G z5,
      n_int := PySem.W.mg_none_of X G z6,
      n_isinstance := PySem.W.mg_none_of X G z7,
      n_len := PySem.W.mg_none_of X G z8,
      n_list := PySem.W.mg_none_of X G z9,
      n_range := PySem.W.mg_none_of X G z10,
      n_set := PySem.W.mg_none_of X G z11,
      n_sorted := PySem.W.mg_none_of X G z12,
      n_sum := PySem.W.mg_none_of X G z13,
      n_tuple := PySem.W.mg_none_of X G z14,
      n_zip := PySem.W.mg_none_of X G z15 }
  exact ⟨fd 27, fun s v => .of_eq rfl, fun base _ _ => ok_law T⟩
end Lk
open PySem PySem.W PyProof.Rows
set_option maxHeartbeats 0 in
theorem PySem.Challenge.cw_linklines_k40_whole_nodes_holds : PySem.Challenge.rw_linklines_k40_whole_nodes.Holds := by
  w_on; o_law; k_head; (case hw => w_witness2)
  k_fill
  refine L2.walk_of (l := PySem.Challenge.rw_linklines_k40_whole_nodes) (n := 63) (k := 7) (x := "_law_script") (CX := fun _ => L2.CX0) (sp := fun w => Lk.sp_law _) rfl (by decide) rfl ⟨rfl, by decide, by decide⟩ (fun w h Y => PySem.W.kIn_of Y) ?F (fun _ _ a ns hl _ hS => ⟨a, ns, rfl, hS, hl, fun _ => rfl⟩) (fun _ _ _ _ _ h => h)
  case F =>
    intro w mg fa h KX G hmg
    refine' Lk.all_mk KX G hmg ?a1 ?l1 ?c1 ?k1 ?a2 ?l2 ?c2 ?k2 ?a3 ?l3 ?c3 ?k3 ?a4 ?l4 ?c4 ?k4 ?a9 ?l9 ?c9 ?k9 ?a10 ?l10 ?c10 ?k10 ?a11 ?l11 ?c11 ?k11 ?a12 ?l12 ?c12 ?k12 ?a14 ?l14 ?c14 ?k14 ?a15 ?l15 ?c15 ?k15 ?a16 ?l16 ?c16 ?k16 ?a17 ?l17 ?c17 ?k17 ?a18 ?l18 ?c18 ?k18 ?a19 ?l19 ?c19 ?k19 ?a20 ?l20 ?c20 ?k20 ?a21 ?l21 ?c21 ?k21 ?a22 ?l22 ?c22 ?k22 ?a23 ?l23 ?c23 ?k23 ?a24 ?l24 ?c24 ?k24 ?a25 ?l25 ?c25 ?k25 ?a26 ?l26 ?c26 ?k26 ?a27 ?l27 ?c27 ?k27 ?a7 ?x7 ?sa7 ?ga7 ?gg7 ?nf7 ?ii7 ?ti7 ?kc7 ?ec7 ?tc7 ?hc7 ?ic7 ?sc7 ?l7 ?c7 ?k7 ?z0 ?z1 ?z2 ?z3 ?z4 ?z5 ?z6 ?z7 ?z8 ?z9 ?z10 ?z11 ?z12 ?z13 ?z14 ?z15
    (case a1 => k_is)
    (case l1 => k_is)
    (case c1 => k_is)
    (case k1 => k_is)
    (case a2 => k_is)
    (case l2 => k_is)
    (case c2 => k_is)
    (case k2 => k_is)
    (case a3 => k_is)
    (case l3 => k_is)
    (case c3 => k_is)
    (case k3 => k_is)
    (case a4 => k_is)
    (case l4 => k_is)
    (case c4 => k_is)
    (case k4 => k_is)
    (case a9 => k_is)
    (case l9 => k_is)
    (case c9 => k_is)
    (case k9 => k_is)
    (case a10 => k_is)
    (case l10 => k_is)
    (case c10 => k_is)
    (case k10 => k_is)
    (case a11 => k_is)
    (case l11 => k_is)
    (case c11 => k_is)
    (case k11 => k_is)
    (case a12 => k_is)
    (case l12 => k_is)
    (case c12 => k_is)
    (case k12 => k_is)
    (case a14 => k_is)
    (case l14 => k_is)
    (case c14 => k_is)
    (case k14 => k_is)
    (case a15 => k_is)
    (case l15 => k_is)
    (case c15 => k_is)
    (case k15 => k_is)
    (case a16 => k_is)
    (case l16 => k_is)
    (case c16 => k_is)
    (case k16 => k_is)
    (case a17 => k_is)
    (case l17 => k_is)
    (case c17 => k_is)
    (case k17 => k_is)
    (case a18 => k_is)
    (case l18 => k_is)
    (case c18 => k_is)
    (case k18 => k_is)
    (case a19 => k_is)
    (case l19 => k_is)
    (case c19 => k_is)
    (case k19 => k_is)
    (case a20 => k_is)
    (case l20 => k_is)
    (case c20 => k_is)
    (case k20 => k_is)
    (case a21 => k_is)
    (case l21 => k_is)
    (case c21 => k_is)
    (case k21 => k_is)
    (case a22 => k_is)
    (case l22 => k_is)
    (case c22 => k_is)
    (case k22 => k_is)
    (case a23 => k_is)
    (case l23 => k_is)
    (case c23 => k_is)
    (case k23 => k_is)
    (case a24 => k_is)
    (case l24 => k_is)
    (case c24 => k_is)
    (case k24 => k_is)
    (case a25 => k_is)
    (case l25 => k_is)
    (case c25 => k_is)
    (case k25 => k_is)
    (case a26 => k_is)
    (case l26 => k_is)
    (case c26 => k_is)
    (case k26 => k_is)
    (case a27 => k_is)
    (case l27 => k_is)
    (case c27 => k_is)
    (case k27 => k_is)
    (case a7 => k_is)
    (case x7 => k_is)
    (case sa7 => k_is)
    (case ga7 => k_is)
    (case gg7 => k_is)
    (case nf7 => k_is)
    (case ii7 => k_is)
    (case ti7 => k_is)
    (case kc7 => k_is)
    (case ec7 => k_is)
    (case tc7 => k_is)
    (case hc7 => k_is)
    (case ic7 => k_is)
    (case sc7 => first | rfl | k_is)
    (case l7 => k_is)
    (case c7 => k_is)
    (case k7 => k_is)
    (case z0 => k_is)
    (case z1 => k_is)
    (case z2 => k_is)
    (case z3 => k_is)
    (case z4 => k_is)
    (case z5 => k_is)
    (case z6 => k_is)
    (case z7 => k_is)
    (case z8 => k_is)
    (case z9 => k_is)
    (case z10 => k_is)
    (case z11 => k_is)
    (case z12 => k_is)
    (case z13 => k_is)
    (case z14 => k_is)
    (case z15 => k_is)
