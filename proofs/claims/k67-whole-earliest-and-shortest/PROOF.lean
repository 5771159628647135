import PyProof.Rows.All
import Wide.All
import OpenK.AllK
import Wide.FinOn
import PyProof.EqAt
import PyProof.EqKinds
import PyProof.TupleCall
import KE.GoesEnum
import HandS.ForMost
import HandS.Exc
import HandS.WordsExc
import HandS.IsInst
import HandS.Walk
import HandS.ExcInit
import HandS.ExcField
import HandS.CallLocal
import KE.DatumOrd
import HandS.Zip
import PyProof.NeKinds
import HandS.Style
import KE.DatumMore
import PySem.Challenge.RW_linklines_k67_whole_earliest_and_shortes
set_option Elab.async false
set_option linter.all false
set_option maxRecDepth 100000
set_option maxHeartbeats 4000000
/-! Rules for a list or a tuple alike: subscripts, walks, enumerate. -/
namespace Lk
open PySem PySem.Spec PyProof.Rows L2

/-! ### subscripts -/
def rIxS (K : PySem.W.Frag) : R2 := fun x y H Q => rIxL K x y H Q ∨ rIxT K x y H Q
theorem ix_seq {X : Cx} {K : PySem.W.Frag} (hK : X.K = K := by rfl) : IxR X (rIxS K) := by
  subst hK
  exact IxR.or ix_list ix_tup
/-! ### rules of the layer with the written part as a letter of its own (within comprehensions) -/
section
variable {X : Cx} {K : PySem.W.Frag}
def rLen (K : PySem.W.Frag) : List V → Hp → VK → Prop := fun xs H Q => ∃ p ys, xs = [.ref p] ∧ (SqL K H p ys ∨ SqT K H p ys) ∧ Q (.int ys.length) H
theorem call_len (hK : X.K = K := by rfl) : CallR X (.builtin "len") (rLen K) := by
  subst hK
  exact call_len_seq
theorem call_all (hc : X.calm = true) (hK : X.K = K := by rfl) : CallR X (.builtin "all") (rAll K) := by
  subst hK
  exact cr_all hc
theorem call_any (hc : X.calm = true) (hK : X.K = K := by rfl) : CallR X (.builtin "any") (rAny K) := by
  subst hK
  exact cr_any hc
theorem call_sum (hc : X.calm = true) (hK : X.K = K := by rfl) : CallR X (.builtin "sum") (rSum K) := by
  subst hK
  exact cr_sum hc
theorem call_isinst (hK : X.K = K := by rfl) : CallR X (.builtin "isinstance") (rIsi K) := by
  subst hK
  exact call_isi
theorem call_isinstT (hK : X.K = K := by rfl) : CallR X (.builtin "isinstance") (rIsiT K) := by
  subst hK
  exact call_isiT
theorem sl_lst (hK : X.K = K := by rfl) : SlR X (rSlL K) := by
  subst hK
  exact sl_list
theorem op_inS (hK : X.K = K := by rfl) : OpR X (compareOp .In) (rIn K false) := by
  subst hK
  exact op_in_seq
theorem op_eqData (hu : X.A.units + 64 < cLine) (hK : X.K = K := by rfl) : OpR X (compareOp .Eq) (rEqD K) := by
  subst hK
  exact op_eqD hu
theorem op_neData (hu : X.A.units + 64 < cLine) (hK : X.K = K := by rfl) : OpR X (compareOp .NotEq) (rNeD K) := by
  subst hK
  exact op_neD hu
def rListOf (K : PySem.W.Frag) : List V → Hp → VK → Prop := fun xs H Q => ∃ p ys, xs = [.ref p] ∧ (SqL K H p ys ∨ SqT K H p ys) ∧ ∀ l, H l = none → Q (.ref l) (upd H l (.lst ys))
theorem call_list (hK : X.K = K := by rfl) : CallR X (.type "list") (rListOf K) := by
  subst hK
  exact call_list_of
theorem pg_tp {es : List Expr} {k n : Nat} {t : TGs} {pos : Pos} (hc : X.calm = true) (h : PGs X es t) (hK : X.K = K := by rfl)
    (hn : (assignEach es X.env).length = n := by rfl) (hst : (assignEach es X.env).findIdx? (·.1) = none := by rfl) : PG X (.Tuple es k pos) (gTup K n t) := by
  subst hK
  exact pg_tup hc h hn hst
theorem pe_bmK {T id : String} {name : Str} {r : V → List V → Hp → VK → Prop} {o e : Expr} {es : List Expr} {to : TE} {t : TA} {apos cpos : Pos} (pa : PlainAttrs T) (slot : Slot T name id) (hty : typeOf (.builtin id) = pure (.type "method_descriptor")) (hm : MtR X id r) (ho : PE X o to) (ha : PA X (e :: es) t) (hK : X.K = K := by rfl)
    (hbase : attributeBase o name X.env (eval o X.env) = eval o X.env := by rfl)
    (hfew : ((backTo cpos (starEach (e :: es) X.env)).all (fun x => !x.1) && (backToKw cpos (keywordEach [] X.env)).all (fun x => x.1.isSome)
      && decide ((e :: es).length + ([] : List Keyword).length + (if ([] : List Keyword).isEmpty then 0 else 1) < 30)) = true := by rfl)
    (hline : (apos.endLine == cpos.line) = true := by rfl) (hs : starEach (e :: es) X.env = (false, eval e X.env) :: starEach es X.env := by rfl) (hplain : (backTo cpos (starEach es X.env)).any (·.1) = false := by rfl) :
    PE X (.Call (.Attribute o name apos) (e :: es) [] cpos) (tBM K T r to t) := by
  subst hK
  exact pe_bm pa slot hty hm ho ha hbase hfew hline hs hplain
theorem pe_bm0K {T id : String} {name : Str} {r : V → List V → Hp → VK → Prop} {o : Expr} {to : TE} {apos cpos : Pos} (pa : PlainAttrs T) (slot : Slot T name id) (hty : typeOf (.builtin id) = pure (.type "method_descriptor")) (hm : MtR X id r) (ho : PE X o to) (hK : X.K = K := by rfl)
    (hbase : attributeBase o name X.env (eval o X.env) = eval o X.env := by rfl) (hline : (apos.endLine == cpos.line) = true := by rfl) : PE X (.Call (.Attribute o name apos) [] [] cpos) (tBM0 K T r to) := by
  subst hK
  exact pe_bm0 pa slot hty hm ho hbase hline
def rTupleOf (K : PySem.W.Frag) : List V → Hp → VK → Prop := fun xs H Q => ∃ p ys, xs = [.ref p] ∧ ((SqL K H p ys ∧ ∀ l, H l = none → Q (.ref l) (upd H l (.tup ys))) ∨ (SqT K H p ys ∧ Q (.ref p) H))
theorem call_tuple (hK : X.K = K := by rfl) : CallR X (.type "tuple") (rTupleOf K) := by
  subst hK
  exact call_tuple_of
end

/-! ### a list or a tuple walked -/
def iSeq (K : PySem.W.Frag) (tl : TE) : TI := fun σ H R => tl σ H fun x H1 => ∃ a, x = .ref a ∧ (((∃ xs, SqL K H1 a xs) ∧ R (Itl K a) H1) ∨ ((∃ xs, SqT K H1 a xs) ∧ R (Itt K a) H1))
theorem pi_seq {X : Cx} {K : PySem.W.Frag} {tg l : Expr} {tl : TE} (hl : PE X l tl) (hK : X.K = K := by rfl) : PI X tg l (iSeq K tl) := by
  subst hK
  refine ⟨fun pins s σ H R I h => ?_⟩
  refine thn (hl.run pins s σ H _ I h) fun v s1 ⟨x, H1, I1, r1, q1⟩ => ?_
  obtain ⟨a, e, q1⟩ := q1
  subst e
  cases r1
  rcases q1 with ⟨⟨xs, hq⟩, q⟩ | ⟨⟨xs, hq⟩, q⟩
  · obtain ⟨its, rv, p, hz⟩ := I1.list hq
    refine wpAny_pyIter_list p.isList ?_
    refine ⟨s1.heap.objs.size, [s1.heap.objs.size], _, _, H1, rfl, I1.kept (t' := s1.toks) fun b o e => Heap.get?_push_of_some _ e, turn_list a _, ⟨_, Heap.get?_push_size _ rfl, rfl, rfl⟩, fun b hb => ?_, q⟩
    have e : b = s1.heap.objs.size := by simpa using hb
    subst e
    exact I1.fpOk (Nat.le_refl _) (I1.hok.fresh (Nat.le_refl _))
  · obtain ⟨its, rv, p, hz⟩ := I1.tuple hq
    refine wpAny_pyIter_tuple (show s1.heap.IsTuple a its.toArray from p) ?_
    refine ⟨s1.heap.objs.size, [s1.heap.objs.size], _, _, H1, rfl, I1.kept (t' := s1.toks) fun b o e => Heap.get?_push_of_some _ e, turn_tuple a _, ⟨_, Heap.get?_push_size _ rfl, rfl, rfl⟩, fun b hb => ?_, q⟩
    have e : b = s1.heap.objs.size := by simpa using hb
    subst e
    exact I1.fpOk (Nat.le_refl _) (I1.hok.fresh (Nat.le_refl _))

/-! ### enumerate(tuple) -/
theorem meets_enumerate_newT (l : Addr) (items : Array Value) (n : Nat) (dct : Option Addr) (sl : Array (Option Value)) :
    Meets (Builtin.«enumerate.__new__» ⟨[.type "enumerate", .ref l], []⟩) (fun _ R s => s.heap.get? l = some { cls := .type "tuple", dict := dct, data := .seq items n, slots := sl } ∧
      R (.ok (.ret (.ref (s.heap.push { cls := .type "tuple_iterator", data := .fields #[.ref l, .int 0 0] }).objs.size)))
        { s with heap := (s.heap.push { cls := .type "tuple_iterator", data := .fields #[.ref l, .int 0 0] }).push { cls := .type "enumerate", data := .fields #[.none, .bool false, .ref s.heap.objs.size, rawInt 0, .none, .none] } }) :=
  .of_wp fun prog w A R s h => by
    obtain ⟨hp, g, d, tk, os⟩ := s; obtain ⟨hl, h⟩ := h
    have hsub := sub_enumerate
    have hL : Heap.IsTuple (Shared.heap ⟨hp, g, d, tk, os⟩) l items := ⟨_, hl, rfl, n, rfl⟩
    wp_walk using PySem.AutoSeq1.wpAny_loadPart' hl
    refine wpAny_stack_any fun st => wpAny_pure ?_
    split
    · rename_i c _ _ _ _ _
      cases (c == Value.type "enumerate")
      · wp_walk using PySem.AutoSeq1.wpAny_loadPart' hl, wpAny_pyIter_tuple hL
        exact ⟨_, rfl, h⟩
      · wp_walk using PySem.AutoSeq1.wpAny_loadPart' hl, wpAny_pyIter_tuple hL
        exact ⟨_, rfl, h⟩
    · wp_walk using PySem.AutoSeq1.wpAny_loadPart' hl, wpAny_pyIter_tuple hL
      exact ⟨_, rfl, h⟩
section
variable {prog : Program} {w : World} {A : Around} {E : Value → Shared → Prop} {s : Shared}
theorem call_enumerate_tuple {l : Addr} {items : Array Value} {Q : Value → Shared → Prop} (hL : s.heap.IsTuple l items)
    (h : ∀ h', IsEnum h' (s.heap.objs.size + 1) s.heap.objs.size 0 .none → h'.IsTupleIter s.heap.objs.size l 0 → h'.objs.size = s.heap.objs.size + 2 →
      (∀ b o, s.heap.get? b = some o → h'.get? b = some o) → Q (.ref (s.heap.objs.size + 1)) { s with heap := h' }) :
    wpAny (model prog w) A (call (.type "enumerate") [.ref l]) Q E s := by
  obtain ⟨⟨c, dct, dt, sl⟩, hl, hc, n, hd⟩ := hL
  replace hc : c = .type "tuple" := hc
  replace hd : dt = .seq items n := hd
  subst hc hd
  refine callType_new F.called_enumerate (by decide) (F.typeCall_enumerate_1 _) (F.newCall_enumerate_1 _) (fun obj => F.args_object_init_2 obj _) F.entry_enumerate_new
    (meets_enumerate_newT l items n dct sl) ⟨hl, ?_⟩
  have hz : (s.heap.push { cls := .type "tuple_iterator", data := .fields #[.ref l, .int 0 0] }).objs.size = s.heap.objs.size + 1 := Heap.size_push ..
  show _ ∧ _
  rw [hz]
  have he : IsEnum ((s.heap.push { cls := .type "tuple_iterator", data := .fields #[.ref l, .int 0 0] }).push
      { cls := .type "enumerate", data := .fields #[.none, .bool false, .ref s.heap.objs.size, rawInt 0, .none, .none] }) (s.heap.objs.size + 1) s.heap.objs.size 0 .none := by
    have := Heap.get?_push_size (s.heap.push { cls := .type "tuple_iterator", data := .fields #[.ref l, .int 0 0] })
      (o := { cls := .type "enumerate", data := .fields #[.none, .bool false, .ref s.heap.objs.size, rawInt 0, .none, .none] }) rfl
    rw [hz] at this; exact this
  refine ⟨⟨_, he, rfl⟩, h _ he ⟨_, Heap.get?_push_of_some _ (Heap.get?_push_size _ rfl), rfl, rfl⟩ (by rw [Heap.size_push, hz]) fun b o x => Heap.get?_push_of_some _ (Heap.get?_push_of_some _ x)⟩
end
def IteT (K : PySem.W.Frag) (a : Addr) : It :=
  ⟨fun i H => ∃ (xs : List V) (x : V), SqT K H a xs ∧ xs[i]? = some x, fun i H v H' => ∃ T x, v = .ref T ∧ H T = none ∧ H' = upd H T (.tup [.int (i : Nat), x]) ∧ ∀ xs, SqT K H a xs → xs[i]? = some x, fun i H => ∃ xs : List V, SqT K H a xs ∧ xs.length = i⟩
theorem turn_enumT {P : Program} {w : World} {K : PySem.W.Frag} {elts : List Expr} {kk : Nat} {tpos : Pos} (a e it : Addr) (hai : a ≠ it) (hae : a ≠ e) :
    Turn P w K (.Tuple elts kk tpos) (IteT K a) [e, it] e (fun i h => (∃ old, IsEnum h e it ((i : Nat) : Int) old) ∧ h.IsTupleIter it a i ∧ e ≠ it) where
  mem := by simp
  obj := fun i h st b hb => by
    obtain ⟨⟨old, he⟩, ⟨o, ho, hc, hd⟩, _⟩ := st
    have e' : b = e ∨ b = it := by simpa using hb
    rcases e' with z | z
    · rw [z]; exact ⟨_, he, fun v q => nomatch q⟩
    · rw [z]; exact ⟨o, ho, fun v q => by rw [hd] at q; cases q⟩
  keep := fun i h h' st k => let ⟨⟨old, he⟩, hi, hne⟩ := st; ⟨⟨old, k e (by simp) _ he⟩, hi.at fun o q => k it (by simp) o q, hne⟩
  item := by
    intro X hP hw hK hc i pins s σ H E I hf st hg
    subst hP hw hK
    obtain ⟨⟨old, he⟩, hit, hne⟩ := st
    obtain ⟨xs, x, hq, hx⟩ := hg
    obtain ⟨its, rv, p, hz⟩ := I.tuple hq
    obtain ⟨u, hu, ru⟩ := rv.get hx
    have hel : e < s.heap.objs.size := Heap.lt_size he
    have hil : it < s.heap.objs.size := by obtain ⟨_, q, _⟩ := hit; exact Heap.lt_size q
    have pt : s.heap.IsTuple a its.toArray := p
    have hi : i < its.toArray.size := by
      have := rv.length
      have hh := (List.getElem?_eq_some_iff.mp hx).1
      simp
      omega
    have Dr := Draws.tuple (prog := X.prog) (w := X.w) (A := X.A.in1) (I.ok.hd hc) it a hai its.toArray
    refine wpAny_pyNext_enum_itemD Dr he ⟨hit, pt⟩ hi hne (by simp; exact ⟨hne, fun z => hae z.symm⟩) fun x' h' tk hP' ho hst' hT hsz hk => ?_
    have eu : x' = u := by
      have h1 : its.toArray[i]? = some x' := hP'
      have h2 : its.toArray[i]? = some u := by simpa using hu
      exact Option.some.inj (h1.symm.trans h2)
    subst eu
    obtain ⟨hit', _⟩ := hst'
    refine ⟨_, rfl, wpAny_letOwnedTupleGo_enum (s := { s with heap := h', toks := tk + 1 }) ho fun h'' he' sb => ?_⟩
    have hT2 : h''.get? s.heap.objs.size = some { cls := .type "tuple", data := .seq #[.int i tk, x'] } := (sb.2 _ (Nat.ne_of_gt hel)).trans hT
    have new : ObjOk X.prog X.w (upd H s.heap.objs.size (.tup [.int (i : Nat), x])) h'' s.heap.objs.size (.tup [.int (i : Nat), x]) :=
      ⟨by show 2 ≤ sizeLine; decide, [.int i tk, x'], .cons ⟨_, rfl⟩ (.cons ru .nil), ⟨_, hT2, rfl, _, rfl⟩⟩
    have I1 : Inv X pins σ (upd H s.heap.objs.size (.tup [.int (i : Nat), x])) { s with heap := h'', toks := tk + 1 } :=
      I.turnedNew (ch := [e, it]) (fun b ob hb q => (sb.2 b (fun z => hb (by simp [z]))).trans (hk b ob (fun z => hb (by simp [z])) (fun z => hb (by simp [z])) q)) hf (Nat.le_refl _) new
    refine ⟨.ref s.heap.objs.size, _, I1, rfl, ⟨_, x, rfl, I.hok.fresh (Nat.le_refl _), rfl, fun ys hy => by rw [I.tuple_inj hy hq]; exact hx⟩, ⟨⟨x', ?_⟩, hit'.at fun o q => (sb.2 it (Ne.symm hne)).trans q, hne⟩, fun b hb => ?_⟩
    · have e1 : ((i + 1 : Nat) : Int) = (i : Int) + 1 := by omega
      rw [e1]; exact he'
    · have hb' : b < s.heap.objs.size := by
        have e' : b = e ∨ b = it := by simpa using hb
        rcases e' with z | z
        · rw [z]; exact hel
        · rw [z]; exact hil
      rw [upd_ne (Nat.ne_of_lt hb')]
      exact (hf b hb).1
  done := by
    intro X hP hw hK hc i pins s σ H E I hf st hg
    subst hP hw hK
    obtain ⟨⟨old, he⟩, hit, hne⟩ := st
    obtain ⟨xs, hq, hx⟩ := hg
    obtain ⟨its, rv, p, hz⟩ := I.tuple hq
    obtain ⟨f0, f1, f2, f3, f4, f5⟩ := hf it (by simp)
    have hl := rv.length
    have pt : s.heap.IsTuple a its.toArray := p
    have Dr := Draws.tuple (prog := X.prog) (w := X.w) (A := X.A.in1) (I.ok.hd hc) it a hai its.toArray
    have hi : its.toArray.size = i := by simp; omega
    exact wpAny_pyNext_enum_endD Dr he (by rw [hi]; exact ⟨hit, pt⟩) fun h' eb => ⟨rfl, I.turned (t' := s.toks) (fun b o hb q => eb b o hb q) f0 f1 f3 f4 f5⟩
  self := fun A i s Q E st h => let ⟨⟨_, he⟩, _⟩ := st; wpAny_pyIter_enum he h
def iEnumS (K : PySem.W.Frag) (ta : TA) : TI := fun σ H R => ta σ H fun vs H1 => ∃ a xs, vs = [.ref a] ∧ ((SqL K H1 a xs ∧ R (Ite K a) H1) ∨ (SqT K H1 a xs ∧ R (IteT K a) H1))
theorem pi_enumS {X : Cx} {K : PySem.W.Frag} {e : Expr} {ta : TA} {p pos tpos : Pos} {elts : List Expr} {kk : Nat} (hg : Gl X "enumerate") (hm : X.mg "enumerate" = none) (ha : PA X [e] ta) (hK : X.K = K := by rfl) (hs : starEach [e] X.env = [(false, eval e X.env)] := by rfl) :
    PI X (.Tuple elts kk tpos) (.Call (.Name "enumerate" p) [e] [] pos) (iEnumS K ta) := by
  subst hK
  refine ⟨fun pins s σ H R I h => ?_⟩
  refine Call_ (ld_blt I hg hm boot_enumerate (PyProof.Rows.callWith_type1 (thn (ha.run pos pins s σ H _ I h) fun us s1 ⟨vs, H1, I1, r1, q1⟩ => ?_) hs rfl))
  obtain ⟨a, xs, ex, hq⟩ := q1
  subst ex
  cases r1 with
  | cons r rr =>
    cases rr
    cases r
    have fp : ∀ b ∈ [s1.heap.objs.size + 1, s1.heap.objs.size], FpOk X pins H1 b := fun b hb => by
      have e' : b = s1.heap.objs.size + 1 ∨ b = s1.heap.objs.size := by simpa using hb
      have hle : s1.heap.objs.size ≤ b := by
        rcases e' with z | z
        · rw [z]; exact Nat.le_add_right _ _
        · rw [z]; exact Nat.le_refl _
      exact I1.fpOk hle (I1.hok.fresh hle)
    rcases hq with ⟨hq, q⟩ | ⟨hq, q⟩
    · obtain ⟨its, rv, p', hz⟩ := I1.list hq
      refine call_enumerate_list p'.isList fun h' he hit hsz hk => wpAny_pyIter_enum he ?_
      have I2 : Inv X pins σ H1 { s1 with heap := h' } := I1.kept (t' := s1.toks) hk
      exact ⟨s1.heap.objs.size + 1, [s1.heap.objs.size + 1, s1.heap.objs.size], _, _, H1, rfl, I2, turn_enum a (s1.heap.objs.size + 1) s1.heap.objs.size, ⟨⟨.none, he⟩, hit, Nat.succ_ne_self _⟩, fp, q⟩
    · obtain ⟨its, rv, p', hz⟩ := I1.tuple hq
      have pt : s1.heap.IsTuple a its.toArray := p'
      have hal : a < s1.heap.objs.size := by
        obtain ⟨o, ho, _⟩ := pt
        exact Heap.lt_size ho
      refine call_enumerate_tuple pt fun h' he hit hsz hk => wpAny_pyIter_enum he ?_
      have I2 : Inv X pins σ H1 { s1 with heap := h' } := I1.kept (t' := s1.toks) hk
      exact ⟨s1.heap.objs.size + 1, [s1.heap.objs.size + 1, s1.heap.objs.size], _, _, H1, rfl, I2, turn_enumT a (s1.heap.objs.size + 1) s1.heap.objs.size (Nat.ne_of_lt hal) (Nat.ne_of_lt (Nat.lt_succ_of_lt hal)), ⟨⟨.none, he⟩, hit, Nat.succ_ne_self _⟩, fp, q⟩
end Lk
/-! Types by tags, heaps, a call of a local name that may raise. -/
namespace Lk
open PySem PySem.Spec PyProof.Rows L2

/-! ### types by tags -/
inductive Tg where
  | non | bl | int | str | lst | tup | dct
  deriving DecidableEq
def Tg.nm : Tg → String
  | .non => "NoneType" | .bl => "bool" | .int => "int" | .str => "str" | .lst => "list" | .tup => "tuple" | .dct => "dict"
def Tg.sub (a b : Tg) : Bool := decide (a = b) || (decide (a = .bl) && decide (b = .int))
def HasTy (K : PySem.W.Frag) (H : Hp) (v : V) (t : Tg) : Prop := TyX K H v (.type t.nm)
theorem kit_tg {K : PySem.W.Frag} : ∀ (a b : Tg), b ≠ .non → PySem.W.kitOne K (.type a.nm) (.type b.nm) = some (a.sub b) := by
  intro a b h
  cases b
  · exact absurd rfl h
  all_goals (cases a <;> exact kit_ty (by decide +kernel))
section
variable {K : PySem.W.Frag} {H H' : Hp} {a : Addr} {xs : List V}
theorem hasTy_non : HasTy K H .non .non := .base .non
theorem hasTy_bl {b : Bool} : HasTy K H (.bl b) .bl := .base (.bl b)
theorem hasTy_int {i : Int} : HasTy K H (.int i) .int := .base (.int i)
theorem hasTy_str {z : Str} : HasTy K H (.str z) .str := .base (.str z)
theorem hasTy_lst (h : SqL K H a xs) : HasTy K H (.ref a) .lst := by
  rcases h with (h | ⟨o, h⟩) | ⟨o, its, n, h1, h2, _⟩
  · exact .base (.lst h)
  · exact .base (.frz h)
  · exact .kList h1 h2
theorem hasTy_tup (h : SqT K H a xs) : HasTy K H (.ref a) .tup := by
  rcases h with (h | ⟨o, h⟩) | ⟨o, its, n, h1, h2, _⟩
  · exact .base (.tup h)
  · exact .fTuple h
  · exact .kTuple h1 h2
theorem hasTy_dct {kvs : List (Key × V)} (h : H a = some (.dK kvs)) : HasTy K H (.ref a) .dct := .base (.dK h)

/-! ### heaps -/
theorem same_new {p : Addr} {o : HO} (h : H p = none) : Same H (upd H p o) := fun b x e => by
  rw [upd_ne (ne_of_none e h)]
  exact e
theorem _root_.L2.Same.new {p : Addr} {o : HO} (e : Same H H') (h : H' p = none) : Same H (upd H' p o) := e.trans (same_new h)
/-- what H did not know may change -/
theorem _root_.L2.Same.mut {p : Addr} {o : HO} (e : Same H H') (h : H p = none) : Same H (upd H' p o) := fun b x q => by
  rw [upd_ne (ne_of_none q h)]
  exact e b x q
theorem _root_.L2.Same.rd {u : HO} (e : Same H H') (h : Rd H a u) : Rd H' a u := by
  rcases h with h | ⟨o, h⟩
  · exact Or.inl (e a _ h)
  · exact Or.inr ⟨o, e a _ h⟩
theorem _root_.L2.Same.sqT (e : Same H H') (h : SqT K H a xs) : SqT K H' a xs := by
  rcases h with h | h
  · exact Or.inl (e.rd h)
  · exact Or.inr h
def Sq (K : PySem.W.Frag) (H : Hp) (a : Addr) (xs : List V) : Prop := SqL K H a xs ∨ SqT K H a xs
theorem _root_.L2.Same.sq (e : Same H H') (h : Sq K H a xs) : Sq K H' a xs := h.imp (fun z => e.seq z) fun z => e.sqT z
theorem _root_.L2.Same.ty {v : V} {t : Tg} (e : Same H H') (h : HasTy K H v t) : HasTy K H' v t := by
  unfold HasTy at *
  generalize hg : Value.type t.nm = g at *
  cases h with
  | base b =>
    cases b with
    | non => exact .base .non
    | bl x => exact .base (.bl x)
    | int x => exact .base (.int x)
    | str x => exact .base (.str x)
    | flt x => exact .base (.flt x)
    | lst q => exact .base (.lst (e _ _ q))
    | frz q => exact .base (.frz (e _ _ q))
    | tup q => exact .base (.tup (e _ _ q))
    | dK q => exact .base (.dK (e _ _ q))
    | dT q => exact .base (.dT (e _ _ q))
    | ins q cl ha hn htk hm => exact .base (.ins (e _ _ q) cl ha hn htk hm)
  | byt b => exact .byt b
  | set q => exact .set (e _ _ q)
  | kList q c => exact .kList q c
  | kTuple q c => exact .kTuple q c
  | kDict q c => exact .kDict q c
  | fTuple q => exact .fTuple (e _ _ q)
  | fDict q => exact .fDict (e _ _ q)
theorem sqL_of (h : H a = some (.lst xs)) : SqL K H a xs := .inl (.inl h)
theorem sqT_of (h : H a = some (.tup xs)) : SqT K H a xs := .inl (.inl h)
theorem sq_lst (h : H a = some (.lst xs)) : Sq K H a xs := .inl (sqL_of h)
theorem sq_tup (h : H a = some (.tup xs)) : Sq K H a xs := .inr (sqT_of h)
theorem Sq.ty (h : Sq K H a xs) : HasTy K H (.ref a) .lst ∨ HasTy K H (.ref a) .tup := h.imp hasTy_lst hasTy_tup
theorem none_of_upd {p q : Addr} {o : HO} (h : upd H p o q = none) : H q = none ∧ q ≠ p := by
  by_cases e : q = p
  · subst e
    rw [upd_same] at h
    cases h
  · rw [upd_ne e] at h
    exact ⟨h, e⟩
end
/-- all but what stands at p is as it was -/
def SameBut (p : Addr) (H H' : Hp) : Prop := ∀ b o, b ≠ p → H b = some o → H' b = some o
theorem SameBut.refl {p : Addr} {H : Hp} : SameBut p H H := fun _ _ _ h => h
theorem SameBut.trans {p : Addr} {H H1 H2 : Hp} (a : SameBut p H H1) (b : SameBut p H1 H2) : SameBut p H H2 := fun x o n h => b x o n (a x o n h)
theorem _root_.L2.Same.but {p : Addr} {H H' : Hp} (e : Same H H') : SameBut p H H' := fun b o _ h => e b o h
theorem SameBut.at_ {p : Addr} {H : Hp} {o : HO} : SameBut p H (upd H p o) := fun b x n h => by
  rw [upd_ne n]
  exact h
theorem SameBut.new {p q : Addr} {H H' : Hp} {o : HO} (e : SameBut p H H') (h : H' q = none) : SameBut p H (upd H' q o) := e.trans (same_new h).but
theorem SameBut.mut {p q : Addr} {H H' : Hp} {o : HO} (e : SameBut p H H') (h : H q = none) : SameBut p H (upd H' q o) := fun b x n z => by
  rw [upd_ne (ne_of_none z h)]
  exact e b x n z
theorem SameBut.free {p q : Addr} {H H' : Hp} {o : HO} (e : SameBut p H H') (hp : H' p = some o) (h : H' q = none) : H q = none := by
  cases z : H q with
  | none => rfl
  | some x =>
    have n : q ≠ p := fun y => by
      subst y
      rw [hp] at h
      cases h
    rw [e q x n z] at h
    cases h

/-! ### for loops and comprehensions over a list or a tuple -/
/-- what stands at a stays -/
def KeepsAt (a : Addr) (H H' : Hp) : Prop := ∀ o, H a = some o → H' a = some o
theorem _root_.L2.Same.keeps {a : Addr} {H H' : Hp} (e : Same H H') : KeepsAt a H H' := fun o h => e a o h
theorem SameBut.keeps {a p : Addr} {H H' : Hp} (e : SameBut p H H') (n : a ≠ p) : KeepsAt a H H' := fun o h => e a o n h
theorem KeepsAt.sqL {K : PySem.W.Frag} {a : Addr} {H H' : Hp} {xs : List V} (e : KeepsAt a H H') (h : SqL K H a xs) : SqL K H' a xs := by
  rcases h with (h | ⟨o, h⟩) | h
  · exact .inl (.inl (e _ h))
  · exact .inl (.inr ⟨o, e _ h⟩)
  · exact .inr h
theorem KeepsAt.sqT {K : PySem.W.Frag} {a : Addr} {H H' : Hp} {xs : List V} (e : KeepsAt a H H') (h : SqT K H a xs) : SqT K H' a xs := by
  rcases h with (h | ⟨o, h⟩) | h
  · exact .inl (.inl (e _ h))
  · exact .inl (.inr ⟨o, e _ h⟩)
  · exact .inr h
theorem KeepsAt.sq {K : PySem.W.Frag} {a : Addr} {H H' : Hp} {xs : List V} (e : KeepsAt a H H') (h : Sq K H a xs) : Sq K H' a xs := h.imp e.sqL e.sqT
theorem KeepsAt.refl {a : Addr} {H : Hp} : KeepsAt a H H := fun _ h => h
theorem KeepsAt.trans {a : Addr} {H H1 H2 : Hp} (x : KeepsAt a H H1) (y : KeepsAt a H1 H2) : KeepsAt a H H2 := fun o h => y o (x o h)
theorem walk_enumT {K : PySem.W.Frag} {a : Addr} {xs : List V} : Walk (IteT K a) xs.length (fun H => SqT K H a xs) (YPair (fun i => some (.int (i : Nat))) (fun i => xs[i]?)) := by
  refine ⟨fun i _ hi q => ⟨xs, xs[i], q, by simp [hi]⟩, fun _ q => ⟨xs, q, rfl⟩, fun i H v H' _ q y => ?_⟩
  obtain ⟨T, x, h1, h2, h3, h4⟩ := y
  exact ⟨T, .int (i : Nat), x, h1, h2, h3, rfl, h4 xs q⟩
/-- for x in a list or tuple -/
theorem for_seq {K : PySem.W.Frag} {a : Addr} {xs : List V} {g : TG} {tb : TS} {D : Ends} {σ : L2.St} {H : Hp} (hq : Sq K H a xs) (Pv : Nat → L2.St → Hp → Prop) (h0 : Pv 0 σ H) (hl : ∀ i σ H', Pv i σ H' → KeepsAt a H H')
    (hs : ∀ i x σ H, xs[i]? = some x → Pv i σ H → g x σ H fun σ2 H2 => tb { D with nx := Pv (i + 1), ct := Pv (i + 1), bk := D.nx } σ2 H2) (hd : ∀ σ H, Pv xs.length σ H → D.nx σ H) :
    ∃ a', V.ref a = V.ref a' ∧ (((∃ xs, SqL K H a' xs) ∧ ∃ W : Nat → Nat → L2.St → Hp → Prop, (∃ m, W 0 m σ H) ∧ ∀ i m σ H, W i m σ H →
      ((Itl K a').stop i H ∧ D.nx σ H) ∨ ((Itl K a').go i H ∧ ∃ N : L2.St → Hp → Prop, (∀ σ' H', N σ' H' → ∃ m', m' < m ∧ W (i + 1) m' σ' H') ∧ ∀ x H', (Itl K a').yld i H x H' → g x σ H' fun σ2 H2 => tb { D with nx := N, ct := N, bk := D.nx } σ2 H2)) ∨
      ((∃ xs, SqT K H a' xs) ∧ ∃ W : Nat → Nat → L2.St → Hp → Prop, (∃ m, W 0 m σ H) ∧ ∀ i m σ H, W i m σ H →
      ((Itt K a').stop i H ∧ D.nx σ H) ∨ ((Itt K a').go i H ∧ ∃ N : L2.St → Hp → Prop, (∀ σ' H', N σ' H' → ∃ m', m' < m ∧ W (i + 1) m' σ' H') ∧ ∀ x H', (Itt K a').yld i H x H' → g x σ H' fun σ2 H2 => tb { D with nx := N, ct := N, bk := D.nx } σ2 H2))) := by
  refine ⟨a, rfl, ?_⟩
  rcases hq with q | q
  · exact .inl ⟨⟨xs, q⟩, for_it walk_list Pv h0 (fun i σ' H' _ p => (hl i σ' H' p).sqL q) (fun i x σ' H1 H' _ p y => by rw [y.1]; exact hs i x σ' H1 y.2 p) hd⟩
  · exact .inr ⟨⟨xs, q⟩, for_it walk_tup Pv h0 (fun i σ' H' _ p => (hl i σ' H' p).sqT q) (fun i x σ' H1 H' _ p y => by rw [y.1]; exact hs i x σ' H1 y.2 p) hd⟩
/-- for i, x in enumerate(a list or tuple) -/
theorem for_enum {K : PySem.W.Frag} {a : Addr} {xs : List V} {g : TG} {tb : TS} {D : Ends} {σ : L2.St} {H : Hp} (hq : Sq K H a xs) (Pv : Nat → L2.St → Hp → Prop) (h0 : Pv 0 σ H) (hl : ∀ i σ H', Pv i σ H' → KeepsAt a H H')
    (hs : ∀ i x σ H T, xs[i]? = some x → Pv i σ H → H T = none → g (.ref T) σ (upd H T (.tup [.int (i : Nat), x])) fun σ2 H2 => tb { D with nx := Pv (i + 1), ct := Pv (i + 1), bk := D.nx } σ2 H2) (hd : ∀ σ H, Pv xs.length σ H → D.nx σ H) :
    ∃ a' xs', [V.ref a] = [V.ref a'] ∧ ((SqL K H a' xs' ∧ ∃ W : Nat → Nat → L2.St → Hp → Prop, (∃ m, W 0 m σ H) ∧ ∀ i m σ H, W i m σ H →
      ((Ite K a').stop i H ∧ D.nx σ H) ∨ ((Ite K a').go i H ∧ ∃ N : L2.St → Hp → Prop, (∀ σ' H', N σ' H' → ∃ m', m' < m ∧ W (i + 1) m' σ' H') ∧ ∀ x H', (Ite K a').yld i H x H' → g x σ H' fun σ2 H2 => tb { D with nx := N, ct := N, bk := D.nx } σ2 H2)) ∨
      (SqT K H a' xs' ∧ ∃ W : Nat → Nat → L2.St → Hp → Prop, (∃ m, W 0 m σ H) ∧ ∀ i m σ H, W i m σ H →
      ((IteT K a').stop i H ∧ D.nx σ H) ∨ ((IteT K a').go i H ∧ ∃ N : L2.St → Hp → Prop, (∀ σ' H', N σ' H' → ∃ m', m' < m ∧ W (i + 1) m' σ' H') ∧ ∀ x H', (IteT K a').yld i H x H' → g x σ H' fun σ2 H2 => tb { D with nx := N, ct := N, bk := D.nx } σ2 H2))) := by
  refine ⟨a, xs, rfl, ?_⟩
  have st : ∀ i x σ' H1 H', Pv i σ' H1 → YPair (fun i => some (.int (i : Nat))) (fun i => xs[i]?) i H1 x H' → g x σ' H' fun σ2 H2 => tb { D with nx := Pv (i + 1), ct := Pv (i + 1), bk := D.nx } σ2 H2 := by
    rintro i x σ' H1 H' p ⟨T, y, z, rfl, nT, rfl, e1, e2⟩
    cases e1
    exact hs i z σ' H1 T e2 p nT
  rcases hq with q | q
  · exact .inl ⟨q, for_it walk_enum Pv h0 (fun i σ' H' _ p => (hl i σ' H' p).sqL q) (fun i x σ' H1 H' _ p y => st i x σ' H1 H' p y) hd⟩
  · exact .inr ⟨q, for_it walk_enumT Pv h0 (fun i σ' H' _ p => (hl i σ' H' p).sqT q) (fun i x σ' H1 H' _ p y => st i x σ' H1 H' p y) hd⟩
/-- [e for x in a list or tuple] -/
theorem lc_seq {K : PySem.W.Frag} {a : Addr} {xs : List V} {g : TG} {tt : TT} {te : TE} {vs : List Nat} {σ : L2.St} {H : Hp} {Qd : Addr → Hp → Prop} (hq : Sq K H a xs) (Pv : Addr → Nat → Hp → Prop) (h0 : ∀ D, H D = none → Pv D 0 (upd H D (.lst []))) (hl : ∀ D i H', H D = none → Pv D i H' → KeepsAt a H H')
    (hs : ∀ D i x H', H D = none → xs[i]? = some x → Pv D i H' → g x (wipe σ vs) H' fun σ2 H2 => wipe σ2 vs = wipe σ vs ∧ tt σ2 H2 fun b H3 =>
      if b = true then te σ2 H3 fun y H4 => ∃ acc, H4 D = some (.lst acc) ∧ acc.length < sizeLine ∧ Pv D (i + 1) (upd H4 D (.lst (acc ++ [y]))) else Pv D (i + 1) H3) (hd : ∀ D H', H D = none → Pv D xs.length H' → Qd D H') :
    ∃ a', V.ref a = V.ref a' ∧ (((∃ xs, SqL K H a' xs) ∧ ∀ D : Addr, H D = none → ∃ W : Nat → Nat → Hp → Prop, (∃ m, W 0 m (upd H D (.lst []))) ∧ ∀ i m H, W i m H →
      ((Itl K a').stop i H ∧ Qd D H) ∨ ((Itl K a').go i H ∧ ∃ Nx : Hp → Prop, (∀ H', Nx H' → ∃ m', m' < m ∧ W (i + 1) m' H') ∧ ∀ x H', (Itl K a').yld i H x H' → g x (wipe σ vs) H' fun σ2 H2 => wipe σ2 vs = wipe σ vs ∧ tt σ2 H2 fun b H3 =>
        if b = true then te σ2 H3 fun y H4 => ∃ acc, H4 D = some (.lst acc) ∧ acc.length < sizeLine ∧ Nx (upd H4 D (.lst (acc ++ [y]))) else Nx H3)) ∨
      ((∃ xs, SqT K H a' xs) ∧ ∀ D : Addr, H D = none → ∃ W : Nat → Nat → Hp → Prop, (∃ m, W 0 m (upd H D (.lst []))) ∧ ∀ i m H, W i m H →
      ((Itt K a').stop i H ∧ Qd D H) ∨ ((Itt K a').go i H ∧ ∃ Nx : Hp → Prop, (∀ H', Nx H' → ∃ m', m' < m ∧ W (i + 1) m' H') ∧ ∀ x H', (Itt K a').yld i H x H' → g x (wipe σ vs) H' fun σ2 H2 => wipe σ2 vs = wipe σ vs ∧ tt σ2 H2 fun b H3 =>
        if b = true then te σ2 H3 fun y H4 => ∃ acc, H4 D = some (.lst acc) ∧ acc.length < sizeLine ∧ Nx (upd H4 D (.lst (acc ++ [y]))) else Nx H3))) := by
  refine ⟨a, rfl, ?_⟩
  rcases hq with q | q
  · exact .inl ⟨⟨xs, q⟩, fun D hD => lc_it walk_list (Pv D) (h0 D hD) (fun i H' _ p => (hl D i H' hD p).sqL q) (fun i x H1 H' _ p y => by rw [y.1]; exact hs D i x H1 hD y.2 p) (fun H' => hd D H' hD)⟩
  · exact .inr ⟨⟨xs, q⟩, fun D hD => lc_it walk_tup (Pv D) (h0 D hD) (fun i H' _ p => (hl D i H' hD p).sqT q) (fun i x H1 H' _ p y => by rw [y.1]; exact hs D i x H1 hD y.2 p) (fun H' => hd D H' hD)⟩
/-- [e for i, x in enumerate(a list or tuple)] -/
theorem lc_enum {K : PySem.W.Frag} {a : Addr} {xs : List V} {g : TG} {tt : TT} {te : TE} {vs : List Nat} {σ : L2.St} {H : Hp} {Qd : Addr → Hp → Prop} (hq : Sq K H a xs) (Pv : Addr → Nat → Hp → Prop) (h0 : ∀ D, H D = none → Pv D 0 (upd H D (.lst []))) (hl : ∀ D i H', H D = none → Pv D i H' → KeepsAt a H H')
    (hs : ∀ D i x H' T, H D = none → xs[i]? = some x → Pv D i H' → H' T = none → g (.ref T) (wipe σ vs) (upd H' T (.tup [.int (i : Nat), x])) fun σ2 H2 => wipe σ2 vs = wipe σ vs ∧ tt σ2 H2 fun b H3 =>
      if b = true then te σ2 H3 fun y H4 => ∃ acc, H4 D = some (.lst acc) ∧ acc.length < sizeLine ∧ Pv D (i + 1) (upd H4 D (.lst (acc ++ [y]))) else Pv D (i + 1) H3) (hd : ∀ D H', H D = none → Pv D xs.length H' → Qd D H') :
    ∃ a' xs', [V.ref a] = [V.ref a'] ∧ ((SqL K H a' xs' ∧ ∀ D : Addr, H D = none → ∃ W : Nat → Nat → Hp → Prop, (∃ m, W 0 m (upd H D (.lst []))) ∧ ∀ i m H, W i m H →
      ((Ite K a').stop i H ∧ Qd D H) ∨ ((Ite K a').go i H ∧ ∃ Nx : Hp → Prop, (∀ H', Nx H' → ∃ m', m' < m ∧ W (i + 1) m' H') ∧ ∀ x H', (Ite K a').yld i H x H' → g x (wipe σ vs) H' fun σ2 H2 => wipe σ2 vs = wipe σ vs ∧ tt σ2 H2 fun b H3 =>
        if b = true then te σ2 H3 fun y H4 => ∃ acc, H4 D = some (.lst acc) ∧ acc.length < sizeLine ∧ Nx (upd H4 D (.lst (acc ++ [y]))) else Nx H3)) ∨
      (SqT K H a' xs' ∧ ∀ D : Addr, H D = none → ∃ W : Nat → Nat → Hp → Prop, (∃ m, W 0 m (upd H D (.lst []))) ∧ ∀ i m H, W i m H →
      ((IteT K a').stop i H ∧ Qd D H) ∨ ((IteT K a').go i H ∧ ∃ Nx : Hp → Prop, (∀ H', Nx H' → ∃ m', m' < m ∧ W (i + 1) m' H') ∧ ∀ x H', (IteT K a').yld i H x H' → g x (wipe σ vs) H' fun σ2 H2 => wipe σ2 vs = wipe σ vs ∧ tt σ2 H2 fun b H3 =>
        if b = true then te σ2 H3 fun y H4 => ∃ acc, H4 D = some (.lst acc) ∧ acc.length < sizeLine ∧ Nx (upd H4 D (.lst (acc ++ [y]))) else Nx H3))) := by
  refine ⟨a, xs, rfl, ?_⟩
  have st : ∀ D i x H1 H', H D = none → Pv D i H1 → YPair (fun i => some (.int (i : Nat))) (fun i => xs[i]?) i H1 x H' → g x (wipe σ vs) H' fun σ2 H2 => wipe σ2 vs = wipe σ vs ∧ tt σ2 H2 fun b H3 =>
      if b = true then te σ2 H3 fun y H4 => ∃ acc, H4 D = some (.lst acc) ∧ acc.length < sizeLine ∧ Pv D (i + 1) (upd H4 D (.lst (acc ++ [y]))) else Pv D (i + 1) H3 := by
    rintro D i x H1 H' hD p ⟨T, y, z, rfl, nT, rfl, e1, e2⟩
    cases e1
    exact hs D i z H1 T hD e2 p nT
  rcases hq with q | q
  · exact .inl ⟨q, fun D hD => lc_it walk_enum (Pv D) (h0 D hD) (fun i H' _ p => (hl D i H' hD p).sqL q) (fun i x H1 H' _ p y => st D i x H1 H' hD p y) (fun H' => hd D H' hD)⟩
  · exact .inr ⟨q, fun D hD => lc_it walk_enumT (Pv D) (h0 D hD) (fun i H' _ p => (hl D i H' hD p).sqT q) (fun i x H1 H' _ p y => st D i x H1 H' hD p y) (fun H' => hd D H' hD)⟩

/-! ### an own error is made -/
/-- self.f = f -/
def sp_init (C : Addr) (f : Str) : Sp := fun vs H Q _ => ∃ a v, vs = [.ref a, v] ∧ H a = some (exo a C none) ∧ ∀ dx, H dx = none → dx ≠ a → Q .non (upd (upd H dx (exd dx [(f, v)])) a (exo a C (some dx)))
/-- what is asked of the way out of an error with one field -/
def ErrK (E : XK) (C : Addr) (f : Str) (v : V) (H : Hp) : Prop := ∀ d H', Same H H' → H d = none → H' d = some (.xd [(f, v)]) → E (.ref C) (some d) H'
theorem err_k {C : Addr} {f : Str} {H1 : Hp} {v : V} {W : XK} (h : ErrK W C f v H1) :
    ([v] : List V).length ≤ 1000 ∧ ∀ a, H1 a = none → sp_init C f (.ref a :: ([v] ++ [])) (upd H1 a (exo a C none)) (fun u H2 => u = .non ∧ ∃ (d : Addr) (fs : List (Str × V)), H2 a = some (exo a C (some d)) ∧ H2 d = some (exd d fs) ∧ H1 d = none ∧ W (.ref C) (some d) (upd (del H2 a) d (.xd fs))) (fun _ _ _ => False) := by
  refine ⟨by show 1 ≤ 1000; decide, fun a ha => ⟨a, v, rfl, upd_same, fun dx hd hne => ⟨rfl, dx, [(f, v)], upd_same, ?_, (none_of_upd hd).1, ?_⟩⟩⟩
  · rw [upd_ne hne, upd_same]
  · refine h dx _ (fun b o e => ?_) (none_of_upd hd).1 upd_same
    have n1 : b ≠ dx := ne_of_none e (none_of_upd hd).1
    have n2 : b ≠ a := ne_of_none e ha
    rw [upd_ne n1, del_ne n2, upd_ne n2, upd_ne n1, upd_ne n2]
    exact e

/-! ### a call of a local name that holds one of several defs; it may raise -/
structure HeldX (P : Program) (w : World) (K : PySem.W.Frag) (mg : Str → Option Value) (base : Heap) (k : Nat) (f : Addr) (sp : Sp) : Prop where
  ex : ∃ (fd : FuncData) (ps : List Str), FnOk P w K mg base (L2.CX P w) k f fd ps sp ∧ PySem.W.keepIn K (.ref f) = true ∧ Binds K fd ps []
def tCallLS (i : Nat) (S : Addr → Option Sp) (E : L2.St → XK) (t : TA) : TE := fun σ H Q => ∃ f sp, σ[i]? = some (some (.ref f)) ∧ S f = some sp ∧ t σ H fun vs H1 => sp vs H1 Q (E σ)
section
variable {X : Cx} {k i : Nat} {E : L2.St → XK} {x : Str} {p pos : Pos} {e : Expr} {es : List Expr} {t : TA} {S : Addr → Option Sp}
theorem pe_callLS (hS : ∀ f sp, S f = some sp → HeldX X.prog X.w X.K X.mg X.base k f sp) (hr : Room k X.A) (hN : X.N[i]? = some x) (hv : Vis X.env.scope x) (hx : ∀ σ, PassesAt (L2.CX X.prog X.w) X σ (E σ)) (ha : PA X (e :: es) t)
    (hdb : (x == ("__debug__" : Str)) = false := by decide) (hcd : (x == ("__classdict__" : Str)) = false := by decide)
    (he : starEach (e :: es) X.env = (false, eval e X.env) :: starEach es X.env := by rfl) (hpl : (backTo pos (starEach es X.env)).any (·.1) = false := by rfl) : PE X (.Call (.Name x p) (e :: es) [] pos) (tCallLS i S E t) := by
  refine ⟨fun pins s σ H Q I h => ?_⟩
  obtain ⟨f, sp, hs, hsp, ht⟩ := h
  obtain ⟨fd, ps, F, hk, hb⟩ := (hS f sp hsp).ex
  refine wpAny_Call_Name_kw (thn ((pe_var (pos := p) hN hv hdb hcd).run pins s σ H (fun v H1 => v = .ref f ∧ H1 = H) I ⟨.ref f, hs, rfl, rfl⟩) fun u s1 ⟨v, H1, I1, r1, q1⟩ => ?_)
  obtain ⟨rfl, rfl⟩ := q1
  cases r1
  refine PySem.W.callWith_K (h₀ := X.base) I.ok.mod.kin hk (thn (ha.run pos pins s1 σ _ _ I1 ht) fun us s2 ⟨vs, H2, I2, r, q⟩ => ⟨I2.kIn, ?_⟩) he hpl
  exact run_fnS F hr hb (hx σ) I2 r q
end
end Lk
/-! General lemmas: pairings, new lists, the draws' pool. -/
namespace Lk
open PySem PySem.Spec PyProof.Rows L2
section
variable {K : PySem.W.Frag}
def Tg.seq : Tg → Bool
  | .lst => true | .tup => true | _ => false
theorem Sq.tys {H : Hp} {a : Addr} {xs : List V} (h : Sq K H a xs) : ∃ t, HasTy K H (.ref a) t ∧ t.seq = true := by
  rcases h with h | h
  · exact ⟨.lst, hasTy_lst h, rfl⟩
  · exact ⟨.tup, hasTy_tup h, rfl⟩
theorem ErrK.same {E : XK} {C : Addr} {f : Str} {v : V} {H H' : Hp} (e : Same H H') (h : ErrK E C f v H) : ErrK E C f v H' := fun d H2 s n x => h d H2 (e.trans s) (e.free n) x
theorem paired_get {α β : Type} {R : α → β → Prop} : ∀ {xs : List α} {ys : List β} {i : Nat} {x : α}, Paired R xs ys → xs[i]? = some x → ∃ y, ys[i]? = some y ∧ R x y
  | _, _, 0, _, .cons h _, e => ⟨_, rfl, by cases e; exact h⟩
  | _, _, i + 1, _, .cons _ t, e => paired_get (i := i) t e
  | _, _, _, _, .nil, e => by simp at e
theorem paired_len {α β : Type} {R : α → β → Prop} : ∀ {xs : List α} {ys : List β}, Paired R xs ys → xs.length = ys.length
  | _, _, .nil => rfl
  | _, _, .cons _ t => by rw [List.length_cons, List.length_cons, paired_len t]
theorem paired_mono {α β : Type} {R S : α → β → Prop} (f : ∀ x y, R x y → S x y) : ∀ {xs : List α} {ys : List β}, Paired R xs ys → Paired S xs ys
  | _, _, .nil => .nil
  | _, _, .cons h t => .cons (f _ _ h) (paired_mono f t)
theorem paired_snoc {α β : Type} {R : α → β → Prop} {x : α} {y : β} (h : R x y) : ∀ {xs : List α} {ys : List β}, Paired R xs ys → Paired R (xs ++ [x]) (ys ++ [y])
  | _, _, .nil => .cons h .nil
  | _, _, .cons z t => .cons z (paired_snoc h t)
theorem take_snoc {α : Type} : ∀ {l : List α} {i : Nat} {x : α}, l[i]? = some x → l.take (i + 1) = l.take i ++ [x]
  | [], i, x, h => by simp at h
  | a :: l, 0, x, h => by cases h; rfl
  | a :: l, i + 1, x, h => by
    show a :: l.take (i + 1) = a :: l.take i ++ [x]
    rw [take_snoc (l := l) (i := i) h]
    rfl
theorem paired_mem {α β : Type} {R S : α → β → Prop} : ∀ {xs : List α} {ys : List β}, Paired R xs ys → (∀ x y, x ∈ xs → R x y → S x y) → Paired S xs ys
  | _, _, .nil, _ => .nil
  | _, _, .cons h t, f => .cons (f _ _ (List.mem_cons_self ..) h) (paired_mem t fun x y hx => f x y (List.mem_cons_of_mem _ hx))
theorem ixS {H : Hp} {a : Addr} {xs : List V} {j : Nat} {v : V} {Q : VK} (h : Sq K H a xs) (hv : xs[j]? = some v) (q : Q v H) : rIxS K (.ref a) (.int (j : Nat)) H Q := by
  rcases h with h | h
  · exact .inl ⟨a, xs, _, v, rfl, rfl, h, atI_nat hv, q⟩
  · exact .inr ⟨a, xs, _, v, rfl, rfl, h, atI_nat hv, q⟩
def Pool (H : Hp) (p : Addr) (n : Nat) : Prop := ∃ a b c : Int, H p = some (.lst [.int a, .int b, .int c]) ∧ 0 ≤ a ∧ 0 ≤ b ∧ b < 2147483647 ∧ 0 ≤ c ∧ c ≤ n
theorem Pool.mono {H : Hp} {p : Addr} {n m : Nat} (h : Pool H p n) (l : n ≤ m) : Pool H p m := by
  obtain ⟨a, b, c, h1, h2, h3, h4, h5, h6⟩ := h
  exact ⟨a, b, c, h1, h2, h3, h4, h5, by omega⟩
theorem Pool.keeps {H H' : Hp} {p : Addr} {n : Nat} (h : Pool H p n) (k : KeepsAt p H H') : Pool H' p n := by
  obtain ⟨a, b, c, h1, h2⟩ := h
  exact ⟨a, b, c, k _ h1, h2⟩
theorem Pool.at_ {H : Hp} {p : Addr} {n : Nat} (h : Pool H p n) : ∃ xs, H p = some (.lst xs) := by
  obtain ⟨a, b, c, h1, h2⟩ := h
  exact ⟨_, h1⟩
theorem fmod_lo {a b : Int} (h : 0 < b) : 0 ≤ a.fmod b := by rw [Int.fmod_eq_emod_of_nonneg a (by omega)]; exact Int.emod_nonneg a (by omega)
theorem fmod_hi {a b : Int} (h : 0 < b) : a.fmod b < b := by rw [Int.fmod_eq_emod_of_nonneg a (by omega)]; exact Int.emod_lt_of_pos a h
theorem fdiv_lo {a b : Int} (ha : 0 ≤ a) (h : 0 < b) : 0 ≤ a.fdiv b := by rw [Int.fdiv_eq_ediv_of_nonneg a (by omega)]; exact Int.ediv_nonneg ha (by omega)
theorem erase_perm {α : Type} : ∀ {l : List α} {i : Nat} (h : i < l.length), (l[i] :: l.eraseIdx i).Perm l
  | x :: l, 0, _ => .refl _
  | x :: l, i + 1, h => by
    have h2 : i < l.length := by simpa using h
    have ih := erase_perm (l := l) (i := i) h2
    show (l[i] :: x :: l.eraseIdx i).Perm (x :: l)
    exact (List.Perm.swap _ _ _).trans (ih.cons x)
theorem cutV_map (ns : List Int) (lo hi : Option Int) : ∃ ms : List Int, cutV (ns.map V.int) lo hi = ms.map V.int := by
  unfold cutV
  exact ⟨_, by rw [← List.map_drop, ← List.map_take]⟩
def PvV (H : Hp) (vs : List V) (D : Addr) (i : Nat) (H' : Hp) : Prop := Same H H' ∧ H' D = some (.lst (vs.take i))
theorem vals0 {H : Hp} {vs : List V} {D : Addr} (hD : H D = none) : PvV H vs D 0 (upd H D (.lst [])) := ⟨same_new hD, upd_same⟩
theorem vals_step {H H' H4 : Hp} {vs : List V} {D : Addr} {i : Nat} {y : V} (h : PvV H vs D i H') (hD : H D = none) (s : Same H' H4) (hy : vs[i]? = some y) (hl : vs.length ≤ 100000) :
    ∃ acc, H4 D = some (.lst acc) ∧ acc.length < sizeLine ∧ PvV H vs D (i + 1) (upd H4 D (.lst (acc ++ [y]))) := by
  obtain ⟨s1, hd⟩ := h
  refine ⟨vs.take i, s _ _ hd, ?_, fun b o e => ?_, ?_⟩
  · have hi := (List.getElem?_eq_some_iff.mp hy).1
    rw [List.length_take, sizeLine_eq]
    omega
  · rw [upd_ne (ne_of_none e hD)]
    exact s _ _ (s1 _ _ e)
  · rw [upd_same, take_snoc hy]
theorem valsE {H H' : Hp} {vs : List V} {D : Addr} {n : Nat} (h : PvV H vs D n H') (hn : n = vs.length) : Same H H' ∧ H' D = some (.lst vs) := by
  subst hn
  obtain ⟨s, h⟩ := h
  rw [List.take_length] at h
  exact ⟨s, h⟩
def GrowO {β : Type} (obj : β → HO) (H1 : Hp) (D : Addr) (qs : List β) (H' : Hp) : Prop := Same H1 H' ∧ ∃ as : List Addr, H' D = some (.lst (as.map V.ref)) ∧ Paired (fun a q => H' a = some (obj q)) as qs ∧ ∀ b ∈ as, b ≠ D ∧ H1 b = none
theorem growO0 {β : Type} {obj : β → HO} {H1 : Hp} {D : Addr} (hD : H1 D = none) : GrowO obj H1 D [] (upd H1 D (.lst [])) := ⟨same_new hD, [], upd_same, .nil, (fun b hb => nomatch hb)⟩
theorem growO_step {β : Type} {obj : β → HO} {H1 H' H2 : Hp} {D : Addr} {qs : List β} {q : β} (g : GrowO obj H1 D qs H') (hD : H1 D = none) (s : Same H' H2) (hl : qs.length < 100000) (t : Addr) (nt : H2 t = none) :
    ∃ acc, (upd H2 t (obj q)) D = some (.lst acc) ∧ acc.length < sizeLine ∧ GrowO obj H1 D (qs ++ [q]) (upd (upd H2 t (obj q)) D (.lst (acc ++ [.ref t]))) := by
  obtain ⟨s3, as, hd, hpr, hne⟩ := g
  have hd2 := s _ _ hd
  have ntD : D ≠ t := ne_of_none hd2 nt
  refine ⟨as.map V.ref, ?_, ?_, ?_⟩
  · rw [upd_ne ntD]
    exact hd2
  · rw [List.length_map, paired_len hpr, sizeLine_eq]
    omega
  · refine ⟨fun b' o' e' => ?_, as ++ [t], ?_, ?_, ?_⟩
    · have n1 : b' ≠ D := ne_of_none e' hD
      have e2 := s _ _ (s3 _ _ e')
      have n2 : b' ≠ t := ne_of_none e2 nt
      rw [upd_ne n1, upd_ne n2]
      exact e2
    · rw [upd_same, List.map_append]
      rfl
    · refine paired_snoc ?_ (paired_mem hpr fun c x hc hcq => ?_)
      · show (upd (upd H2 t (obj q)) D _) t = _
        rw [upd_ne (Ne.symm ntD), upd_same]
      · have hcq2 := s _ _ hcq
        show (upd (upd H2 t (obj q)) D _) c = _
        rw [upd_ne (hne c hc).1, upd_ne (ne_of_none hcq2 nt)]
        exact hcq2
    · intro c hc
      rcases List.mem_append.mp hc with hc | hc
      · exact hne c hc
      · cases List.mem_singleton.mp hc
        exact ⟨Ne.symm ntD, s3.free (s.free nt)⟩
theorem paired_app {α β : Type} {R : α → β → Prop} : ∀ {xs xs' : List α} {ys ys' : List β}, Paired R xs ys → Paired R xs' ys' → Paired R (xs ++ xs') (ys ++ ys')
  | _, _, _, _, .nil, h => h
  | _, _, _, _, .cons a t, h => .cons a (paired_app t h)
theorem paired_perm {α β : Type} {R : α → β → Prop} {xs xs' : List α} (h : xs'.Perm xs) : ∀ {ys : List β}, Paired R xs ys → ∃ ys', ys'.Perm ys ∧ Paired R xs' ys' := by
  induction h with
  | nil => intro ys q; exact ⟨ys, .refl _, q⟩
  | cons x _ ih =>
    intro ys q
    cases q with
    | cons a t =>
      obtain ⟨ys', p, r⟩ := ih t
      exact ⟨_ :: ys', p.cons _, .cons a r⟩
  | swap x y l =>
    intro ys q
    cases q with
    | cons a t =>
      cases t with
      | cons b t => exact ⟨_, List.Perm.swap _ _ _, .cons b (.cons a t)⟩
  | trans _ _ ih1 ih2 =>
    intro ys q
    obtain ⟨ys1, p1, r1⟩ := ih2 q
    obtain ⟨ys2, p2, r2⟩ := ih1 r1
    exact ⟨ys2, p2.trans p1, r2⟩
theorem paired_all {α β : Type} {R : α → β → Prop} {G : β → Prop} : ∀ {xs : List α}, (∀ x ∈ xs, ∃ y, R x y ∧ G y) → ∃ ys, Paired R xs ys ∧ ∀ y ∈ ys, G y
  | [], _ => ⟨[], .nil, (fun y hy => nomatch hy)⟩
  | x :: xs, h => by
    obtain ⟨y, h1, h2⟩ := h x (List.mem_cons_self ..)
    obtain ⟨ys, h3, h4⟩ := paired_all (xs := xs) fun z hz => h z (List.mem_cons_of_mem _ hz)
    refine ⟨y :: ys, .cons h1 h3, fun z hz => ?_⟩
    rcases List.mem_cons.mp hz with e | hz
    · rw [e]
      exact h2
    · exact h4 z hz
def backA : V → Addr
  | .ref a => a
  | _ => 0
theorem perm_refs {ys : List V} {as : List Addr} (h : ys.Perm (as.map V.ref)) : ∃ as' : List Addr, ys = as'.map V.ref ∧ as'.Perm as := by
  refine ⟨ys.map backA, ?_, ?_⟩
  · rw [List.map_map]
    refine (List.map_id ys).symm.trans (List.map_congr_left fun y hy => ?_)
    obtain ⟨a, _, rfl⟩ := List.mem_map.mp (h.mem_iff.mp hy)
    rfl
  · have := h.map backA
    rw [List.map_map] at this
    have e : as.map (backA ∘ V.ref) = as := (List.map_congr_left fun a _ => rfl).trans (List.map_id as)
    rw [e] at this
    exact this
theorem cutV_refs (as : List Addr) (lo hi : Option Int) : ∃ bs : List Addr, cutV (as.map V.ref) lo hi = bs.map V.ref ∧ bs.Sublist as := by
  unfold cutV
  refine ⟨_, by rw [← List.map_drop, ← List.map_take], ?_⟩
  exact (List.take_sublist _ _).trans (List.drop_sublist _ _)
theorem map_at {α β : Type} {f : α → β} {l : List α} {i : Nat} {y : β} (h : (l.map f)[i]? = some y) : ∃ x, l[i]? = some x ∧ y = f x := by
  rw [List.getElem?_map] at h
  cases e : l[i]? with
  | none => rw [e] at h; cases h
  | some x => rw [e] at h; exact ⟨x, rfl, (Option.some.inj h).symm⟩
theorem at_map {α β : Type} {f : α → β} {l : List α} {i : Nat} {x : α} (h : l[i]? = some x) : (l.map f)[i]? = some (f x) := by
  rw [List.getElem?_map, h]
  rfl
/-! ### _law_serves -/
theorem isi {H : Hp} {x : V} {t b : Tg} {Q : VK} (h : HasTy K H x t) (hb : b ≠ .non) (q : Q (.bl (t.sub b)) H) : rIsi K [x, .ty b.nm] H Q := ⟨x, _, _, _, _, rfl, .ty _, h, kit_tg t b hb, q⟩
theorem cut1V (xs : List V) : cutV xs (some 1) none = xs.drop 1 := by
  unfold cutV
  rw [show HT.sIx xs.length 0 (some 1) = min 1 xs.length from HT.sIx_nat xs.length 0 1, HT.sIx_none]
  cases xs with
  | nil => rfl
  | cons x r =>
    rw [show min 1 (x :: r).length = 1 by rw [List.length_cons]; omega]
    show List.take ((x :: r).length - 1) r = r
    rw [List.length_cons, Nat.add_sub_cancel]
    exact List.take_length
theorem range_take_at {α : Type} {f : Nat → α} {m i : Nat} (h : i < m) : ((List.range m).map f)[i]? = some (f i) := by
  rw [List.getElem?_map, List.getElem?_range h]
  rfl
theorem pe_fun {X : Cx} {x : Str} {f : Addr} {pos : Pos} (hg : Gl X x) (hm : X.mg x = some (.ref f)) (hd : (x == ("__debug__" : Str)) = false := by decide) : PE X (.Name x pos) (tC (.ref f)) := pe_glob (v := .ref f) hg hm rfl hd
/-! ### what is no change -/
def FlatV (v : V) : Prop := v = .non ∨ (∃ i, v = .int i) ∨ (∃ z, v = .str z) ∨ ∃ b, v = .bl b
theorem FlatV.ty {H : Hp} {v : V} (h : FlatV v) : ∃ t, HasTy K H v t ∧ t.seq = false := by
  rcases h with rfl | ⟨i, rfl⟩ | ⟨z, rfl⟩ | ⟨b, rfl⟩
  · exact ⟨.non, hasTy_non, rfl⟩
  · exact ⟨.int, hasTy_int, rfl⟩
  · exact ⟨.str, hasTy_str, rfl⟩
  · exact ⟨.bl, hasTy_bl, rfl⟩
end
end Lk
/-! ==, !=, <, >, in of data with a Lean type (KE.Datum). -/
namespace Lk
open PySem PySem.Spec PyProof.Rows L2 PySem.W
section
variable {α : Type} [DecidableEq α] [Datum α]
/-- v holds x -/
def HasD (K : Frag) (H : Hp) (v : V) (x : α) : Prop := Dp K H v (Datum.toD x)
def rEqT (α : Type) [DecidableEq α] [Datum α] (K : Frag) : R2 := fun u v H Q => ∃ x y : α, HasD K H u x ∧ HasD K H v y ∧ Q (.bl (decide (x = y))) H
def rNeT (α : Type) [DecidableEq α] [Datum α] (K : Frag) : R2 := fun u v H Q => ∃ x y : α, HasD K H u x ∧ HasD K H v y ∧ Q (.bl (!decide (x = y))) H
variable {X : Cx} {K : Frag}
theorem op_eqT (hu : X.A.units + Datum.depth α < cLine) (hK : X.K = K := by rfl) : OpR X (compareOp .Eq) (rEqT α K) := by
  subst hK
  intro pins s σ H u v a b Q I ru rv h
  obtain ⟨x, y, hx, hy, q⟩ := h
  exact eq_datum (Dp.reads I _ _ _ hx ru) (Dp.reads I _ _ _ hy rv) hu ⟨.bl (decide (x = y)), H, I, rfl, q⟩
theorem op_neT (hu : X.A.units + Datum.depth α < cLine) (hK : X.K = K := by rfl) : OpR X (compareOp .NotEq) (rNeT α K) := by
  subst hK
  intro pins s σ H u v a b Q I ru rv h
  obtain ⟨x, y, hx, hy, q⟩ := h
  exact ne_datum (Dp.reads I _ _ _ hx ru) (Dp.reads I _ _ _ hy rv) hu ⟨.bl (!decide (x = y)), H, I, by rw [decide_not]; rfl, q⟩
end
section
variable {α : Type} [DecidableEq α] [DatumOrd α] {X : Cx} {K : Frag}
def rGtT (α : Type) [DecidableEq α] [DatumOrd α] (K : Frag) : R2 := fun u v H Q => ∃ x y : α, HasD K H u x ∧ HasD K H v y ∧ Q (.bl (DatumOrd.lt y x)) H
theorem op_gtT (hu : X.A.units + Datum.depth α < cLine) (hK : X.K = K := by rfl) : OpR X (compareOp .Gt) (rGtT α K) := by
  subst hK
  intro pins s σ H u v a b Q I ru rv h
  obtain ⟨x, y, hx, hy, q⟩ := h
  exact gt_datum (Dp.reads I _ _ _ hx ru) (Dp.reads I _ _ _ hy rv) hu ⟨.bl (DatumOrd.lt y x), H, I, rfl, q⟩
end
section
variable {K : Frag} {H H' : Hp}
mutual
theorem dp_same (e : Same H H') : ∀ {v : V} {d : PyData}, Dp K H v d → Dp K H' v d
  | _, _, .non => .non
  | _, _, .bl b => .bl b
  | _, _, .int i => .int i
  | _, _, .str x => .str x
  | _, _, .lst h t => .lst (e.seq h) (dpAll_same e t)
  | _, _, .tup h t => .tup (e.sqT h) (dpAll_same e t)
theorem dpAll_same (e : Same H H') : ∀ {vs : List V} {ds : List PyData}, DpAll K H vs ds → DpAll K H' vs ds
  | _, _, .nil => .nil
  | _, _, .cons h t => .cons (dp_same e h) (dpAll_same e t)
end
theorem dp_ints : ∀ ns : List Int, DpAll K H (ns.map V.int) (ns.map Datum.toD)
  | [] => .nil
  | n :: ns => .cons (.int n) (dp_ints ns)
theorem hasD_int {i : Int} : HasD K H (.int i) i := .int i
theorem hasD_ints {a : Addr} {ns : List Int} (h : SqL K H a (ns.map V.int)) : HasD K H (.ref a) ns := .lst h (dp_ints ns)
end
end Lk
/-! zip of two lists or two tuples. -/
namespace Lk
open PySem PySem.Spec PyProof.Rows L2 RZ
theorem walk_zipT {K : PySem.W.Frag} {a b : Addr} {xs ys : List V} {n : Nat} (hn : n = min xs.length ys.length) : Walk (ItzT K a b) n (fun H => SqT K H a xs ∧ SqT K H b ys) (YPair (fun i => xs[i]?) (fun i => ys[i]?)) := by
  subst hn
  refine ⟨fun i _ hi q => ?_, fun _ q => ⟨xs, ys, q.1, q.2, by omega⟩, fun i H v H' _ q y => ?_⟩
  · have h1 : i < xs.length := by omega
    have h2 : i < ys.length := by omega
    exact ⟨xs, ys, xs[i], ys[i], q.1, q.2, by simp [h1], by simp [h2]⟩
  · obtain ⟨T, x, z, h1, h2, h3, h4, h5⟩ := y
    exact ⟨T, x, z, h1, h2, h3, h4 xs q.1, h5 ys q.2⟩
/-- both lists, or both tuples -/
def Sq2 (K : PySem.W.Frag) (H : Hp) (a b : Addr) (xs ys : List V) : Prop := (SqL K H a xs ∧ SqL K H b ys) ∨ (SqT K H a xs ∧ SqT K H b ys)
theorem _root_.L2.Same.sq2 {K : PySem.W.Frag} {H H' : Hp} {a b : Addr} {xs ys : List V} (e : Same H H') (h : Sq2 K H a b xs ys) : Sq2 K H' a b xs ys := h.imp (fun z => ⟨e.seq z.1, e.seq z.2⟩) fun z => ⟨e.sqT z.1, e.sqT z.2⟩
/-- [e for x, y in zip(a, b)] -/
theorem lc_zip {K : PySem.W.Frag} {a b : Addr} {xs ys : List V} {g : TG} {tt : TT} {te : TE} {vs : List Nat} {σ : L2.St} {H : Hp} {Qd : Addr → Hp → Prop} {n : Nat} (hn : n = min xs.length ys.length) (hq : Sq2 K H a b xs ys) (Pv : Addr → Nat → Hp → Prop) (h0 : ∀ D, H D = none → Pv D 0 (upd H D (.lst []))) (hl : ∀ D i H', H D = none → Pv D i H' → KeepsAt a H H' ∧ KeepsAt b H H')
    (hs : ∀ D i x y H' T, H D = none → xs[i]? = some x → ys[i]? = some y → Pv D i H' → H' T = none → g (.ref T) (wipe σ vs) (upd H' T (.tup [x, y])) fun σ2 H2 => wipe σ2 vs = wipe σ vs ∧ tt σ2 H2 fun b H3 =>
      if b = true then te σ2 H3 fun y H4 => ∃ acc, H4 D = some (.lst acc) ∧ acc.length < sizeLine ∧ Pv D (i + 1) (upd H4 D (.lst (acc ++ [y]))) else Pv D (i + 1) H3) (hd : ∀ D H', H D = none → Pv D n H' → Qd D H') :
    ∃ a' b' xs' ys', [V.ref a, V.ref b] = [V.ref a', V.ref b'] ∧ ((SqL K H a' xs' ∧ SqL K H b' ys' ∧ ∀ D : Addr, H D = none → ∃ W : Nat → Nat → Hp → Prop, (∃ m, W 0 m (upd H D (.lst []))) ∧ ∀ i m H, W i m H →
      ((Itz K a' b').stop i H ∧ Qd D H) ∨ ((Itz K a' b').go i H ∧ ∃ Nx : Hp → Prop, (∀ H', Nx H' → ∃ m', m' < m ∧ W (i + 1) m' H') ∧ ∀ x H', (Itz K a' b').yld i H x H' → g x (wipe σ vs) H' fun σ2 H2 => wipe σ2 vs = wipe σ vs ∧ tt σ2 H2 fun b H3 =>
        if b = true then te σ2 H3 fun y H4 => ∃ acc, H4 D = some (.lst acc) ∧ acc.length < sizeLine ∧ Nx (upd H4 D (.lst (acc ++ [y]))) else Nx H3)) ∨
      (SqT K H a' xs' ∧ SqT K H b' ys' ∧ ∀ D : Addr, H D = none → ∃ W : Nat → Nat → Hp → Prop, (∃ m, W 0 m (upd H D (.lst []))) ∧ ∀ i m H, W i m H →
      ((ItzT K a' b').stop i H ∧ Qd D H) ∨ ((ItzT K a' b').go i H ∧ ∃ Nx : Hp → Prop, (∀ H', Nx H' → ∃ m', m' < m ∧ W (i + 1) m' H') ∧ ∀ x H', (ItzT K a' b').yld i H x H' → g x (wipe σ vs) H' fun σ2 H2 => wipe σ2 vs = wipe σ vs ∧ tt σ2 H2 fun b H3 =>
        if b = true then te σ2 H3 fun y H4 => ∃ acc, H4 D = some (.lst acc) ∧ acc.length < sizeLine ∧ Nx (upd H4 D (.lst (acc ++ [y]))) else Nx H3))) := by
  refine ⟨a, b, xs, ys, rfl, ?_⟩
  have st : ∀ D i x H1 H', H D = none → Pv D i H1 → YPair (fun i => xs[i]?) (fun i => ys[i]?) i H1 x H' → g x (wipe σ vs) H' fun σ2 H2 => wipe σ2 vs = wipe σ vs ∧ tt σ2 H2 fun b H3 =>
      if b = true then te σ2 H3 fun y H4 => ∃ acc, H4 D = some (.lst acc) ∧ acc.length < sizeLine ∧ Pv D (i + 1) (upd H4 D (.lst (acc ++ [y]))) else Pv D (i + 1) H3 := by
    rintro D i x H1 H' hD p ⟨T, y, z, rfl, nT, rfl, e1, e2⟩
    exact hs D i y z H1 T hD e1 e2 p nT
  rcases hq with ⟨q1, q2⟩ | ⟨q1, q2⟩
  · exact .inl ⟨q1, q2, fun D hD => lc_it (walk_zip hn) (Pv D) (h0 D hD) (fun i H' _ p => ⟨(hl D i H' hD p).1.sqL q1, (hl D i H' hD p).2.sqL q2⟩) (fun i x H1 H' _ p y => st D i x H1 H' hD p y) (fun H' => hd D H' hD)⟩
  · exact .inr ⟨q1, q2, fun D hD => lc_it (walk_zipT hn) (Pv D) (h0 D hD) (fun i H' _ p => ⟨(hl D i H' hD p).1.sqT q1, (hl D i H' hD p).2.sqT q2⟩) (fun i x H1 H' _ p y => st D i x H1 H' hD p y) (fun H' => hd D H' hD)⟩
/-- for x, y in zip(a, b) -/
theorem for_zip {K : PySem.W.Frag} {a b : Addr} {xs ys : List V} {g : TG} {tb : TS} {D : Ends} {σ : L2.St} {H : Hp} {n : Nat} (hn : n = min xs.length ys.length) (hq : Sq2 K H a b xs ys) (Pv : Nat → L2.St → Hp → Prop) (h0 : Pv 0 σ H) (hl : ∀ i σ H', Pv i σ H' → KeepsAt a H H' ∧ KeepsAt b H H')
    (hs : ∀ i x y σ H T, xs[i]? = some x → ys[i]? = some y → Pv i σ H → H T = none → g (.ref T) σ (upd H T (.tup [x, y])) fun σ2 H2 => tb { D with nx := Pv (i + 1), ct := Pv (i + 1), bk := D.nx } σ2 H2) (hd : ∀ σ H, Pv n σ H → D.nx σ H) :
    ∃ a' b' xs' ys', [V.ref a, V.ref b] = [V.ref a', V.ref b'] ∧ ((SqL K H a' xs' ∧ SqL K H b' ys' ∧ ∃ W : Nat → Nat → L2.St → Hp → Prop, (∃ m, W 0 m σ H) ∧ ∀ i m σ H, W i m σ H →
      ((Itz K a' b').stop i H ∧ D.nx σ H) ∨ ((Itz K a' b').go i H ∧ ∃ N : L2.St → Hp → Prop, (∀ σ' H', N σ' H' → ∃ m', m' < m ∧ W (i + 1) m' σ' H') ∧ ∀ x H', (Itz K a' b').yld i H x H' → g x σ H' fun σ2 H2 => tb { D with nx := N, ct := N, bk := D.nx } σ2 H2)) ∨
      (SqT K H a' xs' ∧ SqT K H b' ys' ∧ ∃ W : Nat → Nat → L2.St → Hp → Prop, (∃ m, W 0 m σ H) ∧ ∀ i m σ H, W i m σ H →
      ((ItzT K a' b').stop i H ∧ D.nx σ H) ∨ ((ItzT K a' b').go i H ∧ ∃ N : L2.St → Hp → Prop, (∀ σ' H', N σ' H' → ∃ m', m' < m ∧ W (i + 1) m' σ' H') ∧ ∀ x H', (ItzT K a' b').yld i H x H' → g x σ H' fun σ2 H2 => tb { D with nx := N, ct := N, bk := D.nx } σ2 H2))) := by
  refine ⟨a, b, xs, ys, rfl, ?_⟩
  have st : ∀ i x σ' H1 H', Pv i σ' H1 → YPair (fun i => xs[i]?) (fun i => ys[i]?) i H1 x H' → g x σ' H' fun σ2 H2 => tb { D with nx := Pv (i + 1), ct := Pv (i + 1), bk := D.nx } σ2 H2 := by
    rintro i x σ' H1 H' p ⟨T, y, z, rfl, nT, rfl, e1, e2⟩
    exact hs i y z σ' H1 T e1 e2 p nT
  rcases hq with ⟨q1, q2⟩ | ⟨q1, q2⟩
  · exact .inl ⟨q1, q2, for_it (walk_zip hn) Pv h0 (fun i σ' H' _ p => ⟨(hl i σ' H' p).1.sqL q1, (hl i σ' H' p).2.sqL q2⟩) (fun i x σ' H1 H' _ p y => st i x σ' H1 H' p y) hd⟩
  · exact .inr ⟨q1, q2, for_it (walk_zipT hn) Pv h0 (fun i σ' H' _ p => ⟨(hl i σ' H' p).1.sqT q1, (hl i σ' H' p).2.sqT q2⟩) (fun i x σ' H1 H' _ p y => st i x σ' H1 H' p y) hd⟩
end Lk
/-! x == [], x != []: whatever the list holds. -/
namespace Lk
open PySem PySem.Spec PyProof.Rows L2
def rEqNil (K : PySem.W.Frag) : R2 := fun x y H Q => ∃ a b xs, x = .ref a ∧ y = .ref b ∧ SqL K H a xs ∧ SqL K H b [] ∧ Q (.bl xs.isEmpty) H
def rNeNil (K : PySem.W.Frag) : R2 := fun x y H Q => ∃ a b xs, x = .ref a ∧ y = .ref b ∧ SqL K H a xs ∧ SqL K H b [] ∧ Q (.bl (!xs.isEmpty)) H
section
variable {X : Cx} {K : PySem.W.Frag}
theorem op_eqNil (hu : X.A.units + 1 < cLine) (hK : X.K = K := by rfl) : OpR X (compareOp .Eq) (rEqNil K) := by
  subst hK
  intro pins s σ H u v a b Q I ru rv h
  obtain ⟨p, q, xs, rfl, rfl, hx, hy, k⟩ := h
  cases ru
  cases rv
  obtain ⟨its, r1, p1, _⟩ := I.list hx
  obtain ⟨its2, r2, p2, _⟩ := I.list hy
  cases r2
  have hu' : X.A.units < cLine := by omega
  cases r1 with
  | nil =>
    exact PySem.SeqAt.eq_listAt (e := fun _ => true) p1.isList p2.isList rfl hu' (fun j h1 _ => absurd h1 (by simp)) ⟨.bl true, H, I, rfl, k⟩
  | cons r rr =>
    exact PySem.SeqAt.eq_list_lengthsAt p1.isList p2.isList (by simp) hu' ⟨.bl false, H, I, rfl, k⟩
theorem op_neNil (hu : X.A.units + 1 < cLine) (hK : X.K = K := by rfl) : OpR X (compareOp .NotEq) (rNeNil K) := by
  subst hK
  intro pins s σ H u v a b Q I ru rv h
  obtain ⟨p, q, xs, rfl, rfl, hx, hy, k⟩ := h
  cases ru
  cases rv
  obtain ⟨its, r1, p1, _⟩ := I.list hx
  obtain ⟨its2, r2, p2, _⟩ := I.list hy
  cases r2
  have hu' : X.A.units < cLine := by omega
  cases r1 with
  | nil =>
    exact PySem.SeqAt.RcNeAt.lists (e := fun _ => true) p1.isList p2.isList rfl hu' (fun j h1 _ => absurd h1 (by simp)) X.prog X.w _ _ ⟨.bl false, H, I, rfl, k⟩
  | cons r rr =>
    exact PySem.SeqAt.RcNeAt.lists_lengths p1.isList p2.isList (by simp) hu' X.prog X.w _ _ ⟨.bl true, H, I, rfl, k⟩
end
end Lk
/-! Plans, in plain Lean: the least place with a rest, earliest and shortest layouts, and that no right layout is below them. -/
namespace Lk
open PySem
structure Part where
  w : Str
  r : Str
  al : Int
  lo : Int
  hi : Int
  z : Bool
instance : Inhabited Part := ⟨⟨"a", "r", 1, 0, 0, false⟩⟩
namespace MP
/-- the least place from p on with the rest r by s -/
def lift (p s r : Int) : Int := p + (r - p).fmod s
theorem lift_ge {p s r : Int} (h : 0 < s) : p ≤ lift p s r := by
  unfold lift
  have : 0 ≤ (r - p).fmod s := by rw [Int.fmod_eq_emod_of_nonneg _ (by omega)]; exact Int.emod_nonneg _ (by omega)
  omega
theorem lift_lt {p s r : Int} (h : 0 < s) : lift p s r < p + s := by
  unfold lift
  have : (r - p).fmod s < s := by rw [Int.fmod_eq_emod_of_nonneg _ (by omega)]; exact Int.emod_lt_of_pos _ h
  omega
theorem lift_rest {p s r : Int} (h : 0 < s) : s ∣ lift p s r - r := by
  unfold lift
  rw [Int.fmod_eq_emod_of_nonneg _ (by omega)]
  have e := Int.emod_add_mul_ediv (r - p) s
  exact ⟨-((r - p) / s), by rw [Int.mul_neg]; omega⟩
theorem lift_least {p s r q : Int} (h : 0 < s) (hq : p ≤ q) (hd : s ∣ q - r) : lift p s r ≤ q := by
  have h1 := lift_lt (p := p) (r := r) h
  have h2 := lift_rest (p := p) (r := r) h
  rcases Int.lt_or_le q (lift p s r) with c | c
  · have h3 : s ∣ lift p s r - q := by
      have := Int.dvd_sub h2 hd
      have e : lift p s r - r - (q - r) = lift p s r - q := by omega
      rwa [e] at this
    have := Int.le_of_dvd (by omega) h3
    omega
  · exact c
theorem lift_mono {p p' s r : Int} (h : 0 < s) (hp : p ≤ p') : lift p s r ≤ lift p' s r :=
  lift_least h (Int.le_trans hp (lift_ge h)) (lift_rest h)
theorem fmod_zero {a s : Int} (h : 0 < s) : a.fmod s = 0 ↔ s ∣ a := by
  rw [Int.fmod_eq_emod_of_nonneg _ (by omega)]
  exact ⟨Int.dvd_of_emod_eq_zero, Int.emod_eq_zero_of_dvd⟩
theorem fmod_same {a b s : Int} (h : 0 < s) : a.fmod s = b.fmod s ↔ s ∣ a - b := by
  rw [Int.fmod_eq_emod_of_nonneg _ (by omega), Int.fmod_eq_emod_of_nonneg _ (by omega)]
  exact ⟨fun h => Int.dvd_of_emod_eq_zero (Int.emod_eq_emod_iff_emod_sub_eq_zero.mp h), fun h => Int.emod_eq_emod_iff_emod_sub_eq_zero.mpr (Int.emod_eq_zero_of_dvd h)⟩
/-- the loop's test: at the least place, and only there -/
theorem lift_at {p s r q : Int} (h : 0 < s) (h1 : p ≤ q) (h2 : q ≤ lift p s r) : s ∣ q - r ↔ q = lift p s r :=
  ⟨fun d => Int.le_antisymm h2 (lift_least h h1 d), fun e => by rw [e]; exact lift_rest h⟩
def pt (qs : List Part) (i : Nat) : Part := qs.getD i default
def sz (ns : List Int) (i : Nat) : Int := ns.getD i 0
/-- a border of rights ahead of part i -/
def bord (qs : List Part) (i : Nat) : Bool := decide (0 < i) && !decide ((pt qs i).r = (pt qs (i - 1)).r)
def step (pg : Int) (qs : List Part) (i : Nat) : Int := if bord qs i = true then pg else (pt qs i).al
def low (pg : Int) (qs : List Part) (i : Nat) (e : Int) : Int := lift e (step pg qs i) 0
/-- a way to lay out: from the number, the end and the bits so far -/
abbrev Way := Nat → Int → Int → Int × Option Int
def nextS (n : Int) (b : Int) (x : Int × Option Int) : Int × Int := (x.1 + n, match x.2 with | none => b | some o => o + n)
def st (f : Way) (ns : List Int) : Nat → Int × Int
  | 0 => (0, 0)
  | i + 1 => nextS (sz ns i) (st f ns i).2 (f i (st f ns i).1 (st f ns i).2)
def out (f : Way) (ns : List Int) (i : Nat) : Int × Option Int := f i (st f ns i).1 (st f ns i).2
def lay (f : Way) (ns : List Int) (m : Nat) : List (Int × Option Int) := (List.range m).map (out f ns)
def fE (pg : Int) (qs : List Part) : Way := fun i e b => (low pg qs i e, if (pt qs i).z = true then none else some (lift b pg (low pg qs i e)))
def fS (pg : Int) (qs : List Part) : Way := fun i e b => if (pt qs i).z = true then (low pg qs i e, none) else (lift (low pg qs i e) pg (lift b (pt qs i).al 0), some (lift b (pt qs i).al 0))
/-- any right layout: k and j are drawn -/
def fD (pg : Int) (qs : List Part) (k j : Nat → Int) : Way := fun i e b => (low pg qs i e + (pt qs i).al * k i, if (pt qs i).z = true then none else some (lift b pg (low pg qs i e + (pt qs i).al * k i) + pg * j i))
structure GoodQ (pg : Int) (q : Part) : Prop where
  al : 0 < q.al
  dv : q.al ∣ pg
structure Good (pg : Int) (qs : List Part) (ns : List Int) (m : Nat) : Prop where
  pos : 0 < pg
  q : ∀ i, i < m → GoodQ pg (pt qs i)
  n : ∀ i, 0 ≤ sz ns i
section
variable {pg : Int} {qs : List Part} {ns : List Int} {m : Nat}
theorem Good.step (g : Good pg qs ns m) {i : Nat} (hi : i < m) : 0 < step pg qs i ∧ (pt qs i).al ∣ step pg qs i := by
  unfold MP.step
  split
  · exact ⟨g.pos, (g.q i hi).dv⟩
  · exact ⟨(g.q i hi).al, Int.dvd_refl _⟩
theorem Good.low_ge (g : Good pg qs ns m) {i : Nat} (hi : i < m) {e : Int} : e ≤ low pg qs i e := lift_ge (g.step hi).1
theorem Good.low_mono (g : Good pg qs ns m) {i : Nat} (hi : i < m) {e e' : Int} (h : e ≤ e') : low pg qs i e ≤ low pg qs i e' := lift_mono (g.step hi).1 h
theorem Good.low_dv (g : Good pg qs ns m) {i : Nat} (hi : i < m) {e : Int} : (pt qs i).al ∣ low pg qs i e := by
  have h := lift_rest (p := e) (r := 0) (g.step hi).1
  rw [Int.sub_zero] at h
  exact Int.dvd_trans (g.step hi).2 h
theorem st_fst {f : Way} {i : Nat} : (st f ns (i + 1)).1 = (out f ns i).1 + sz ns i := rfl
theorem st_snd {f : Way} {i : Nat} : (st f ns (i + 1)).2 = match (out f ns i).2 with | none => (st f ns i).2 | some o => o + sz ns i := rfl
variable {k j : Nat → Int}
/-- earliest: no address of a right layout is below -/
theorem early_a (g : Good pg qs ns m) (hk : ∀ i, 0 ≤ k i) : ∀ i, i ≤ m → (st (fE pg qs) ns i).1 ≤ (st (fD pg qs k j) ns i).1
  | 0, _ => Int.le_refl _
  | i + 1, hi => by
    have ih := early_a g hk i (by omega)
    have h1 := g.low_mono (show i < m by omega) ih
    have h2 := Int.mul_nonneg (Int.le_of_lt (g.q i (by omega)).al) (hk i)
    show low pg qs i _ + sz ns i ≤ low pg qs i _ + (pt qs i).al * k i + sz ns i
    omega
theorem early_addr (g : Good pg qs ns m) (hk : ∀ i, 0 ≤ k i) {i : Nat} (hi : i < m) : (out (fE pg qs) ns i).1 ≤ (out (fD pg qs k j) ns i).1 := by
  have h1 := g.low_mono hi (early_a (j := j) g hk i (by omega))
  have h2 := Int.mul_nonneg (Int.le_of_lt (g.q i hi).al) (hk i)
  show low pg qs i _ ≤ low pg qs i _ + (pt qs i).al * k i
  omega
theorem outE_z {i : Nat} : (out (fE pg qs) ns i).2 = if (pt qs i).z = true then none else some (lift (st (fE pg qs) ns i).2 pg (out (fE pg qs) ns i).1) := rfl
theorem outD_z {i : Nat} : (out (fD pg qs k j) ns i).2 = if (pt qs i).z = true then none else some (lift (st (fD pg qs k j) ns i).2 pg (out (fD pg qs k j) ns i).1 + pg * j i) := rfl
theorem outS_z {i : Nat} : (out (fS pg qs) ns i).2 = if (pt qs i).z = true then none else some (lift (st (fS pg qs) ns i).2 (pt qs i).al 0) := by
  unfold out fS
  split <;> rfl
theorem outS_a {i : Nat} : (out (fS pg qs) ns i).1 = if (pt qs i).z = true then low pg qs i (st (fS pg qs) ns i).1 else lift (low pg qs i (st (fS pg qs) ns i).1) pg (lift (st (fS pg qs) ns i).2 (pt qs i).al 0) := by
  unfold out fS
  split <;> rfl
/-- where all addresses are those of the earliest, no offset is below -/
theorem early_b (g : Good pg qs ns m) (hj : ∀ i, 0 ≤ j i) (he : ∀ i, i < m → (out (fE pg qs) ns i).1 = (out (fD pg qs k j) ns i).1) : ∀ i, i ≤ m → (st (fE pg qs) ns i).2 ≤ (st (fD pg qs k j) ns i).2
  | 0, _ => Int.le_refl _
  | i + 1, hi => by
    have ih := early_b g hj he i (by omega)
    rw [st_snd, st_snd, outE_z, outD_z]
    by_cases c : (pt qs i).z = true
    · rw [if_pos c, if_pos c]
      exact ih
    · rw [if_neg c, if_neg c, he i (by omega)]
      have h1 := lift_mono (r := (out (fD pg qs k j) ns i).1) g.pos ih
      have h2 := Int.mul_nonneg (Int.le_of_lt g.pos) (hj i)
      show lift _ pg _ + sz ns i ≤ lift _ pg _ + pg * j i + sz ns i
      omega
theorem early_off (g : Good pg qs ns m) (hj : ∀ i, 0 ≤ j i) (he : ∀ i, i < m → (out (fE pg qs) ns i).1 = (out (fD pg qs k j) ns i).1) {i : Nat} (hi : i < m) {a b : Int} (ha : (out (fE pg qs) ns i).2 = some a) (hb : (out (fD pg qs k j) ns i).2 = some b) : a ≤ b := by
  have ih := early_b g hj he i (by omega)
  rw [outE_z] at ha
  rw [outD_z] at hb
  by_cases c : (pt qs i).z = true
  · rw [if_pos c] at ha
    cases ha
  · rw [if_neg c] at ha hb
    cases ha
    cases hb
    rw [he i hi]
    have h1 := lift_mono (r := (out (fD pg qs k j) ns i).1) g.pos ih
    have h2 := Int.mul_nonneg (Int.le_of_lt g.pos) (hj i)
    omega
/-- what is drawn: the address is a multiple of the align, and so is the offset -/
theorem drawn_off (g : Good pg qs ns m) (hj : ∀ i, 0 ≤ j i) {i : Nat} (hi : i < m) {o : Int} (ho : (out (fD pg qs k j) ns i).2 = some o) : (st (fD pg qs k j) ns i).2 ≤ o ∧ (pt qs i).al ∣ o ∧ pg ∣ (out (fD pg qs k j) ns i).1 - o := by
  rw [outD_z] at ho
  by_cases c : (pt qs i).z = true
  · rw [if_pos c] at ho
    cases ho
  · rw [if_neg c] at ho
    cases ho
    have h1 := lift_ge (p := (st (fD pg qs k j) ns i).2) (r := (out (fD pg qs k j) ns i).1) g.pos
    have h2 := Int.mul_nonneg (Int.le_of_lt g.pos) (hj i)
    have h3 := lift_rest (p := (st (fD pg qs k j) ns i).2) (r := (out (fD pg qs k j) ns i).1) g.pos
    have h4 : (pt qs i).al ∣ (out (fD pg qs k j) ns i).1 := Int.dvd_add (g.low_dv hi) (Int.dvd_mul_right _ _)
    have h5 : pg ∣ (lift (st (fD pg qs k j) ns i).2 pg (out (fD pg qs k j) ns i).1 + pg * j i) - (out (fD pg qs k j) ns i).1 := by
      have := Int.dvd_add h3 (Int.dvd_mul_right pg (j i))
      have e : lift (st (fD pg qs k j) ns i).2 pg (out (fD pg qs k j) ns i).1 - (out (fD pg qs k j) ns i).1 + pg * j i = lift (st (fD pg qs k j) ns i).2 pg (out (fD pg qs k j) ns i).1 + pg * j i - (out (fD pg qs k j) ns i).1 := by omega
      rwa [e] at this
    refine ⟨by omega, ?_, ?_⟩
    · have := Int.dvd_add (Int.dvd_trans (g.q i hi).dv h5) h4
      rwa [Int.sub_add_cancel] at this
    · have := Int.dvd_neg.mpr h5
      rwa [Int.neg_sub] at this
theorem drawn_addr (g : Good pg qs ns m) (hk : ∀ i, 0 ≤ k i) {i : Nat} (hi : i < m) : low pg qs i (st (fD pg qs k j) ns i).1 ≤ (out (fD pg qs k j) ns i).1 := by
  have h2 := Int.mul_nonneg (Int.le_of_lt (g.q i hi).al) (hk i)
  show low pg qs i _ ≤ low pg qs i _ + (pt qs i).al * k i
  omega
/-- shortest: no offset of a right layout is below -/
theorem short_off (g : Good pg qs ns m) (hj : ∀ i, 0 ≤ j i) {i : Nat} (hi : i < m) (ih : (st (fS pg qs) ns i).2 ≤ (st (fD pg qs k j) ns i).2) {a b : Int} (ha : (out (fS pg qs) ns i).2 = some a) (hb : (out (fD pg qs k j) ns i).2 = some b) : a ≤ b := by
  obtain ⟨d1, d2, _⟩ := drawn_off g hj hi hb
  rw [outS_z] at ha
  by_cases c : (pt qs i).z = true
  · rw [if_pos c] at ha
    cases ha
  · rw [if_neg c] at ha
    cases ha
    exact lift_least (g.q i hi).al (by omega) (by rw [Int.sub_zero]; exact d2)
theorem short_b (g : Good pg qs ns m) (hj : ∀ i, 0 ≤ j i) : ∀ i, i ≤ m → (st (fS pg qs) ns i).2 ≤ (st (fD pg qs k j) ns i).2
  | 0, _ => Int.le_refl _
  | i + 1, hi => by
    have ih := short_b g hj i (by omega)
    rw [st_snd, st_snd]
    by_cases c : (pt qs i).z = true
    · rw [outS_z, outD_z, if_pos c, if_pos c]
      exact ih
    · have h1 : (out (fS pg qs) ns i).2 = some (lift (st (fS pg qs) ns i).2 (pt qs i).al 0) := by rw [outS_z, if_neg c]
      have h2 : (out (fD pg qs k j) ns i).2 = some (lift (st (fD pg qs k j) ns i).2 pg (out (fD pg qs k j) ns i).1 + pg * j i) := by rw [outD_z, if_neg c]
      have := short_off g hj (by omega) ih h1 h2
      rw [h1, h2]
      show _ + sz ns i ≤ _ + sz ns i
      omega
/-- where all offsets are those of the shortest, no address is below -/
theorem short_addr (g : Good pg qs ns m) (hk : ∀ i, 0 ≤ k i) (hj : ∀ i, 0 ≤ j i) {i : Nat} (hi : i < m) (he : (out (fS pg qs) ns i).2 = (out (fD pg qs k j) ns i).2) (ih : (st (fS pg qs) ns i).1 ≤ (st (fD pg qs k j) ns i).1) : (out (fS pg qs) ns i).1 ≤ (out (fD pg qs k j) ns i).1 := by
  have h1 := g.low_mono hi ih
  have h2 := drawn_addr (j := j) g hk hi
  rw [outS_a]
  by_cases c : (pt qs i).z = true
  · rw [if_pos c]
    omega
  · rw [if_neg c]
    rw [outS_z, if_neg c] at he
    obtain ⟨_, _, d3⟩ := drawn_off g hj hi he.symm
    exact lift_least g.pos (by omega) d3
theorem short_a (g : Good pg qs ns m) (hk : ∀ i, 0 ≤ k i) (hj : ∀ i, 0 ≤ j i) (he : ∀ i, i < m → (out (fS pg qs) ns i).2 = (out (fD pg qs k j) ns i).2) : ∀ i, i ≤ m → (st (fS pg qs) ns i).1 ≤ (st (fD pg qs k j) ns i).1
  | 0, _ => Int.le_refl _
  | i + 1, hi => by
    have ih := short_a g hk hj he i (by omega)
    have := short_addr g hk hj (by omega) (he i (by omega)) ih
    rw [st_fst, st_fst]
    omega
/-- what is_layout asks of one part -/
structure Right1 (pg : Int) (qs : List Part) (i : Nat) (e b : Int) (x : Int × Option Int) : Prop where
  nn : 0 ≤ x.1
  dv : (pt qs i).al ∣ x.1
  lo : low pg qs i e ≤ x.1
  off : match x.2 with | none => (pt qs i).z = true | some o => (pt qs i).z = false ∧ 0 ≤ o ∧ b ≤ o ∧ pg ∣ x.1 - o
def RightL (pg : Int) (qs : List Part) (ns : List Int) (m : Nat) (f : Way) : Prop := ∀ i, i < m → Right1 pg qs i (st f ns i).1 (st f ns i).2 (out f ns i)
theorem st_nn {f : Way} (hn : ∀ i, 0 ≤ sz ns i) (h : ∀ i, i < m → ∀ e b, 0 ≤ e → 0 ≤ b → 0 ≤ (f i e b).1 ∧ ∀ o, (f i e b).2 = some o → 0 ≤ o) : ∀ i, i ≤ m → 0 ≤ (st f ns i).1 ∧ 0 ≤ (st f ns i).2
  | 0, _ => ⟨Int.le_refl _, Int.le_refl _⟩
  | i + 1, hi => by
    obtain ⟨h1, h2⟩ := st_nn hn h i (by omega)
    obtain ⟨h3, h4⟩ := h i (by omega) _ _ h1 h2
    have hz := hn i
    refine ⟨?_, ?_⟩
    · rw [st_fst]
      have : 0 ≤ (out f ns i).1 := h3
      omega
    · rw [st_snd]
      cases e : (out f ns i).2 with
      | none => exact h2
      | some o =>
        have : 0 ≤ o := h4 o e
        show 0 ≤ o + sz ns i
        omega
theorem right_E (g : Good pg qs ns m) : RightL pg qs ns m (fE pg qs) := by
  intro i hi
  obtain ⟨h1, h2⟩ := st_nn (m := m) (f := fE pg qs) g.n (fun i hi e b he hb => by
    have l1 := g.low_ge hi (e := e)
    refine ⟨by show 0 ≤ low pg qs i e; omega, fun o ho => ?_⟩
    have ho' : (if (pt qs i).z = true then none else some (lift b pg (low pg qs i e))) = some o := ho
    split at ho'
    · cases ho'
    · cases ho'
      have := lift_ge (p := b) (r := low pg qs i e) g.pos
      omega) i (by omega)
  have l1 := g.low_ge hi (e := (st (fE pg qs) ns i).1)
  refine ⟨by show 0 ≤ low pg qs i _; omega, g.low_dv hi, Int.le_refl _, ?_⟩
  rw [outE_z]
  by_cases c : (pt qs i).z = true
  · rw [if_pos c]
    exact c
  · rw [if_neg c]
    have := lift_ge (p := (st (fE pg qs) ns i).2) (r := (out (fE pg qs) ns i).1) g.pos
    refine ⟨Bool.eq_false_iff.mpr c, by omega, by omega, ?_⟩
    have h := Int.dvd_neg.mpr (lift_rest (p := (st (fE pg qs) ns i).2) (r := (out (fE pg qs) ns i).1) g.pos)
    rwa [Int.neg_sub] at h
theorem right_S (g : Good pg qs ns m) : RightL pg qs ns m (fS pg qs) := by
  intro i hi
  obtain ⟨h1, h2⟩ := st_nn (m := m) (f := fS pg qs) g.n (fun i hi e b he hb => by
    have l1 := g.low_ge hi (e := e)
    have l2 := lift_ge (p := low pg qs i e) (r := lift b (pt qs i).al 0) g.pos
    have l3 := lift_ge (p := b) (r := 0) (g.q i hi).al
    unfold fS
    split
    · exact ⟨by show 0 ≤ low pg qs i e; omega, fun o ho => nomatch ho⟩
    · exact ⟨by show 0 ≤ lift (low pg qs i e) _ _; omega, fun o ho => by cases ho; omega⟩) i (by omega)
  have l1 := g.low_ge hi (e := (st (fS pg qs) ns i).1)
  have l3 := lift_ge (p := (st (fS pg qs) ns i).2) (r := 0) (g.q i hi).al
  by_cases c : (pt qs i).z = true
  · have ea : (out (fS pg qs) ns i).1 = low pg qs i (st (fS pg qs) ns i).1 := by rw [outS_a, if_pos c]
    refine ⟨by rw [ea]; omega, by rw [ea]; exact g.low_dv hi, by rw [ea]; exact Int.le_refl _, ?_⟩
    rw [outS_z, if_pos c]
    exact c
  · have ea : (out (fS pg qs) ns i).1 = lift (low pg qs i (st (fS pg qs) ns i).1) pg (lift (st (fS pg qs) ns i).2 (pt qs i).al 0) := by rw [outS_a, if_neg c]
    have l2 := lift_ge (p := low pg qs i (st (fS pg qs) ns i).1) (r := lift (st (fS pg qs) ns i).2 (pt qs i).al 0) g.pos
    have d1 := lift_rest (p := low pg qs i (st (fS pg qs) ns i).1) (r := lift (st (fS pg qs) ns i).2 (pt qs i).al 0) g.pos
    have d2 := lift_rest (p := (st (fS pg qs) ns i).2) (r := 0) (g.q i hi).al
    refine ⟨by rw [ea]; omega, ?_, by rw [ea]; omega, ?_⟩
    · rw [ea]
      rw [Int.sub_zero] at d2
      have := Int.dvd_add (Int.dvd_trans (g.q i hi).dv d1) d2
      rwa [Int.sub_add_cancel] at this
    · rw [outS_z, if_neg c, ea]
      exact ⟨Bool.eq_false_iff.mpr c, by omega, by omega, d1⟩
end
end MP
end Lk
namespace Lk
open PySem PySem.Spec PyProof.Rows L2
def topS (i : Nat) : Stmt := PySem.Challenge.pw_linklines_k67_whole_earliest_and_shortes.main.body.getD i (.Pass ⟨0, 0, 0, 0⟩)
abbrev s_is_integer : Stmt := topS 2
theorem sc_is_integer : FnScope ["thing"] ["thing"] (defScope s_is_integer) := ⟨rfl, rfl, rfl, by decide +kernel, rfl, by decide +kernel, by decide +kernel⟩
abbrev s_is_natural : Stmt := topS 3
theorem sc_is_natural : FnScope ["thing"] ["thing"] (defScope s_is_natural) := ⟨rfl, rfl, rfl, by decide +kernel, rfl, by decide +kernel, by decide +kernel⟩
abbrev s_is_list : Stmt := topS 4
theorem sc_is_list : FnScope ["thing"] ["thing"] (defScope s_is_list) := ⟨rfl, rfl, rfl, by decide +kernel, rfl, by decide +kernel, by decide +kernel⟩
abbrev s_is_pair : Stmt := topS 5
theorem sc_is_pair : FnScope ["thing"] ["thing"] (defScope s_is_pair) := ⟨rfl, rfl, rfl, by decide +kernel, rfl, by decide +kernel, by decide +kernel⟩
abbrev s_is_word : Stmt := topS 6
theorem sc_is_word : FnScope ["thing", "sign"] ["thing"] (defScope s_is_word) := ⟨rfl, rfl, rfl, by decide +kernel, rfl, by decide +kernel, by decide +kernel⟩
abbrev s_is_part : Stmt := topS 16
theorem sc_is_part : FnScope ["thing", "page", "met", "word", "rights", "align", "least", "most", "zeros"] ["thing", "page", "met"] (defScope s_is_part) := ⟨rfl, rfl, rfl, by decide +kernel, rfl, by decide +kernel, by decide +kernel⟩
abbrev s_checked_sizes : Stmt := topS 18
theorem sc_checked_sizes : FnScope ["plan", "sizes", "parts", "index", "size"] ["plan", "sizes"] (defScope s_checked_sizes) := ⟨rfl, rfl, rfl, by decide +kernel, rfl, by decide +kernel, by decide +kernel⟩
abbrev s_lifted : Stmt := topS 19
theorem sc_lifted : FnScope ["place", "step", "rest"] ["place", "step", "rest"] (defScope s_lifted) := ⟨rfl, rfl, rfl, by decide +kernel, rfl, by decide +kernel, by decide +kernel⟩
abbrev s_lowest : Stmt := topS 20
theorem sc_lowest : FnScope ["plan", "number", "end", "parts"] ["plan", "number", "end"] (defScope s_lowest) := ⟨rfl, rfl, rfl, by decide +kernel, rfl, by decide +kernel, by decide +kernel⟩
abbrev s_is_layout : Stmt := topS 21
theorem sc_is_layout : FnScope ["plan", "sizes", "thing", "lengths", "end", "bits", "number", "part", "address", "offset"] ["plan", "sizes", "thing"] (defScope s_is_layout) := ⟨rfl, rfl, rfl, by decide +kernel, rfl, by decide +kernel, by decide +kernel⟩
abbrev s_earliest_of : Stmt := topS 22
theorem sc_earliest_of : FnScope ["plan", "sizes", "found", "end", "bits", "number", "part", "address", "offset"] ["plan", "sizes"] (defScope s_earliest_of) := ⟨rfl, rfl, rfl, by decide +kernel, rfl, by decide +kernel, by decide +kernel⟩
abbrev s_earliest : Stmt := topS 23
theorem sc_earliest : FnScope ["plan", "sizes"] ["plan", "sizes"] (defScope s_earliest) := ⟨rfl, rfl, rfl, by decide +kernel, rfl, by decide +kernel, by decide +kernel⟩
abbrev s_shortest : Stmt := topS 24
theorem sc_shortest : FnScope ["plan", "sizes", "lengths", "found", "end", "bits", "number", "part", "address", "offset"] ["plan", "sizes"] (defScope s_shortest) := ⟨rfl, rfl, rfl, by decide +kernel, rfl, by decide +kernel, by decide +kernel⟩
abbrev s_law_source : Stmt := topS 26
theorem sc_law_source : FnScope ["_law_script", "_law_turn", "_law_cell", "_law_seed", "_law_other"] ["_law_script", "_law_turn"] (defScope s_law_source) := ⟨rfl, rfl, rfl, by decide +kernel, rfl, by decide +kernel, by decide +kernel⟩
abbrev s_law_draw : Stmt := topS 27
theorem sc_law_draw : FnScope ["_law_source_here", "_law_many", "_law_found", "_law_mixed_here"] ["_law_source_here", "_law_many"] (defScope s_law_draw) := ⟨rfl, rfl, rfl, by decide +kernel, rfl, by decide +kernel, by decide +kernel⟩
abbrev s_law_pick : Stmt := topS 28
theorem sc_law_pick : FnScope ["_law_source_here", "_law_things"] ["_law_source_here", "_law_things"] (defScope s_law_pick) := ⟨rfl, rfl, rfl, by decide +kernel, rfl, by decide +kernel, by decide +kernel⟩
abbrev s_law_mixed : Stmt := topS 29
theorem sc_law_mixed : FnScope ["_law_source_here", "_law_things", "_law_left", "_law_found"] ["_law_source_here", "_law_things"] (defScope s_law_mixed) := ⟨rfl, rfl, rfl, by decide +kernel, rfl, by decide +kernel, by decide +kernel⟩
abbrev s_law_loose : Stmt := topS 30
theorem sc_law_loose : FnScope ["_law_source_here", "_law_thing", "_law_found", "_law_part"] ["_law_source_here", "_law_thing"] (defScope s_law_loose) := ⟨rfl, rfl, rfl, by decide +kernel, rfl, by decide +kernel, by decide +kernel⟩
abbrev s_law_same : Stmt := topS 31
theorem sc_law_same : FnScope ["_law_found", "_law_due", "_law_x", "_law_y"] ["_law_found", "_law_due"] (defScope s_law_same) := ⟨rfl, rfl, rfl, by decide +kernel, rfl, by decide +kernel, by decide +kernel⟩
abbrev s_law_parts : Stmt := topS 32
theorem sc_law_parts : FnScope ["_law_source_here", "_law_page", "_law_many", "_law_spread", "_law_words", "_law_found", "_law_rights", "_law_word", "_law_least", "_law_zeros", "_law_align", "_law_one", "_law_more"] ["_law_source_here", "_law_page", "_law_many", "_law_spread"] (defScope s_law_parts) := ⟨rfl, rfl, rfl, by decide +kernel, rfl, by decide +kernel, by decide +kernel⟩
abbrev s_law_some_sizes : Stmt := topS 33
theorem sc_law_some_sizes : FnScope ["_law_source_here", "_law_parts_here", "_law_part"] ["_law_source_here", "_law_parts_here"] (defScope s_law_some_sizes) := ⟨rfl, rfl, rfl, by decide +kernel, rfl, by decide +kernel, by decide +kernel⟩
abbrev s_law_lowest : Stmt := topS 34
theorem sc_law_lowest : FnScope ["_law_page", "_law_parts_here", "_law_k", "_law_end", "_law_is_border", "_law_place"] ["_law_page", "_law_parts_here", "_law_k", "_law_end"] (defScope s_law_lowest) := ⟨rfl, rfl, rfl, by decide +kernel, rfl, by decide +kernel, by decide +kernel⟩
abbrev s_law_addresses : Stmt := topS 35
theorem sc_law_addresses : FnScope ["_law_page", "_law_parts_here", "_law_sizes", "_law_found", "_law_end", "_law_k", "_law_size"] ["_law_page", "_law_parts_here", "_law_sizes"] (defScope s_law_addresses) := ⟨rfl, rfl, rfl, by decide +kernel, rfl, by decide +kernel, by decide +kernel⟩
abbrev s_law_same_rest : Stmt := topS 36
theorem sc_law_same_rest : FnScope ["_law_page", "_law_start", "_law_place"] ["_law_page", "_law_start", "_law_place"] (defScope s_law_same_rest) := ⟨rfl, rfl, rfl, by decide +kernel, rfl, by decide +kernel, by decide +kernel⟩
abbrev s_law_right_layout : Stmt := topS 37
theorem sc_law_right_layout : FnScope ["_law_source_here", "_law_page", "_law_parts_here", "_law_sizes", "_law_found", "_law_end", "_law_bits", "_law_k", "_law_part", "_law_address", "_law_offset"] ["_law_source_here", "_law_page", "_law_parts_here", "_law_sizes"] (defScope s_law_right_layout) := ⟨rfl, rfl, rfl, by decide +kernel, rfl, by decide +kernel, by decide +kernel⟩
abbrev s_law_few : Stmt := topS 38
theorem sc_law_few : FnScope ["_law_source_here", "_law_most", "_law_page", "_law_many", "_law_found", "_law_whole", "_law_free", "_law_part", "_law_wide", "_law_is_kept"] ["_law_source_here", "_law_most"] (defScope s_law_few) := ⟨rfl, rfl, rfl, by decide +kernel, rfl, by decide +kernel, by decide +kernel⟩
abbrev s_law_earliest : Stmt := topS 39
theorem sc_law_earliest : FnScope ["_law_page", "_law_parts_here", "_law_sizes", "_law_found", "_law_bits", "_law_k", "_law_address", "_law_offset"] ["_law_page", "_law_parts_here", "_law_sizes"] (defScope s_law_earliest) := ⟨rfl, rfl, rfl, by decide +kernel, rfl, by decide +kernel, by decide +kernel⟩
abbrev s_law_shortest : Stmt := topS 40
theorem sc_law_shortest : FnScope ["_law_page", "_law_parts_here", "_law_sizes", "_law_found", "_law_end", "_law_bits", "_law_k", "_law_part", "_law_address", "_law_offset"] ["_law_page", "_law_parts_here", "_law_sizes"] (defScope s_law_shortest) := ⟨rfl, rfl, rfl, by decide +kernel, rfl, by decide +kernel, by decide +kernel⟩
abbrev s_law_none_better : Stmt := topS 41
theorem sc_law_none_better : FnScope ["_law_one", "_law_other", "_law_first", "_law_pair", "_law_drawn", "_law_firsts", "_law_row", "_law_rows", "_law_rest", "_law_least"] ["_law_one", "_law_other", "_law_first"] (defScope s_law_none_better) := ⟨rfl, rfl, rfl, by decide +kernel, rfl, by decide +kernel, by decide +kernel⟩
abbrev s_law : Stmt := topS 42
theorem sc_law : FnScope ["_law_script", "_law_turn", "_law_source_here", "_law_page", "_law_parts_here", "_law_sizes", "_law_plan", "_law_first", "_law_second", "_law_due", "_law_k", "_law_layout"] ["_law_script"] (defScope s_law) := ⟨rfl, rfl, rfl, by decide +kernel, rfl, by decide +kernel, by decide +kernel⟩
abbrev s_BadPage : Stmt := inClass (topS 9) 0
theorem sc_BadPage : FnScope ["self", "thing"] ["self", "thing"] (defScope s_BadPage) := ⟨rfl, rfl, rfl, by decide +kernel, rfl, by decide +kernel, by decide +kernel⟩
abbrev s_BadPart : Stmt := inClass (topS 10) 0
theorem sc_BadPart : FnScope ["self", "index"] ["self", "index"] (defScope s_BadPart) := ⟨rfl, rfl, rfl, by decide +kernel, rfl, by decide +kernel, by decide +kernel⟩
abbrev s_BadSizes : Stmt := inClass (topS 11) 0
theorem sc_BadSizes : FnScope ["self", "index"] ["self", "index"] (defScope s_BadSizes) := ⟨rfl, rfl, rfl, by decide +kernel, rfl, by decide +kernel, by decide +kernel⟩
abbrev s_Plan___init__ : Stmt := inClass (topS 17) 0
theorem sc_Plan___init__ : FnScope ["self", "page", "parts", "met", "ahead", "index", "part"] ["self", "page", "parts"] (defScope s_Plan___init__) := ⟨rfl, rfl, rfl, by decide +kernel, rfl, by decide +kernel, by decide +kernel⟩
abbrev s_Plan_page : Stmt := inClass (topS 17) 1
theorem sc_Plan_page : FnScope ["self"] ["self"] (defScope s_Plan_page) := ⟨rfl, rfl, rfl, by decide +kernel, rfl, by decide +kernel, by decide +kernel⟩
abbrev s_Plan_parts : Stmt := inClass (topS 17) 2
theorem sc_Plan_parts : FnScope ["self"] ["self"] (defScope s_Plan_parts) := ⟨rfl, rfl, rfl, by decide +kernel, rfl, by decide +kernel, by decide +kernel⟩
abbrev s_Plan___eq__ : Stmt := inClass (topS 17) 3
theorem sc_Plan___eq__ : FnScope ["self", "other"] ["self", "other"] (defScope s_Plan___eq__) := ⟨rfl, rfl, rfl, by decide +kernel, rfl, by decide +kernel, by decide +kernel⟩
/-- what is known of an own error class at C with its __init__ at fI -/
structure ErrC (K : PySem.W.Frag) (C fI : Addr) (f : Str) : Prop where
  oex : OexC K C
  xf : XfC K C
  no : PySem.W.findIn K (.ref C) f = some none
  iC : PySem.W.findIn K (.ref C) "__init__" = some (some (.ref fI))
  tI : PySem.W.typeIn K (.ref fI) = some (.type "function")
  te : PySem.W.exmOne K (.ref C) (.ref C) = some true
structure Txt (K : PySem.W.Frag) (mg : Str → Option Value) (ad : Nat → Addr) (ai : Nat → Addr) (fd : Nat → FuncData) : Prop where
  F_is_integer : Fun K "is_integer" "is_integer" s_is_integer (ad 2) (fd 2)
  g_is_integer : mg "is_integer" = some (.ref (ad 2))
  b_is_integer : Binds K (fd 2) ["thing"] []
  F_is_natural : Fun K "is_natural" "is_natural" s_is_natural (ad 3) (fd 3)
  g_is_natural : mg "is_natural" = some (.ref (ad 3))
  b_is_natural : Binds K (fd 3) ["thing"] []
  F_is_list : Fun K "is_list" "is_list" s_is_list (ad 4) (fd 4)
  g_is_list : mg "is_list" = some (.ref (ad 4))
  b_is_list : Binds K (fd 4) ["thing"] []
  F_is_pair : Fun K "is_pair" "is_pair" s_is_pair (ad 5) (fd 5)
  g_is_pair : mg "is_pair" = some (.ref (ad 5))
  b_is_pair : Binds K (fd 5) ["thing"] []
  F_is_word : Fun K "is_word" "is_word" s_is_word (ad 6) (fd 6)
  g_is_word : mg "is_word" = some (.ref (ad 6))
  b_is_word : Binds K (fd 6) ["thing"] []
  F_is_part : Fun K "is_part" "is_part" s_is_part (ad 16) (fd 16)
  g_is_part : mg "is_part" = some (.ref (ad 16))
  b_is_part : Binds K (fd 16) ["thing", "page", "met"] []
  F_checked_sizes : Fun K "checked_sizes" "checked_sizes" s_checked_sizes (ad 18) (fd 18)
  g_checked_sizes : mg "checked_sizes" = some (.ref (ad 18))
  b_checked_sizes : Binds K (fd 18) ["plan", "sizes"] []
  F_lifted : Fun K "lifted" "lifted" s_lifted (ad 19) (fd 19)
  g_lifted : mg "lifted" = some (.ref (ad 19))
  b_lifted : Binds K (fd 19) ["place", "step", "rest"] []
  F_lowest : Fun K "lowest" "lowest" s_lowest (ad 20) (fd 20)
  g_lowest : mg "lowest" = some (.ref (ad 20))
  b_lowest : Binds K (fd 20) ["plan", "number", "end"] []
  F_is_layout : Fun K "is_layout" "is_layout" s_is_layout (ad 21) (fd 21)
  g_is_layout : mg "is_layout" = some (.ref (ad 21))
  b_is_layout : Binds K (fd 21) ["plan", "sizes", "thing"] []
  F_earliest_of : Fun K "earliest_of" "earliest_of" s_earliest_of (ad 22) (fd 22)
  g_earliest_of : mg "earliest_of" = some (.ref (ad 22))
  b_earliest_of : Binds K (fd 22) ["plan", "sizes"] []
  F_earliest : Fun K "earliest" "earliest" s_earliest (ad 23) (fd 23)
  g_earliest : mg "earliest" = some (.ref (ad 23))
  b_earliest : Binds K (fd 23) ["plan", "sizes"] []
  F_shortest : Fun K "shortest" "shortest" s_shortest (ad 24) (fd 24)
  g_shortest : mg "shortest" = some (.ref (ad 24))
  b_shortest : Binds K (fd 24) ["plan", "sizes"] []
  F_law_source : Fun K "_law_source" "_law_source" s_law_source (ad 26) (fd 26)
  g_law_source : mg "_law_source" = some (.ref (ad 26))
  b_law_source : Binds K (fd 26) ["_law_script", "_law_turn"] []
  F_law_draw : Fun K "_law_draw" "_law_draw" s_law_draw (ad 27) (fd 27)
  g_law_draw : mg "_law_draw" = some (.ref (ad 27))
  b_law_draw : Binds K (fd 27) ["_law_source_here", "_law_many"] []
  F_law_pick : Fun K "_law_pick" "_law_pick" s_law_pick (ad 28) (fd 28)
  g_law_pick : mg "_law_pick" = some (.ref (ad 28))
  b_law_pick : Binds K (fd 28) ["_law_source_here", "_law_things"] []
  F_law_mixed : Fun K "_law_mixed" "_law_mixed" s_law_mixed (ad 29) (fd 29)
  g_law_mixed : mg "_law_mixed" = some (.ref (ad 29))
  b_law_mixed : Binds K (fd 29) ["_law_source_here", "_law_things"] []
  F_law_loose : Fun K "_law_loose" "_law_loose" s_law_loose (ad 30) (fd 30)
  g_law_loose : mg "_law_loose" = some (.ref (ad 30))
  b_law_loose : Binds K (fd 30) ["_law_source_here", "_law_thing"] []
  F_law_same : Fun K "_law_same" "_law_same" s_law_same (ad 31) (fd 31)
  g_law_same : mg "_law_same" = some (.ref (ad 31))
  b_law_same : Binds K (fd 31) ["_law_found", "_law_due"] []
  F_law_parts : Fun K "_law_parts" "_law_parts" s_law_parts (ad 32) (fd 32)
  g_law_parts : mg "_law_parts" = some (.ref (ad 32))
  b_law_parts : Binds K (fd 32) ["_law_source_here", "_law_page", "_law_many", "_law_spread"] []
  F_law_some_sizes : Fun K "_law_some_sizes" "_law_some_sizes" s_law_some_sizes (ad 33) (fd 33)
  g_law_some_sizes : mg "_law_some_sizes" = some (.ref (ad 33))
  b_law_some_sizes : Binds K (fd 33) ["_law_source_here", "_law_parts_here"] []
  F_law_lowest : Fun K "_law_lowest" "_law_lowest" s_law_lowest (ad 34) (fd 34)
  g_law_lowest : mg "_law_lowest" = some (.ref (ad 34))
  b_law_lowest : Binds K (fd 34) ["_law_page", "_law_parts_here", "_law_k", "_law_end"] []
  F_law_addresses : Fun K "_law_addresses" "_law_addresses" s_law_addresses (ad 35) (fd 35)
  g_law_addresses : mg "_law_addresses" = some (.ref (ad 35))
  b_law_addresses : Binds K (fd 35) ["_law_page", "_law_parts_here", "_law_sizes"] []
  F_law_same_rest : Fun K "_law_same_rest" "_law_same_rest" s_law_same_rest (ad 36) (fd 36)
  g_law_same_rest : mg "_law_same_rest" = some (.ref (ad 36))
  b_law_same_rest : Binds K (fd 36) ["_law_page", "_law_start", "_law_place"] []
  F_law_right_layout : Fun K "_law_right_layout" "_law_right_layout" s_law_right_layout (ad 37) (fd 37)
  g_law_right_layout : mg "_law_right_layout" = some (.ref (ad 37))
  b_law_right_layout : Binds K (fd 37) ["_law_source_here", "_law_page", "_law_parts_here", "_law_sizes"] []
  F_law_few : Fun K "_law_few" "_law_few" s_law_few (ad 38) (fd 38)
  g_law_few : mg "_law_few" = some (.ref (ad 38))
  b_law_few : Binds K (fd 38) ["_law_source_here", "_law_most"] []
  F_law_earliest : Fun K "_law_earliest" "_law_earliest" s_law_earliest (ad 39) (fd 39)
  g_law_earliest : mg "_law_earliest" = some (.ref (ad 39))
  b_law_earliest : Binds K (fd 39) ["_law_page", "_law_parts_here", "_law_sizes"] []
  F_law_shortest : Fun K "_law_shortest" "_law_shortest" s_law_shortest (ad 40) (fd 40)
  g_law_shortest : mg "_law_shortest" = some (.ref (ad 40))
  b_law_shortest : Binds K (fd 40) ["_law_page", "_law_parts_here", "_law_sizes"] []
  F_law_none_better : Fun K "_law_none_better" "_law_none_better" s_law_none_better (ad 41) (fd 41)
  g_law_none_better : mg "_law_none_better" = some (.ref (ad 41))
  b_law_none_better : Binds K (fd 41) ["_law_one", "_law_other", "_law_first"] []
  F_law : Fun K "law" "law" s_law (ad 42) (fd 42)
  g_law : mg "law" = some (.ref (ad 42))
  b_law : Binds K (fd 42) ["_law_script"] []
  F_BadPage : Fun K "__init__" "BadPage.__init__" s_BadPage (ai 9) (fd 9)
  g_BadPage : mg "BadPage" = some (.ref (ad 9))
  b_BadPage : Binds K (fd 9) ["self", "thing"] []
  e_BadPage : ErrC K (ad 9) (ai 9) "thing"
  F_BadPart : Fun K "__init__" "BadPart.__init__" s_BadPart (ai 10) (fd 10)
  g_BadPart : mg "BadPart" = some (.ref (ad 10))
  b_BadPart : Binds K (fd 10) ["self", "index"] []
  e_BadPart : ErrC K (ad 10) (ai 10) "index"
  F_BadSizes : Fun K "__init__" "BadSizes.__init__" s_BadSizes (ai 11) (fd 11)
  g_BadSizes : mg "BadSizes" = some (.ref (ad 11))
  b_BadSizes : Binds K (fd 11) ["self", "index"] []
  e_BadSizes : ErrC K (ad 11) (ai 11) "index"
  n_all : mg "all" = none
  n_bool : mg "bool" = none
  n_dict : mg "dict" = none
  n_enumerate : mg "enumerate" = none
  n_int : mg "int" = none
  n_isinstance : mg "isinstance" = none
  n_len : mg "len" = none
  n_list : mg "list" = none
  n_min : mg "min" = none
  n_range : mg "range" = none
  n_str : mg "str" = none
  n_sum : mg "sum" = none
  n_tuple : mg "tuple" = none
  n_zip : mg "zip" = none
  g_LETTERS : ∃ t, mg "LETTERS" = some (.str "abcdefghijklmnopqrstuvwxyz" t)
  g_RIGHTS : mg "RIGHTS" = some (.ref (ad 12))
  q_RIGHTS : ∀ H : Hp, SqT K H (ad 12) [.str "r", .str "rw", .str "rx"]
  g_ALIGNS : mg "ALIGNS" = some (.ref (ad 13))
  q_ALIGNS : ∀ H : Hp, SqT K H (ad 13) [.int 1, .int 2, .int 4, .int 8, .int 16, .int 32, .int 64]
  g_PAGES : mg "PAGES" = some (.ref (ad 15))
  q_PAGES : ∀ H : Hp, SqT K H (ad 15) [.int 8, .int 16, .int 32, .int 64]
  g_Plan : mg "Plan" = some (.ref (ad 17))
  cl_Plan : Cls K (ad 17)
  no_Plan_kept_page : NoAttr K (ad 17) "kept_page"
  no_Plan_kept_parts : NoAttr K (ad 17) "kept_parts"
  F_Plan___init__ : Fun K "__init__" "Plan.__init__" s_Plan___init__ (ai 1340) (fd 1340)
  b_Plan___init__ : Binds K (fd 1340) ["self", "page", "parts"] []
  m_Plan___init__ : Meth K (ad 17) "__init__" (ai 1340)
  F_Plan_page : Fun K "page" "Plan.page" s_Plan_page (ai 1341) (fd 1341)
  b_Plan_page : Binds K (fd 1341) ["self"] []
  m_Plan_page : Meth K (ad 17) "page" (ai 1341)
  F_Plan_parts : Fun K "parts" "Plan.parts" s_Plan_parts (ai 1342) (fd 1342)
  b_Plan_parts : Binds K (fd 1342) ["self"] []
  m_Plan_parts : Meth K (ad 17) "parts" (ai 1342)
  F_Plan___eq__ : Fun K "__eq__" "Plan.__eq__" s_Plan___eq__ (ai 1343) (fd 1343)
  b_Plan___eq__ : Binds K (fd 1343) ["self", "other"] []
  m_Plan___eq__ : Meth K (ad 17) "__eq__" (ai 1343)
  mk_Plan : Mk K (ad 17) (ai 1340)
end Lk
namespace Lk
open PySem PySem.Spec PyProof.Rows L2 RZ
section
variable {P : Program} {w : World} {K : PySem.W.Frag} {mg : Str → Option Value} {base : Heap} {ad ai : Nat → Addr} {fd : Nat → FuncData}
/-! ### is_integer, is_natural, is_list, is_pair, is_word -/
def sp_is_integer (K : PySem.W.Frag) : Sp := fun vs H Q _ => ∃ v t, vs = [v] ∧ HasTy K H v t ∧ Q (.bl (decide (t = .int))) H
theorem ok_is_integer (T : Txt K mg ad ai fd) : FnOk P w K mg base CX0 1 (ad 2) (fd 2) ["thing"] (sp_is_integer K) := by
  refine T.F_is_integer.ok sc_is_integer (fun vs H Q E h => ?_) (fun cdv A outer s H vs Q E hr h => ?_)
  · obtain ⟨v, t, rfl, _⟩ := h
    rfl
  · obtain ⟨v, t, rfl, ht, q⟩ := h
    refine ⟨_, (pss_one (ps_ret (pe_and (pe_callB (call_isinst (K := K)) (by rfl) T.n_isinstance (by decide +kernel) (pa_cons (pv 0) (pa_cons (pe_bltn (v := .ty "int") (by rfl) T.n_int (by decide +kernel) rfl) pa_nil))) (pe_one (pe_not (pe_callB (call_isinst (K := K)) (by rfl) T.n_isinstance (by decide +kernel) (pa_cons (pv 0) (pa_cons (pe_bltn (v := .ty "bool") (by rfl) T.n_bool (by decide +kernel) rfl) pa_nil)))))))), ?_⟩
    refine ⟨v, rfl, v, .ty "int", _, _, _, rfl, .ty "int", ht, kit_tg t .int (by decide), _, rfl, ?_⟩
    cases t
    case int => exact ⟨v, rfl, v, .ty "bool", _, _, _, rfl, .ty "bool", ht, kit_tg .int .bl (by decide), _, rfl, q⟩
    case bl => exact ⟨v, rfl, v, .ty "bool", _, _, _, rfl, .ty "bool", ht, kit_tg .bl .bl (by decide), _, rfl, q⟩
    all_goals exact q
/-- not an int, or one below 0; an int from 0 on -/
def sp_is_natural (K : PySem.W.Frag) : Sp := fun vs H Q _ => ∃ v, vs = [v] ∧ ((∃ t, HasTy K H v t ∧ t ≠ .int ∧ Q (.bl false) H) ∨ ∃ i, v = .int i ∧ Q (.bl (decide (0 ≤ i))) H)
theorem ok_is_natural (T : Txt K mg ad ai fd) : FnOk P w K mg base CX0 2 (ad 3) (fd 3) ["thing"] (sp_is_natural K) := by
  have G_is_integer : FnOk P w K mg base CX0 1 (ad 2) (fd 2) ["thing"] (sp_is_integer K) := ok_is_integer T
  refine T.F_is_natural.ok sc_is_natural (fun vs H Q E h => ?_) (fun cdv A outer s H vs Q E hr h => ?_)
  · obtain ⟨v, rfl, _⟩ := h
    rfl
  · obtain ⟨v, rfl, h⟩ := h
    refine ⟨_, (pss_one (ps_ret (pe_and (pe_call G_is_integer (hr.mono (by decide)) (by rfl) T.g_is_integer T.F_is_integer.kp T.b_is_integer .nil pass0 (pa_cons (pv 0) pa_nil)) (pe_one (pe_cmpR op_ge (pv 0) pe_int (nomark _)))))), ?_⟩
    rcases h with ⟨t, ht, hn, q⟩ | ⟨i, rfl, q⟩
    · refine ⟨v, rfl, v, t, rfl, ht, _, rfl, ?_⟩
      rw [decide_eq_false hn]
      exact q
    · exact ⟨_, rfl, _, .int, rfl, hasTy_int, _, rfl, _, rfl, i, 0, rfl, rfl, q⟩
def sp_is_list (K : PySem.W.Frag) : Sp := fun vs H Q _ => ∃ v t, vs = [v] ∧ HasTy K H v t ∧ ∀ H', Same H H' → Q (.bl t.seq) H'
theorem ok_is_list (T : Txt K mg ad ai fd) : FnOk P w K mg base CX0 1 (ad 4) (fd 4) ["thing"] (sp_is_list K) := by
  refine T.F_is_list.ok sc_is_list (fun vs H Q E h => ?_) (fun cdv A outer s H vs Q E hr h => ?_)
  · obtain ⟨v, t, rfl, _⟩ := h
    rfl
  · obtain ⟨v, t, rfl, ht, q⟩ := h
    refine ⟨_, (pss_one (ps_ret (pe_callB (call_isinstT (K := K)) (by rfl) T.n_isinstance (by decide +kernel) (pa_cons (pv 0) (pa_cons (pe_tup (pa_cons (pe_bltn (v := .ty "list") (by rfl) T.n_list (by decide +kernel) rfl) (pa_cons (pe_bltn (v := .ty "tuple") (by rfl) T.n_tuple (by decide +kernel) rfl) pa_nil))) pa_nil))))), ?_⟩
    refine ⟨v, rfl, by show 2 ≤ sizeLine; decide, fun p hp => ?_⟩
    have sm : Same H (upd H p (.tup [.ty "list", .ty "tuple"])) := same_new hp
    refine ⟨v, p, _, _, [.type "list", .type "tuple"], t.seq, rfl, upd_same, .cons (.ty "list") (.cons (.ty "tuple") .nil), sm.ty ht, ?_, q _ sm⟩
    cases t
    all_goals exact kitAny_cons (kit_tg _ .lst (by decide)) (fun _ => kitAny_cons (kit_tg _ .tup (by decide)) (fun _ => by first | rfl | contradiction) (fun z => by first | rfl | cases z)) (fun z => by first | rfl | cases z)
theorem is_list_yes {H : Hp} {a : Addr} {xs : List V} {Q : VK} {E : XK} (h : Sq K H a xs) (q : ∀ H', Same H H' → Q (.bl true) H') : sp_is_list K [.ref a] H Q E := by
  obtain ⟨t, ht, e⟩ := h.tys
  refine ⟨_, t, rfl, ht, ?_⟩
  rw [e]
  exact q
/-- a list or tuple of two -/
def sp_is_pair (K : PySem.W.Frag) : Sp := fun vs H Q _ => ∃ v, vs = [v] ∧ ((∃ t, HasTy K H v t ∧ t.seq = false ∧ ∀ H', Same H H' → Q (.bl false) H') ∨ ∃ a xs, v = .ref a ∧ Sq K H a xs ∧ ∀ H', Same H H' → Q (.bl (decide (xs.length = 2))) H')
theorem ok_is_pair (T : Txt K mg ad ai fd) : FnOk P w K mg base CX0 2 (ad 5) (fd 5) ["thing"] (sp_is_pair K) := by
  have G_is_list : FnOk P w K mg base CX0 1 (ad 4) (fd 4) ["thing"] (sp_is_list K) := ok_is_list T
  refine T.F_is_pair.ok sc_is_pair (fun vs H Q E h => ?_) (fun cdv A outer s H vs Q E hr h => ?_)
  · obtain ⟨v, rfl, _⟩ := h
    rfl
  · obtain ⟨v, rfl, h⟩ := h
    refine ⟨_, (pss_one (ps_ret (pe_and (pe_call G_is_list (hr.mono (by decide)) (by rfl) T.g_is_list T.F_is_list.kp T.b_is_list .nil pass0 (pa_cons (pv 0) pa_nil)) (pe_one (pe_cmpR op_eq (pe_callB (call_len (K := K)) (by rfl) T.n_len (by decide +kernel) (pa_cons (pv 0) pa_nil)) pe_int (nomark _)))))), ?_⟩
    rcases h with ⟨t, ht, hn, q⟩ | ⟨a, xs, rfl, hs, q⟩
    · refine ⟨v, rfl, v, t, rfl, ht, fun H' sm => ⟨_, rfl, ?_⟩⟩
      rw [hn]
      exact q H' sm
    · obtain ⟨t, ht, hq⟩ := hs.tys
      refine ⟨_, rfl, _, t, rfl, ht, fun H' sm => ⟨_, rfl, ?_⟩⟩
      rw [hq]
      refine ⟨_, rfl, a, xs, rfl, sm.sq hs, rfl, ?_⟩
      have e : decide (V.int (xs.length : Int) = V.int 2) = decide (xs.length = 2) := by
        by_cases z : xs.length = 2
        · rw [decide_eq_true z, z]
          rfl
        · rw [decide_eq_false z]
          exact decide_eq_false fun y => z (by injection y with y; omega)
      rw [e]
      exact q H' sm
/-- one to eight letters -/
def letB (c : Nat) : Bool := !(Builtin.Str.occurrences "abcdefghijklmnopqrstuvwxyz" ⟨#[c]⟩ 0 (Str.length "abcdefghijklmnopqrstuvwxyz") 1).isEmpty
def WordOk (z : Str) : Prop := 1 ≤ z.length ∧ z.length ≤ 8 ∧ ∀ c ∈ z.cps.toList, letB c = true
def sp_is_word : Sp := fun vs H Q _ => ∃ z, vs = [.str z] ∧ WordOk z ∧ ∀ H', Same H H' → Q (.bl true) H'
theorem ok_is_word (T : Txt K mg ad ai fd) : FnOk P w K mg base CX0 1 (ad 6) (fd 6) ["thing"] (sp_is_word) := by
  refine T.F_is_word.ok sc_is_word (fun vs H Q E h => ?_) (fun cdv A outer s H vs Q E hr h => ?_)
  · obtain ⟨z, rfl, _⟩ := h
    rfl
  · obtain ⟨z, rfl, ⟨l1, l2, hc⟩, q⟩ := h
    refine ⟨_, (pss_one (ps_ret (pe_and (pe_callB (call_isinst (K := K)) (by rfl) T.n_isinstance (by decide +kernel) (pa_cons (pv 0) (pa_cons (pe_bltn (v := .ty "str") (by rfl) T.n_str (by decide +kernel) rfl) pa_nil))) (pe_and (pe_chain op_le op_le pe_int (pe_callB call_len_str (by rfl) T.n_len (by decide +kernel) (pa_cons (pv 0) pa_nil)) pe_int) (pe_one (pe_callB (call_all (K := K) rfl) (by rfl) T.n_all (by decide +kernel) (pa_cons (pe_lc (own := [("sign", 1)]) rfl sc_is_word.nd (pi_str (pv 0)) (blkOk_by (N := ["thing", "sign"]) (sc := defScope s_is_word) (by decide +kernel)) (fun _ _ _ _ _ => (pg_name (i := 1) sc_is_word.nd rfl (.inl rfl))) (fun _ _ _ _ _ => pts_nil) (fun _ _ _ _ _ => (pe_cmpR op_in_str (pv 1) (pe_glob (v := .str _) (by rfl) T.g_LETTERS.choose_spec ⟨_, rfl⟩) rfl))) pa_nil))))))), ?_⟩
    refine ⟨_, rfl, _, .ty "str", _, _, _, rfl, .ty "str", hasTy_str, kit_tg .str .str (by decide), _, rfl, ?_⟩
    refine ⟨_, rfl, _, rfl, by rw [sizeLine_eq]; omega, _, _, rfl, rfl, _, rfl, ?_⟩
    rw [decide_eq_true (by omega : (1 : Int) ≤ (z.length : Int))]
    refine ⟨_, _, rfl, rfl, _, rfl, ?_⟩
    rw [decide_eq_true (by omega : (z.length : Int) ≤ 8)]
    refine ⟨_, rfl, _, rfl, fun D hD => ?_⟩
    refine lc_it walk_str (PvV H ((z.cps.toList.map fun _ => true).map V.bl) D) (vals0 hD) (fun _ _ _ _ => trivial) ?_ ?_
    · rintro i x H1 H2 hi pv ⟨rfl, c, ec, rfl⟩
      refine ⟨rfl, ?_⟩
      refine ⟨_, rfl, _, _, rfl, rfl, ?_⟩
      have ec2 : z.cps.toList[i]? = some c := by rw [Array.getElem?_toList]; exact ec
      have e : letB c = true := hc c (List.mem_of_getElem? ec2)
      show ∃ acc, H2 D = some (.lst acc) ∧ acc.length < sizeLine ∧ PvV H _ D (i + 1) (upd H2 D (.lst (acc ++ [.bl (letB c)])))
      rw [e]
      exact vals_step pv hD (Same.refl _) (at_map (at_map ec2)) (by rw [List.length_map, List.length_map, Array.length_toList]; have : z.length = z.cps.size := rfl; omega)
    · intro H1 pv
      obtain ⟨s1, hd1⟩ := valsE pv (by rw [List.length_map, List.length_map, Array.length_toList])
      refine ⟨D, _, rfl, sqL_of hd1, ?_⟩
      have e : (z.cps.toList.map fun _ => true).all id = true := by simp
      rw [e]
      exact q _ s1
end
end Lk
namespace Lk
open PySem PySem.Spec PyProof.Rows L2 RZ
section
variable {P : Program} {w : World} {K : PySem.W.Frag} {mg : Str → Option Value} {base : Heap} {ad ai : Nat → Addr} {fd : Nat → FuncData}
/-! ### the draws -/
def sp_draw : Sp := fun vs H Q _ => ∃ p m n, vs = [.ref p, .int m] ∧ Pool H p n ∧ n ≤ 1000000 ∧ 1 ≤ m ∧ m ≤ 1000000 ∧ ∀ r o, 0 ≤ r → r < m → Pool (upd H p o) p (n + 1) → Q (.int r) (upd H p o)
theorem ok_draw (T : Txt K mg ad ai fd) : FnOk P w K mg base CX0 1 (ad 27) (fd 27) ["_law_source_here", "_law_many"] (sp_draw) := by
  refine T.F_law_draw.ok sc_law_draw (fun vs H Q E h => ?_) (fun cdv A outer s H vs Q E hr h => ?_)
  · obtain ⟨p, m, n, rfl, _⟩ := h
    rfl
  · obtain ⟨p, m, n, rfl, ⟨a, b, c, hp, ha, hb, hb2, hc, hc2⟩, hn, hm, hm2, q⟩ := h
    refine ⟨_, (pss_cons (ps_if (pt_cmpR op_gt (pe_ix (ix_seq (K := K)) (pv 0) pe_int (fun _ _ => rfl)) pe_int (nomark _)) (pss_cons (ps_set (i := 2) sc_law_draw.nd rfl (.inl rfl) (pe_op op_modN (pe_callTy call_int1 (by rfl) T.n_int (by decide +kernel) (pa_cons (pe_ix (ix_seq (K := K)) (pv 0) pe_int (fun _ _ => rfl)) pa_nil)) (pv 1)))
          (pss_cons (ps_asg (pe_op op_fdivN (pe_ix (ix_seq (K := K)) (pv 0) pe_int (fun _ _ => rfl)) (pv 1)) (pg_sub (pv 0) pe_int set_list))
          (pss_one (ps_ret (pv 2))))) pss_nil)
      (pss_cons (ps_asg (pe_op op_add (pe_ix (ix_seq (K := K)) (pv 0) pe_int (fun _ _ => rfl)) pe_int) (pg_sub (pv 0) pe_int set_list))
      (pss_cons (ps_set (i := 3) sc_law_draw.nd rfl (.inl rfl) (pe_op op_modN (pe_op op_pow (pe_callTy call_int1 (by rfl) T.n_int (by decide +kernel) (pa_cons (pe_op op_add (pe_ix (ix_seq (K := K)) (pv 0) pe_int (fun _ _ => rfl)) (pe_op op_mul pe_int (pe_ix (ix_seq (K := K)) (pv 0) pe_int (fun _ _ => rfl)))) pa_nil)) pe_int) pe_int))
      (pss_one (ps_ret (pe_op op_modN (pe_op op_fdivN (pe_op op_modN (pe_callTy call_int1 (by rfl) T.n_int (by decide +kernel) (pa_cons (pe_op op_mul (pe_op op_add (pv 3) (pe_ix (ix_seq (K := K)) (pv 0) pe_int (fun _ _ => rfl))) pe_int) pa_nil)) pe_int) pe_int) (pv 1))))))), ?_⟩
    refine ⟨_, rfl, ixS (j := 0) (sq_lst hp) rfl ?_⟩
    refine ⟨_, _, rfl, rfl, _, rfl, ?_⟩
    by_cases c0 : 0 < a
    · rw [decide_eq_true c0]
      refine ⟨_, rfl, ixS (j := 0) (sq_lst hp) rfl ?_⟩
      refine .inl ⟨_, rfl, ?_⟩
      refine ⟨_, rfl, _, _, rfl, rfl, (by omega : m ≠ 0), ?_⟩
      refine ⟨_, rfl, ixS (j := 0) (sq_lst hp) rfl ?_⟩
      refine ⟨_, rfl, _, _, rfl, rfl, ⟨by omega, by omega⟩, ?_⟩
      refine ⟨_, rfl, p, _, _, 0, rfl, rfl, hp, rfl, ?_⟩
      refine ⟨_, rfl, q _ _ (fmod_lo (by omega)) (fmod_hi (by omega)) ?_⟩
      exact ⟨_, b, c, upd_same, fdiv_lo ha (by omega), hb, hb2, hc, by omega⟩
    · rw [decide_eq_false c0]
      refine ⟨_, rfl, ixS (j := 2) (sq_lst hp) rfl ?_⟩
      refine ⟨_, _, rfl, rfl, ?_⟩
      refine ⟨_, rfl, p, _, _, 2, rfl, rfl, hp, rfl, ?_⟩
      have hp2 : upd H p (.lst [.int a, .int b, .int (c + 1)]) p = some (.lst [.int a, .int b, .int (c + 1)]) := upd_same
      have hq := fun r h1 h2 => q r (.lst [.int a, .int b, .int (c + 1)]) h1 h2 ⟨a, b, c + 1, upd_same, ha, hb, hb2, by omega, by omega⟩
      refine ⟨_, rfl, ixS (j := 1) (sq_lst hp2) rfl ?_⟩
      refine ⟨_, rfl, ixS (j := 2) (sq_lst hp2) rfl ?_⟩
      refine ⟨_, _, rfl, rfl, .inl ⟨by decide, by decide⟩, ?_⟩
      refine ⟨_, _, rfl, rfl, ?_⟩
      refine .inl ⟨_, rfl, ?_⟩
      refine ⟨_, _, rfl, rfl, ⟨by decide, by decide, ?_⟩, ?_⟩
      · omega
      refine ⟨_, _, rfl, rfl, (by decide : (2147483647 : Int) ≠ 0), ?_⟩
      refine ⟨_, rfl, _, rfl, ixS (j := 2) (sq_lst hp2) rfl ?_⟩
      refine ⟨_, _, rfl, rfl, _, _, rfl, rfl, .inr ⟨by decide, by decide⟩, ?_⟩
      refine .inl ⟨_, rfl, ?_⟩
      refine ⟨_, _, rfl, rfl, (by decide : (2147483629 : Int) ≠ 0), ?_⟩
      refine ⟨_, _, rfl, rfl, ⟨by decide, by decide⟩, ?_⟩
      refine ⟨_, rfl, _, _, rfl, rfl, (by omega : m ≠ 0), ?_⟩
      exact hq _ (fmod_lo (by omega)) (fmod_hi (by omega))
def sp_source (K : PySem.W.Frag) : Sp := fun vs H Q _ => ∃ (a : Addr) (ns : List Int) (k : Int), vs = [.ref a, .int k] ∧ SqL K H a (ns.map V.int) ∧ 0 ≤ k ∧ k ≤ 100 ∧ ∀ H' p, Same H H' → H p = none → Pool H' p 0 → Q (.ref p) H'
/-- what follows a value of ints, whatever it is -/
theorem te_int {t : TE} {σ : L2.St} {H : Hp} {Q : VK} (h : ∀ Qr : VK, (∀ (c : Int) (H1 : Hp), Same H H1 → Qr (.int c) H1) → t σ H Qr) (k : ∀ (c : Int) (H1 : Hp), Same H H1 → Q (.int c) H1) : t σ H Q := h Q k
theorem Pool.mk0 {H : Hp} {p : Addr} {x y : Int} (h : H p = some (.lst [.int x, .int y, .int 0])) (hx : 0 ≤ x) (h1 : 0 ≤ y) (h2 : y < 2147483647) : Pool H p 0 := ⟨x, y, 0, h, hx, h1, h2, by omega, by omega⟩
theorem ok_source (T : Txt K mg ad ai fd) : FnOk P w K mg base CX0 1 (ad 26) (fd 26) ["_law_script", "_law_turn"] (sp_source K) := by
  refine T.F_law_source.ok sc_law_source (fun vs H Q E h => ?_) (fun cdv A outer s H vs Q E hr h => ?_)
  · obtain ⟨a, ns, k, rfl, _⟩ := h
    rfl
  · obtain ⟨a, ns, k, rfl, hs, hk, hk2, q⟩ := h
    refine ⟨_, (pss_cons (ps_set (i := 2) sc_law_source.nd rfl (.inl rfl) (pe_ifExp (pt_cmpR op_lt (pv 1) (pe_callB (call_len (K := K)) (by rfl) T.n_len (by decide +kernel) (pa_cons (pv 0) pa_nil)) (nomark _)) (pe_ix (ix_seq (K := K)) (pv 0) (pv 1) (fun _ _ => rfl)) (pe_op op_add (pe_op op_add (pe_op op_modN (pe_callTy call_int1 (by rfl) T.n_int (by decide +kernel) (pa_cons (pe_callB (call_sum (K := K) rfl) (by rfl) T.n_sum (by decide +kernel) (pa_cons (pe_slice (sl_lst (K := K)) (pv 0) po_none (po_some pe_int)) pa_nil)) pa_nil)) pe_int) (pe_op op_mul pe_int (pv 1))) pe_int)))
      (pss_cons (ps_set (i := 3) sc_law_source.nd rfl (.inl rfl) (pe_op op_add (pe_op op_mul pe_int (pv 1)) pe_int))
      (pss_cons (ps_for PassesOwn.never rfl (pi_seq (K := K) (pv 0)) (pg_name (i := 4) sc_law_source.nd rfl (.inl rfl))
          (pss_one (ps_set (i := 3) sc_law_source.nd rfl (.inl rfl) (pe_op op_modN (pe_callTy call_int1 (by rfl) T.n_int (by decide +kernel) (pa_cons (pe_op op_add (pe_op op_mul (pv 3) pe_int) (pv 4)) pa_nil)) pe_int))))
      (pss_one (ps_ret (pe_lst (pa_cons (pe_ifExp (pt_cmpR op_ge (pv 2) (pe_op op_pow pe_int pe_int) (nomark _)) (pe_op op_fdivN (pv 2) pe_int) pe_int) (pa_cons (pe_op op_modN (pe_callTy call_int1 (by rfl) T.n_int (by decide +kernel) (pa_cons (pe_op op_add (pv 3) (pe_op op_mul pe_int (pv 2))) pa_nil)) pe_int) (pa_cons pe_int pa_nil))))))))), ?_⟩
    refine te_int (t := tIf _ _ _) (fun Qr hq => ?_) (fun cell H1 s1 => ?_)
    · refine ⟨_, rfl, _, rfl, _, _, rfl, .inl hs, _, _, rfl, rfl, _, rfl, ?_⟩
      refine ite2 (fun c => ?_) (fun c => ?_)
      · have hlt : k < ((ns.map V.int).length : Int) := of_decide_eq_true c
        rw [List.length_map] at hlt
        have hkn : k.toNat < ns.length := by omega
        have ek : k = ((k.toNat : Nat) : Int) := (Int.toNat_of_nonneg hk).symm
        refine ⟨_, rfl, _, rfl, ?_⟩
        show rIxS K (.ref a) (.int k) _ _
        rw [ek]
        refine ixS (j := k.toNat) (.inl hs) (by rw [List.getElem?_map, List.getElem?_eq_getElem hkn]; rfl) ?_
        exact hq _ _ (Same.refl _)
      · refine ⟨_, rfl, _, rfl, _, _, rfl, hs, fun c nc => ?_⟩
        obtain ⟨ms, em⟩ := cutV_map ns none (some 1)
        rw [em]
        refine ⟨_, ms, rfl, sqL_of upd_same, ?_⟩
        refine .inl ⟨_, rfl, ?_⟩
        refine ⟨_, _, rfl, rfl, (by decide : (1000003 : Int) ≠ 0), ?_⟩
        refine ⟨_, rfl, _, _, rfl, rfl, .inl ⟨by decide, by decide⟩, ?_⟩
        refine ⟨_, _, rfl, rfl, ?_⟩
        refine ⟨_, _, rfl, rfl, ?_⟩
        exact hq _ _ (same_new nc)
    refine ⟨_, rfl, _, _, rfl, rfl, .inl ⟨by decide, by decide⟩, ?_⟩
    refine ⟨_, _, rfl, rfl, ?_⟩
    refine ⟨_, rfl, for_seq (K := K) (.inl (s1.seq hs)) (fun i σ H' => (∃ b y, σ = [some (.ref a), some (.int k), some (.int cell), some (.int b), y] ∧ 0 ≤ b ∧ b < 2147483647) ∧ H' = H1) ⟨⟨_, _, rfl, by omega, by omega⟩, rfl⟩ (fun i σ H' h => by rw [h.2]; exact KeepsAt.refl) ?_ ?_⟩
    · rintro i x σ H' hx ⟨⟨b, y, rfl, b0, b1⟩, rfl⟩
      obtain ⟨z, hz, rfl⟩ := map_at hx
      refine ⟨_, rfl, _, _, rfl, rfl, .inl ⟨by omega, by omega⟩, ?_⟩
      refine ⟨_, rfl, _, _, rfl, rfl, ?_⟩
      refine .inl ⟨_, rfl, ?_⟩
      refine ⟨_, _, rfl, rfl, (by decide : (2147483629 : Int) ≠ 0), ?_⟩
      have h1 := fmod_lo (a := b * 41 + z) (b := 2147483629) (by omega)
      have h2 := fmod_hi (a := b * 41 + z) (b := 2147483629) (by omega)
      exact ⟨⟨_, _, rfl, h1, by omega⟩, rfl⟩
    · rintro σ H' ⟨⟨b, y, rfl, b0, b1⟩, rfl⟩
      have fin : ∀ z : Int, 0 ≤ z → ∀ b : Int, 0 ≤ b → b < 2147483629 → [V.int z, V.int b, V.int 0].length ≤ sizeLine ∧ ∀ p, H' p = none → Q (.ref p) (upd H' p (.lst [V.int z, V.int b, V.int 0])) := by
        intro z hz b hb hb2
        refine ⟨by show 3 ≤ sizeLine; decide, fun p np => ?_⟩
        exact q _ p (s1.new np) (s1.free np) (Pool.mk0 upd_same hz hb (by omega))
      refine ⟨_, rfl, _, _, rfl, rfl, ⟨by decide, by decide, by decide⟩, _, _, rfl, rfl, _, rfl, ?_⟩
      refine ite2 (fun c => ?_) (fun c => ?_)
      · have c1 := of_decide_eq_true c
        refine ⟨_, rfl, _, _, rfl, rfl, ⟨by decide, by decide⟩, ?_⟩
        refine ⟨_, rfl, _, rfl, _, _, rfl, rfl, .inl ⟨by decide, by decide⟩, _, _, rfl, rfl, .inl ⟨_, rfl, _, _, rfl, rfl, (by decide : (2147483629 : Int) ≠ 0), ?_⟩⟩
        refine fin _ (fdiv_lo ?_ (by omega)) _ (fmod_lo (by omega)) (fmod_hi (by omega))
        exact Int.le_trans (by decide) c1
      · refine ⟨_, rfl, _, rfl, _, _, rfl, rfl, .inl ⟨by decide, by decide⟩, _, _, rfl, rfl, .inl ⟨_, rfl, _, _, rfl, rfl, (by decide : (2147483629 : Int) ≠ 0), ?_⟩⟩
        exact fin _ (Int.le_refl 0) _ (fmod_lo (by omega)) (fmod_hi (by omega))
/-- one of the things -/
def sp_pick (K : PySem.W.Frag) : Sp := fun vs H Q _ => ∃ p a xs n, vs = [.ref p, .ref a] ∧ Pool H p n ∧ n ≤ 1000000 ∧ Sq K H a xs ∧ a ≠ p ∧ 1 ≤ xs.length ∧ xs.length ≤ 1000 ∧ ∀ x o, x ∈ xs → Pool (upd H p o) p (n + 1) → Q x (upd H p o)
theorem ok_pick (T : Txt K mg ad ai fd) : FnOk P w K mg base CX0 2 (ad 28) (fd 28) ["_law_source_here", "_law_things"] (sp_pick K) := by
  have G_law_draw : FnOk P w K mg base CX0 1 (ad 27) (fd 27) ["_law_source_here", "_law_many"] (sp_draw) := ok_draw T
  refine T.F_law_pick.ok sc_law_pick (fun vs H Q E h => ?_) (fun cdv A outer s H vs Q E hr h => ?_)
  · obtain ⟨p, a, xs, n, rfl, _⟩ := h
    rfl
  · obtain ⟨p, a, xs, n, rfl, hp, hn, hs, hne, h1, h2, q⟩ := h
    refine ⟨_, (pss_one (ps_ret (pe_ix (ix_seq (K := K)) (pv 1) (pe_call G_law_draw (hr.mono (by decide)) (by rfl) T.g_law_draw T.F_law_draw.kp T.b_law_draw .nil pass0 (pa_cons (pv 0) (pa_cons (pe_callB (call_len (K := K)) (by rfl) T.n_len (by decide +kernel) (pa_cons (pv 1) pa_nil)) pa_nil))) (fun _ _ => rfl)))), ?_⟩
    refine ⟨_, rfl, _, rfl, _, rfl, _, _, rfl, hs, ?_⟩
    refine ⟨p, _, n, rfl, hp, hn, by omega, by omega, fun r o r0 r1 hp2 => ?_⟩
    have er : r = ((r.toNat : Nat) : Int) := (Int.toNat_of_nonneg r0).symm
    have hlt : r.toNat < xs.length := by omega
    rw [er]
    refine ixS (j := r.toNat) (KeepsAt.sq (SameBut.at_.keeps hne) hs) (List.getElem?_eq_getElem hlt) ?_
    exact q _ o (List.getElem_mem hlt) hp2
/-- the things in any order -/
def sp_mixed (K : PySem.W.Frag) : Sp := fun vs H Q _ => ∃ p a xs n, vs = [.ref p, .ref a] ∧ Pool H p n ∧ Sq K H a xs ∧ xs.length ≤ 1000 ∧ n + xs.length ≤ 1000000 ∧ ∀ H' l ys, SameBut p H H' → Pool H' p (n + xs.length) → H l = none → ys.Perm xs → H' l = some (.lst ys) → Q (.ref l) H'
theorem ok_mixed (T : Txt K mg ad ai fd) : FnOk P w K mg base CX0 2 (ad 29) (fd 29) ["_law_source_here", "_law_things"] (sp_mixed K) := by
  have G_law_draw : FnOk P w K mg base CX0 1 (ad 27) (fd 27) ["_law_source_here", "_law_many"] (sp_draw) := ok_draw T
  refine T.F_law_mixed.ok sc_law_mixed (fun vs H Q E h => ?_) (fun cdv A outer s H vs Q E hr h => ?_)
  · obtain ⟨p, a, xs, n, rfl, _⟩ := h
    rfl
  · obtain ⟨p, a, xs, n, rfl, hp, hs, hl, hn, q⟩ := h
    refine ⟨_, (pss_cons (ps_par (i := 2) (j := 3) (by rfl) sc_law_mixed.nd rfl rfl (by decide) rfl rfl (pa_cons (pe_callTy (call_list (K := K)) (by rfl) T.n_list (by decide +kernel) (pa_cons (pv 1) pa_nil)) (pa_cons (pe_lst pa_nil) pa_nil)) (by rfl))
      (pss_cons (ps_while PassesOwn.never (pt_cmpR (op_neNil (K := K) (hu_of hr)) (pv 2) (pe_lst pa_nil) (nomark _))
          (pss_one (ps_expr (pe_bmK (K := K) PySem.F.plainAttrs_list PySem.F.slot_list_append PySem.F.type_list_append mt_append (pv 3) (pa_cons (pe_bmK (K := K) PySem.F.plainAttrs_list PySem.F.slot_list_pop PySem.F.type_list_pop mt_popAt (pv 2) (pa_cons (pe_call G_law_draw (hr.mono (by decide)) (by rfl) T.g_law_draw T.F_law_draw.kp T.b_law_draw .nil pass0 (pa_cons (pv 0) (pa_cons (pe_callB (call_len (K := K)) (by rfl) T.n_len (by decide +kernel) (pa_cons (pv 2) pa_nil)) pa_nil))) pa_nil)) pa_nil)))))
      (pss_one (ps_ret (pv 3))))), ?_⟩
    refine ⟨_, rfl, a, xs, rfl, hs, fun l nl => ?_⟩
    have s1 : Same H (upd H l (.lst xs)) := same_new nl
    have hl1 : upd H l (.lst xs) l = some (.lst xs) := upd_same
    dsimp only [tNil]
    generalize upd H l (.lst xs) = H1 at s1 hl1 ⊢
    refine ⟨by show 0 ≤ sizeLine; decide, fun D nD => ?_⟩
    have s2 : Same H1 (upd H1 D (.lst [])) := same_new nD
    have hD2 : upd H1 D (.lst []) D = some (.lst []) := upd_same
    dsimp only [tNil]
    generalize upd H1 D (.lst []) = H2 at s2 hD2 ⊢
    obtain ⟨ps0, hps0⟩ := hp.at_
    have lp : l ≠ p := fun e => by
      rw [e, hps0] at nl
      cases nl
    have nDH : H D = none := s1.free nD
    have Dp : D ≠ p := fun e => by
      rw [e, hps0] at nDH
      cases nDH
    have Dl : D ≠ l := fun e => by
      rw [e, hl1] at nD
      cases nD
    have s12 := s1.trans s2
    refine ⟨_, _, rfl, ?_⟩
    refine ⟨fun m σ H' => σ = [some (.ref p), some (.ref a), some (.ref l), some (.ref D)] ∧ ∃ acc rem, m = rem.length ∧ SameBut p H H' ∧ Pool H' p (n + acc.length) ∧ H' D = some (.lst acc) ∧ H' l = some (.lst rem) ∧ (acc ++ rem).Perm xs, ⟨_, rfl, [], xs, rfl, s12.but, hp.keeps s12.keeps, hD2, s2 _ _ hl1, .refl _⟩, ?_⟩
    rintro m σ H3 ⟨rfl, acc, rem, rfl, sb, hp3, hd3, hl3, pm⟩
    have hlen : acc.length + rem.length = xs.length := by
      have := pm.length_eq
      rw [List.length_append] at this
      exact this
    refine ⟨_, rfl, by show 0 ≤ sizeLine; decide, fun e ne => ?_⟩
    have s4 : Same H3 (upd H3 e (.lst [])) := same_new ne
    have he4 : upd H3 e (.lst []) e = some (.lst []) := upd_same
    dsimp only [tNil]
    generalize upd H3 e (.lst []) = H4 at s4 he4 ⊢
    refine ⟨_, _, _, rfl, rfl, sqL_of (s4 _ _ hl3), sqL_of he4, _, rfl, ?_⟩
    cases rem with
    | nil =>
      rw [List.append_nil] at pm
      refine ⟨_, rfl, ?_⟩
      refine q H4 D acc (sb.trans s4.but) ?_ nDH pm (s4 _ _ hd3)
      rw [← hlen]
      exact hp3.keeps s4.keeps
    | cons y0 rem0 =>
      generalize hrem : y0 :: rem0 = rem at *
      have hr1 : 1 ≤ rem.length := by rw [← hrem]; simp
      have hemp : (!rem.isEmpty) = true := by rw [← hrem]; rfl
      rw [hemp]
      refine ⟨fun σ H' => σ = [some (.ref p), some (.ref a), some (.ref l), some (.ref D)] ∧ ∃ acc' rem', rem'.length < rem.length ∧ SameBut p H H' ∧ Pool H' p (n + acc'.length) ∧ H' D = some (.lst acc') ∧ H' l = some (.lst rem') ∧ (acc' ++ rem').Perm xs, ?_, ?_⟩
      · rintro σ H' ⟨e1, acc', rem', h1, h2⟩
        exact ⟨_, h1, e1, acc', rem', rfl, h2⟩
      refine ⟨_, rfl, .inl ⟨rfl, _, sqL_of (s4 _ _ hd3)⟩, _, rfl, .inl ⟨rfl, _, sqL_of (s4 _ _ hl3)⟩, _, rfl, _, rfl, l, rem, rfl, .inl (sqL_of (s4 _ _ hl3)), ?_⟩
      refine ⟨p, _, n + acc.length, rfl, hp3.keeps s4.keeps, by omega, by omega, by omega, fun r o r0 r1 hp5 => ?_⟩
      have hlt : r.toNat < rem.length := by omega
      have hl5 : upd H4 p o l = some (.lst rem) := by rw [upd_ne lp]; exact s4 _ _ hl3
      have hd5 : upd H4 p o D = some (.lst acc) := by rw [upd_ne Dp]; exact s4 _ _ hd3
      have sb5 : SameBut p H (upd H4 p o) := (sb.trans s4.but).trans SameBut.at_
      generalize upd H4 p o = H5 at hp5 hl5 hd5 sb5 ⊢
      refine ⟨l, rem, r, r.toNat, rem[r.toNat], rfl, rfl, hl5, by omega, by omega, ?_, List.getElem?_eq_getElem hlt, ?_⟩
      · exact seqIndex_of r0 (by omega)
      have hd6 : upd H5 l (.lst (rem.eraseIdx r.toNat)) D = some (.lst acc) := by rw [upd_ne Dl]; exact hd5
      refine ⟨D, _, _, rfl, rfl, hd6, by rw [sizeLine_eq]; omega, rfl, acc ++ [rem[r.toNat]], rem.eraseIdx r.toNat, ?_, ?_, ?_, upd_same, ?_, ?_⟩
      · rw [List.length_eraseIdx_of_lt hlt]
        omega
      · exact SameBut.mut (sb5.mut nl) nDH
      · have e1 : n + (acc ++ [rem[r.toNat]]).length = n + acc.length + 1 := by rw [List.length_append]; rfl
        rw [e1]
        refine hp5.keeps fun u hu => ?_
        rw [upd_ne (Ne.symm Dp), upd_ne (Ne.symm lp)]
        exact hu
      · rw [upd_ne (Ne.symm Dl), upd_same]
      · rw [List.append_assoc]
        exact ((erase_perm hlt).append_left acc).trans pm
end
end Lk
namespace Lk
open PySem PySem.Spec PyProof.Rows L2 RZ
section
variable {K : PySem.W.Frag}
/-! ### data that fits into a depth -/
def Fits : Nat → PyData → Prop
  | _, .none => True
  | _, .bool _ => True
  | _, .int _ => True
  | _, .str _ => True
  | n + 1, .list ds => ds.length ≤ 1000 ∧ ∀ d ∈ ds, Fits n d
  | n + 1, .tuple ds => ds.length ≤ 1000 ∧ ∀ d ∈ ds, Fits n d
  | _, _ => False
theorem dpAll_paired {H : Hp} : ∀ {vs : List V} {ds : List PyData}, DpAll K H vs ds → Paired (Dp K H) vs ds
  | _, _, .nil => .nil
  | _, _, .cons h t => .cons h (dpAll_paired t)
theorem paired_dpAll {H : Hp} : ∀ {vs : List V} {ds : List PyData}, Paired (Dp K H) vs ds → DpAll K H vs ds
  | _, _, .nil => .nil
  | _, _, .cons h t => .cons h (paired_dpAll t)
theorem isiT_seq {H : Hp} {v : V} {t : Tg} {p : Addr} {Q : VK} (h : HasTy K H v t) (hp : H p = some (.tup [.ty "list", .ty "tuple"])) (q : Q (.bl t.seq) H) : rIsiT K [v, .ref p] H Q := by
  refine ⟨v, p, _, _, [.type "list", .type "tuple"], t.seq, rfl, hp, .cons (.ty "list") (.cons (.ty "tuple") .nil), h, ?_, q⟩
  cases t
  all_goals exact kitAny_cons (kit_tg _ .lst (by decide)) (fun _ => kitAny_cons (kit_tg _ .tup (by decide)) (fun _ => by first | rfl | contradiction) (fun z => by first | rfl | cases z)) (fun z => by first | rfl | cases z)
/-- isinstance(x, (int, list, tuple, dict)) of None or a text -/
theorem isiT_four {H : Hp} {v : V} {t : Tg} {p : Addr} {Q : VK} (h : HasTy K H v t) (ht : t = .non ∨ t = .str) (hp : H p = some (.tup [.ty "int", .ty "list", .ty "tuple", .ty "dict"])) (q : Q (.bl false) H) : rIsiT K [v, .ref p] H Q := by
  refine ⟨v, p, _, _, [.type "int", .type "list", .type "tuple", .type "dict"], false, rfl, hp, .cons (.ty "int") (.cons (.ty "list") (.cons (.ty "tuple") (.cons (.ty "dict") .nil))), h, ?_, q⟩
  rcases ht with rfl | rfl
  all_goals exact kitAny_cons (kit_tg _ .int (by decide)) (fun _ => kitAny_cons (kit_tg _ .lst (by decide)) (fun _ => kitAny_cons (kit_tg _ .tup (by decide)) (fun _ => kitAny_cons (kit_tg _ .dct (by decide)) (fun _ => rfl) (fun z => by cases z)) (fun z => by cases z)) (fun z => by cases z)) (fun z => by cases z)
end
section
variable {P : Program} {w : World} {K : PySem.W.Frag} {mg : Str → Option Value} {base : Heap} {ad ai : Nat → Addr} {fd : Nat → FuncData}
/-! ### _law_same of two values with the same data -/
def sp_same (K : PySem.W.Frag) (n : Nat) : Sp := fun vs H Q _ => ∃ v u d, vs = [v, u] ∧ Dp K H v d ∧ Dp K H u d ∧ Fits n d ∧ ∀ H', Same H H' → Q (.bl true) H'
/-- two values without items -/
inductive Flat2 : V → Prop
  | non : Flat2 .non
  | bl (b : Bool) : Flat2 (.bl b)
  | int (i : Int) : Flat2 (.int i)
  | str (z : Str) : Flat2 (.str z)
theorem ok_same0 (T : Txt K mg ad ai fd) : FnOk P w K mg base CX0 1 (ad 31) (fd 31) ["_law_found", "_law_due"] (fun vs H Q _ => ∃ v, vs = [v, v] ∧ Flat2 v ∧ ∀ H', Same H H' → Q (.bl true) H') := by
  refine T.F_law_same.ok sc_law_same (fun vs H Q E h => ?_) (fun cdv A outer s H vs Q E hr h => ?_)
  · obtain ⟨v, rfl, _⟩ := h
    rfl
  · obtain ⟨v, rfl, hv, q⟩ := h
    refine ⟨_, (pss_cons (ps_if (pt_val (pe_callB (call_isinstT (K := K)) (by rfl) T.n_isinstance (by decide +kernel) (pa_cons (pv 1) (pa_cons (pe_tup (pa_cons (pe_bltn (v := .ty "list") (by rfl) T.n_list (by decide +kernel) rfl) (pa_cons (pe_bltn (v := .ty "tuple") (by rfl) T.n_tuple (by decide +kernel) rfl) pa_nil))) pa_nil)))) (pss_cons ps_never
          (pss_one ps_never)) pss_nil)
      (pss_cons (ps_if (pt_val (pe_callB (call_isinst (K := K)) (by rfl) T.n_isinstance (by decide +kernel) (pa_cons (pv 1) (pa_cons (pe_bltn (v := .ty "dict") (by rfl) T.n_dict (by decide +kernel) rfl) pa_nil)))) (pss_one ps_never) pss_nil)
      (pss_cons (ps_if (pt_val (pe_callB (call_isinst (K := K)) (by rfl) T.n_isinstance (by decide +kernel) (pa_cons (pv 1) (pa_cons (pe_bltn (v := .ty "int") (by rfl) T.n_int (by decide +kernel) rfl) pa_nil)))) (pss_one (ps_ret (pe_and (pe_callB (call_isinst (K := K)) (by rfl) T.n_isinstance (by decide +kernel) (pa_cons (pv 0) (pa_cons (pe_bltn (v := .ty "int") (by rfl) T.n_int (by decide +kernel) rfl) pa_nil))) (pe_and (pe_cmpR op_eq (pe_callB (call_isinst (K := K)) (by rfl) T.n_isinstance (by decide +kernel) (pa_cons (pv 0) (pa_cons (pe_bltn (v := .ty "bool") (by rfl) T.n_bool (by decide +kernel) rfl) pa_nil))) (pe_callB (call_isinst (K := K)) (by rfl) T.n_isinstance (by decide +kernel) (pa_cons (pv 1) (pa_cons (pe_bltn (v := .ty "bool") (by rfl) T.n_bool (by decide +kernel) rfl) pa_nil))) (nomark _)) (pe_one (pe_cmpR op_eq (pv 0) (pv 1) (nomark _))))))) pss_nil)
      (pss_one (ps_ret (pe_and (pe_not (pe_callB (call_isinstT (K := K)) (by rfl) T.n_isinstance (by decide +kernel) (pa_cons (pv 0) (pa_cons (pe_tup (pa_cons (pe_bltn (v := .ty "int") (by rfl) T.n_int (by decide +kernel) rfl) (pa_cons (pe_bltn (v := .ty "list") (by rfl) T.n_list (by decide +kernel) rfl) (pa_cons (pe_bltn (v := .ty "tuple") (by rfl) T.n_tuple (by decide +kernel) rfl) (pa_cons (pe_bltn (v := .ty "dict") (by rfl) T.n_dict (by decide +kernel) rfl) pa_nil))))) pa_nil)))) (pe_one (pe_cmpR op_eq (pv 0) (pv 1) (nomark _))))))))), ?_⟩
    refine ⟨_, rfl, by show 2 ≤ sizeLine; decide, fun p hp => ?_⟩
    have sm : Same H (upd H p (.tup [.ty "list", .ty "tuple"])) := same_new hp
    have hp1 : upd H p (.tup [.ty "list", .ty "tuple"]) p = some (.tup [.ty "list", .ty "tuple"]) := upd_same
    dsimp only [tNil]
    generalize upd H p (.tup [.ty "list", .ty "tuple"]) = H1 at sm hp1 ⊢
    cases hv with
    | non =>
      refine isiT_seq hasTy_non hp1 ⟨_, rfl, ?_⟩
      refine ⟨_, rfl, _, _, _, _, _, rfl, .ty _, hasTy_non, kit_tg .non .dct (by decide), _, rfl, ?_⟩
      refine ⟨_, rfl, _, _, _, _, _, rfl, .ty _, hasTy_non, kit_tg .non .int (by decide), _, rfl, ?_⟩
      refine ⟨_, rfl, by show 4 ≤ sizeLine; decide, fun p2 np2 => ?_⟩
      have sm2 : Same H1 (upd H1 p2 (.tup [.ty "int", .ty "list", .ty "tuple", .ty "dict"])) := same_new np2
      have hp2 : upd H1 p2 (.tup [.ty "int", .ty "list", .ty "tuple", .ty "dict"]) p2 = some (.tup [.ty "int", .ty "list", .ty "tuple", .ty "dict"]) := upd_same
      dsimp only [tNil]
      generalize upd H1 p2 (.tup [.ty "int", .ty "list", .ty "tuple", .ty "dict"]) = H2 at sm2 hp2 ⊢
      refine isiT_four hasTy_non (.inl rfl) hp2 ⟨_, rfl, _, rfl, ?_⟩
      exact ⟨_, rfl, _, rfl, rfl, q _ (sm.trans sm2)⟩
    | str z =>
      refine isiT_seq hasTy_str hp1 ⟨_, rfl, ?_⟩
      refine ⟨_, rfl, _, _, _, _, _, rfl, .ty _, hasTy_str, kit_tg .str .dct (by decide), _, rfl, ?_⟩
      refine ⟨_, rfl, _, _, _, _, _, rfl, .ty _, hasTy_str, kit_tg .str .int (by decide), _, rfl, ?_⟩
      refine ⟨_, rfl, by show 4 ≤ sizeLine; decide, fun p2 np2 => ?_⟩
      have sm2 : Same H1 (upd H1 p2 (.tup [.ty "int", .ty "list", .ty "tuple", .ty "dict"])) := same_new np2
      have hp2 : upd H1 p2 (.tup [.ty "int", .ty "list", .ty "tuple", .ty "dict"]) p2 = some (.tup [.ty "int", .ty "list", .ty "tuple", .ty "dict"]) := upd_same
      dsimp only [tNil]
      generalize upd H1 p2 (.tup [.ty "int", .ty "list", .ty "tuple", .ty "dict"]) = H2 at sm2 hp2 ⊢
      refine isiT_four hasTy_str (.inr rfl) hp2 ⟨_, rfl, _, rfl, ?_⟩
      refine ⟨_, rfl, _, rfl, rfl, ?_⟩
      rw [decide_eq_true rfl]
      exact q _ (sm.trans sm2)
    | int i =>
      refine isiT_seq hasTy_int hp1 ⟨_, rfl, ?_⟩
      refine ⟨_, rfl, _, _, _, _, _, rfl, .ty _, hasTy_int, kit_tg .int .dct (by decide), _, rfl, ?_⟩
      refine ⟨_, rfl, _, _, _, _, _, rfl, .ty _, hasTy_int, kit_tg .int .int (by decide), _, rfl, ?_⟩
      refine ⟨_, rfl, _, _, _, _, _, rfl, .ty _, hasTy_int, kit_tg .int .int (by decide), _, rfl, ?_⟩
      refine ⟨_, rfl, _, _, _, _, _, rfl, .ty _, hasTy_int, kit_tg .int .bl (by decide), _, rfl, _, _, _, _, _, rfl, .ty _, hasTy_int, kit_tg .int .bl (by decide), rfl, _, rfl, ?_⟩
      refine ⟨_, rfl, _, rfl, rfl, ?_⟩
      rw [decide_eq_true rfl]
      exact q _ sm
    | bl b =>
      refine isiT_seq hasTy_bl hp1 ⟨_, rfl, ?_⟩
      refine ⟨_, rfl, _, _, _, _, _, rfl, .ty _, hasTy_bl, kit_tg .bl .dct (by decide), _, rfl, ?_⟩
      refine ⟨_, rfl, _, _, _, _, _, rfl, .ty _, hasTy_bl, kit_tg .bl .int (by decide), _, rfl, ?_⟩
      refine ⟨_, rfl, _, _, _, _, _, rfl, .ty _, hasTy_bl, kit_tg .bl .int (by decide), _, rfl, ?_⟩
      refine ⟨_, rfl, _, _, _, _, _, rfl, .ty _, hasTy_bl, kit_tg .bl .bl (by decide), _, rfl, _, _, _, _, _, rfl, .ty _, hasTy_bl, kit_tg .bl .bl (by decide), rfl, _, rfl, ?_⟩
      refine ⟨_, rfl, _, rfl, rfl, ?_⟩
      rw [decide_eq_true rfl]
      exact q _ sm
theorem dp_flat {H : Hp} {v u : V} {d : PyData} (h : Dp K H v d) (h2 : Dp K H u d) : (v = u ∧ Flat2 v) ∨ ∃ a b xs ys ds, v = .ref a ∧ u = .ref b ∧ Sq2 K H a b xs ys ∧ DpAll K H xs ds ∧ DpAll K H ys ds ∧ (d = .list ds ∨ d = .tuple ds) := by
  cases h with
  | non => cases h2; exact .inl ⟨rfl, .non⟩
  | bl b => cases h2; exact .inl ⟨rfl, .bl b⟩
  | int i => cases h2; exact .inl ⟨rfl, .int i⟩
  | str z => cases h2; exact .inl ⟨rfl, .str z⟩
  | lst h t => cases h2 with | lst h2 t2 => exact .inr ⟨_, _, _, _, _, rfl, rfl, .inl ⟨h, h2⟩, t, t2, .inl rfl⟩
  | tup h t => cases h2 with | tup h2 t2 => exact .inr ⟨_, _, _, _, _, rfl, rfl, .inr ⟨h, h2⟩, t, t2, .inr rfl⟩
theorem _root_.L2.FnOk.or {CX : CXT} {k : Nat} {f : Addr} {fd : FuncData} {ps : List Str} {sp sp' : Sp} (F : FnOk P w K mg base CX k f fd ps sp) (F' : FnOk P w K mg base CX k f fd ps sp') : FnOk P w K mg base CX k f fd ps (fun vs H Q E => sp vs H Q E ∨ sp' vs H Q E) :=
  ⟨fun vs H Q E q => q.elim (F.len vs H Q E) (F'.len vs H Q E), fun A outer s H args us vs Q E hr he hb hv hs => hs.elim (F.run A outer s H args us vs Q E hr he hb hv) (F'.run A outer s H args us vs Q E hr he hb hv)⟩
/-- two lists, or two tuples, of the same data -/
def sp_sameS (K : PySem.W.Frag) (n : Nat) : Sp := fun vs H Q _ => ∃ a b xs ys ds, vs = [.ref a, .ref b] ∧ Sq2 K H a b xs ys ∧ DpAll K H xs ds ∧ DpAll K H ys ds ∧ ds.length ≤ 1000 ∧ (∀ d ∈ ds, Fits n d) ∧ ∀ H', Same H H' → Q (.bl true) H'
theorem Sq2.ty {H : Hp} {a b : Addr} {xs ys : List V} (h : Sq2 K H a b xs ys) : ∃ t, t.seq = true ∧ HasTy K H (.ref a) t ∧ HasTy K H (.ref b) t := by
  rcases h with ⟨h1, h2⟩ | ⟨h1, h2⟩
  · exact ⟨.lst, rfl, hasTy_lst h1, hasTy_lst h2⟩
  · exact ⟨.tup, rfl, hasTy_tup h1, hasTy_tup h2⟩
theorem Sq2.fst {H : Hp} {a b : Addr} {xs ys : List V} (h : Sq2 K H a b xs ys) : Sq K H a xs := h.imp (·.1) (·.1)
theorem Sq2.snd {H : Hp} {a b : Addr} {xs ys : List V} (h : Sq2 K H a b xs ys) : Sq K H b ys := h.imp (·.2) (·.2)
theorem ok_sameS (T : Txt K mg ad ai fd) (n : Nat) (G_law_same : FnOk P w K mg base CX0 (n + 1) (ad 31) (fd 31) ["_law_found", "_law_due"] (sp_same K n)) : FnOk P w K mg base CX0 (n + 2) (ad 31) (fd 31) ["_law_found", "_law_due"] (sp_sameS K n) := by
  refine T.F_law_same.ok sc_law_same (fun vs H Q E h => ?_) (fun cdv A outer s H vs Q E hr h => ?_)
  · obtain ⟨a, b, xs, ys, ds, rfl, _⟩ := h
    rfl
  · obtain ⟨a, b, xs, ys, ds, rfl, h2, hx, hy, hl, hf, q⟩ := h
    refine ⟨_, (pss_cons (ps_if (pt_val (pe_callB (call_isinstT (K := K)) (by rfl) T.n_isinstance (by decide +kernel) (pa_cons (pv 1) (pa_cons (pe_tup (pa_cons (pe_bltn (v := .ty "list") (by rfl) T.n_list (by decide +kernel) rfl) (pa_cons (pe_bltn (v := .ty "tuple") (by rfl) T.n_tuple (by decide +kernel) rfl) pa_nil))) pa_nil)))) (pss_cons (ps_if (PW.pt (pw_or (pt_cmpR op_ne (pe_callB (call_isinst (K := K)) (by rfl) T.n_isinstance (by decide +kernel) (pa_cons (pv 0) (pa_cons (pe_bltn (v := .ty "list") (by rfl) T.n_list (by decide +kernel) rfl) pa_nil))) (pe_callB (call_isinst (K := K)) (by rfl) T.n_isinstance (by decide +kernel) (pa_cons (pv 1) (pa_cons (pe_bltn (v := .ty "list") (by rfl) T.n_list (by decide +kernel) rfl) pa_nil))) (nomark _)) (pw_or1 (pt_cmpR op_ne (pe_callB (call_isinst (K := K)) (by rfl) T.n_isinstance (by decide +kernel) (pa_cons (pv 0) (pa_cons (pe_bltn (v := .ty "tuple") (by rfl) T.n_tuple (by decide +kernel) rfl) pa_nil))) (pe_callB (call_isinst (K := K)) (by rfl) T.n_isinstance (by decide +kernel) (pa_cons (pv 1) (pa_cons (pe_bltn (v := .ty "tuple") (by rfl) T.n_tuple (by decide +kernel) rfl) pa_nil))) (nomark _))))) (pss_one (ps_ret pe_bl)) pss_nil)
          (pss_one (ps_ret (pe_and (pe_cmpR op_eq (pe_callB (call_len (K := K)) (by rfl) T.n_len (by decide +kernel) (pa_cons (pv 0) pa_nil)) (pe_callB (call_len (K := K)) (by rfl) T.n_len (by decide +kernel) (pa_cons (pv 1) pa_nil)) (nomark _)) (pe_one (pe_callB (call_all (K := K) rfl) (by rfl) T.n_all (by decide +kernel) (pa_cons (pe_lc (own := [("_law_x", 2), ("_law_y", 3)]) rfl sc_law_same.nd (pi_zipA (by rfl) T.n_zip (pa_cons (pv 0) (pa_cons (pv 1) pa_nil))) (blkOk_by (N := ["_law_found", "_law_due", "_law_x", "_law_y"]) (sc := defScope s_law_same) (by decide +kernel)) (fun _ _ _ _ _ => (pg_tp (K := K) (n := 2) rfl (pgs_cons (pg_name (i := 2) sc_law_same.nd rfl (.inl rfl)) (pgs_cons (pg_name (i := 3) sc_law_same.nd rfl (.inl rfl)) pgs_nil)))) (fun _ _ _ _ _ => pts_nil) (fun _ _ _ _ _ => (pe_call G_law_same hr (by rfl) T.g_law_same T.F_law_same.kp T.b_law_same .nil pass0 (pa_cons (pv 2) (pa_cons (pv 3) pa_nil))))) pa_nil))))))) pss_nil)
      (pss_cons (ps_if (pt_val (pe_callB (call_isinst (K := K)) (by rfl) T.n_isinstance (by decide +kernel) (pa_cons (pv 1) (pa_cons (pe_bltn (v := .ty "dict") (by rfl) T.n_dict (by decide +kernel) rfl) pa_nil)))) (pss_one ps_never) pss_nil)
      (pss_cons (ps_if (pt_val (pe_callB (call_isinst (K := K)) (by rfl) T.n_isinstance (by decide +kernel) (pa_cons (pv 1) (pa_cons (pe_bltn (v := .ty "int") (by rfl) T.n_int (by decide +kernel) rfl) pa_nil)))) (pss_one ps_never) pss_nil)
      (pss_one ps_never)))), ?_⟩
    refine ⟨_, rfl, by show 2 ≤ sizeLine; decide, fun p hp => ?_⟩
    have sm : Same H (upd H p (.tup [.ty "list", .ty "tuple"])) := same_new hp
    have hp1 : upd H p (.tup [.ty "list", .ty "tuple"]) p = some (.tup [.ty "list", .ty "tuple"]) := upd_same
    dsimp only [tNil]
    generalize upd H p (.tup [.ty "list", .ty "tuple"]) = H1 at sm hp1 ⊢
    have h21 := sm.sq2 h2
    obtain ⟨t, ht, ta, tb⟩ := h21.ty
    refine isiT_seq tb hp1 ⟨_, rfl, ?_⟩
    rw [ht]
    refine ⟨_, rfl, _, _, _, _, _, rfl, .ty _, ta, kit_tg t .lst (by decide), _, rfl, _, _, _, _, _, rfl, .ty _, tb, kit_tg t .lst (by decide), rfl, _, rfl, ?_⟩
    rw [decide_eq_true rfl]
    refine ⟨_, rfl, _, _, _, _, _, rfl, .ty _, ta, kit_tg t .tup (by decide), _, rfl, _, _, _, _, _, rfl, .ty _, tb, kit_tg t .tup (by decide), rfl, _, rfl, ?_⟩
    rw [decide_eq_true rfl]
    have lx := paired_len (dpAll_paired hx)
    have ly := paired_len (dpAll_paired hy)
    refine ⟨_, rfl, _, _, rfl, h21.fst, _, rfl, _, _, rfl, h21.snd, rfl, _, rfl, ?_⟩
    rw [lx, ly, decide_eq_true rfl]
    refine ⟨_, rfl, _, rfl, lc_zip (K := K) (n := ds.length) (by omega) h21 (PvV H1 ((ds.map fun _ => true).map V.bl)) (fun D hD => vals0 hD) (fun D i H' hD pv => ⟨pv.1.keeps, pv.1.keeps⟩) ?_ ?_⟩
    · intro D i x y H2 t2 hD ex ey pv nt
      obtain ⟨d, ed, hd1⟩ := paired_get (dpAll_paired hx) ex
      obtain ⟨d', ed', hd2⟩ := paired_get (dpAll_paired hy) ey
      have e : d = d' := Option.some.inj (ed.symm.trans ed')
      subst e
      have s3 := (sm.trans pv.1).trans (same_new (o := .tup [x, y]) nt)
      refine ⟨t2, _, rfl, sqT_of upd_same, rfl, _, _, rfl, _, _, rfl, rfl, ?_⟩
      refine ⟨rfl, ?_⟩
      refine ⟨_, rfl, _, rfl, x, y, d, rfl, dp_same s3 hd1, dp_same s3 hd2, hf d (List.mem_of_getElem? ed), fun H4 s4 => ?_⟩
      exact vals_step pv hD ((same_new nt).trans s4) (at_map (at_map ed)) (by rw [List.length_map, List.length_map]; omega)
    · intro D H2 hD pv
      obtain ⟨s2, hd2⟩ := valsE pv (by rw [List.length_map, List.length_map])
      refine ⟨D, _, rfl, sqL_of hd2, ?_⟩
      have e : (ds.map fun _ => true).all id = true := by simp
      rw [e]
      exact q _ (sm.trans s2)
theorem ok_same (T : Txt K mg ad ai fd) : ∀ n, FnOk P w K mg base CX0 (n + 1) (ad 31) (fd 31) ["_law_found", "_law_due"] (sp_same K n)
  | 0 => by
    refine (ok_same0 (P := P) (w := w) (base := base) T).imp fun vs H Q E h => ?_
    obtain ⟨v, u, d, rfl, h1, h2, hf, q⟩ := h
    rcases dp_flat h1 h2 with ⟨rfl, hv⟩ | ⟨a, b, xs, ys, ds, _, _, _, _, _, z⟩
    · exact ⟨v, rfl, hv, q⟩
    · rcases z with rfl | rfl <;> exact hf.elim
  | n + 1 => by
    refine (((ok_same0 (P := P) (w := w) (base := base) T).mono (by omega)).or (ok_sameS T n (ok_same T n))).imp fun vs H Q E h => ?_
    obtain ⟨v, u, d, rfl, h1, h2, hf, q⟩ := h
    rcases dp_flat h1 h2 with ⟨rfl, hv⟩ | ⟨a, b, xs, ys, ds, rfl, rfl, h3, h4, h5, z⟩
    · exact .inl ⟨v, rfl, hv, q⟩
    · refine .inr ⟨a, b, xs, ys, ds, rfl, h3, h4, h5, ?_, ?_, q⟩
      · rcases z with rfl | rfl <;> exact hf.1
      · rcases z with rfl | rfl <;> exact hf.2
/-! ### _law_loose of a list of plain values -/
theorem ok_loose0 (T : Txt K mg ad ai fd) : FnOk P w K mg base CX0 1 (ad 30) (fd 30) ["_law_source_here", "_law_thing"] (fun vs H Q _ => ∃ u v, vs = [u, v] ∧ Flat2 v ∧ ∀ H', Same H H' → Q v H') := by
  refine T.F_law_loose.ok sc_law_loose (fun vs H Q E h => ?_) (fun cdv A outer s H vs Q E hr h => ?_)
  · obtain ⟨u, v, rfl, _⟩ := h
    rfl
  · obtain ⟨u, v, rfl, hv, q⟩ := h
    refine ⟨_, (pss_cons (ps_if (pt_val (pe_callB (call_isinstT (K := K)) (by rfl) T.n_isinstance (by decide +kernel) (pa_cons (pv 1) (pa_cons (pe_tup (pa_cons (pe_bltn (v := .ty "list") (by rfl) T.n_list (by decide +kernel) rfl) (pa_cons (pe_bltn (v := .ty "tuple") (by rfl) T.n_tuple (by decide +kernel) rfl) pa_nil))) pa_nil)))) (pss_cons ps_never
          (pss_one ps_never)) pss_nil)
      (pss_one (ps_ret (pv 1)))), ?_⟩
    refine ⟨_, rfl, by show 2 ≤ sizeLine; decide, fun p hp => ?_⟩
    have sm : Same H (upd H p (.tup [.ty "list", .ty "tuple"])) := same_new hp
    have hp1 : upd H p (.tup [.ty "list", .ty "tuple"]) p = some (.tup [.ty "list", .ty "tuple"]) := upd_same
    dsimp only [tNil]
    generalize upd H p (.tup [.ty "list", .ty "tuple"]) = H1 at sm hp1 ⊢
    have fin : ∀ t : Tg, HasTy K H1 v t → t.seq = false → rIsiT K [v, .ref p] H1 (fun x H' => ∃ k, x = .bl k ∧ k = false ∧ H' = H1) := fun t ht e => isiT_seq ht hp1 ⟨_, rfl, e, rfl⟩
    cases hv with
    | non => exact isiT_seq hasTy_non hp1 ⟨_, rfl, _, rfl, q _ sm⟩
    | bl b => exact isiT_seq hasTy_bl hp1 ⟨_, rfl, _, rfl, q _ sm⟩
    | int i => exact isiT_seq hasTy_int hp1 ⟨_, rfl, _, rfl, q _ sm⟩
    | str z => exact isiT_seq hasTy_str hp1 ⟨_, rfl, _, rfl, q _ sm⟩
def sp_loose (K : PySem.W.Frag) : Sp := fun vs H Q _ => ∃ p a xs n, vs = [.ref p, .ref a] ∧ Pool H p n ∧ n ≤ 1000000 ∧ Sq K H a xs ∧ a ≠ p ∧ xs.length ≤ 1000 ∧ (∀ x ∈ xs, Flat2 x) ∧ ∀ H' l, SameBut p H H' → Pool H' p (n + 1) → H l = none → (H' l = some (.lst xs) ∨ H' l = some (.tup xs)) → Q (.ref l) H'
theorem ok_loose (T : Txt K mg ad ai fd) : FnOk P w K mg base CX0 2 (ad 30) (fd 30) ["_law_source_here", "_law_thing"] (sp_loose K) := by
  have G_law_draw : FnOk P w K mg base CX0 1 (ad 27) (fd 27) ["_law_source_here", "_law_many"] (sp_draw) := ok_draw T
  have G_law_loose : FnOk P w K mg base CX0 1 (ad 30) (fd 30) ["_law_source_here", "_law_thing"] (fun vs H Q _ => ∃ u v, vs = [u, v] ∧ Flat2 v ∧ ∀ H', Same H H' → Q v H') := ok_loose0 T
  refine T.F_law_loose.ok sc_law_loose (fun vs H Q E h => ?_) (fun cdv A outer s H vs Q E hr h => ?_)
  · obtain ⟨p, a, xs, n, rfl, _⟩ := h
    rfl
  · obtain ⟨p, a, xs, n, rfl, hp, hn, hs, hne, hl, hfl, q⟩ := h
    refine ⟨_, (pss_cons (ps_if (pt_val (pe_callB (call_isinstT (K := K)) (by rfl) T.n_isinstance (by decide +kernel) (pa_cons (pv 1) (pa_cons (pe_tup (pa_cons (pe_bltn (v := .ty "list") (by rfl) T.n_list (by decide +kernel) rfl) (pa_cons (pe_bltn (v := .ty "tuple") (by rfl) T.n_tuple (by decide +kernel) rfl) pa_nil))) pa_nil)))) (pss_cons (ps_setLc (i := 2) (own := [("_law_part", 3)]) rfl sc_law_loose.nd rfl rfl (sw_true rfl rfl rfl (by decide +kernel)) (pi_seq (K := K) (pv 1)) (blkOk_by (N := ["_law_source_here", "_law_thing", "_law_found", "_law_part"]) (sc := defScope s_law_loose) (by decide +kernel)) (fun _ _ _ _ _ => (pg_name (i := 3) sc_law_loose.nd rfl (.inl rfl))) (fun _ _ _ _ _ => pts_nil) (fun _ _ _ _ _ => (pe_call G_law_loose (hr.mono (by decide)) (by rfl) T.g_law_loose T.F_law_loose.kp T.b_law_loose .nil pass0 (pa_cons (pv 0) (pa_cons (pv 3) pa_nil)))))
          (pss_one (ps_ret (pe_ifExp (pt_cmpR op_eq (pe_call G_law_draw (hr.mono (by decide)) (by rfl) T.g_law_draw T.F_law_draw.kp T.b_law_draw .nil pass0 (pa_cons (pv 0) (pa_cons pe_int pa_nil))) pe_int (nomark _)) (pv 2) (pe_callTy (call_tuple (K := K)) (by rfl) T.n_tuple (by decide +kernel) (pa_cons (pv 2) pa_nil)))))) pss_nil)
      (pss_one ps_never)), ?_⟩
    refine ⟨_, rfl, by show 2 ≤ sizeLine; decide, fun t0 ht0 => ?_⟩
    have sm : Same H (upd H t0 (.tup [.ty "list", .ty "tuple"])) := same_new ht0
    have hp1 : upd H t0 (.tup [.ty "list", .ty "tuple"]) t0 = some (.tup [.ty "list", .ty "tuple"]) := upd_same
    dsimp only [tNil]
    generalize upd H t0 (.tup [.ty "list", .ty "tuple"]) = H1 at sm hp1 ⊢
    have hs1 := sm.sq hs
    obtain ⟨t, ht, e⟩ := hs1.tys
    refine isiT_seq ht hp1 ⟨_, rfl, ?_⟩
    rw [e]
    refine ⟨_, rfl, lc_seq (K := K) hs1 (PvV H1 xs) (fun D hD => vals0 hD) (fun D i H' hD pv => pv.1.keeps) ?_ ?_⟩
    · intro D i x H2 hD ex pv
      refine ⟨rfl, ?_⟩
      refine ⟨_, rfl, _, rfl, _, _, rfl, hfl x (List.mem_of_getElem? ex), fun H4 s4 => ?_⟩
      exact vals_step pv hD s4 ex (by omega)
    · intro D H2 hD pv
      obtain ⟨s2, hd2⟩ := valsE pv rfl
      have s12 := sm.trans s2
      obtain ⟨ps0, hps0⟩ := hp.at_
      have nDH : H D = none := sm.free hD
      have Dp : D ≠ p := fun e => by
        rw [e, hps0] at nDH
        cases nDH
      refine ⟨_, rfl, ?_⟩
      refine ⟨p, 2, n, rfl, hp.keeps s12.keeps, hn, by omega, by omega, fun r o r0 r1 hp3 => ?_⟩
      have hd3 : upd H2 p o D = some (.lst xs) := by rw [upd_ne Dp]; exact hd2
      have sb3 : SameBut p H (upd H2 p o) := s12.but.trans SameBut.at_
      generalize upd H2 p o = H3 at hp3 hd3 sb3 ⊢
      refine ⟨rfl, _, rfl, ?_⟩
      refine ite2 (fun c => ?_) (fun c => ?_)
      · exact ⟨_, rfl, q H3 D sb3 hp3 nDH (.inl hd3)⟩
      · refine ⟨_, rfl, D, xs, rfl, .inl ⟨sqL_of hd3, fun l nl => ?_⟩⟩
        refine q _ l (sb3.new nl) (hp3.keeps (same_new nl).keeps) ?_ (.inr upd_same)
        obtain ⟨ps3, hps3⟩ := hp3.at_
        exact sb3.free hps3 nl
end
end Lk
namespace Lk
open PySem PySem.Spec PyProof.Rows L2 RZ
/-! ### parts and plans in memory -/
abbrev objQ (q : Part) : HO := .tup [.str q.w, .str q.r, .int q.al, .int q.lo, .int q.hi, .bl q.z]
abbrev IsQ (H : Hp) (a : Addr) (q : Part) : Prop := H a = some (objQ q)
structure PartOk (pg : Int) (q : Part) : Prop where
  w : WordOk q.w
  r : inV (.str q.r) [.str "r", .str "rw", .str "rx"] = true
  al : inV (.int q.al) [.int 1, .int 2, .int 4, .int 8, .int 16, .int 32, .int 64] = true
  le : q.al ≤ pg
  lo : 0 ≤ q.lo
  hi : q.lo ≤ q.hi
structure PlanOk (pg : Int) (qs : List Part) : Prop where
  pgs : inV (.int pg) [.int 8, .int 16, .int 32, .int 64] = true
  one : 1 ≤ qs.length
  few : qs.length ≤ 100
  q : ∀ q ∈ qs, PartOk pg q
  nd : (qs.map Part.w).Nodup
  adj : ∀ i p q, qs[i]? = some p → qs[i + 1]? = some q → ¬ (p.z = true ∧ q.z = false ∧ p.r = q.r)
/-- the parts of a plan -/
def PartsAt (H : Hp) (t : Addr) (qs : List Part) : Prop := ∃ as : List Addr, H t = some (.tup (as.map V.ref)) ∧ Paired (IsQ H) as qs
def PlanAt (C : Addr) (H : Hp) (pl : Addr) (pg : Int) (qs : List Part) : Prop := ∃ dx t, H pl = some (.ins C dx [("kept_page", .int pg), ("kept_parts", .ref t)]) ∧ PartsAt H t qs
theorem PartsAt.same {H H' : Hp} {t : Addr} {qs : List Part} (e : Same H H') (h : PartsAt H t qs) : PartsAt H' t qs := by
  obtain ⟨as, h1, h2⟩ := h
  exact ⟨as, e _ _ h1, paired_mono (fun a q z => e _ _ z) h2⟩
theorem PlanAt.same {C : Addr} {H H' : Hp} {pl : Addr} {pg : Int} {qs : List Part} (e : Same H H') (h : PlanAt C H pl pg qs) : PlanAt C H' pl pg qs := by
  obtain ⟨dx, t, h1, h2⟩ := h
  exact ⟨dx, t, e _ _ h1, h2.same e⟩
theorem paired_sb {H H' : Hp} {p : Addr} {xs : List V} (e : SameBut p H H') (hp : H p = some (.lst xs)) : ∀ {as : List Addr} {qs : List Part}, Paired (IsQ H) as qs → Paired (IsQ H') as qs
  | _, _, .nil => .nil
  | _, _, .cons h t => .cons (e _ _ (ne_of h hp (by intro z; cases z)) h) (paired_sb e hp t)
theorem PlanAt.sb {C : Addr} {H H' : Hp} {pl p : Addr} {pg : Int} {qs : List Part} {xs : List V} (e : SameBut p H H') (hp : H p = some (.lst xs)) (h : PlanAt C H pl pg qs) : PlanAt C H' pl pg qs := by
  obtain ⟨dx, t, h1, as, h2, h3⟩ := h
  exact ⟨dx, t, e _ _ (ne_of h1 hp (by intro z; cases z)) h1, as, e _ _ (ne_of h2 hp (by intro z; cases z)) h2, paired_sb e hp h3⟩
theorem inV_strs {z : Str} : ∀ {ws : List Str}, z ∉ ws → inV (.str z) (ws.map V.str) = false
  | [], _ => rfl
  | w :: ws, h => by
    have h1 : w ≠ z := fun e => h (by rw [e]; exact List.mem_cons_self ..)
    have h2 := inV_strs (z := z) (ws := ws) fun e => h (List.mem_cons_of_mem _ e)
    show (eqV (.str w) (.str z) || inV (.str z) (ws.map V.str)) = false
    rw [h2]
    rw [Bool.or_false]
    exact beq_false_of_ne h1
theorem flat_strs : ∀ (ws : List Str), (ws.map V.str).all flatV = true
  | [] => rfl
  | _ :: ws => flat_strs ws
section
variable {P : Program} {w : World} {K : PySem.W.Frag} {mg : Str → Option Value} {base : Heap} {ad ai : Nat → Addr} {fd : Nat → FuncData}
def sp_is_part : Sp := fun vs H Q _ => ∃ (a : Addr) (pg : Int) (m : Addr) (ws : List Str) (q : Part), vs = [.ref a, .int pg, .ref m] ∧ IsQ H a q ∧ H m = some (.lst (ws.map V.str)) ∧ q.w ∉ ws ∧ PartOk pg q ∧ ∀ H', Same H H' → Q (.bl true) H'
theorem ok_is_part (T : Txt K mg ad ai fd) : FnOk P w K mg base CX0 3 (ad 16) (fd 16) ["thing", "page", "met"] (sp_is_part) := by
  have G_is_list : FnOk P w K mg base CX0 1 (ad 4) (fd 4) ["thing"] (sp_is_list K) := ok_is_list T
  have G_is_word : FnOk P w K mg base CX0 1 (ad 6) (fd 6) ["thing"] (sp_is_word) := ok_is_word T
  have G_is_integer : FnOk P w K mg base CX0 1 (ad 2) (fd 2) ["thing"] (sp_is_integer K) := ok_is_integer T
  have G_is_natural : FnOk P w K mg base CX0 2 (ad 3) (fd 3) ["thing"] (sp_is_natural K) := ok_is_natural T
  refine T.F_is_part.ok sc_is_part (fun vs H Q E h => ?_) (fun cdv A outer s H vs Q E hr h => ?_)
  · obtain ⟨a, pg, m, ws, q, rfl, _⟩ := h
    rfl
  · obtain ⟨a, pg, m, ws, q, rfl, ha, hm, hw, ok, k⟩ := h
    refine ⟨_, (pss_cons (ps_if (PW.pt (pw_or (pt_not (pt_val (pe_call G_is_list (hr.mono (by decide)) (by rfl) T.g_is_list T.F_is_list.kp T.b_is_list .nil pass0 (pa_cons (pv 0) pa_nil)))) (pw_or (pt_cmpR op_ne (pe_callB (call_len (K := K)) (by rfl) T.n_len (by decide +kernel) (pa_cons (pv 0) pa_nil)) pe_int (nomark _)) (pw_or (pt_not (pt_val (pe_call G_is_word (hr.mono (by decide)) (by rfl) T.g_is_word T.F_is_word.kp T.b_is_word .nil pass0 (pa_cons (pe_ix (ix_seq (K := K)) (pv 0) pe_int (fun _ _ => rfl)) pa_nil)))) (pw_or1 (pt_cmpR (op_inS (K := K)) (pe_ix (ix_seq (K := K)) (pv 0) pe_int (fun _ _ => rfl)) (pv 2) rfl)))))) (pss_one (ps_ret pe_bl)) pss_nil)
      (pss_cons (ps_asg (pv 0) (pg_tp (K := K) (n := 6) rfl (pgs_cons (pg_name (i := 3) sc_is_part.nd rfl (.inl rfl)) (pgs_cons (pg_name (i := 4) sc_is_part.nd rfl (.inl rfl)) (pgs_cons (pg_name (i := 5) sc_is_part.nd rfl (.inl rfl)) (pgs_cons (pg_name (i := 6) sc_is_part.nd rfl (.inl rfl)) (pgs_cons (pg_name (i := 7) sc_is_part.nd rfl (.inl rfl)) (pgs_cons (pg_name (i := 8) sc_is_part.nd rfl (.inl rfl)) pgs_nil))))))))
      (pss_cons (ps_if (PW.pt (pw_or (pt_not (pt_val (pe_callB (call_isinst (K := K)) (by rfl) T.n_isinstance (by decide +kernel) (pa_cons (pv 4) (pa_cons (pe_bltn (v := .ty "str") (by rfl) T.n_str (by decide +kernel) rfl) pa_nil))))) (pw_or (pt_cmpR op_notIn_seq (pv 4) (pe_fun (by rfl) T.g_RIGHTS) rfl) (pw_or1 (pt_not (pt_val (pe_callB (call_isinst (K := K)) (by rfl) T.n_isinstance (by decide +kernel) (pa_cons (pv 8) (pa_cons (pe_bltn (v := .ty "bool") (by rfl) T.n_bool (by decide +kernel) rfl) pa_nil))))))))) (pss_one (ps_ret pe_bl)) pss_nil)
      (pss_cons (ps_if (PW.pt (pw_or (pt_not (pt_val (pe_call G_is_integer (hr.mono (by decide)) (by rfl) T.g_is_integer T.F_is_integer.kp T.b_is_integer .nil pass0 (pa_cons (pv 5) pa_nil)))) (pw_or (pt_cmpR op_notIn_seq (pv 5) (pe_fun (by rfl) T.g_ALIGNS) rfl) (pw_or1 (pt_cmpR op_gt (pv 5) (pv 1) (nomark _)))))) (pss_one (ps_ret pe_bl)) pss_nil)
      (pss_one (ps_ret (pe_and (pe_call G_is_natural (hr.mono (by decide)) (by rfl) T.g_is_natural T.F_is_natural.kp T.b_is_natural .nil pass0 (pa_cons (pv 6) pa_nil)) (pe_and (pe_call G_is_natural (hr.mono (by decide)) (by rfl) T.g_is_natural T.F_is_natural.kp T.b_is_natural .nil pass0 (pa_cons (pv 7) pa_nil)) (pe_one (pe_cmpR op_le (pv 6) (pv 7) (nomark _))))))))))), ?_⟩
    refine ⟨_, rfl, _, .tup, rfl, hasTy_tup (sqT_of ha), fun H1 s1 => ⟨_, rfl, ?_⟩⟩
    refine ⟨_, rfl, _, _, rfl, .inr (sqT_of (s1 _ _ ha)), rfl, _, rfl, ?_⟩
    refine ⟨_, rfl, ixS (j := 0) (sq_tup (s1 _ _ ha)) rfl ?_⟩
    refine ⟨_, rfl, ok.w, fun H2 s2 => ⟨_, rfl, ?_⟩⟩
    have s12 := s1.trans s2
    refine ⟨_, rfl, ixS (j := 0) (sq_tup (s12 _ _ ha)) rfl ?_⟩
    refine ⟨_, rfl, _, _, rfl, .inl (sqL_of (s12 _ _ hm)), rfl, flat_strs ws, _, rfl, ?_⟩
    rw [inV_strs hw]
    refine ⟨_, rfl, a, _, rfl, sqT_of (s12 _ _ ha), rfl, _, _, rfl, _, _, rfl, _, _, rfl, _, _, rfl, _, _, rfl, _, _, rfl, rfl, ?_⟩
    -- rights, zeros
    refine ⟨_, rfl, _, _, _, _, _, rfl, .ty _, hasTy_str, kit_tg .str .str (by decide), _, rfl, ?_⟩
    refine ⟨_, rfl, _, _, rfl, .inr (T.q_RIGHTS _), rfl, rfl, _, rfl, ?_⟩
    rw [ok.r]
    refine ⟨_, rfl, _, _, _, _, _, rfl, .ty _, hasTy_bl, kit_tg .bl .bl (by decide), _, rfl, ?_⟩
    -- align
    refine ⟨_, rfl, _, .int, rfl, hasTy_int, _, rfl, ?_⟩
    refine ⟨_, rfl, _, _, rfl, .inr (T.q_ALIGNS _), rfl, rfl, _, rfl, ?_⟩
    rw [ok.al]
    refine ⟨_, rfl, _, rfl, _, _, rfl, rfl, _, rfl, ?_⟩
    rw [decide_eq_false (Int.not_lt.mpr ok.le)]
    -- least, most
    refine ⟨_, rfl, _, rfl, .inr ⟨_, rfl, _, rfl, ?_⟩⟩
    rw [decide_eq_true ok.lo]
    refine ⟨_, rfl, _, rfl, .inr ⟨_, rfl, _, rfl, ?_⟩⟩
    rw [decide_eq_true (Int.le_trans ok.lo ok.hi)]
    refine ⟨_, rfl, _, rfl, _, _, rfl, rfl, ?_⟩
    dsimp only
    rw [decide_eq_true ok.hi]
    exact k _ s12
/-! ### lifted, lowest -/
def sp_lifted : Sp := fun vs H Q _ => ∃ p s r, vs = [.int p, .int s, .int r] ∧ 0 < s ∧ Q (.int (MP.lift p s r)) H
theorem ok_lifted (T : Txt K mg ad ai fd) : FnOk P w K mg base CX0 1 (ad 19) (fd 19) ["place", "step", "rest"] (sp_lifted) := by
  refine T.F_lifted.ok sc_lifted (fun vs H Q E h => ?_) (fun cdv A outer s H vs Q E hr h => ?_)
  · obtain ⟨p, s, r, rfl, _⟩ := h
    rfl
  · obtain ⟨p, s, r, rfl, hs, q⟩ := h
    refine ⟨_, (pss_one (ps_ret (pe_op op_add (pv 0) (pe_op op_modN (pe_op op_sub (pv 2) (pv 0)) (pv 1))))), ?_⟩
    exact ⟨_, rfl, _, rfl, _, rfl, _, _, rfl, rfl, _, rfl, _, _, rfl, rfl, (by omega : s ≠ 0), _, _, rfl, rfl, q⟩
theorem pt_of {qs : List Part} {i : Nat} {q : Part} (h : qs[i]? = some q) : MP.pt qs i = q := by
  unfold MP.pt
  rw [List.getD_eq_getElem?_getD, h]
  rfl
theorem sz_of {ns : List Int} {i : Nat} {n : Int} (h : ns[i]? = some n) : MP.sz ns i = n := by
  unfold MP.sz
  rw [List.getD_eq_getElem?_getD, h]
  rfl
theorem pt_at {qs : List Part} {i : Nat} (h : i < qs.length) : qs[i]? = some (MP.pt qs i) := by
  rw [List.getElem?_eq_getElem h, ← pt_of (List.getElem?_eq_getElem h)]
theorem sz_at {ns : List Int} {i : Nat} (h : i < ns.length) : ns[i]? = some (MP.sz ns i) := by
  rw [List.getElem?_eq_getElem h, ← sz_of (List.getElem?_eq_getElem h)]
theorem paired_at {α β : Type} {R : α → β → Prop} : ∀ {xs : List α} {ys : List β} {i : Nat} {y : β}, Paired R xs ys → ys[i]? = some y → ∃ x, xs[i]? = some x ∧ R x y
  | _, _, 0, _, .cons h _, e => ⟨_, rfl, by cases e; exact h⟩
  | _, _, i + 1, _, .cons _ t, e => paired_at (i := i) t e
  | _, _, _, _, .nil, e => by simp at e
/-- parts[i] -/
theorem PartsAt.get {H : Hp} {t : Addr} {qs : List Part} {i : Nat} (h : PartsAt H t qs) (hi : i < qs.length) : ∃ a xs, H t = some (.tup xs) ∧ xs[i]? = some (.ref a) ∧ IsQ H a (MP.pt qs i) := by
  obtain ⟨as, h1, h2⟩ := h
  obtain ⟨a, ea, ha⟩ := paired_at h2 (pt_at hi)
  exact ⟨a, _, h1, at_map ea, ha⟩
theorem al_pos {q : Part} {pg : Int} (h : PartOk pg q) : 0 < q.al := by
  have := h.al
  rcases Int.lt_or_le 0 q.al with c | c
  · exact c
  · exfalso
    simp [inV, eqV] at this
    omega
theorem pg_pos {qs : List Part} {pg : Int} (h : PlanOk pg qs) : 0 < pg := by
  have := h.pgs
  rcases Int.lt_or_le 0 pg with c | c
  · exact c
  · exfalso
    simp [inV, eqV] at this
    omega
def sp_lowest (C : Addr) : Sp := fun vs H Q _ => ∃ pl pg qs i e, vs = [.ref pl, .int (i : Nat), .int e] ∧ PlanAt C H pl pg qs ∧ PlanOk pg qs ∧ i < qs.length ∧ Q (.int (MP.low pg qs i e)) H
theorem ok_lowest (T : Txt K mg ad ai fd) : FnOk P w K mg base CX0 2 (ad 20) (fd 20) ["plan", "number", "end"] (sp_lowest (ad 17)) := by
  have G_lifted : FnOk P w K mg base CX0 1 (ad 19) (fd 19) ["place", "step", "rest"] (sp_lifted) := ok_lifted T
  refine T.F_lowest.ok sc_lowest (fun vs H Q E h => ?_) (fun cdv A outer s H vs Q E hr h => ?_)
  · obtain ⟨pl, pg, qs, i, e, rfl, _⟩ := h
    rfl
  · obtain ⟨pl, pg, qs, i, e, rfl, ⟨dx, t, hpl, hpt⟩, ok, hi, q⟩ := h
    refine ⟨_, (pss_cons (ps_set (i := 3) sc_lowest.nd rfl (.inl rfl) (pe_fld (pv 0) rfl))
      (pss_cons (ps_if (PW.pt (pw_and (pt_cmpR op_gt (pv 1) pe_int (nomark _)) (pw_and1 (pt_cmpR op_ne (pe_ix (ix_seq (K := K)) (pe_ix (ix_seq (K := K)) (pv 3) (pv 1) (fun _ _ => rfl)) pe_int (fun _ _ => rfl)) (pe_ix (ix_seq (K := K)) (pe_ix (ix_seq (K := K)) (pv 3) (pe_op op_sub (pv 1) pe_int) (fun _ _ => rfl)) pe_int (fun _ _ => rfl)) (nomark _))))) (pss_one (ps_ret (pe_call G_lifted (hr.mono (by decide)) (by rfl) T.g_lifted T.F_lifted.kp T.b_lifted .nil pass0 (pa_cons (pv 2) (pa_cons (pe_fld (pv 0) rfl) (pa_cons pe_int pa_nil)))))) pss_nil)
      (pss_one (ps_ret (pe_call G_lifted (hr.mono (by decide)) (by rfl) T.g_lifted T.F_lifted.kp T.b_lifted .nil pass0 (pa_cons (pv 2) (pa_cons (pe_ix (ix_seq (K := K)) (pe_ix (ix_seq (K := K)) (pv 3) (pv 1) (fun _ _ => rfl)) pe_int (fun _ _ => rfl)) (pa_cons pe_int pa_nil)))))))), ?_⟩
    refine ⟨_, rfl, pl, _, dx, _, _, rfl, hpl, T.cl_Plan, T.no_Plan_kept_parts, rfl, ?_⟩
    obtain ⟨a, xs, h1, h2, h3⟩ := hpt.get hi
    have okq : PartOk pg (MP.pt qs i) := ok.q _ (List.mem_of_getElem? (pt_at hi))
    refine ⟨_, rfl, _, _, rfl, rfl, _, rfl, ?_⟩
    have low1 : MP.bord qs i = true → MP.low pg qs i e = MP.lift e pg 0 := fun z => by
      unfold MP.low MP.step
      rw [if_pos z]
    have low0 : MP.bord qs i = false → MP.low pg qs i e = MP.lift e (MP.pt qs i).al 0 := fun z => by
      unfold MP.low MP.step
      rw [z]
      rfl
    by_cases c : 0 < i
    · rw [decide_eq_true (by omega : (0 : Int) < (i : Int))]
      obtain ⟨i0, rfl⟩ : ∃ i0, i = i0 + 1 := ⟨i - 1, by omega⟩
      obtain ⟨a', xs', h1', h2', h3'⟩ := hpt.get (i := i0) (by omega)
      have ei : ((i0 + 1 : Nat) : Int) - 1 = (i0 : Nat) := by omega
      refine ⟨_, rfl, _, rfl, ixS (j := i0 + 1) (sq_tup h1) h2 (ixS (j := 1) (sq_tup h3) rfl ?_)⟩
      refine ⟨_, rfl, _, rfl, _, _, rfl, rfl, ?_⟩
      dsimp only
      rw [ei]
      refine ixS (j := i0) (sq_tup h1') h2' (ixS (j := 1) (sq_tup h3') rfl ⟨rfl, _, rfl, ?_⟩)
      have eb : MP.bord qs (i0 + 1) = !decide (V.str (MP.pt qs (i0 + 1)).r = V.str (MP.pt qs i0).r) := by
        unfold MP.bord
        rw [decide_eq_true c, Bool.true_and]
        show (!decide ((MP.pt qs (i0 + 1)).r = (MP.pt qs i0).r)) = _
        by_cases z : (MP.pt qs (i0 + 1)).r = (MP.pt qs i0).r
        · rw [z, decide_eq_true rfl, decide_eq_true rfl]
        · rw [decide_eq_false z, decide_eq_false fun y => z (V.str.inj y)]
      rw [← eb]
      refine ite2 (fun z => ?_) (fun z => ?_)
      · refine ⟨_, rfl, _, rfl, pl, _, dx, _, _, rfl, hpl, T.cl_Plan, T.no_Plan_kept_page, rfl, ?_⟩
        refine ⟨_, _, _, rfl, pg_pos ok, ?_⟩
        rw [← low1 z]
        exact q
      · refine ⟨_, rfl, _, rfl, _, rfl, ixS (j := i0 + 1) (sq_tup h1) h2 (ixS (j := 2) (sq_tup h3) rfl ?_)⟩
        refine ⟨_, _, _, rfl, al_pos okq, ?_⟩
        rw [← low0 (Bool.eq_false_iff.mpr z)]
        exact q
    · rw [decide_eq_false (by omega : ¬ (0 : Int) < (i : Int))]
      refine ⟨_, rfl, _, rfl, _, rfl, ixS (j := i) (sq_tup h1) h2 (ixS (j := 2) (sq_tup h3) rfl ?_)⟩
      refine ⟨_, _, _, rfl, al_pos okq, ?_⟩
      have z : MP.bord qs i = false := by
        unfold MP.bord
        rw [decide_eq_false c]
        rfl
      rw [← low0 z]
      exact q
end
end Lk
namespace Lk
open PySem PySem.Spec PyProof.Rows L2 RZ
section
variable {P : Program} {w : World} {K : PySem.W.Frag} {mg : Str → Option Value} {base : Heap} {ad ai : Nat → Addr} {fd : Nat → FuncData}
/-! ### a plan is made -/
def sp_plan (C : Addr) : Sp := fun vs H Q _ => ∃ (x : Addr) (pg : Int) (l dx : Addr) (as : List Addr) (qs : List Part), vs = [.ref x, .int pg, .ref l] ∧ H x = some (.ins C dx []) ∧ H l = some (.lst (as.map V.ref)) ∧ Paired (IsQ H) as qs ∧ PlanOk pg qs ∧ ∀ H', SameBut x H H' → PlanAt C H' x pg qs → Q .non H'
theorem paired_same {H H' : Hp} {as : List Addr} {qs : List Part} (e : Same H H') (h : Paired (IsQ H) as qs) : Paired (IsQ H') as qs := paired_mono (fun a q z => e _ _ z) h
theorem nodup_at {ws : List Str} {i : Nat} {z : Str} (h : ws.Nodup) (e : ws[i]? = some z) : z ∉ ws.take i := by
  intro hm
  obtain ⟨j, hj, ej⟩ := List.getElem_of_mem hm
  rw [List.length_take] at hj
  have h1 : ws[j]? = some z := by
    rw [List.getElem?_eq_getElem (by omega), ← ej, List.getElem_take]
  have hi := (List.getElem?_eq_some_iff.mp e).1
  have := (List.getElem?_inj (by omega) h).mp (h1.trans e.symm)
  omega
/-- what the name ahead holds -/
def aheadV (as : List Addr) (i : Nat) : V := if i = 0 then .non else (as.map V.ref).getD (i - 1) .non
theorem aheadV_succ {as : List Addr} {i : Nat} {a : Addr} (h : as[i]? = some a) : aheadV as (i + 1) = .ref a := by
  unfold aheadV
  rw [if_neg (by omega)]
  show (as.map V.ref).getD i .non = _
  rw [List.getD_eq_getElem?_getD, at_map h]
  rfl
theorem ok_plan (T : Txt K mg ad ai fd) : FnOk P w K mg base CX0 4 (ai 1340) (fd 1340) ["self", "page", "parts"] (sp_plan (ad 17)) := by
  have G_is_list : FnOk P w K mg base CX0 1 (ad 4) (fd 4) ["thing"] (sp_is_list K) := ok_is_list T
  have G_is_integer : FnOk P w K mg base CX0 1 (ad 2) (fd 2) ["thing"] (sp_is_integer K) := ok_is_integer T
  have G_is_part : FnOk P w K mg base CX0 3 (ad 16) (fd 16) ["thing", "page", "met"] (sp_is_part) := ok_is_part T
  refine T.F_Plan___init__.ok sc_Plan___init__ (fun vs H Q E h => ?_) (fun cdv A outer s H vs Q E hr h => ?_)
  · obtain ⟨x, pg, l, dx, as, qs, rfl, _⟩ := h
    rfl
  · obtain ⟨x, pg, l, dx, as, qs, rfl, hx, hl, hpr, ok, k⟩ := h
    refine ⟨_, (pss_cons (ps_if (PW.pt (pw_or (pt_not (pt_val (pe_call G_is_integer (hr.mono (by decide)) (by rfl) T.g_is_integer T.F_is_integer.kp T.b_is_integer .nil pass0 (pa_cons (pv 1) pa_nil)))) (pw_or1 (pt_cmpR op_notIn_seq (pv 1) (pe_fun (by rfl) T.g_PAGES) rfl)))) (pss_one ps_never) pss_nil)
      (pss_cons (ps_if (PW.pt (pw_or (pt_not (pt_val (pe_call G_is_list (hr.mono (by decide)) (by rfl) T.g_is_list T.F_is_list.kp T.b_is_list .nil pass0 (pa_cons (pv 2) pa_nil)))) (pw_or1 (pt_cmpR op_eq (pe_callB (call_len (K := K)) (by rfl) T.n_len (by decide +kernel) (pa_cons (pv 2) pa_nil)) pe_int (nomark _))))) (pss_one ps_never) pss_nil)
      (pss_cons (ps_par (i := 3) (j := 4) (by rfl) sc_Plan___init__.nd rfl rfl (by decide) rfl rfl (pa_cons (pe_lst pa_nil) (pa_cons pe_non pa_nil)) (by rfl))
      (pss_cons (ps_for PassesOwn.never rfl (pi_enumS (K := K) (by rfl) T.n_enumerate (pa_cons (pv 2) pa_nil)) (pg_tp (K := K) (n := 2) rfl (pgs_cons (pg_name (i := 5) sc_Plan___init__.nd rfl (.inl rfl)) (pgs_cons (pg_name (i := 6) sc_Plan___init__.nd rfl (.inl rfl)) pgs_nil)))
          (pss_cons (ps_if (pt_not (pt_val (pe_call G_is_part (hr.mono (by decide)) (by rfl) T.g_is_part T.F_is_part.kp T.b_is_part .nil pass0 (pa_cons (pv 6) (pa_cons (pv 1) (pa_cons (pv 3) pa_nil)))))) (pss_one ps_never) pss_nil)
          (pss_cons (ps_if (PW.pt (pw_and (pt_cmpR op_notN (pv 4) pe_non (nomark _)) (pw_and (pt_val (pe_ix (ix_seq (K := K)) (pv 4) pe_int (fun _ _ => rfl))) (pw_and (pt_not (pt_val (pe_ix (ix_seq (K := K)) (pv 6) pe_int (fun _ _ => rfl)))) (pw_and1 (pt_cmpR op_eq (pe_ix (ix_seq (K := K)) (pv 4) pe_int (fun _ _ => rfl)) (pe_ix (ix_seq (K := K)) (pv 6) pe_int (fun _ _ => rfl)) (nomark _))))))) (pss_one ps_never) pss_nil)
          (pss_cons (ps_expr (pe_bmK (K := K) PySem.F.plainAttrs_list PySem.F.slot_list_append PySem.F.type_list_append mt_append (pv 3) (pa_cons (pe_ix (ix_seq (K := K)) (pv 6) pe_int (fun _ _ => rfl)) pa_nil)))
          (pss_one (ps_set (i := 4) sc_Plan___init__.nd rfl (.inl rfl) (pv 6)))))))
      (pss_cons (ps_fld (pv 0) (pv 1) rfl)
      (pss_one (ps_fld (pv 0) (pe_callTy (call_tuple (K := K)) (by rfl) T.n_tuple (by decide +kernel) (pa_cons (pe_lc (own := [("part", 6)]) rfl sc_Plan___init__.nd (pi_seq (K := K) (pv 2)) (blkOk_by (N := ["self", "page", "parts", "met", "ahead", "index", "part"]) (sc := defScope s_Plan___init__) (by decide +kernel)) (fun _ _ _ _ _ => (pg_name (i := 6) sc_Plan___init__.nd rfl (.inl rfl))) (fun _ _ _ _ _ => pts_nil) (fun _ _ _ _ _ => (pe_callTy (call_tuple (K := K)) (by rfl) T.n_tuple (by decide +kernel) (pa_cons (pv 6) pa_nil)))) pa_nil)) rfl))))))), ?_⟩
    have hlen : as.length = qs.length := paired_len hpr
    refine ⟨_, rfl, _, .int, rfl, hasTy_int, _, rfl, ?_⟩
    refine ⟨_, rfl, _, _, rfl, .inr (T.q_PAGES _), rfl, rfl, _, rfl, ?_⟩
    rw [ok.pgs]
    refine ⟨_, rfl, _, .lst, rfl, hasTy_lst (sqL_of hl), fun H1 s1 => ⟨_, rfl, ?_⟩⟩
    refine ⟨_, rfl, _, _, rfl, .inl (sqL_of (s1 _ _ hl)), rfl, _, rfl, ?_⟩
    have n0 : (as.map V.ref).length ≠ 0 := by
      rw [List.length_map, hlen]
      have := ok.one
      omega
    rw [decide_eq_false (fun z => n0 (by have := V.int.inj z; omega))]
    refine ⟨by show 0 ≤ sizeLine; decide, fun m nm => ?_⟩
    have s2 : Same H1 (upd H1 m (.lst [])) := same_new nm
    have hm2 : upd H1 m (.lst []) m = some (.lst []) := upd_same
    dsimp only [tNil]
    generalize upd H1 m (.lst []) = H2 at s2 hm2 ⊢
    have s12 := s1.trans s2
    have nmH : H m = none := s1.free nm
    have mx : m ≠ x := fun e => by rw [e, hx] at nmH; cases nmH
    have ml : m ≠ l := fun e => by rw [e, hl] at nmH; cases nmH
    refine ⟨_, _, rfl, ?_⟩
    refine ⟨_, rfl, for_enum (K := K) (sq_lst (s12 _ _ hl)) (fun i σ H' => (∃ y5 y6, σ = [some (.ref x), some (.int pg), some (.ref l), some (.ref m), some (aheadV as i), y5, y6]) ∧ Same H H' ∧ H' m = some (.lst (((qs.map Part.w).take i).map V.str))) ⟨⟨none, none, rfl⟩, s12, hm2⟩ (fun i σ H' h => ?_) ?_ ?_⟩
    · intro o ho
      rw [s12 _ _ hl] at ho
      cases ho
      exact h.2.1 _ _ hl
    · rintro i v σ H3 t ev ⟨⟨y5, y6, rfl⟩, s3, hm3⟩ nt
      obtain ⟨a, ea, rfl⟩ := map_at ev
      obtain ⟨q, eq, hq⟩ := paired_get hpr ea
      have st : Same H3 (upd H3 t (.tup [.int (i : Nat), .ref a])) := same_new nt
      refine ⟨t, _, rfl, sqT_of upd_same, rfl, _, _, rfl, _, _, rfl, rfl, ?_⟩
      generalize upd H3 t (.tup [.int (i : Nat), .ref a]) = H4 at st ⊢
      have s4 := s3.trans st
      have hm4 := st _ _ hm3
      have okq := ok.q q (List.mem_of_getElem? eq)
      have ew : (qs.map Part.w)[i]? = some q.w := at_map eq
      refine ⟨_, rfl, _, rfl, _, rfl, a, pg, m, _, q, rfl, s4 _ _ hq, hm4, nodup_at ok.nd ew, okq, fun H5 s5 => ⟨_, rfl, ?_⟩⟩
      have s45 := s4.trans s5
      have hm5 := s5 _ _ hm4
      have hq5 := s45 _ _ hq
      have app : (((qs.map Part.w).take i).map V.str).length < sizeLine ∧ Same H (upd H5 m (.lst (((qs.map Part.w).take i).map V.str ++ [.str q.w]))) ∧ (upd H5 m (.lst (((qs.map Part.w).take i).map V.str ++ [.str q.w]))) m = some (.lst (((qs.map Part.w).take (i + 1)).map V.str)) := by
        refine ⟨?_, s45.mut nmH, ?_⟩
        · rw [List.length_map, List.length_take, List.length_map, sizeLine_eq]
          have := ok.few
          omega
        · rw [upd_same, take_snoc ew, List.map_append]
          rfl
      by_cases c : i = 0
      · subst c
        refine ⟨_, rfl, rfl, _, rfl, ?_⟩
        refine ⟨_, rfl, .inl ⟨rfl, _, sqL_of hm5⟩, _, rfl, ixS (j := 0) (sq_tup hq5) rfl ⟨m, _, _, rfl, rfl, hm5, app.1, ?_⟩⟩
        exact ⟨_, rfl, ⟨_, _, by rw [aheadV_succ ea]; rfl⟩, app.2⟩
      · obtain ⟨i0, rfl⟩ : ∃ i0, i = i0 + 1 := ⟨i - 1, by omega⟩
        have hi := (List.getElem?_eq_some_iff.mp ea).1
        obtain ⟨a0, ea0⟩ : ∃ a0, as[i0]? = some a0 := ⟨_, List.getElem?_eq_getElem (by omega)⟩
        obtain ⟨q0, eq0, hq0⟩ := paired_get hpr ea0
        have hq05 := s45 _ _ hq0
        have adj := ok.adj i0 q0 q eq0 eq
        rw [aheadV_succ ea0]
        refine ⟨_, rfl, rfl, _, rfl, ?_⟩
        refine ⟨_, rfl, ixS (j := 5) (sq_tup hq05) rfl ⟨_, rfl, ?_⟩⟩
        by_cases z0 : q0.z = true
        · rw [z0]
          refine ⟨_, rfl, ixS (j := 5) (sq_tup hq5) rfl ⟨_, rfl, ?_⟩⟩
          by_cases z1 : q.z = true
          · rw [z1]
            refine ⟨_, rfl, .inl ⟨rfl, _, sqL_of hm5⟩, _, rfl, ixS (j := 0) (sq_tup hq5) rfl ⟨m, _, _, rfl, rfl, hm5, app.1, ?_⟩⟩
            exact ⟨_, rfl, ⟨_, _, by rw [aheadV_succ ea]; rfl⟩, app.2⟩
          · rw [Bool.eq_false_iff.mpr z1]
            refine ⟨_, rfl, ixS (j := 1) (sq_tup hq05) rfl ⟨_, rfl, ixS (j := 1) (sq_tup hq5) rfl ⟨rfl, _, rfl, ?_⟩⟩⟩
            have nr : ¬ V.str q0.r = V.str q.r := fun y => adj ⟨z0, Bool.eq_false_iff.mpr z1, V.str.inj y⟩
            rw [decide_eq_false nr]
            refine ⟨_, rfl, .inl ⟨rfl, _, sqL_of hm5⟩, _, rfl, ixS (j := 0) (sq_tup hq5) rfl ⟨m, _, _, rfl, rfl, hm5, app.1, ?_⟩⟩
            exact ⟨_, rfl, ⟨_, _, by rw [aheadV_succ ea]; rfl⟩, app.2⟩
        · rw [Bool.eq_false_iff.mpr z0]
          refine ⟨_, rfl, .inl ⟨rfl, _, sqL_of hm5⟩, _, rfl, ixS (j := 0) (sq_tup hq5) rfl ⟨m, _, _, rfl, rfl, hm5, app.1, ?_⟩⟩
          exact ⟨_, rfl, ⟨_, _, by rw [aheadV_succ ea]; rfl⟩, app.2⟩
    · rintro σ H3 ⟨⟨y5, y6, rfl⟩, s3, hm3⟩
      refine ⟨_, rfl, _, rfl, x, _, dx, _, rfl, s3 _ _ hx, T.cl_Plan, T.no_Plan_kept_page, by show 0 < 1000; decide, ?_⟩
      have sb4 : SameBut x H (upd H3 x (.ins (ad 17) dx (putF "kept_page" (.int pg) []))) := s3.but.trans SameBut.at_
      have hx4 : upd H3 x (.ins (ad 17) dx (putF "kept_page" (.int pg) [])) x = some (.ins (ad 17) dx [("kept_page", .int pg)]) := upd_same
      generalize upd H3 x (.ins (ad 17) dx (putF "kept_page" (.int pg) [])) = H4 at sb4 hx4 ⊢
      have lx : l ≠ x := ne_of hl hx (by intro z; cases z)
      have hl4 := sb4 _ _ lx hl
      have hpr4 : Paired (IsQ H4) as qs := paired_mono (fun a q z => sb4 _ _ (ne_of z hx (by intro z; cases z)) z) hpr
      refine ⟨_, rfl, lc_seq (K := K) (sq_lst hl4) (PvV H4 (as.map V.ref)) (fun D hD => vals0 hD) (fun D i H' hD pv => pv.1.keeps) ?_ ?_⟩
      · intro D i v H5 hD ev pv
        obtain ⟨a, ea, rfl⟩ := map_at ev
        obtain ⟨q, eq, hq⟩ := paired_get hpr4 ea
        refine ⟨rfl, ?_⟩
        refine ⟨_, rfl, a, _, rfl, .inr ⟨sqT_of (pv.1 _ _ hq), ?_⟩⟩
        exact vals_step pv hD (Same.refl _) ev (by rw [List.length_map]; have := ok.few; omega)
      · intro D H5 hD pv
        obtain ⟨s5, hd5⟩ := valsE pv rfl
        refine ⟨D, _, rfl, .inl ⟨sqL_of hd5, fun t nt => ?_⟩⟩
        have s6 : Same H5 (upd H5 t (.tup (as.map V.ref))) := same_new nt
        have ht6 : upd H5 t (.tup (as.map V.ref)) t = some (.tup (as.map V.ref)) := upd_same
        dsimp only
        generalize upd H5 t (.tup (as.map V.ref)) = H6 at s6 ht6 ⊢
        have s46 := s5.trans s6
        have tx : t ≠ x := ne_of ht6 (s46 _ _ hx4) (by intro z; cases z)
        refine ⟨_, rfl, x, _, dx, _, rfl, s46 _ _ hx4, T.cl_Plan, T.no_Plan_kept_parts, by show 1 < 1000; decide, ?_⟩
        refine k _ ((sb4.trans s46.but).trans SameBut.at_) ⟨dx, t, upd_same, as, ?_, ?_⟩
        · rw [upd_ne tx]
          exact ht6
        · refine paired_mono (fun a q z => ?_) hpr4
          have z6 := s46 _ _ z
          show upd H6 x _ a = _
          rw [upd_ne (ne_of z6 (s46 _ _ hx4) (by intro z; cases z))]
          exact z6
end
end Lk
namespace Lk
open PySem PySem.Spec PyProof.Rows L2 RZ
section
variable {P : Program} {w : World} {K : PySem.W.Frag} {mg : Str → Option Value} {base : Heap} {ad ai : Nat → Addr} {fd : Nat → FuncData}
structure SizesOk (qs : List Part) (ns : List Int) : Prop where
  len : ns.length = qs.length
  at_ : ∀ i, i < qs.length → (MP.pt qs i).lo ≤ MP.sz ns i ∧ MP.sz ns i ≤ (MP.pt qs i).hi
theorem ints_at {ns : List Int} {i : Nat} (h : i < ns.length) : (ns.map V.int)[i]? = some (.int (MP.sz ns i)) := at_map (sz_at h)
/-! ### checked_sizes -/
def sp_sizes (K : PySem.W.Frag) (C : Addr) : Sp := fun vs H Q _ => ∃ (pl s : Addr) (pg : Int) (qs : List Part) (ns : List Int), vs = [.ref pl, .ref s] ∧ PlanAt C H pl pg qs ∧ PlanOk pg qs ∧ Sq K H s (ns.map V.int) ∧ SizesOk qs ns ∧ ∀ H' l, Same H H' → H l = none → H' l = some (.lst (ns.map V.int)) → Q (.ref l) H'
theorem ok_sizes (T : Txt K mg ad ai fd) : FnOk P w K mg base CX0 2 (ad 18) (fd 18) ["plan", "sizes"] (sp_sizes K (ad 17)) := by
  have G_is_list : FnOk P w K mg base CX0 1 (ad 4) (fd 4) ["thing"] (sp_is_list K) := ok_is_list T
  have G_is_integer : FnOk P w K mg base CX0 1 (ad 2) (fd 2) ["thing"] (sp_is_integer K) := ok_is_integer T
  refine T.F_checked_sizes.ok sc_checked_sizes (fun vs H Q E h => ?_) (fun cdv A outer s H vs Q E hr h => ?_)
  · obtain ⟨pl, s, pg, qs, ns, rfl, _⟩ := h
    rfl
  · obtain ⟨pl, sa, pg, qs, ns, rfl, hpl, ok, hs, sok, k⟩ := h
    refine ⟨_, (pss_cons (ps_if (pt_not (pt_val (pe_call G_is_list (hr.mono (by decide)) (by rfl) T.g_is_list T.F_is_list.kp T.b_is_list .nil pass0 (pa_cons (pv 1) pa_nil)))) (pss_one ps_never) pss_nil)
      (pss_cons (ps_set (i := 2) sc_checked_sizes.nd rfl (.inl rfl) (pe_fld (pv 0) rfl))
      (pss_cons (ps_for PassesOwn.never rfl (pi_enumS (K := K) (by rfl) T.n_enumerate (pa_cons (pv 1) pa_nil)) (pg_tp (K := K) (n := 2) rfl (pgs_cons (pg_name (i := 3) sc_checked_sizes.nd rfl (.inl rfl)) (pgs_cons (pg_name (i := 4) sc_checked_sizes.nd rfl (.inl rfl)) pgs_nil)))
          (pss_one (ps_if (PW.pt (pw_or (pt_cmpR op_ge (pv 3) (pe_callB (call_len (K := K)) (by rfl) T.n_len (by decide +kernel) (pa_cons (pv 2) pa_nil)) (nomark _)) (pw_or (pt_not (pt_val (pe_call G_is_integer (hr.mono (by decide)) (by rfl) T.g_is_integer T.F_is_integer.kp T.b_is_integer .nil pass0 (pa_cons (pv 4) pa_nil)))) (pw_or1 (pt_not (pt_chain op_le op_le (pe_ix (ix_seq (K := K)) (pe_ix (ix_seq (K := K)) (pv 2) (pv 3) (fun _ _ => rfl)) pe_int (fun _ _ => rfl)) (pv 4) (pe_ix (ix_seq (K := K)) (pe_ix (ix_seq (K := K)) (pv 2) (pv 3) (fun _ _ => rfl)) pe_int (fun _ _ => rfl)))))))) (pss_one ps_never) pss_nil)))
      (pss_cons (ps_if (pt_cmpR op_lt (pe_callB (call_len (K := K)) (by rfl) T.n_len (by decide +kernel) (pa_cons (pv 1) pa_nil)) (pe_callB (call_len (K := K)) (by rfl) T.n_len (by decide +kernel) (pa_cons (pv 2) pa_nil)) (nomark _)) (pss_one ps_never) pss_nil)
      (pss_one (ps_ret (pe_callTy (call_list (K := K)) (by rfl) T.n_list (by decide +kernel) (pa_cons (pv 1) pa_nil)))))))), ?_⟩
    obtain ⟨ty, hty, e⟩ := hs.tys
    refine ⟨_, rfl, _, ty, rfl, hty, fun H1 s1 => ⟨_, rfl, ?_⟩⟩
    rw [e]
    obtain ⟨dx, t, h1, h2⟩ := hpl.same s1
    refine ⟨_, rfl, pl, _, dx, _, _, rfl, h1, T.cl_Plan, T.no_Plan_kept_parts, rfl, ?_⟩
    refine ⟨_, rfl, for_enum (K := K) (s1.sq hs) (fun i σ H' => (∃ y3 y4, σ = [some (.ref pl), some (.ref sa), some (.ref t), y3, y4]) ∧ Same H1 H') ⟨⟨none, none, rfl⟩, Same.refl _⟩ (fun i σ H' h => h.2.keeps) ?_ ?_⟩
    · rintro i v σ H3 tt ev ⟨⟨y3, y4, rfl⟩, s3⟩ nt
      obtain ⟨n, en, rfl⟩ := map_at ev
      have hi := (List.getElem?_eq_some_iff.mp en).1
      have hiq : i < qs.length := by rw [← sok.len]; exact hi
      have s4 := s3.new (o := .tup [.int (i : Nat), .int n]) nt
      refine ⟨tt, _, rfl, sqT_of upd_same, rfl, _, _, rfl, _, _, rfl, rfl, ?_⟩
      generalize upd H3 tt (.tup [.int (i : Nat), .int n]) = H4 at s4 ⊢
      have hpt4 := h2.same s4
      obtain ⟨as, ht4, hpr4⟩ := h2.same s4
      have el := paired_len hpr4
      obtain ⟨a, xs, g1, g2, g3⟩ := hpt4.get hiq
      refine ⟨_, rfl, _, rfl, _, _, rfl, .inr (sqT_of ht4), _, _, rfl, rfl, _, rfl, ?_⟩
      rw [decide_eq_false (by rw [List.length_map, el]; omega)]
      refine ⟨_, rfl, _, .int, rfl, hasTy_int, _, rfl, ?_⟩
      obtain ⟨b1, b2⟩ := sok.at_ i hiq
      rw [sz_of en] at b1 b2
      refine ⟨_, rfl, _, rfl, ixS (j := i) (sq_tup g1) g2 (ixS (j := 3) (sq_tup g3) rfl ⟨_, rfl, _, _, rfl, rfl, _, rfl, ?_⟩)⟩
      rw [decide_eq_true b1]
      refine ⟨_, rfl, _, rfl, ixS (j := i) (sq_tup g1) g2 (ixS (j := 4) (sq_tup g3) rfl ⟨_, _, rfl, rfl, _, rfl, ?_⟩)⟩
      dsimp only
      rw [decide_eq_true b2]
      exact ⟨⟨_, _, rfl⟩, s4⟩
    · rintro σ H3 ⟨⟨y3, y4, rfl⟩, s3⟩
      obtain ⟨as, ht3, hpr3⟩ := h2.same s3
      have el := paired_len hpr3
      refine ⟨_, rfl, _, _, rfl, (s1.trans s3).sq hs, _, rfl, _, _, rfl, .inr (sqT_of ht3), _, _, rfl, rfl, _, rfl, ?_⟩
      rw [decide_eq_false (by rw [List.length_map, List.length_map, el, sok.len]; omega)]
      refine ⟨_, rfl, sa, _, rfl, (s1.trans s3).sq hs, fun l nl => ?_⟩
      exact k _ l ((s1.trans s3).new nl) ((s1.trans s3).free nl) upd_same
/-! ### layouts in memory -/
def offV : Option Int → V
  | none => .non
  | some o => .int o
abbrev objL (x : Int × Option Int) : HO := .tup [.int x.1, offV x.2]
def LayAt (H : Hp) (l : Addr) (L : List (Int × Option Int)) : Prop := ∃ as : List Addr, H l = some (.lst (as.map V.ref)) ∧ Paired (fun a x => H a = some (objL x)) as L
theorem LayAt.same {H H' : Hp} {l : Addr} {L : List (Int × Option Int)} (e : Same H H') (h : LayAt H l L) : LayAt H' l L := by
  obtain ⟨as, h1, h2⟩ := h
  exact ⟨as, e _ _ h1, paired_mono (fun a x z => e _ _ z) h2⟩
theorem GrowO.lay {H1 H' : Hp} {D : Addr} {L : List (Int × Option Int)} (g : GrowO objL H1 D L H') : LayAt H' D L := by
  obtain ⟨_, as, h1, h2, _⟩ := g
  exact ⟨as, h1, h2⟩
theorem lay_len {f : MP.Way} {ns : List Int} {m : Nat} : (MP.lay f ns m).length = m := by
  unfold MP.lay
  rw [List.length_map, List.length_range]
theorem lay_succ {f : MP.Way} {ns : List Int} {i : Nat} : MP.lay f ns (i + 1) = MP.lay f ns i ++ [MP.out f ns i] := by
  unfold MP.lay
  rw [List.range_succ, List.map_append]
  rfl
theorem lay_at {f : MP.Way} {ns : List Int} {i m : Nat} (h : i < m) : (MP.lay f ns m)[i]? = some (MP.out f ns i) := range_take_at h
/-- what is promised of a function that lays out by f -/
def sp_lay (K : PySem.W.Frag) (C : Addr) (f : Int → List Part → MP.Way) : Sp := fun vs H Q _ => ∃ (pl s : Addr) (pg : Int) (qs : List Part) (ns : List Int), vs = [.ref pl, .ref s] ∧ PlanAt C H pl pg qs ∧ PlanOk pg qs ∧ Sq K H s (ns.map V.int) ∧ SizesOk qs ns ∧ ∀ H' l, Same H H' → H l = none → LayAt H' l (MP.lay (f pg qs) ns qs.length) → Q (.ref l) H'
theorem GrowO.same {β : Type} {obj : β → HO} {H Ha Hb : Hp} {D : Addr} {L : List β} (g : GrowO obj H D L Ha) (e : Same Ha Hb) : GrowO obj H D L Hb := by
  obtain ⟨a1, as, a2, a3, a4⟩ := g
  exact ⟨a1.trans e, as, e _ _ a2, paired_mono (fun a x z => e _ _ z) a3, a4⟩
theorem GrowO.at_ {β : Type} {obj : β → HO} {H Ha : Hp} {D : Addr} {L : List β} (g : GrowO obj H D L Ha) : ∃ xs, Ha D = some (.lst xs) := by
  obtain ⟨a1, as, a2, a3, a4⟩ := g
  exact ⟨_, a2⟩
/-- found.append((address, offset)) -/
theorem lay_step {f : MP.Way} {ns : List Int} {i : Nat} {H H4 : Hp} {D : Addr} {a : Int} {o : Option Int} (nD : H D = none) (g : GrowO objL H D (MP.lay f ns i) H4) (hi : i ≤ 100) (eo : MP.out f ns i = (a, o)) (t : Addr) (nt : H4 t = none) :
    ∃ acc, (upd H4 t (.tup [.int a, offV o])) D = some (.lst acc) ∧ acc.length < sizeLine ∧ GrowO objL H D (MP.lay f ns (i + 1)) (upd (upd H4 t (.tup [.int a, offV o])) D (.lst (acc ++ [.ref t]))) := by
  have := growO_step (obj := objL) (q := (a, o)) g nD (Same.refl _) (by rw [lay_len]; omega) t nt
  rw [lay_succ, eo]
  exact this
theorem ok_earliest_of (T : Txt K mg ad ai fd) : FnOk P w K mg base CX0 3 (ad 22) (fd 22) ["plan", "sizes"] (sp_lay K (ad 17) MP.fE) := by
  have G_lowest : FnOk P w K mg base CX0 2 (ad 20) (fd 20) ["plan", "number", "end"] (sp_lowest (ad 17)) := ok_lowest T
  have G_lifted : FnOk P w K mg base CX0 1 (ad 19) (fd 19) ["place", "step", "rest"] (sp_lifted) := ok_lifted T
  refine T.F_earliest_of.ok sc_earliest_of (fun vs H Q E h => ?_) (fun cdv A outer s H vs Q E hr h => ?_)
  · obtain ⟨pl, s, pg, qs, ns, rfl, _⟩ := h
    rfl
  · obtain ⟨pl, sa, pg, qs, ns, rfl, hpl, ok, hs, sok, k⟩ := h
    refine ⟨_, (pss_cons (ps_par3 (i := 2) (j := 3) (l := 4) (by rfl) sc_earliest_of.nd rfl rfl rfl (by decide) (by decide) (by decide) rfl rfl rfl (pa_cons (pe_lst pa_nil) (pa_cons pe_int (pa_cons pe_int pa_nil))) (by rfl))
      (pss_cons (ps_for PassesOwn.never rfl (pi_enumS (K := K) (by rfl) T.n_enumerate (pa_cons (pe_fld (pv 0) rfl) pa_nil)) (pg_tp (K := K) (n := 2) rfl (pgs_cons (pg_name (i := 5) sc_earliest_of.nd rfl (.inl rfl)) (pgs_cons (pg_name (i := 6) sc_earliest_of.nd rfl (.inl rfl)) pgs_nil)))
          (pss_cons (ps_par (i := 7) (j := 8) (by rfl) sc_earliest_of.nd rfl rfl (by decide) rfl rfl (pa_cons (pe_call G_lowest (hr.mono (by decide)) (by rfl) T.g_lowest T.F_lowest.kp T.b_lowest .nil pass0 (pa_cons (pv 0) (pa_cons (pv 5) (pa_cons (pv 3) pa_nil)))) (pa_cons pe_non pa_nil)) (by rfl))
          (pss_cons (ps_if (pt_not (pt_val (pe_ix (ix_seq (K := K)) (pv 6) pe_int (fun _ _ => rfl)))) (pss_cons (ps_set (i := 8) sc_earliest_of.nd rfl (.inl rfl) (pe_call G_lifted (hr.mono (by decide)) (by rfl) T.g_lifted T.F_lifted.kp T.b_lifted .nil pass0 (pa_cons (pv 4) (pa_cons (pe_fld (pv 0) rfl) (pa_cons (pv 7) pa_nil)))))
              (pss_one (ps_set (i := 4) sc_earliest_of.nd rfl (.inl rfl) (pe_op op_add (pv 8) (pe_ix (ix_seq (K := K)) (pv 1) (pv 5) (fun _ _ => rfl)))))) pss_nil)
          (pss_cons (ps_set (i := 3) sc_earliest_of.nd rfl (.inl rfl) (pe_op op_add (pv 7) (pe_ix (ix_seq (K := K)) (pv 1) (pv 5) (fun _ _ => rfl))))
          (pss_one (ps_expr (pe_bmK (K := K) PySem.F.plainAttrs_list PySem.F.slot_list_append PySem.F.type_list_append mt_append (pv 2) (pa_cons (pe_tup (pa_cons (pv 7) (pa_cons (pv 8) pa_nil))) pa_nil))))))))
      (pss_one (ps_ret (pv 2))))), ?_⟩
    obtain ⟨dx, t, h1, as, ht, hpr⟩ := id hpl
    have el := paired_len hpr
    refine ⟨by show 0 ≤ sizeLine; decide, fun D nD => ?_⟩
    have g0 : GrowO objL H D [] (upd H D (.lst [])) := growO0 nD
    dsimp only [tNil]
    generalize upd H D (.lst []) = H1 at g0 ⊢
    refine ⟨_, _, _, rfl, ?_⟩
    have g2 := g0
    refine ⟨_, rfl, pl, _, dx, _, _, rfl, g2.1 _ _ h1, T.cl_Plan, T.no_Plan_kept_parts, rfl, ?_⟩
    refine for_enum (K := K) (sq_tup (g2.1 _ _ ht)) (fun i σ H' => (∃ y5 y6 y7 y8, σ = [some (.ref pl), some (.ref sa), some (.ref D), some (.int (MP.st (MP.fE pg qs) ns i).1), some (.int (MP.st (MP.fE pg qs) ns i).2), y5, y6, y7, y8]) ∧ GrowO objL H D (MP.lay (MP.fE pg qs) ns i) H') ⟨⟨_, _, _, _, rfl⟩, g2⟩ (fun i σ H' h o ho => ?_) ?_ ?_
    · rw [g2.1 _ _ ht] at ho
      cases ho
      exact h.2.1 _ _ ht
    · rintro i v σ H3 tt ev ⟨⟨y5, y6, y7, y8, rfl⟩, g3⟩ nt
      obtain ⟨a, ea, rfl⟩ := map_at ev
      obtain ⟨q, eq, hq⟩ := paired_get hpr ea
      have hiq := (List.getElem?_eq_some_iff.mp eq).1
      have hin : i < ns.length := by rw [sok.len]; exact hiq
      have hi100 : i ≤ 100 := by have := ok.few; omega
      have s4 : Same H3 (upd H3 tt (.tup [.int (i : Nat), .ref a])) := same_new nt
      refine ⟨tt, _, rfl, sqT_of upd_same, rfl, _, _, rfl, _, _, rfl, rfl, ?_⟩
      generalize upd H3 tt (.tup [.int (i : Nat), .ref a]) = H4 at s4 ⊢
      have g4 := g3.same s4
      have s04 := g4.1
      have hq4 := s04 _ _ hq
      have ep := pt_of eq
      obtain ⟨xD, hD4⟩ := g4.at_
      refine ⟨_, rfl, _, rfl, _, rfl, pl, pg, qs, i, _, rfl, hpl.same s04, ok, hiq, ?_⟩
      refine ⟨_, _, rfl, ?_⟩
      refine ⟨_, rfl, ixS (j := 5) (sq_tup hq4) rfl ⟨_, rfl, ?_⟩⟩
      by_cases c : q.z = true
      · rw [c]
        refine ⟨_, rfl, _, rfl, _, rfl, ixS (j := i) (s04.sq hs) (ints_at hin) ⟨_, _, rfl, rfl, ?_⟩⟩
        have eo : MP.out (MP.fE pg qs) ns i = (MP.low pg qs i (MP.st (MP.fE pg qs) ns i).1, none) := by
          unfold MP.out MP.fE
          rw [ep, if_pos c]
        have est : MP.st (MP.fE pg qs) ns (i + 1) = (MP.low pg qs i (MP.st (MP.fE pg qs) ns i).1 + MP.sz ns i, (MP.st (MP.fE pg qs) ns i).2) := by
          show MP.nextS _ _ (MP.out (MP.fE pg qs) ns i) = _
          rw [eo]
          rfl
        refine ⟨_, rfl, .inl ⟨rfl, _, sqL_of hD4⟩, _, rfl, _, rfl, by show 2 ≤ sizeLine; decide, fun tt2 ntt2 => ?_⟩
        obtain ⟨acc, f1, f2, f3⟩ := lay_step nD g4 hi100 eo tt2 ntt2
        refine ⟨D, acc, _, rfl, rfl, f1, f2, ?_⟩
        exact ⟨⟨_, _, _, _, by rw [est]; rfl⟩, f3⟩
      · rw [Bool.eq_false_iff.mpr c]
        refine ⟨_, rfl, _, rfl, pl, _, dx, _, _, rfl, s04 _ _ h1, T.cl_Plan, T.no_Plan_kept_page, rfl, _, rfl, _, _, _, rfl, pg_pos ok, ?_⟩
        refine ⟨_, rfl, _, rfl, _, rfl, ixS (j := i) (s04.sq hs) (ints_at hin) ⟨_, _, rfl, rfl, ?_⟩⟩
        refine ⟨_, rfl, _, rfl, _, rfl, ixS (j := i) (s04.sq hs) (ints_at hin) ⟨_, _, rfl, rfl, ?_⟩⟩
        have eo : MP.out (MP.fE pg qs) ns i = (MP.low pg qs i (MP.st (MP.fE pg qs) ns i).1, some (MP.lift (MP.st (MP.fE pg qs) ns i).2 pg (MP.low pg qs i (MP.st (MP.fE pg qs) ns i).1))) := by
          unfold MP.out MP.fE
          rw [ep, if_neg c]
        have est : MP.st (MP.fE pg qs) ns (i + 1) = (MP.low pg qs i (MP.st (MP.fE pg qs) ns i).1 + MP.sz ns i, MP.lift (MP.st (MP.fE pg qs) ns i).2 pg (MP.low pg qs i (MP.st (MP.fE pg qs) ns i).1) + MP.sz ns i) := by
          show MP.nextS _ _ (MP.out (MP.fE pg qs) ns i) = _
          rw [eo]
          rfl
        refine ⟨_, rfl, .inl ⟨rfl, _, sqL_of hD4⟩, _, rfl, _, rfl, by show 2 ≤ sizeLine; decide, fun tt2 ntt2 => ?_⟩
        obtain ⟨acc, f1, f2, f3⟩ := lay_step nD g4 hi100 eo tt2 ntt2
        refine ⟨D, acc, _, rfl, rfl, f1, f2, ?_⟩
        exact ⟨⟨_, _, _, _, by rw [est]; rfl⟩, f3⟩
    · rintro σ H3 ⟨⟨y5, y6, y7, y8, rfl⟩, g3⟩
      rw [List.length_map, el] at g3
      exact ⟨_, rfl, k H3 D g3.1 nD g3.lay⟩
theorem ok_earliest (T : Txt K mg ad ai fd) : FnOk P w K mg base CX0 4 (ad 23) (fd 23) ["plan", "sizes"] (sp_lay K (ad 17) MP.fE) := by
  have G_checked_sizes : FnOk P w K mg base CX0 2 (ad 18) (fd 18) ["plan", "sizes"] (sp_sizes K (ad 17)) := ok_sizes T
  have G_earliest_of : FnOk P w K mg base CX0 3 (ad 22) (fd 22) ["plan", "sizes"] (sp_lay K (ad 17) MP.fE) := ok_earliest_of T
  refine T.F_earliest.ok sc_earliest (fun vs H Q E h => ?_) (fun cdv A outer s H vs Q E hr h => ?_)
  · obtain ⟨pl, s, pg, qs, ns, rfl, _⟩ := h
    rfl
  · obtain ⟨pl, sa, pg, qs, ns, rfl, hpl, ok, hs, sok, k⟩ := h
    refine ⟨_, (pss_one (ps_ret (pe_call G_earliest_of (hr.mono (by decide)) (by rfl) T.g_earliest_of T.F_earliest_of.kp T.b_earliest_of .nil pass0 (pa_cons (pv 0) (pa_cons (pe_call G_checked_sizes (hr.mono (by decide)) (by rfl) T.g_checked_sizes T.F_checked_sizes.kp T.b_checked_sizes .nil pass0 (pa_cons (pv 0) (pa_cons (pv 1) pa_nil))) pa_nil))))), ?_⟩
    refine ⟨_, rfl, _, rfl, _, rfl, pl, sa, pg, qs, ns, rfl, hpl, ok, hs, sok, fun H1 l s1 nl hl => ?_⟩
    exact ⟨pl, l, pg, qs, ns, rfl, hpl.same s1, ok, sq_lst hl, sok, fun H2 l2 s2 nl2 hl2 => k H2 l2 (s1.trans s2) (s1.free nl2) hl2⟩
theorem ok_shortest (T : Txt K mg ad ai fd) : FnOk P w K mg base CX0 3 (ad 24) (fd 24) ["plan", "sizes"] (sp_lay K (ad 17) MP.fS) := by
  have G_checked_sizes : FnOk P w K mg base CX0 2 (ad 18) (fd 18) ["plan", "sizes"] (sp_sizes K (ad 17)) := ok_sizes T
  have G_lowest : FnOk P w K mg base CX0 2 (ad 20) (fd 20) ["plan", "number", "end"] (sp_lowest (ad 17)) := ok_lowest T
  have G_lifted : FnOk P w K mg base CX0 1 (ad 19) (fd 19) ["place", "step", "rest"] (sp_lifted) := ok_lifted T
  refine T.F_shortest.ok sc_shortest (fun vs H Q E h => ?_) (fun cdv A outer s H vs Q E hr h => ?_)
  · obtain ⟨pl, s, pg, qs, ns, rfl, _⟩ := h
    rfl
  · obtain ⟨pl, sa, pg, qs, ns, rfl, hpl00, ok, hs00, sok, k0⟩ := h
    refine ⟨_, (pss_cons (ps_set (i := 2) sc_shortest.nd rfl (.inl rfl) (pe_call G_checked_sizes (hr.mono (by decide)) (by rfl) T.g_checked_sizes T.F_checked_sizes.kp T.b_checked_sizes .nil pass0 (pa_cons (pv 0) (pa_cons (pv 1) pa_nil))))
      (pss_cons (ps_par3 (i := 3) (j := 4) (l := 5) (by rfl) sc_shortest.nd rfl rfl rfl (by decide) (by decide) (by decide) rfl rfl rfl (pa_cons (pe_lst pa_nil) (pa_cons pe_int (pa_cons pe_int pa_nil))) (by rfl))
      (pss_cons (ps_for PassesOwn.never rfl (pi_enumS (K := K) (by rfl) T.n_enumerate (pa_cons (pe_fld (pv 0) rfl) pa_nil)) (pg_tp (K := K) (n := 2) rfl (pgs_cons (pg_name (i := 6) sc_shortest.nd rfl (.inl rfl)) (pgs_cons (pg_name (i := 7) sc_shortest.nd rfl (.inl rfl)) pgs_nil)))
          (pss_cons (ps_par (i := 8) (j := 9) (by rfl) sc_shortest.nd rfl rfl (by decide) rfl rfl (pa_cons (pe_call G_lowest (hr.mono (by decide)) (by rfl) T.g_lowest T.F_lowest.kp T.b_lowest .nil pass0 (pa_cons (pv 0) (pa_cons (pv 6) (pa_cons (pv 4) pa_nil)))) (pa_cons pe_non pa_nil)) (by rfl))
          (pss_cons (ps_if (pt_not (pt_val (pe_ix (ix_seq (K := K)) (pv 7) pe_int (fun _ _ => rfl)))) (pss_cons (ps_set (i := 9) sc_shortest.nd rfl (.inl rfl) (pe_call G_lifted (hr.mono (by decide)) (by rfl) T.g_lifted T.F_lifted.kp T.b_lifted .nil pass0 (pa_cons (pv 5) (pa_cons (pe_ix (ix_seq (K := K)) (pv 7) pe_int (fun _ _ => rfl)) (pa_cons pe_int pa_nil)))))
              (pss_cons (ps_set (i := 8) sc_shortest.nd rfl (.inl rfl) (pe_call G_lifted (hr.mono (by decide)) (by rfl) T.g_lifted T.F_lifted.kp T.b_lifted .nil pass0 (pa_cons (pv 8) (pa_cons (pe_fld (pv 0) rfl) (pa_cons (pv 9) pa_nil)))))
              (pss_one (ps_set (i := 5) sc_shortest.nd rfl (.inl rfl) (pe_op op_add (pv 9) (pe_ix (ix_seq (K := K)) (pv 2) (pv 6) (fun _ _ => rfl))))))) pss_nil)
          (pss_cons (ps_set (i := 4) sc_shortest.nd rfl (.inl rfl) (pe_op op_add (pv 8) (pe_ix (ix_seq (K := K)) (pv 2) (pv 6) (fun _ _ => rfl))))
          (pss_one (ps_expr (pe_bmK (K := K) PySem.F.plainAttrs_list PySem.F.slot_list_append PySem.F.type_list_append mt_append (pv 3) (pa_cons (pe_tup (pa_cons (pv 8) (pa_cons (pv 9) pa_nil))) pa_nil))))))))
      (pss_one (ps_ret (pv 3)))))), ?_⟩
    refine ⟨_, rfl, _, rfl, pl, sa, pg, qs, ns, rfl, hpl00, ok, hs00, sok, fun H0 ls s0 nls hls => ?_⟩
    have hpl := hpl00.same s0
    have hs : Sq K H0 ls (ns.map V.int) := sq_lst hls
    obtain ⟨dx, t, h1, as, ht, hpr⟩ := id hpl
    have el := paired_len hpr
    refine ⟨by show 0 ≤ sizeLine; decide, fun D nD => ?_⟩
    have g0 : GrowO objL H0 D [] (upd H0 D (.lst [])) := growO0 nD
    dsimp only [tNil]
    generalize upd H0 D (.lst []) = H1 at g0 ⊢
    refine ⟨_, _, _, rfl, ?_⟩
    have g2 := g0
    refine ⟨_, rfl, pl, _, dx, _, _, rfl, g2.1 _ _ h1, T.cl_Plan, T.no_Plan_kept_parts, rfl, ?_⟩
    refine for_enum (K := K) (sq_tup (g2.1 _ _ ht)) (fun i σ H' => (∃ y5 y6 y7 y8, σ = [some (.ref pl), some (.ref sa), some (.ref ls), some (.ref D), some (.int (MP.st (MP.fS pg qs) ns i).1), some (.int (MP.st (MP.fS pg qs) ns i).2), y5, y6, y7, y8]) ∧ GrowO objL H0 D (MP.lay (MP.fS pg qs) ns i) H') ⟨⟨_, _, _, _, rfl⟩, g2⟩ (fun i σ H' h o ho => ?_) ?_ ?_
    · rw [g2.1 _ _ ht] at ho
      cases ho
      exact h.2.1 _ _ ht
    · rintro i v σ H3 tt ev ⟨⟨y5, y6, y7, y8, rfl⟩, g3⟩ nt
      obtain ⟨a, ea, rfl⟩ := map_at ev
      obtain ⟨q, eq, hq⟩ := paired_get hpr ea
      have hiq := (List.getElem?_eq_some_iff.mp eq).1
      have hin : i < ns.length := by rw [sok.len]; exact hiq
      have hi100 : i ≤ 100 := by have := ok.few; omega
      have s4 : Same H3 (upd H3 tt (.tup [.int (i : Nat), .ref a])) := same_new nt
      refine ⟨tt, _, rfl, sqT_of upd_same, rfl, _, _, rfl, _, _, rfl, rfl, ?_⟩
      generalize upd H3 tt (.tup [.int (i : Nat), .ref a]) = H4 at s4 ⊢
      have g4 := g3.same s4
      have s04 := g4.1
      have hq4 := s04 _ _ hq
      have ep := pt_of eq
      obtain ⟨xD, hD4⟩ := g4.at_
      refine ⟨_, rfl, _, rfl, _, rfl, pl, pg, qs, i, _, rfl, hpl.same s04, ok, hiq, ?_⟩
      refine ⟨_, _, rfl, ?_⟩
      refine ⟨_, rfl, ixS (j := 5) (sq_tup hq4) rfl ⟨_, rfl, ?_⟩⟩
      by_cases c : q.z = true
      · rw [c]
        refine ⟨_, rfl, _, rfl, _, rfl, ixS (j := i) (s04.sq hs) (ints_at hin) ⟨_, _, rfl, rfl, ?_⟩⟩
        have eo : MP.out (MP.fS pg qs) ns i = (MP.low pg qs i (MP.st (MP.fS pg qs) ns i).1, none) := by
          unfold MP.out MP.fS
          rw [ep, if_pos c]
        have est : MP.st (MP.fS pg qs) ns (i + 1) = (MP.low pg qs i (MP.st (MP.fS pg qs) ns i).1 + MP.sz ns i, (MP.st (MP.fS pg qs) ns i).2) := by
          show MP.nextS _ _ (MP.out (MP.fS pg qs) ns i) = _
          rw [eo]
          rfl
        refine ⟨_, rfl, .inl ⟨rfl, _, sqL_of hD4⟩, _, rfl, _, rfl, by show 2 ≤ sizeLine; decide, fun tt2 ntt2 => ?_⟩
        obtain ⟨acc, f1, f2, f3⟩ := lay_step nD g4 hi100 eo tt2 ntt2
        refine ⟨D, acc, _, rfl, rfl, f1, f2, ?_⟩
        exact ⟨⟨_, _, _, _, by rw [est]; rfl⟩, f3⟩
      · rw [Bool.eq_false_iff.mpr c]
        have okq : PartOk pg q := ok.q _ (List.mem_of_getElem? eq)
        refine ⟨_, rfl, _, rfl, ixS (j := 2) (sq_tup hq4) rfl ⟨_, _, _, rfl, al_pos okq, ?_⟩⟩
        refine ⟨_, rfl, _, rfl, pl, _, dx, _, _, rfl, s04 _ _ h1, T.cl_Plan, T.no_Plan_kept_page, rfl, _, rfl, _, _, _, rfl, pg_pos ok, ?_⟩
        refine ⟨_, rfl, _, rfl, _, rfl, ixS (j := i) (s04.sq hs) (ints_at hin) ⟨_, _, rfl, rfl, ?_⟩⟩
        refine ⟨_, rfl, _, rfl, _, rfl, ixS (j := i) (s04.sq hs) (ints_at hin) ⟨_, _, rfl, rfl, ?_⟩⟩
        have eo : MP.out (MP.fS pg qs) ns i = (MP.lift (MP.low pg qs i (MP.st (MP.fS pg qs) ns i).1) pg (MP.lift (MP.st (MP.fS pg qs) ns i).2 q.al 0), some (MP.lift (MP.st (MP.fS pg qs) ns i).2 q.al 0)) := by
          unfold MP.out MP.fS
          rw [ep, if_neg c]
        have est : MP.st (MP.fS pg qs) ns (i + 1) = (MP.lift (MP.low pg qs i (MP.st (MP.fS pg qs) ns i).1) pg (MP.lift (MP.st (MP.fS pg qs) ns i).2 q.al 0) + MP.sz ns i, MP.lift (MP.st (MP.fS pg qs) ns i).2 q.al 0 + MP.sz ns i) := by
          show MP.nextS _ _ (MP.out (MP.fS pg qs) ns i) = _
          rw [eo]
          rfl
        refine ⟨_, rfl, .inl ⟨rfl, _, sqL_of hD4⟩, _, rfl, _, rfl, by show 2 ≤ sizeLine; decide, fun tt2 ntt2 => ?_⟩
        obtain ⟨acc, f1, f2, f3⟩ := lay_step nD g4 hi100 eo tt2 ntt2
        refine ⟨D, acc, _, rfl, rfl, f1, f2, ?_⟩
        exact ⟨⟨_, _, _, _, by rw [est]; rfl⟩, f3⟩
    · rintro σ H3 ⟨⟨y5, y6, y7, y8, rfl⟩, g3⟩
      rw [List.length_map, el] at g3
      exact ⟨_, rfl, k0 H3 D (s0.trans g3.1) (s0.free nD) g3.lay⟩
end
end Lk
namespace Lk
open PySem PySem.Spec PyProof.Rows L2 RZ
section
variable {P : Program} {w : World} {K : PySem.W.Frag} {mg : Str → Option Value} {base : Heap} {ad ai : Nat → Addr} {fd : Nat → FuncData}
/-! ### is_layout of a right one -/
def sp_is_layout (K : PySem.W.Frag) (C : Addr) : Sp := fun vs H Q _ => ∃ (pl s l : Addr) (pg : Int) (qs : List Part) (ns : List Int) (f : MP.Way), vs = [.ref pl, .ref s, .ref l] ∧ PlanAt C H pl pg qs ∧ PlanOk pg qs ∧ Sq K H s (ns.map V.int) ∧ SizesOk qs ns ∧ LayAt H l (MP.lay f ns qs.length) ∧ MP.RightL pg qs ns qs.length f ∧ ∀ H', Same H H' → Q (.bl true) H'
theorem not_ne_zero {a : Int} (h : a = 0) : (!decide (V.int a = V.int 0)) = false := by
  rw [h, decide_eq_true rfl]
  rfl
theorem ok_is_layout (T : Txt K mg ad ai fd) : FnOk P w K mg base CX0 3 (ad 21) (fd 21) ["plan", "sizes", "thing"] (sp_is_layout K (ad 17)) := by
  have G_checked_sizes : FnOk P w K mg base CX0 2 (ad 18) (fd 18) ["plan", "sizes"] (sp_sizes K (ad 17)) := ok_sizes T
  have G_lowest : FnOk P w K mg base CX0 2 (ad 20) (fd 20) ["plan", "number", "end"] (sp_lowest (ad 17)) := ok_lowest T
  have G_is_list : FnOk P w K mg base CX0 1 (ad 4) (fd 4) ["thing"] (sp_is_list K) := ok_is_list T
  have G_is_pair : FnOk P w K mg base CX0 2 (ad 5) (fd 5) ["thing"] (sp_is_pair K) := ok_is_pair T
  have G_is_natural : FnOk P w K mg base CX0 2 (ad 3) (fd 3) ["thing"] (sp_is_natural K) := ok_is_natural T
  refine T.F_is_layout.ok sc_is_layout (fun vs H Q E h => ?_) (fun cdv A outer s H vs Q E hr h => ?_)
  · obtain ⟨pl, s, l, pg, qs, ns, f, rfl, _⟩ := h
    rfl
  · obtain ⟨pl, sa, l, pg, qs, ns, f, rfl, hpl00, ok, hs00, sok, hly00, rt, k0⟩ := h
    refine ⟨_, (pss_cons (ps_set (i := 3) sc_is_layout.nd rfl (.inl rfl) (pe_call G_checked_sizes (hr.mono (by decide)) (by rfl) T.g_checked_sizes T.F_checked_sizes.kp T.b_checked_sizes .nil pass0 (pa_cons (pv 0) (pa_cons (pv 1) pa_nil))))
      (pss_cons (ps_if (PW.pt (pw_or (pt_not (pt_val (pe_call G_is_list (hr.mono (by decide)) (by rfl) T.g_is_list T.F_is_list.kp T.b_is_list .nil pass0 (pa_cons (pv 2) pa_nil)))) (pw_or1 (pt_cmpR op_ne (pe_callB (call_len (K := K)) (by rfl) T.n_len (by decide +kernel) (pa_cons (pv 2) pa_nil)) (pe_callB (call_len (K := K)) (by rfl) T.n_len (by decide +kernel) (pa_cons (pv 3) pa_nil)) (nomark _))))) (pss_one (ps_ret pe_bl)) pss_nil)
      (pss_cons (ps_asg (pe_tup (pa_cons pe_int (pa_cons pe_int pa_nil))) (pg_tp (K := K) (n := 2) rfl (pgs_cons (pg_name (i := 4) sc_is_layout.nd rfl (.inl rfl)) (pgs_cons (pg_name (i := 5) sc_is_layout.nd rfl (.inl rfl)) pgs_nil))))
      (pss_cons (ps_for PassesOwn.never rfl (pi_enumS (K := K) (by rfl) T.n_enumerate (pa_cons (pe_fld (pv 0) rfl) pa_nil)) (pg_tp (K := K) (n := 2) rfl (pgs_cons (pg_name (i := 6) sc_is_layout.nd rfl (.inl rfl)) (pgs_cons (pg_name (i := 7) sc_is_layout.nd rfl (.inl rfl)) pgs_nil)))
          (pss_cons (ps_if (PW.pt (pw_or (pt_not (pt_val (pe_call G_is_pair (hr.mono (by decide)) (by rfl) T.g_is_pair T.F_is_pair.kp T.b_is_pair .nil pass0 (pa_cons (pe_ix (ix_seq (K := K)) (pv 2) (pv 6) (fun _ _ => rfl)) pa_nil)))) (pw_or1 (pt_not (pt_val (pe_call G_is_natural (hr.mono (by decide)) (by rfl) T.g_is_natural T.F_is_natural.kp T.b_is_natural .nil pass0 (pa_cons (pe_ix (ix_seq (K := K)) (pe_ix (ix_seq (K := K)) (pv 2) (pv 6) (fun _ _ => rfl)) pe_int (fun _ _ => rfl)) pa_nil))))))) (pss_one (ps_ret pe_bl)) pss_nil)
          (pss_cons (ps_asg (pe_ix (ix_seq (K := K)) (pv 2) (pv 6) (fun _ _ => rfl)) (pg_tp (K := K) (n := 2) rfl (pgs_cons (pg_name (i := 8) sc_is_layout.nd rfl (.inl rfl)) (pgs_cons (pg_name (i := 9) sc_is_layout.nd rfl (.inl rfl)) pgs_nil))))
          (pss_cons (ps_if (PW.pt (pw_or (pt_cmpR op_ne (pe_op op_modN (pv 8) (pe_ix (ix_seq (K := K)) (pv 7) pe_int (fun _ _ => rfl))) pe_int (nomark _)) (pw_or1 (pt_cmpR op_lt (pv 8) (pe_call G_lowest (hr.mono (by decide)) (by rfl) T.g_lowest T.F_lowest.kp T.b_lowest .nil pass0 (pa_cons (pv 0) (pa_cons (pv 6) (pa_cons (pv 4) pa_nil)))) (nomark _))))) (pss_one (ps_ret pe_bl)) pss_nil)
          (pss_cons (ps_if (PW.pt (pw_or (PW.pt (pw_and (pt_val (pe_ix (ix_seq (K := K)) (pv 7) pe_int (fun _ _ => rfl))) (pw_and1 (pt_cmpR op_notN (pv 9) pe_non (nomark _))))) (pw_or1 (PW.pt (pw_and (pt_not (pt_val (pe_ix (ix_seq (K := K)) (pv 7) pe_int (fun _ _ => rfl)))) (pw_and1 (pt_not (pt_val (pe_call G_is_natural (hr.mono (by decide)) (by rfl) T.g_is_natural T.F_is_natural.kp T.b_is_natural .nil pass0 (pa_cons (pv 9) pa_nil)))))))))) (pss_one (ps_ret pe_bl)) pss_nil)
          (pss_cons (ps_if (pt_not (pt_val (pe_ix (ix_seq (K := K)) (pv 7) pe_int (fun _ _ => rfl)))) (pss_cons (ps_if (PW.pt (pw_or (pt_cmpR op_lt (pv 9) (pv 5) (nomark _)) (pw_or1 (pt_cmpR op_ne (pe_op op_modN (pe_op op_sub (pv 8) (pv 9)) (pe_fld (pv 0) rfl)) pe_int (nomark _))))) (pss_one (ps_ret pe_bl)) pss_nil)
              (pss_one (ps_set (i := 5) sc_is_layout.nd rfl (.inl rfl) (pe_op op_add (pv 9) (pe_ix (ix_seq (K := K)) (pv 3) (pv 6) (fun _ _ => rfl)))))) pss_nil)
          (pss_one (ps_set (i := 4) sc_is_layout.nd rfl (.inl rfl) (pe_op op_add (pv 8) (pe_ix (ix_seq (K := K)) (pv 3) (pv 6) (fun _ _ => rfl)))))))))))
      (pss_one (ps_ret pe_bl)))))), ?_⟩
    refine ⟨_, rfl, _, rfl, pl, sa, pg, qs, ns, rfl, hpl00, ok, hs00, sok, fun H0 ls s0 nls hls => ?_⟩
    have hs : Sq K H0 ls (ns.map V.int) := sq_lst hls
    obtain ⟨bs0, hl00, _⟩ := id hly00
    refine ⟨_, rfl, _, .lst, rfl, hasTy_lst (sqL_of (s0 _ _ hl00)), fun H1 s1 => ⟨_, rfl, ?_⟩⟩
    have s01 := s0.trans s1
    have hpl := hpl00.same s01
    obtain ⟨bs, hl, hbs⟩ := hly00.same s01
    have elb := paired_len hbs
    rw [lay_len] at elb
    obtain ⟨dx, t, h1, as, ht, hpr⟩ := id hpl
    have el := paired_len hpr
    refine ⟨_, rfl, _, _, rfl, .inl (sqL_of hl), _, rfl, _, _, rfl, s1.sq hs, rfl, _, rfl, ?_⟩
    rw [List.length_map, List.length_map, elb, sok.len, decide_eq_true rfl]
    refine ⟨by show 2 ≤ sizeLine; decide, fun t0 nt0 => ?_⟩
    have s11 : Same H1 (upd H1 t0 (.tup [.int 0, .int 0])) := same_new nt0
    refine ⟨t0, _, rfl, sqT_of upd_same, rfl, _, _, rfl, _, _, rfl, rfl, ?_⟩
    generalize upd H1 t0 (.tup [.int 0, .int 0]) = H2 at s11 ⊢
    refine ⟨_, rfl, pl, _, dx, _, _, rfl, s11 _ _ h1, T.cl_Plan, T.no_Plan_kept_parts, rfl, ?_⟩
    refine for_enum (K := K) (sq_tup (s11 _ _ ht)) (fun i σ H' => (∃ y6 y7 y8 y9, σ = [some (.ref pl), some (.ref sa), some (.ref l), some (.ref ls), some (.int (MP.st f ns i).1), some (.int (MP.st f ns i).2), y6, y7, y8, y9]) ∧ Same H2 H') ⟨⟨_, _, _, _, rfl⟩, Same.refl _⟩ (fun i σ H' h => h.2.keeps) ?_ ?_
    · rintro i v σ H3 tt ev ⟨⟨y6, y7, y8, y9, rfl⟩, s23⟩ nt
      have s3 := s11.trans s23
      obtain ⟨a, ea, rfl⟩ := map_at ev
      obtain ⟨q, eq, hq⟩ := paired_get hpr ea
      have hiq := (List.getElem?_eq_some_iff.mp eq).1
      have hin : i < ns.length := by rw [sok.len]; exact hiq
      have okq : PartOk pg q := ok.q _ (List.mem_of_getElem? eq)
      have ep := pt_of eq
      have r1 := rt i hiq
      obtain ⟨b, eb, hb⟩ := paired_at hbs (lay_at (f := f) (ns := ns) hiq)
      have s4 := s3.new (o := .tup [.int (i : Nat), .ref a]) nt
      have s24 := s23.new (o := .tup [.int (i : Nat), .ref a]) nt
      refine ⟨tt, _, rfl, sqT_of upd_same, rfl, _, _, rfl, _, _, rfl, rfl, ?_⟩
      generalize upd H3 tt (.tup [.int (i : Nat), .ref a]) = H4 at s4 s24 ⊢
      have hl4 := s4 _ _ hl
      have hb4 := s4 _ _ hb
      refine ⟨_, rfl, _, rfl, ixS (j := i) (sq_lst hl4) (at_map eb) ⟨_, rfl, .inr ⟨b, _, rfl, sq_tup hb4, fun H5 s5 => ⟨_, rfl, ?_⟩⟩⟩⟩
      have s45 := s4.trans s5
      have s25 := s24.trans s5
      have hl5 := s5 _ _ hl4
      have hb5 := s5 _ _ hb4
      have hq5 := s45 _ _ hq
      refine ⟨_, rfl, _, rfl, ixS (j := i) (sq_lst hl5) (at_map eb) (ixS (j := 0) (sq_tup hb5) rfl ⟨_, rfl, .inr ⟨_, rfl, _, rfl, ?_⟩⟩)⟩
      rw [decide_eq_true r1.nn]
      refine ⟨_, rfl, _, rfl, ixS (j := i) (sq_lst hl5) (at_map eb) ?_⟩
      refine ⟨b, _, rfl, sqT_of hb5, rfl, _, _, rfl, _, _, rfl, rfl, ?_⟩
      refine ⟨_, rfl, _, rfl, ixS (j := 2) (sq_tup hq5) rfl ⟨_, _, rfl, rfl, (by have := al_pos okq; omega : q.al ≠ 0), rfl, _, rfl, ?_⟩⟩
      rw [not_ne_zero ((MP.fmod_zero (al_pos okq)).mpr (by rw [← ep]; exact r1.dv))]
      refine ⟨_, rfl, _, rfl, _, rfl, _, rfl, pl, pg, qs, i, _, rfl, hpl.same s45, ok, hiq, _, _, rfl, rfl, _, rfl, ?_⟩
      rw [decide_eq_false (Int.not_lt.mpr r1.lo)]
      have ro := r1.off
      have nxt : ∀ (b' : Int), b' = (MP.st f ns (i + 1)).2 → (∃ y6 y7 y8 y9, ([some (.ref pl), some (.ref sa), some (.ref l), some (.ref ls), some (.int ((MP.out f ns i).1 + MP.sz ns i)), some (.int b'), some (.int (i : Nat)), some (.ref a), some (.int (MP.out f ns i).1), some (offV (MP.out f ns i).2)] : L2.St) = [some (.ref pl), some (.ref sa), some (.ref l), some (.ref ls), some (.int (MP.st f ns (i + 1)).1), some (.int (MP.st f ns (i + 1)).2), y6, y7, y8, y9]) ∧ Same H2 H5 := fun b' e => by subst e; exact ⟨⟨_, _, _, _, rfl⟩, s25⟩
      have est2 := MP.st_snd (f := f) (ns := ns) (i := i)
      refine ⟨_, rfl, ixS (j := 5) (sq_tup hq5) rfl ⟨_, rfl, ?_⟩⟩
      cases eo : (MP.out f ns i).2 with
      | none =>
        rw [eo] at ro est2 nxt
        have cz : q.z = true := by rw [← ep]; exact ro
        rw [cz]
        refine ⟨_, rfl, rfl, _, rfl, ?_⟩
        refine ⟨_, rfl, ixS (j := 5) (sq_tup hq5) rfl ⟨_, rfl, ?_⟩⟩
        rw [cz]
        refine ⟨_, rfl, ixS (j := 5) (sq_tup hq5) rfl ⟨_, rfl, ?_⟩⟩
        rw [cz]
        refine ⟨_, rfl, _, rfl, _, rfl, ixS (j := i) ((s1.trans s45).sq hs) (ints_at hin) ⟨_, _, rfl, rfl, ?_⟩⟩
        exact nxt _ est2.symm
      | some o =>
        rw [eo] at ro est2 nxt
        obtain ⟨cz', o0, ob, od⟩ := ro
        have cz : q.z = false := by rw [← ep]; exact cz'
        rw [cz]
        refine ⟨_, rfl, ixS (j := 5) (sq_tup hq5) rfl ⟨_, rfl, ?_⟩⟩
        rw [cz]
        refine ⟨_, rfl, _, rfl, .inr ⟨_, rfl, _, rfl, ?_⟩⟩
        rw [decide_eq_true o0]
        refine ⟨_, rfl, ixS (j := 5) (sq_tup hq5) rfl ⟨_, rfl, ?_⟩⟩
        rw [cz]
        refine ⟨_, rfl, _, rfl, _, _, rfl, rfl, _, rfl, ?_⟩
        rw [decide_eq_false (Int.not_lt.mpr ob)]
        refine ⟨_, rfl, _, rfl, _, _, rfl, rfl, _, rfl, pl, _, dx, _, _, rfl, s45 _ _ h1, T.cl_Plan, T.no_Plan_kept_page, rfl, _, _, rfl, rfl, (by have := pg_pos ok; omega : pg ≠ 0), rfl, _, rfl, ?_⟩
        rw [not_ne_zero ((MP.fmod_zero (pg_pos ok)).mpr od)]
        refine ⟨_, rfl, _, rfl, _, rfl, ixS (j := i) ((s1.trans s45).sq hs) (ints_at hin) ⟨_, _, rfl, rfl, ?_⟩⟩
        refine ⟨_, rfl, _, rfl, _, rfl, ixS (j := i) ((s1.trans s45).sq hs) (ints_at hin) ⟨_, _, rfl, rfl, ?_⟩⟩
        exact nxt _ est2.symm
    · rintro σ H3 ⟨⟨y6, y7, y8, y9, rfl⟩, s3⟩
      exact k0 H3 (s01.trans (s11.trans s3))
end
end Lk
namespace Lk
open PySem PySem.Spec PyProof.Rows L2 RZ
/-- what follows a known value -/
theorem te_val {t : TE} {σ : L2.St} {H : Hp} {Q : VK} (v : V) (h : ∀ Qr : VK, Qr v H → t σ H Qr) (k : Q v H) : t σ H Q := h Q k
theorem ne_true {a b : Int} (h : a ≠ b) : (!decide (V.int a = V.int b)) = true := by
  rw [decide_eq_false fun z => h (V.int.inj z)]
  rfl
theorem ne_false {a b : Int} (h : a = b) : (!decide (V.int a = V.int b)) = false := by
  rw [h, decide_eq_true rfl]
  rfl
def PartsL (H : Hp) (l : Addr) (qs : List Part) : Prop := ∃ as : List Addr, H l = some (.lst (as.map V.ref)) ∧ Paired (IsQ H) as qs
theorem PartsL.same {H H' : Hp} {t : Addr} {qs : List Part} (e : Same H H') (h : PartsL H t qs) : PartsL H' t qs := by
  obtain ⟨as, h1, h2⟩ := h
  exact ⟨as, e _ _ h1, paired_mono (fun a q z => e _ _ z) h2⟩
theorem PartsL.get {H : Hp} {t : Addr} {qs : List Part} {i : Nat} (h : PartsL H t qs) (hi : i < qs.length) : ∃ a xs, H t = some (.lst xs) ∧ xs[i]? = some (.ref a) ∧ IsQ H a (MP.pt qs i) := by
  obtain ⟨as, h1, h2⟩ := h
  obtain ⟨a, ea, ha⟩ := paired_at h2 (pt_at hi)
  exact ⟨a, _, h1, at_map ea, ha⟩
/-- what the law knows of its parts -/
structure PartsOk (pg : Int) (qs : List Part) : Prop where
  pos : 0 < pg
  al : ∀ i, i < qs.length → 0 < (MP.pt qs i).al
  few : qs.length ≤ 100
section
variable {P : Program} {w : World} {K : PySem.W.Frag} {mg : Str → Option Value} {base : Heap} {ad ai : Nat → Addr} {fd : Nat → FuncData}
def sp_llow : Sp := fun vs H Q _ => ∃ (pg : Int) (l : Addr) (i : Nat) (e : Int) (qs : List Part), vs = [.int pg, .ref l, .int (i : Nat), .int e] ∧ PartsL H l qs ∧ PartsOk pg qs ∧ i < qs.length ∧ Q (.int (MP.low pg qs i e)) H
theorem ok_llow (T : Txt K mg ad ai fd) : FnOk P w K mg base CX0 1 (ad 34) (fd 34) ["_law_page", "_law_parts_here", "_law_k", "_law_end"] (sp_llow) := by
  refine T.F_law_lowest.ok sc_law_lowest (fun vs H Q E h => ?_) (fun cdv A outer s H vs Q E hr h => ?_)
  · obtain ⟨pg, l, i, e, qs, rfl, _⟩ := h
    rfl
  · obtain ⟨pg, l, i, e, qs, rfl, hpl, ok, hi, q⟩ := h
    refine ⟨_, (pss_cons (ps_set (i := 4) sc_law_lowest.nd rfl (.inl rfl) (pe_and (pe_cmpR op_gt (pv 2) pe_int (nomark _)) (pe_one (pe_cmpR op_ne (pe_ix (ix_seq (K := K)) (pe_ix (ix_seq (K := K)) (pv 1) (pv 2) (fun _ _ => rfl)) pe_int (fun _ _ => rfl)) (pe_ix (ix_seq (K := K)) (pe_ix (ix_seq (K := K)) (pv 1) (pe_op op_sub (pv 2) pe_int) (fun _ _ => rfl)) pe_int (fun _ _ => rfl)) (nomark _)))))
      (pss_cons (ps_set (i := 5) sc_law_lowest.nd rfl (.inl rfl) (pv 3))
      (pss_cons (ps_while PassesOwn.never (pt_cmpR op_ne (pe_op op_modN (pv 5) (pe_ifExp (pt_val (pv 4)) (pv 0) (pe_ix (ix_seq (K := K)) (pe_ix (ix_seq (K := K)) (pv 1) (pv 2) (fun _ _ => rfl)) pe_int (fun _ _ => rfl)))) pe_int (nomark _))
          (pss_one (ps_set (i := 5) sc_law_lowest.nd rfl (.inl rfl) (pe_op op_add (pv 5) pe_int))))
      (pss_one (ps_ret (pv 5)))))), ?_⟩
    obtain ⟨a, xs, h1, h2, h3⟩ := hpl.get hi
    refine te_val (t := tAndV _ _) (.bl (MP.bord qs i)) (fun Qr hq => ?_) ?_
    · refine ⟨_, rfl, _, _, rfl, rfl, _, rfl, ?_⟩
      by_cases c : 0 < i
      · rw [decide_eq_true (by omega : (0 : Int) < (i : Int))]
        obtain ⟨i0, rfl⟩ : ∃ i0, i = i0 + 1 := ⟨i - 1, by omega⟩
        obtain ⟨a', xs', h1', h2', h3'⟩ := hpl.get (i := i0) (by omega)
        have ei : ((i0 + 1 : Nat) : Int) - 1 = (i0 : Nat) := by omega
        refine ⟨_, rfl, _, rfl, ixS (j := i0 + 1) (sq_lst h1) h2 (ixS (j := 1) (sq_tup h3) rfl ?_)⟩
        refine ⟨_, rfl, _, rfl, _, _, rfl, rfl, ?_⟩
        dsimp only
        rw [ei]
        refine ixS (j := i0) (sq_lst h1') h2' (ixS (j := 1) (sq_tup h3') rfl ⟨rfl, ?_⟩)
        have eb : MP.bord qs (i0 + 1) = !decide (V.str (MP.pt qs (i0 + 1)).r = V.str (MP.pt qs i0).r) := by
          unfold MP.bord
          rw [decide_eq_true c, Bool.true_and]
          show (!decide ((MP.pt qs (i0 + 1)).r = (MP.pt qs i0).r)) = _
          by_cases z : (MP.pt qs (i0 + 1)).r = (MP.pt qs i0).r
          · rw [z, decide_eq_true rfl, decide_eq_true rfl]
          · rw [decide_eq_false z, decide_eq_false fun y => z (V.str.inj y)]
        rw [← eb]
        exact hq
      · rw [decide_eq_false (by omega : ¬ (0 : Int) < (i : Int))]
        have z : MP.bord qs i = false := by
          unfold MP.bord
          rw [decide_eq_false c]
          rfl
        rw [z] at hq
        exact hq
    refine ⟨_, rfl, ?_⟩
    have hst : 0 < MP.step pg qs i := by
      unfold MP.step
      split
      · exact ok.pos
      · exact ok.al i hi
    have hge : e ≤ MP.low pg qs i e := MP.lift_ge hst
    refine ⟨fun m σ H' => H' = H ∧ ∃ p, σ = [some (.int pg), some (.ref l), some (.int (i : Nat)), some (.int e), some (.bl (MP.bord qs i)), some (.int p)] ∧ e ≤ p ∧ p ≤ MP.low pg qs i e ∧ m = (MP.low pg qs i e - p).toNat, ⟨_, rfl, e, rfl, Int.le_refl _, hge, rfl⟩, ?_⟩
    rintro m σ H' ⟨rfl, p, rfl, p1, p2, rfl⟩
    refine ⟨_, rfl, ?_⟩
    refine te_val (t := tIf _ _ _) (.int (MP.step pg qs i)) (fun Qr hq => ?_) ?_
    · refine ⟨_, rfl, _, rfl, ?_⟩
      unfold MP.step at hq
      refine ite2 (fun c => ?_) (fun c => ?_)
      · rw [if_pos c] at hq
        exact ⟨_, rfl, hq⟩
      · rw [if_neg c] at hq
        exact ⟨_, rfl, _, rfl, ixS (j := i) (sq_lst h1) h2 (ixS (j := 2) (sq_tup h3) rfl hq)⟩
    refine ⟨_, _, rfl, rfl, (by omega : MP.step pg qs i ≠ 0), rfl, _, rfl, ?_⟩
    have hz := MP.lift_at (r := 0) hst p1 p2
    rw [Int.sub_zero, ← MP.fmod_zero hst] at hz
    by_cases c : p = MP.low pg qs i e
    · rw [ne_false (hz.mpr c)]
      refine ⟨_, rfl, ?_⟩
      rw [c]
      exact q
    · rw [ne_true fun z => c (hz.mp z)]
      refine ⟨fun σ' H'' => H'' = H' ∧ σ' = [some (.int pg), some (.ref l), some (.int (i : Nat)), some (.int e), some (.bl (MP.bord qs i)), some (.int (p + 1))], ?_, ?_⟩
      · rintro σ' H'' ⟨rfl, rfl⟩
        exact ⟨_, by omega, rfl, p + 1, rfl, by omega, by omega, rfl⟩
      · exact ⟨_, rfl, _, _, rfl, rfl, rfl, rfl⟩
def sp_lrest : Sp := fun vs H Q _ => ∃ pg st pl : Int, vs = [.int pg, .int st, .int pl] ∧ 0 < pg ∧ Q (.int (MP.lift st pg pl)) H
theorem ok_lrest (T : Txt K mg ad ai fd) : FnOk P w K mg base CX0 1 (ad 36) (fd 36) ["_law_page", "_law_start", "_law_place"] (sp_lrest) := by
  refine T.F_law_same_rest.ok sc_law_same_rest (fun vs H Q E h => ?_) (fun cdv A outer s H vs Q E hr h => ?_)
  · obtain ⟨pg, st, pl, rfl, _⟩ := h
    rfl
  · obtain ⟨pg, st, pl, rfl, hpg, q⟩ := h
    refine ⟨_, (pss_cons (ps_while PassesOwn.never (pt_cmpR op_ne (pe_op op_modN (pv 1) (pv 0)) (pe_op op_modN (pv 2) (pv 0)) (nomark _))
          (pss_one (ps_set (i := 1) sc_law_same_rest.nd rfl (.inl rfl) (pe_op op_add (pv 1) pe_int))))
      (pss_one (ps_ret (pv 1)))), ?_⟩
    refine ⟨fun m σ H' => H' = H ∧ ∃ p, σ = [some (.int pg), some (.int p), some (.int pl)] ∧ st ≤ p ∧ p ≤ MP.lift st pg pl ∧ m = (MP.lift st pg pl - p).toNat, ⟨_, rfl, st, rfl, Int.le_refl _, MP.lift_ge hpg, rfl⟩, ?_⟩
    rintro m σ H' ⟨rfl, p, rfl, p1, p2, rfl⟩
    refine ⟨_, rfl, _, rfl, _, _, rfl, rfl, (by omega : pg ≠ 0), _, rfl, _, rfl, _, _, rfl, rfl, (by omega : pg ≠ 0), rfl, _, rfl, ?_⟩
    have hz := MP.lift_at (r := pl) hpg p1 p2
    rw [← MP.fmod_same hpg] at hz
    by_cases c : p = MP.lift st pg pl
    · rw [ne_false (hz.mpr c)]
      refine ⟨_, rfl, ?_⟩
      rw [c]
      exact q
    · rw [ne_true fun z => c (hz.mp z)]
      refine ⟨fun σ' H'' => H'' = H' ∧ σ' = [some (.int pg), some (.int (p + 1)), some (.int pl)], ?_, ?_⟩
      · rintro σ' H'' ⟨rfl, rfl⟩
        exact ⟨_, by omega, rfl, p + 1, rfl, by omega, by omega, rfl⟩
      · exact ⟨_, rfl, _, _, rfl, rfl, rfl, rfl⟩
def addrs (pg : Int) (qs : List Part) (ns : List Int) (m : Nat) : List Int := (MP.lay (MP.fE pg qs) ns m).map (·.1)
theorem addrs_len {pg : Int} {qs : List Part} {ns : List Int} {m : Nat} : (addrs pg qs ns m).length = m := by
  unfold addrs
  rw [List.length_map, lay_len]
theorem addrs_succ {pg : Int} {qs : List Part} {ns : List Int} {i : Nat} : addrs pg qs ns (i + 1) = addrs pg qs ns i ++ [MP.low pg qs i (MP.st (MP.fE pg qs) ns i).1] := by
  unfold addrs
  rw [lay_succ, List.map_append]
  rfl
theorem addrs_at {pg : Int} {qs : List Part} {ns : List Int} {i m : Nat} (h : i < m) : (addrs pg qs ns m)[i]? = some (MP.low pg qs i (MP.st (MP.fE pg qs) ns i).1) := at_map (lay_at h)
def sp_laddr : Sp := fun vs H Q _ => ∃ (pg : Int) (l s : Addr) (qs : List Part) (ns : List Int), vs = [.int pg, .ref l, .ref s] ∧ PartsL H l qs ∧ PartsOk pg qs ∧ H s = some (.lst (ns.map V.int)) ∧ ns.length = qs.length ∧ ∀ H' r, Same H H' → H r = none → H' r = some (.lst ((addrs pg qs ns qs.length).map V.int)) → Q (.ref r) H'
theorem ok_laddr (T : Txt K mg ad ai fd) : FnOk P w K mg base CX0 2 (ad 35) (fd 35) ["_law_page", "_law_parts_here", "_law_sizes"] (sp_laddr) := by
  have G_law_lowest : FnOk P w K mg base CX0 1 (ad 34) (fd 34) ["_law_page", "_law_parts_here", "_law_k", "_law_end"] (sp_llow) := ok_llow T
  refine T.F_law_addresses.ok sc_law_addresses (fun vs H Q E h => ?_) (fun cdv A outer s H vs Q E hr h => ?_)
  · obtain ⟨pg, l, s, qs, ns, rfl, _⟩ := h
    rfl
  · obtain ⟨pg, l, sa, qs, ns, rfl, hpl, ok, hs, hn, k⟩ := h
    refine ⟨_, (pss_cons (ps_par (i := 3) (j := 4) (by rfl) sc_law_addresses.nd rfl rfl (by decide) rfl rfl (pa_cons (pe_lst pa_nil) (pa_cons pe_int pa_nil)) (by rfl))
      (pss_cons (ps_for PassesOwn.never rfl (pi_enumS (K := K) (by rfl) T.n_enumerate (pa_cons (pv 2) pa_nil)) (pg_tp (K := K) (n := 2) rfl (pgs_cons (pg_name (i := 5) sc_law_addresses.nd rfl (.inl rfl)) (pgs_cons (pg_name (i := 6) sc_law_addresses.nd rfl (.inl rfl)) pgs_nil)))
          (pss_cons (ps_expr (pe_bmK (K := K) PySem.F.plainAttrs_list PySem.F.slot_list_append PySem.F.type_list_append mt_append (pv 3) (pa_cons (pe_call G_law_lowest (hr.mono (by decide)) (by rfl) T.g_law_lowest T.F_law_lowest.kp T.b_law_lowest .nil pass0 (pa_cons (pv 0) (pa_cons (pv 1) (pa_cons (pv 5) (pa_cons (pv 4) pa_nil))))) pa_nil)))
          (pss_one (ps_set (i := 4) sc_law_addresses.nd rfl (.inl rfl) (pe_op op_add (pe_ix (ix_seq (K := K)) (pv 3) (pe_un un_neg pe_int) (fun _ _ => rfl)) (pv 6))))))
      (pss_one (ps_ret (pv 3))))), ?_⟩
    refine ⟨by show 0 ≤ sizeLine; decide, fun D nD => ?_⟩
    have s1 : Same H (upd H D (.lst [])) := same_new nD
    have hD1 : upd H D (.lst []) D = some (.lst []) := upd_same
    dsimp only [tNil]
    generalize upd H D (.lst []) = H1 at s1 hD1 ⊢
    refine ⟨_, _, rfl, ?_⟩
    refine ⟨_, rfl, for_enum (K := K) (sq_lst (s1 _ _ hs)) (fun i σ H' => (∃ y5 y6, σ = [some (.int pg), some (.ref l), some (.ref sa), some (.ref D), some (.int (MP.st (MP.fE pg qs) ns i).1), y5, y6]) ∧ Same H H' ∧ H' D = some (.lst ((addrs pg qs ns i).map V.int))) ⟨⟨_, _, rfl⟩, s1, hD1⟩ (fun i σ H' h => ?_) ?_ ?_⟩
    · intro o ho
      rw [s1 _ _ hs] at ho
      cases ho
      exact h.2.1 _ _ hs
    · rintro i v σ H3 tt ev ⟨⟨y5, y6, rfl⟩, s3, hD3⟩ nt
      obtain ⟨n, en, rfl⟩ := map_at ev
      have hin := (List.getElem?_eq_some_iff.mp en).1
      have hiq : i < qs.length := by omega
      have en' := sz_of en
      subst en'
      have s4 : Same H3 (upd H3 tt (.tup [.int (i : Nat), V.int (MP.sz ns i)])) := same_new nt
      refine ⟨tt, _, rfl, sqT_of upd_same, rfl, _, _, rfl, _, _, rfl, rfl, ?_⟩
      generalize upd H3 tt (.tup [.int (i : Nat), V.int (MP.sz ns i)]) = H4 at s4 ⊢
      have s04 := s3.trans s4
      have hD4 := s4 _ _ hD3
      refine ⟨_, rfl, .inl ⟨rfl, _, sqL_of hD4⟩, _, rfl, _, rfl, _, rfl, _, rfl, pg, l, i, _, qs, rfl, hpl.same s04, ok, hiq, ?_⟩
      have hl : ((addrs pg qs ns i).map V.int).length < sizeLine := by
        rw [List.length_map, addrs_len, sizeLine_eq]
        have := ok.few
        omega
      refine ⟨D, _, _, rfl, rfl, hD4, hl, ?_⟩
      have hD5 : upd H4 D (.lst ((addrs pg qs ns i).map V.int ++ [.int (MP.low pg qs i (MP.st (MP.fE pg qs) ns i).1)])) D = some (.lst ((addrs pg qs ns i).map V.int ++ [.int (MP.low pg qs i (MP.st (MP.fE pg qs) ns i).1)])) := upd_same
      have s5 : Same H (upd H4 D (.lst ((addrs pg qs ns i).map V.int ++ [.int (MP.low pg qs i (MP.st (MP.fE pg qs) ns i).1)]))) := s04.mut nD
      generalize upd H4 D (.lst ((addrs pg qs ns i).map V.int ++ [.int (MP.low pg qs i (MP.st (MP.fE pg qs) ns i).1)])) = H5 at hD5 s5 ⊢
      refine ⟨_, rfl, _, rfl, .inl ⟨D, _, _, _, rfl, rfl, sqL_of hD5, atI_last _ _, _, rfl, _, _, rfl, rfl, ?_⟩⟩
      exact ⟨⟨_, _, rfl⟩, s5, by rw [addrs_succ, List.map_append]; exact hD5⟩
    · rintro σ H3 ⟨⟨y5, y6, rfl⟩, s3, hD3⟩
      rw [List.length_map, hn] at hD3
      exact ⟨_, rfl, k H3 D s3 nD hD3⟩
/-- what is promised of the law's own layouts -/
def sp_llay (f : Int → List Part → MP.Way) : Sp := fun vs H Q _ => ∃ (pg : Int) (l s : Addr) (qs : List Part) (ns : List Int), vs = [.int pg, .ref l, .ref s] ∧ PartsL H l qs ∧ PartsOk pg qs ∧ H s = some (.lst (ns.map V.int)) ∧ ns.length = qs.length ∧ ∀ H' r, Same H H' → H r = none → LayAt H' r (MP.lay (f pg qs) ns qs.length) → Q (.ref r) H'
theorem ok_learly (T : Txt K mg ad ai fd) : FnOk P w K mg base CX0 3 (ad 39) (fd 39) ["_law_page", "_law_parts_here", "_law_sizes"] (sp_llay MP.fE) := by
  have G_law_addresses : FnOk P w K mg base CX0 2 (ad 35) (fd 35) ["_law_page", "_law_parts_here", "_law_sizes"] (sp_laddr) := ok_laddr T
  have G_law_same_rest : FnOk P w K mg base CX0 1 (ad 36) (fd 36) ["_law_page", "_law_start", "_law_place"] (sp_lrest) := ok_lrest T
  refine T.F_law_earliest.ok sc_law_earliest (fun vs H Q E h => ?_) (fun cdv A outer s H vs Q E hr h => ?_)
  · obtain ⟨pg, l, s, qs, ns, rfl, _⟩ := h
    rfl
  · obtain ⟨pg, l, sa, qs, ns, rfl, hpl, ok, hs, hn, k⟩ := h
    refine ⟨_, (pss_cons (ps_par (i := 3) (j := 4) (by rfl) sc_law_earliest.nd rfl rfl (by decide) rfl rfl (pa_cons (pe_lst pa_nil) (pa_cons pe_int pa_nil)) (by rfl))
      (pss_cons (ps_for PassesOwn.never rfl (pi_enumS (K := K) (by rfl) T.n_enumerate (pa_cons (pe_call G_law_addresses (hr.mono (by decide)) (by rfl) T.g_law_addresses T.F_law_addresses.kp T.b_law_addresses .nil pass0 (pa_cons (pv 0) (pa_cons (pv 1) (pa_cons (pv 2) pa_nil)))) pa_nil)) (pg_tp (K := K) (n := 2) rfl (pgs_cons (pg_name (i := 5) sc_law_earliest.nd rfl (.inl rfl)) (pgs_cons (pg_name (i := 6) sc_law_earliest.nd rfl (.inl rfl)) pgs_nil)))
          (pss_cons (ps_set (i := 7) sc_law_earliest.nd rfl (.inl rfl) pe_non)
          (pss_cons (ps_if (pt_not (pt_val (pe_ix (ix_seq (K := K)) (pe_ix (ix_seq (K := K)) (pv 1) (pv 5) (fun _ _ => rfl)) pe_int (fun _ _ => rfl)))) (pss_cons (ps_set (i := 7) sc_law_earliest.nd rfl (.inl rfl) (pe_call G_law_same_rest (hr.mono (by decide)) (by rfl) T.g_law_same_rest T.F_law_same_rest.kp T.b_law_same_rest .nil pass0 (pa_cons (pv 0) (pa_cons (pv 4) (pa_cons (pv 6) pa_nil)))))
              (pss_one (ps_set (i := 4) sc_law_earliest.nd rfl (.inl rfl) (pe_op op_add (pv 7) (pe_ix (ix_seq (K := K)) (pv 2) (pv 5) (fun _ _ => rfl)))))) pss_nil)
          (pss_one (ps_expr (pe_bmK (K := K) PySem.F.plainAttrs_list PySem.F.slot_list_append PySem.F.type_list_append mt_append (pv 3) (pa_cons (pe_tup (pa_cons (pv 6) (pa_cons (pv 7) pa_nil))) pa_nil)))))))
      (pss_one (ps_ret (pv 3))))), ?_⟩
    refine ⟨by show 0 ≤ sizeLine; decide, fun D nD => ?_⟩
    have g1 : GrowO objL H D [] (upd H D (.lst [])) := growO0 nD
    dsimp only [tNil]
    generalize upd H D (.lst []) = H1 at g1 ⊢
    refine ⟨_, _, rfl, ?_⟩
    refine ⟨_, rfl, _, rfl, _, rfl, pg, l, sa, qs, ns, rfl, hpl.same g1.1, ok, g1.1 _ _ hs, hn, fun H2 r s2 nr hr2 => ?_⟩
    have g2 := g1.same s2
    obtain ⟨xD1, hD1⟩ := g1.at_
    have rD : r ≠ D := fun z => by rw [z, hD1] at nr; cases nr
    refine for_enum (K := K) (sq_lst hr2) (fun i σ H' => (∃ y5 y6 y7, σ = [some (.int pg), some (.ref l), some (.ref sa), some (.ref D), some (.int (MP.st (MP.fE pg qs) ns i).2), y5, y6, y7]) ∧ GrowO objL H D (MP.lay (MP.fE pg qs) ns i) H' ∧ KeepsAt r H2 H') ⟨⟨_, _, _, rfl⟩, g2, KeepsAt.refl⟩ (fun i σ H' h => h.2.2) ?_ ?_
    · rintro i v σ H3 tt ev ⟨⟨y5, y6, y7, rfl⟩, g3, kr3⟩ nt
      obtain ⟨n, en, rfl⟩ := map_at ev
      have hiq : i < qs.length := by
        have := (List.getElem?_eq_some_iff.mp en).1
        rw [addrs_len] at this
        exact this
      rw [addrs_at hiq] at en
      cases en
      have hin : i < ns.length := by omega
      have hi100 : i ≤ 100 := by have := ok.few; omega
      have s4 : Same H3 (upd H3 tt (.tup [.int (i : Nat), .int (MP.low pg qs i (MP.st (MP.fE pg qs) ns i).1)])) := same_new nt
      refine ⟨tt, _, rfl, sqT_of upd_same, rfl, _, _, rfl, _, _, rfl, rfl, ?_⟩
      generalize upd H3 tt (.tup [.int (i : Nat), .int (MP.low pg qs i (MP.st (MP.fE pg qs) ns i).1)]) = H4 at s4 ⊢
      have g4 := g3.same s4
      have s04 := g4.1
      have kr4 : KeepsAt r H2 H4 := kr3.trans s4.keeps
      obtain ⟨xD, hD4⟩ := g4.at_
      obtain ⟨a, xs, q1, q2, hq4⟩ := (hpl.same s04).get hiq
      generalize ep : MP.pt qs i = q at hq4
      have ktf : ∀ (o : HO) tt2 acc, H4 tt2 = none → KeepsAt r H2 (upd (upd H4 tt2 o) D acc) := by
        intro o tt2 acc ntt2 u hu
        have hu4 := kr4 u hu
        rw [upd_ne rD, upd_ne (ne_of_none hu4 ntt2)]
        exact hu4
      refine ⟨_, rfl, _, rfl, ixS (j := i) (sq_lst q1) q2 (ixS (j := 5) (sq_tup hq4) rfl ⟨_, rfl, ?_⟩)⟩
      by_cases c : q.z = true
      · rw [c]
        have eo : MP.out (MP.fE pg qs) ns i = (MP.low pg qs i (MP.st (MP.fE pg qs) ns i).1, none) := by
          unfold MP.out MP.fE
          rw [ep, if_pos c]
        have est : MP.st (MP.fE pg qs) ns (i + 1) = (MP.low pg qs i (MP.st (MP.fE pg qs) ns i).1 + MP.sz ns i, (MP.st (MP.fE pg qs) ns i).2) := by
          show MP.nextS _ _ (MP.out (MP.fE pg qs) ns i) = _
          rw [eo]
          rfl
        refine ⟨_, rfl, .inl ⟨rfl, _, sqL_of hD4⟩, _, rfl, _, rfl, by show 2 ≤ sizeLine; decide, fun tt2 ntt2 => ?_⟩
        obtain ⟨acc, f1, f2, f3⟩ := lay_step nD g4 hi100 eo tt2 ntt2
        refine ⟨D, acc, _, rfl, rfl, f1, f2, ?_⟩
        exact ⟨⟨_, _, _, by rw [est]; rfl⟩, f3, ktf _ _ _ ntt2⟩
      · rw [Bool.eq_false_iff.mpr c]
        refine ⟨_, rfl, _, rfl, _, rfl, _, _, _, rfl, ok.pos, ?_⟩
        refine ⟨_, rfl, _, rfl, _, rfl, ixS (j := i) (sq_lst (s04 _ _ hs)) (ints_at hin) ⟨_, _, rfl, rfl, ?_⟩⟩
        have eo : MP.out (MP.fE pg qs) ns i = (MP.low pg qs i (MP.st (MP.fE pg qs) ns i).1, some (MP.lift (MP.st (MP.fE pg qs) ns i).2 pg (MP.low pg qs i (MP.st (MP.fE pg qs) ns i).1))) := by
          unfold MP.out MP.fE
          rw [ep, if_neg c]
        have est : MP.st (MP.fE pg qs) ns (i + 1) = (MP.low pg qs i (MP.st (MP.fE pg qs) ns i).1 + MP.sz ns i, MP.lift (MP.st (MP.fE pg qs) ns i).2 pg (MP.low pg qs i (MP.st (MP.fE pg qs) ns i).1) + MP.sz ns i) := by
          show MP.nextS _ _ (MP.out (MP.fE pg qs) ns i) = _
          rw [eo]
          rfl
        refine ⟨_, rfl, .inl ⟨rfl, _, sqL_of hD4⟩, _, rfl, _, rfl, by show 2 ≤ sizeLine; decide, fun tt2 ntt2 => ?_⟩
        obtain ⟨acc, f1, f2, f3⟩ := lay_step nD g4 hi100 eo tt2 ntt2
        refine ⟨D, acc, _, rfl, rfl, f1, f2, ?_⟩
        exact ⟨⟨_, _, _, by rw [est]; rfl⟩, f3, ktf _ _ _ ntt2⟩
    · rintro σ H3 ⟨⟨y5, y6, y7, rfl⟩, g3, kr3⟩
      rw [List.length_map, addrs_len] at g3
      exact ⟨_, rfl, k H3 D g3.1 nD g3.lay⟩
theorem ok_lshort (T : Txt K mg ad ai fd) : FnOk P w K mg base CX0 2 (ad 40) (fd 40) ["_law_page", "_law_parts_here", "_law_sizes"] (sp_llay MP.fS) := by
  have G_law_lowest : FnOk P w K mg base CX0 1 (ad 34) (fd 34) ["_law_page", "_law_parts_here", "_law_k", "_law_end"] (sp_llow) := ok_llow T
  have G_law_same_rest : FnOk P w K mg base CX0 1 (ad 36) (fd 36) ["_law_page", "_law_start", "_law_place"] (sp_lrest) := ok_lrest T
  refine T.F_law_shortest.ok sc_law_shortest (fun vs H Q E h => ?_) (fun cdv A outer s H vs Q E hr h => ?_)
  · obtain ⟨pg, l, s, qs, ns, rfl, _⟩ := h
    rfl
  · obtain ⟨pg, l, sa, qs, ns, rfl, hpl, ok, hs, hn, k⟩ := h
    refine ⟨_, (pss_cons (ps_par3 (i := 3) (j := 4) (l := 5) (by rfl) sc_law_shortest.nd rfl rfl rfl (by decide) (by decide) (by decide) rfl rfl rfl (pa_cons (pe_lst pa_nil) (pa_cons pe_int (pa_cons pe_int pa_nil))) (by rfl))
      (pss_cons (ps_for PassesOwn.never rfl (pi_enumS (K := K) (by rfl) T.n_enumerate (pa_cons (pv 1) pa_nil)) (pg_tp (K := K) (n := 2) rfl (pgs_cons (pg_name (i := 6) sc_law_shortest.nd rfl (.inl rfl)) (pgs_cons (pg_name (i := 7) sc_law_shortest.nd rfl (.inl rfl)) pgs_nil)))
          (pss_cons (ps_par (i := 8) (j := 9) (by rfl) sc_law_shortest.nd rfl rfl (by decide) rfl rfl (pa_cons (pe_call G_law_lowest (hr.mono (by decide)) (by rfl) T.g_law_lowest T.F_law_lowest.kp T.b_law_lowest .nil pass0 (pa_cons (pv 0) (pa_cons (pv 1) (pa_cons (pv 6) (pa_cons (pv 4) pa_nil))))) (pa_cons pe_non pa_nil)) (by rfl))
          (pss_cons (ps_if (pt_not (pt_val (pe_ix (ix_seq (K := K)) (pv 7) pe_int (fun _ _ => rfl)))) (pss_cons (ps_set (i := 9) sc_law_shortest.nd rfl (.inl rfl) (pv 5))
              (pss_cons (ps_while PassesOwn.never (pt_cmpR op_ne (pe_op op_modN (pv 9) (pe_ix (ix_seq (K := K)) (pv 7) pe_int (fun _ _ => rfl))) pe_int (nomark _))
                  (pss_one (ps_set (i := 9) sc_law_shortest.nd rfl (.inl rfl) (pe_op op_add (pv 9) pe_int))))
              (pss_cons (ps_set (i := 8) sc_law_shortest.nd rfl (.inl rfl) (pe_call G_law_same_rest (hr.mono (by decide)) (by rfl) T.g_law_same_rest T.F_law_same_rest.kp T.b_law_same_rest .nil pass0 (pa_cons (pv 0) (pa_cons (pv 8) (pa_cons (pv 9) pa_nil)))))
              (pss_one (ps_set (i := 5) sc_law_shortest.nd rfl (.inl rfl) (pe_op op_add (pv 9) (pe_ix (ix_seq (K := K)) (pv 2) (pv 6) (fun _ _ => rfl)))))))) pss_nil)
          (pss_cons (ps_set (i := 4) sc_law_shortest.nd rfl (.inl rfl) (pe_op op_add (pv 8) (pe_ix (ix_seq (K := K)) (pv 2) (pv 6) (fun _ _ => rfl))))
          (pss_one (ps_expr (pe_bmK (K := K) PySem.F.plainAttrs_list PySem.F.slot_list_append PySem.F.type_list_append mt_append (pv 3) (pa_cons (pe_tup (pa_cons (pv 8) (pa_cons (pv 9) pa_nil))) pa_nil))))))))
      (pss_one (ps_ret (pv 3))))), ?_⟩
    refine ⟨by show 0 ≤ sizeLine; decide, fun D nD => ?_⟩
    have g2 : GrowO objL H D [] (upd H D (.lst [])) := growO0 nD
    dsimp only [tNil]
    generalize upd H D (.lst []) = H2 at g2 ⊢
    refine ⟨_, _, _, rfl, ?_⟩
    obtain ⟨as, hl, hpr⟩ := id hpl
    have el := paired_len hpr
    refine ⟨_, rfl, ?_⟩
    refine for_enum (K := K) (sq_lst (g2.1 _ _ hl)) (fun i σ H' => (∃ y6 y7 y8 y9, σ = [some (.int pg), some (.ref l), some (.ref sa), some (.ref D), some (.int (MP.st (MP.fS pg qs) ns i).1), some (.int (MP.st (MP.fS pg qs) ns i).2), y6, y7, y8, y9]) ∧ GrowO objL H D (MP.lay (MP.fS pg qs) ns i) H') ⟨⟨_, _, _, _, rfl⟩, g2⟩ (fun i σ H' h o ho => ?_) ?_ ?_
    · rw [g2.1 _ _ hl] at ho
      cases ho
      exact h.2.1 _ _ hl
    · rintro i v σ H3 tt ev ⟨⟨y6, y7, y8, y9, rfl⟩, g3⟩ nt
      obtain ⟨a, ea, rfl⟩ := map_at ev
      obtain ⟨q, eq, hq⟩ := paired_get hpr ea
      have hiq := (List.getElem?_eq_some_iff.mp eq).1
      have hin : i < ns.length := by omega
      have hi100 : i ≤ 100 := by have := ok.few; omega
      have ep := pt_of eq
      have hal : 0 < q.al := by rw [← ep]; exact ok.al i hiq
      have s4 : Same H3 (upd H3 tt (.tup [.int (i : Nat), .ref a])) := same_new nt
      refine ⟨tt, _, rfl, sqT_of upd_same, rfl, _, _, rfl, _, _, rfl, rfl, ?_⟩
      generalize upd H3 tt (.tup [.int (i : Nat), .ref a]) = H4 at s4 ⊢
      have g4 := g3.same s4
      have s04 := g4.1
      have hq4 := s04 _ _ hq
      obtain ⟨xD, hD4⟩ := g4.at_
      refine ⟨_, rfl, _, rfl, _, rfl, _, rfl, pg, l, i, _, qs, rfl, hpl.same s04, ok, hiq, ?_⟩
      refine ⟨_, _, rfl, ?_⟩
      refine ⟨_, rfl, ixS (j := 5) (sq_tup hq4) rfl ⟨_, rfl, ?_⟩⟩
      by_cases c : q.z = true
      · rw [c]
        refine ⟨_, rfl, _, rfl, _, rfl, ixS (j := i) (sq_lst (s04 _ _ hs)) (ints_at hin) ⟨_, _, rfl, rfl, ?_⟩⟩
        have eo : MP.out (MP.fS pg qs) ns i = (MP.low pg qs i (MP.st (MP.fS pg qs) ns i).1, none) := by
          unfold MP.out MP.fS
          rw [ep, if_pos c]
        have est : MP.st (MP.fS pg qs) ns (i + 1) = (MP.low pg qs i (MP.st (MP.fS pg qs) ns i).1 + MP.sz ns i, (MP.st (MP.fS pg qs) ns i).2) := by
          show MP.nextS _ _ (MP.out (MP.fS pg qs) ns i) = _
          rw [eo]
          rfl
        refine ⟨_, rfl, .inl ⟨rfl, _, sqL_of hD4⟩, _, rfl, _, rfl, by show 2 ≤ sizeLine; decide, fun tt2 ntt2 => ?_⟩
        obtain ⟨acc, f1, f2, f3⟩ := lay_step nD g4 hi100 eo tt2 ntt2
        refine ⟨D, acc, _, rfl, rfl, f1, f2, ?_⟩
        exact ⟨⟨_, _, _, _, by rw [est]; rfl⟩, f3⟩
      · rw [Bool.eq_false_iff.mpr c]
        refine ⟨_, rfl, ?_⟩
        generalize hb : (MP.st (MP.fS pg qs) ns i).2 = b
        generalize he : (MP.st (MP.fS pg qs) ns i).1 = e
        refine ⟨fun m σ H' => H' = H4 ∧ ∃ p, σ = [some (.int pg), some (.ref l), some (.ref sa), some (.ref D), some (.int e), some (.int b), some (.int (i : Nat)), some (.ref a), some (.int (MP.low pg qs i e)), some (.int p)] ∧ b ≤ p ∧ p ≤ MP.lift b q.al 0 ∧ m = (MP.lift b q.al 0 - p).toNat, ⟨_, rfl, b, rfl, Int.le_refl _, MP.lift_ge hal, rfl⟩, ?_⟩
        rintro m σ H' ⟨rfl, p, rfl, p1, p2, rfl⟩
        refine ⟨_, rfl, _, rfl, ixS (j := 2) (sq_tup hq4) rfl ⟨_, _, rfl, rfl, (by omega : q.al ≠ 0), rfl, _, rfl, ?_⟩⟩
        have hz := MP.lift_at (r := 0) hal p1 p2
        rw [Int.sub_zero, ← MP.fmod_zero hal] at hz
        by_cases cp : p = MP.lift b q.al 0
        · rw [ne_false (hz.mpr cp)]
          subst cp
          refine ⟨_, rfl, _, rfl, _, rfl, _, _, _, rfl, ok.pos, ?_⟩
          refine ⟨_, rfl, _, rfl, _, rfl, ixS (j := i) (sq_lst (s04 _ _ hs)) (ints_at hin) ⟨_, _, rfl, rfl, ?_⟩⟩
          refine ⟨_, rfl, _, rfl, _, rfl, ixS (j := i) (sq_lst (s04 _ _ hs)) (ints_at hin) ⟨_, _, rfl, rfl, ?_⟩⟩
          have eo : MP.out (MP.fS pg qs) ns i = (MP.lift (MP.low pg qs i e) pg (MP.lift b q.al 0), some (MP.lift b q.al 0)) := by
            show MP.fS pg qs i _ _ = _
            rw [hb, he]
            unfold MP.fS
            rw [ep, if_neg c]
          have est : MP.st (MP.fS pg qs) ns (i + 1) = (MP.lift (MP.low pg qs i e) pg (MP.lift b q.al 0) + MP.sz ns i, MP.lift b q.al 0 + MP.sz ns i) := by
            show MP.nextS _ _ (MP.out (MP.fS pg qs) ns i) = _
            rw [eo]
            rfl
          refine ⟨_, rfl, .inl ⟨rfl, _, sqL_of hD4⟩, _, rfl, _, rfl, by show 2 ≤ sizeLine; decide, fun tt2 ntt2 => ?_⟩
          obtain ⟨acc, f1, f2, f3⟩ := lay_step nD g4 hi100 eo tt2 ntt2
          refine ⟨D, acc, _, rfl, rfl, f1, f2, ?_⟩
          exact ⟨⟨_, _, _, _, by rw [est]; rfl⟩, f3⟩
        · rw [ne_true fun z => cp (hz.mp z)]
          refine ⟨fun σ' H'' => H'' = H' ∧ σ' = [some (.int pg), some (.ref l), some (.ref sa), some (.ref D), some (.int e), some (.int b), some (.int (i : Nat)), some (.ref a), some (.int (MP.low pg qs i e)), some (.int (p + 1))], ?_, ?_⟩
          · rintro σ' H'' ⟨rfl, rfl⟩
            exact ⟨_, by omega, rfl, p + 1, rfl, by omega, by omega, rfl⟩
          · exact ⟨_, rfl, _, _, rfl, rfl, rfl, rfl⟩
    · rintro σ H3 ⟨⟨y6, y7, y8, y9, rfl⟩, g3⟩
      rw [List.length_map, el] at g3
      exact ⟨_, rfl, k H3 D g3.1 nD g3.lay⟩
end
end Lk
namespace Lk
open PySem PySem.Spec PyProof.Rows L2 RZ
/-- a value known by what holds of it -/
theorem te_any {t : TE} {σ : L2.St} {H : Hp} {Q : VK} (R : V → Hp → Prop) (h : ∀ Qr : VK, (∀ v H1, R v H1 → Qr v H1) → t σ H Qr) (k : ∀ v H1, R v H1 → Q v H1) : t σ H Q := h Q k
/-- a statement known by what holds behind it -/
theorem ts_any {t : TS} {D : Ends} {σ : L2.St} {H : Hp} (R : L2.St → Hp → Prop) (h : ∀ N : L2.St → Hp → Prop, (∀ σ1 H1, R σ1 H1 → N σ1 H1) → t { D with nx := N } σ H) (k : ∀ σ1 H1, R σ1 H1 → D.nx σ1 H1) : t D σ H := h D.nx k
/-! ### a list that grows while the pool at p changes -/
def GrowP {β : Type} (p : Addr) (obj : β → HO) (H1 : Hp) (D : Addr) (qs : List β) (H' : Hp) : Prop := SameBut p H1 H' ∧ ∃ as : List Addr, H' D = some (.lst (as.map V.ref)) ∧ Paired (fun a q => H' a = some (obj q)) as qs ∧ ∀ b ∈ as, b ≠ D ∧ b ≠ p ∧ H1 b = none
section
variable {β : Type} {p : Addr} {obj : β → HO} {H1 H' H2 : Hp} {D : Addr} {qs : List β}
theorem growP0 (hD : H1 D = none) : GrowP p obj H1 D [] (upd H1 D (.lst [])) := ⟨(same_new hD).but, [], upd_same, .nil, (fun b hb => nomatch hb)⟩
theorem GrowP.same (g : GrowP p obj H1 D qs H') (e : Same H' H2) : GrowP p obj H1 D qs H2 := by
  obtain ⟨a1, as, a2, a3, a4⟩ := g
  exact ⟨a1.trans e.but, as, e _ _ a2, paired_mono (fun a x z => e _ _ z) a3, a4⟩
theorem GrowP.pool (g : GrowP p obj H1 D qs H') (pD : D ≠ p) (e : SameBut p H' H2) : GrowP p obj H1 D qs H2 := by
  obtain ⟨a1, as, a2, a3, a4⟩ := g
  exact ⟨a1.trans e, as, e _ _ pD a2, paired_mem a3 fun a x ha z => e _ _ (a4 a ha).2.1 z, a4⟩
theorem GrowP.at_ (g : GrowP p obj H1 D qs H') : ∃ as : List Addr, H' D = some (.lst (as.map V.ref)) ∧ Paired (fun a q => H' a = some (obj q)) as qs := by
  obtain ⟨a1, as, a2, a3, a4⟩ := g
  exact ⟨as, a2, a3⟩
theorem GrowP.step {q : β} {u : HO} (g : GrowP p obj H1 D qs H2) (hp : H1 p = some u) (hD : H1 D = none) (hl : qs.length < 100000) (t : Addr) (nt : H2 t = none) (hp2 : ∃ o, H2 p = some o) :
    ∃ acc, (upd H2 t (obj q)) D = some (.lst acc) ∧ acc.length < sizeLine ∧ GrowP p obj H1 D (qs ++ [q]) (upd (upd H2 t (obj q)) D (.lst (acc ++ [.ref t]))) := by
  obtain ⟨s3, as, hd2, hpr, hne⟩ := g
  have ntD : D ≠ t := ne_of_none hd2 nt
  have tp : t ≠ p := fun z => by
    obtain ⟨o, ho⟩ := hp2
    rw [z, ho] at nt
    cases nt
  refine ⟨as.map V.ref, ?_, ?_, ?_⟩
  · rw [upd_ne ntD]
    exact hd2
  · rw [List.length_map, paired_len hpr, sizeLine_eq]
    omega
  · refine ⟨fun b' o' n0 e' => ?_, as ++ [t], ?_, ?_, ?_⟩
    · have n1 : b' ≠ D := ne_of_none e' hD
      have e2 := s3 _ _ n0 e'
      have n2 : b' ≠ t := ne_of_none e2 nt
      rw [upd_ne n1, upd_ne n2]
      exact e2
    · rw [upd_same, List.map_append]
      rfl
    · refine paired_snoc ?_ (paired_mem hpr fun c x hc hcq => ?_)
      · show (upd (upd H2 t (obj q)) D _) t = _
        rw [upd_ne (Ne.symm ntD), upd_same]
      · show (upd (upd H2 t (obj q)) D _) c = _
        rw [upd_ne (hne c hc).1, upd_ne (ne_of_none hcq nt)]
        exact hcq
    · intro c hc
      rcases List.mem_append.mp hc with hc | hc
      · exact hne c hc
      · cases List.mem_singleton.mp hc
        refine ⟨Ne.symm ntD, tp, ?_⟩
        cases z : H1 t with
        | none => rfl
        | some o =>
          rw [s3 t o tp z] at nt
          cases nt
end
section
variable {K : PySem.W.Frag}
/-- pick of a written list -/
theorem pick_lit {p a : Addr} {k : Nat} {xs : List V} {H1 : Hp} {Q : VK} {E : XK} (hp : Pool H1 p k) (hk : k ≤ 1000000) (na : H1 a = none) (h1 : 1 ≤ xs.length) (h2 : xs.length ≤ 1000) (q : ∀ x H2, x ∈ xs → Pool H2 p (k + 1) → SameBut p H1 H2 → Q x H2) : sp_pick K [.ref p, .ref a] (upd H1 a (.lst xs)) Q E := by
  obtain ⟨u, hu⟩ := hp.at_
  have ap : a ≠ p := fun z => by rw [z, hu] at na; cases na
  exact ⟨p, a, xs, k, rfl, hp.keeps (same_new na).keeps, hk, sq_lst upd_same, ap, h1, h2, fun x o hx hp2 => q x _ hx hp2 ((same_new na).but.trans SameBut.at_)⟩
theorem draw_of {p : Addr} {k : Nat} {m : Int} {H1 : Hp} {Q : VK} {E : XK} (hp : Pool H1 p k) (hk : k ≤ 1000000) (h1 : 1 ≤ m) (h2 : m ≤ 1000000) (q : ∀ r H2, 0 ≤ r → r < m → Pool H2 p (k + 1) → SameBut p H1 H2 → Q (.int r) H2) : sp_draw [.ref p, .int m] H1 Q E :=
  ⟨p, m, k, rfl, hp, hk, h1, h2, fun r o r0 r1 hp2 => q r _ r0 r1 hp2 SameBut.at_⟩
theorem cut_take {xs : List V} {m : Int} (h0 : 0 ≤ m) (h1 : m ≤ xs.length) : cutV xs none (some m) = xs.take m.toNat := by
  obtain ⟨k, rfl⟩ : ∃ k : Nat, m = k := ⟨m.toNat, by omega⟩
  unfold cutV
  rw [HT.sIx_nat, HT.sIx_none]
  show List.take (min k xs.length - 0) xs = xs.take k
  rw [Nat.sub_zero, Nat.min_eq_left (by omega)]
end
def W8 : List Str := ["a", "bss", "cc", "data", "e", "f", "g", "h"]
theorem W8_ok : ∀ z ∈ W8, WordOk z := by
  intro z hz
  unfold W8 at hz
  simp only [List.mem_cons, List.not_mem_nil, or_false] at hz
  rcases hz with rfl | rfl | rfl | rfl | rfl | rfl | rfl | rfl <;> exact ⟨by decide, by decide, by decide +kernel⟩
theorem W8_nd : W8.Nodup := by decide
/-- what the drawn parts keep -/
structure Drawn (pg : Int) (qs : List Part) : Prop where
  q : ∀ q ∈ qs, PartOk pg q ∧ q.hi ≤ q.lo + 1000
  adj : ∀ i p q, qs[i]? = some p → qs[i + 1]? = some q → ¬ (p.z = true ∧ q.z = false ∧ p.r = q.r)
theorem Drawn.nil {pg : Int} : Drawn pg [] := ⟨fun q hq => (by cases hq), fun i p q h => (by simp at h)⟩
theorem Drawn.snoc {pg : Int} {qs : List Part} {q : Part} (d : Drawn pg qs) (h : PartOk pg q ∧ q.hi ≤ q.lo + 1000) (ha : ∀ p, qs.getLast? = some p → ¬ (p.z = true ∧ q.z = false ∧ p.r = q.r)) : Drawn pg (qs ++ [q]) := by
  refine ⟨fun x hx => ?_, fun i x y ex ey => ?_⟩
  · rcases List.mem_append.mp hx with hx | hx
    · exact d.q x hx
    · cases List.mem_singleton.mp hx
      exact h
  · have hi := (List.getElem?_eq_some_iff.mp ey).1
    rw [List.length_append, List.length_singleton] at hi
    by_cases c : i + 1 < qs.length
    · rw [List.getElem?_append_left (by omega)] at ex
      rw [List.getElem?_append_left c] at ey
      exact d.adj i x y ex ey
    · have e : i + 1 = qs.length := by omega
      rw [List.getElem?_append_right (by omega), e, Nat.sub_self] at ey
      cases ey
      rw [List.getElem?_append_left (by omega)] at ex
      refine ha x ?_
      rw [List.getLast?_eq_getElem?, ← ex]
      congr 1
      omega
theorem Drawn.plan {pg : Int} {qs : List Part} (d : Drawn pg qs) (hp : inV (.int pg) [.int 8, .int 16, .int 32, .int 64] = true) (h1 : 1 ≤ qs.length) (h2 : qs.length ≤ 100) (hn : (qs.map Part.w).Nodup) : PlanOk pg qs := ⟨hp, h1, h2, fun q hq => (d.q q hq).1, hn, d.adj⟩
end Lk
namespace Lk
open PySem PySem.Spec PyProof.Rows L2 RZ
section
variable {P : Program} {w : World} {K : PySem.W.Frag} {mg : Str → Option Value} {base : Heap} {ad ai : Nat → Addr} {fd : Nat → FuncData}
/-- the law's drawn parts -/
def sp_parts : Sp := fun vs H Q _ => ∃ (p : Addr) (pg m sp : Int) (n : Nat), vs = [.ref p, .int pg, .int m, .int sp] ∧ Pool H p n ∧ n ≤ 100000 ∧ 8 ≤ pg ∧ pg ≤ 64 ∧ 1 ≤ m ∧ m ≤ 8 ∧ 0 ≤ sp ∧ sp ≤ 1000 ∧
  ∀ H' l qs, Pool H' p (n + 200) → GrowP p objQ H l qs H' → H l = none → (qs.length : Int) = m → (qs.map Part.w).Nodup → Drawn pg qs → Q (.ref l) H'
/-- the heap within the loop -/
def JP (p : Addr) (H : Hp) (D c : Addr) (ws : List Str) (qs : List Part) (k : Nat) (H' : Hp) : Prop := GrowP p objQ H D qs H' ∧ Pool H' p k ∧ H' c = some (.lst (ws.map V.str)) ∧ c ≠ p ∧ D ≠ p ∧ c ≠ D
theorem JP.same {p : Addr} {H : Hp} {D c : Addr} {ws : List Str} {qs : List Part} {k : Nat} {H1 H2 : Hp} (j : JP p H D c ws qs k H1) (e : Same H1 H2) : JP p H D c ws qs k H2 := ⟨j.1.same e, j.2.1.keeps e.keeps, e _ _ j.2.2.1, j.2.2.2⟩
theorem JP.pool {p : Addr} {H : Hp} {D c : Addr} {ws : List Str} {qs : List Part} {k k' : Nat} {H1 H2 : Hp} (j : JP p H D c ws qs k H1) (e : SameBut p H1 H2) (h : Pool H2 p k') : JP p H D c ws qs k' H2 := ⟨j.1.pool j.2.2.2.2.1 e, h, e _ _ j.2.2.2.1 j.2.2.1, j.2.2.2⟩
def backS : V → Str
  | .str z => z
  | _ => "a"
theorem perm_strs {ys : List V} {ws : List Str} (h : ys.Perm (ws.map V.str)) : ∃ ys' : List Str, ys = ys'.map V.str ∧ ys'.Perm ws := by
  refine ⟨ys.map backS, ?_, ?_⟩
  · rw [List.map_map]
    have e : ys.map id = ys.map (V.str ∘ backS) := List.map_congr_left fun x hx => by
      obtain ⟨z, _, rfl⟩ := List.mem_map.mp (h.mem_iff.mp hx)
      rfl
    rw [List.map_id] at e
    exact e
  · have := h.map backS
    rw [List.map_map] at this
    have e : ws.map (backS ∘ V.str) = ws := List.map_id'' (fun x => rfl) ws
    rw [e] at this
    exact this
theorem filt1 {p : Int → Bool} {v : Int} (h : p v = true) : [v].filter p = [v] := by
  rw [List.filter_cons, if_pos h]
  rfl
theorem filt0 {p : Int → Bool} {v : Int} (h : ¬ p v = true) : [v].filter p = [] := by
  rw [List.filter_cons, if_neg h]
  rfl
def R3 : List V := [.str "rx", .str "r", .str "rw"]
theorem R3_ok {v : V} (h : v ∈ R3) : ∃ z, v = .str z ∧ inV (.str z) [.str "r", .str "rw", .str "rx"] = true := by
  unfold R3 at h
  simp only [List.mem_cons, List.not_mem_nil, or_false] at h
  rcases h with rfl | rfl | rfl
  · exact ⟨_, rfl, by decide +kernel⟩
  · exact ⟨_, rfl, by decide +kernel⟩
  · exact ⟨_, rfl, by decide +kernel⟩
theorem ok_parts (T : Txt K mg ad ai fd) : FnOk P w K mg base CX0 3 (ad 32) (fd 32) ["_law_source_here", "_law_page", "_law_many", "_law_spread"] (sp_parts) := by
  have G_law_mixed : FnOk P w K mg base CX0 2 (ad 29) (fd 29) ["_law_source_here", "_law_things"] (sp_mixed K) := ok_mixed T
  have G_law_pick : FnOk P w K mg base CX0 2 (ad 28) (fd 28) ["_law_source_here", "_law_things"] (sp_pick K) := ok_pick T
  have G_law_draw : FnOk P w K mg base CX0 1 (ad 27) (fd 27) ["_law_source_here", "_law_many"] (sp_draw) := ok_draw T
  refine T.F_law_parts.ok sc_law_parts (fun vs H Q E h => ?_) (fun cdv A outer s H vs Q E hr h => ?_)
  · obtain ⟨p, pg, m, sp, n, rfl, _⟩ := h
    rfl
  · obtain ⟨p, pg, m, sp, n, rfl, hp, hn, g8, g64, m1, m8, sp0, sp1, k⟩ := h
    refine ⟨_, (pss_cons (ps_par (i := 4) (j := 5) (by rfl) sc_law_parts.nd rfl rfl (by decide) rfl rfl (pa_cons (pe_slice (sl_lst (K := K)) (pe_call G_law_mixed (hr.mono (by decide)) (by rfl) T.g_law_mixed T.F_law_mixed.kp T.b_law_mixed .nil pass0 (pa_cons (pv 0) (pa_cons (pe_lst (pa_cons pe_str (pa_cons pe_str (pa_cons pe_str (pa_cons pe_str (pa_cons pe_str (pa_cons pe_str (pa_cons pe_str (pa_cons pe_str pa_nil))))))))) pa_nil))) po_none (po_some (pv 2))) (pa_cons (pe_lst pa_nil) pa_nil)) (by rfl))
      (pss_cons (ps_set (i := 6) sc_law_parts.nd rfl (.inl rfl) (pe_call G_law_pick (hr.mono (by decide)) (by rfl) T.g_law_pick T.F_law_pick.kp T.b_law_pick .nil pass0 (pa_cons (pv 0) (pa_cons (pe_lst (pa_cons pe_str (pa_cons pe_str (pa_cons pe_str pa_nil)))) pa_nil))))
      (pss_cons (ps_for PassesOwn.never rfl (pi_seq (K := K) (pv 4)) (pg_name (i := 7) sc_law_parts.nd rfl (.inl rfl))
          (pss_cons (ps_if (pt_cmpR op_eq (pe_call G_law_draw (hr.mono (by decide)) (by rfl) T.g_law_draw T.F_law_draw.kp T.b_law_draw .nil pass0 (pa_cons (pv 0) (pa_cons pe_int pa_nil))) pe_int (nomark _)) (pss_one (ps_set (i := 6) sc_law_parts.nd rfl (.inl rfl) (pe_call G_law_pick (hr.mono (by decide)) (by rfl) T.g_law_pick T.F_law_pick.kp T.b_law_pick .nil pass0 (pa_cons (pv 0) (pa_cons (pe_lst (pa_cons pe_str (pa_cons pe_str (pa_cons pe_str pa_nil)))) pa_nil))))) pss_nil)
          (pss_cons (ps_set (i := 8) sc_law_parts.nd rfl (.inl rfl) (pe_call G_law_pick (hr.mono (by decide)) (by rfl) T.g_law_pick T.F_law_pick.kp T.b_law_pick .nil pass0 (pa_cons (pv 0) (pa_cons (pe_lst (pa_cons pe_int (pa_cons pe_int (pa_cons pe_int (pa_cons pe_int (pa_cons pe_int (pa_cons pe_int (pa_cons (pv 1) (pa_cons (pe_op op_add (pv 1) pe_int) pa_nil))))))))) pa_nil))))
          (pss_cons (ps_set (i := 9) sc_law_parts.nd rfl (.inl rfl) (pe_or (pe_cmpR op_eq (pe_call G_law_draw (hr.mono (by decide)) (by rfl) T.g_law_draw T.F_law_draw.kp T.b_law_draw .nil pass0 (pa_cons (pv 0) (pa_cons pe_int pa_nil))) pe_int (nomark _)) (pe_one (pe_and (pe_cmpR (op_neNil (K := K) (hu_of hr)) (pv 5) (pe_lst pa_nil) (nomark _)) (pe_and (pe_ix (ix_seq (K := K)) (pe_ix (ix_seq (K := K)) (pv 5) (pe_un un_neg pe_int) (fun _ _ => rfl)) pe_int (fun _ _ => rfl)) (pe_one (pe_cmpR op_eq (pe_ix (ix_seq (K := K)) (pe_ix (ix_seq (K := K)) (pv 5) (pe_un un_neg pe_int) (fun _ _ => rfl)) pe_int (fun _ _ => rfl)) (pv 6) (nomark _))))))))
          (pss_cons (ps_set (i := 10) sc_law_parts.nd rfl (.inl rfl) (pe_ix (ix_seq (K := K)) (pe_lc (own := [("_law_one", 11)]) rfl sc_law_parts.nd (pi_seq (K := K) (pe_op op_cat (pe_lst (pa_cons (pe_call G_law_pick (hr.mono (by decide)) (by rfl) T.g_law_pick T.F_law_pick.kp T.b_law_pick .nil pass0 (pa_cons (pv 0) (pa_cons (pe_lst (pa_cons pe_int (pa_cons pe_int (pa_cons pe_int (pa_cons pe_int (pa_cons pe_int (pa_cons pe_int pa_nil))))))) pa_nil))) pa_nil)) (pe_lst (pa_cons pe_int pa_nil)))) (blkOk_by (N := ["_law_source_here", "_law_page", "_law_many", "_law_spread", "_law_words", "_law_found", "_law_rights", "_law_word", "_law_least", "_law_zeros", "_law_align", "_law_one", "_law_more"]) (sc := defScope s_law_parts) (by decide +kernel)) (fun _ _ _ _ _ => (pg_name (i := 11) sc_law_parts.nd rfl (.inl rfl))) (fun _ _ _ _ _ => (pts_one (pt_cmpR op_le (pv 11) (pv 1) (nomark _)))) (fun _ _ _ _ _ => (pv 11))) pe_int (fun _ _ => rfl)))
          (pss_cons (ps_set (i := 12) sc_law_parts.nd rfl (.inl rfl) (pe_call G_law_pick (hr.mono (by decide)) (by rfl) T.g_law_pick T.F_law_pick.kp T.b_law_pick .nil pass0 (pa_cons (pv 0) (pa_cons (pe_lst (pa_cons pe_int (pa_cons pe_int (pa_cons pe_int (pa_cons (pv 3) (pa_cons (pe_call G_law_draw (hr.mono (by decide)) (by rfl) T.g_law_draw T.F_law_draw.kp T.b_law_draw .nil pass0 (pa_cons (pv 0) (pa_cons (pe_op op_add (pv 3) pe_int) pa_nil))) pa_nil)))))) pa_nil))))
          (pss_one (ps_expr (pe_bmK (K := K) PySem.F.plainAttrs_list PySem.F.slot_list_append PySem.F.type_list_append mt_append (pv 5) (pa_cons (pe_tup (pa_cons (pv 7) (pa_cons (pv 6) (pa_cons (pv 10) (pa_cons (pv 8) (pa_cons (pe_op op_add (pv 8) (pv 12)) (pa_cons (pv 9) pa_nil))))))) pa_nil))))))))))
      (pss_one (ps_ret (pv 5)))))), ?_⟩
    obtain ⟨u, hu⟩ := hp.at_
    refine ⟨_, rfl, by show 8 ≤ sizeLine; decide, fun wl nwl => ?_⟩
    have swl : Same H (upd H wl (.lst (W8.map V.str))) := same_new nwl
    refine ⟨p, wl, W8.map V.str, n, rfl, hp.keeps swl.keeps, sq_lst upd_same, by decide, by show n + 8 ≤ 1000000; omega, fun H2 ml ys sb2 hp2 nml pm hml => ?_⟩
    have sbH2 : SameBut p H H2 := swl.but.trans sb2
    obtain ⟨ys', rfl, pm'⟩ : ∃ ys' : List Str, ys = ys'.map V.str ∧ ys'.Perm W8 := by
      exact perm_strs pm
    refine ⟨_, rfl, _, rfl, _, _, rfl, sqL_of hml, fun c nc => ?_⟩
    have hlen8 : ys'.length = 8 := pm'.length_eq
    rw [cut_take (by omega) (by rw [List.length_map, hlen8]; omega), ← List.map_take]
    generalize hws : ys'.take m.toNat = ws
    have wsl : (ws.length : Int) = m := by
      rw [← hws, List.length_take, hlen8]
      omega
    have wsn : ws.Nodup := by
      rw [← hws]
      exact (pm'.nodup_iff.mpr W8_nd).sublist (List.take_sublist _ _)
    have wsk : ∀ z ∈ ws, WordOk z := fun z hz => W8_ok z (pm'.mem_iff.mp (by rw [← hws] at hz; exact List.mem_of_mem_take hz))
    obtain ⟨u2, hu2⟩ := hp2.at_
    have cp : c ≠ p := fun z => by rw [z, hu2] at nc; cases nc
    have s3 : Same H2 (upd H2 c (.lst (ws.map V.str))) := same_new nc
    have hc3 : upd H2 c (.lst (ws.map V.str)) c = some (.lst (ws.map V.str)) := upd_same
    generalize upd H2 c (.lst (ws.map V.str)) = H3 at s3 hc3 ⊢
    refine ⟨by show 0 ≤ sizeLine; decide, fun D nD => ?_⟩
    have nDp : D ≠ p := fun z => by rw [z, s3 _ _ hu2] at nD; cases nD
    have cD : c ≠ D := fun z => by rw [← z, hc3] at nD; cases nD
    have nDH : H D = none := by
      cases z : H D with
      | none => rfl
      | some o =>
        rw [s3 _ _ (sbH2 _ _ nDp z)] at nD
        cases nD
    have j4 : JP p H D c ws [] (n + 8) (upd H3 D (.lst [])) := by
      refine ⟨⟨(sbH2.trans s3.but).trans (same_new nD).but, [], upd_same, .nil, fun b hb => by cases hb⟩, ?_, ?_, cp, nDp, cD⟩
      · exact (hp2.keeps s3.keeps).keeps (same_new nD).keeps
      · rw [upd_ne cD]
        exact hc3
    try dsimp only [tNil]
    generalize upd H3 D (.lst []) = H4 at j4 ⊢
    refine ⟨_, _, rfl, ?_⟩
    refine ⟨_, rfl, by show 3 ≤ sizeLine; decide, fun r3 nr3 => ?_⟩
    try dsimp only [tNil]
    refine pick_lit j4.2.1 (by omega) nr3 (by decide) (by decide) fun rv H5 hrv hp5 sb5 => ?_
    have j5 := j4.pool sb5 hp5
    obtain ⟨rz0, rfl, hrz0⟩ := R3_ok hrv
    refine ⟨_, rfl, ?_⟩
    refine for_seq (K := K) (sq_lst j5.2.2.1) (fun i σ H' => (∃ rz y7 y8 y9 y10 y11 y12, σ = [some (.ref p), some (.int pg), some (.int m), some (.int sp), some (.ref c), some (.ref D), some (.str rz), y7, y8, y9, y10, y11, y12] ∧ inV (.str rz) [.str "r", .str "rw", .str "rx"] = true) ∧ ∃ qs, JP p H D c ws qs (n + 9 + 10 * i) H' ∧ qs.map Part.w = ws.take i ∧ Drawn pg qs) ⟨⟨rz0, _, _, _, _, _, _, rfl, hrz0⟩, [], j5, rfl, Drawn.nil⟩ (fun i σ H' h o ho => ?_) ?_ ?_
    · obtain ⟨qs, j, _⟩ := h.2
      rw [j5.2.2.1] at ho
      cases ho
      exact j.2.2.1
    · rintro i v σ H6 ev ⟨⟨rz, y7, y8, y9, y10, y11, y12, rfl, hrz⟩, qs, j6, ew, dr⟩
      obtain ⟨wd, ewd, rfl⟩ := map_at ev
      have hi8 : i < 8 := by
        have := (List.getElem?_eq_some_iff.mp ewd).1
        omega
      -- rights
      refine ts_any (t := tIfS _ _ _) (fun σ1 H1 => ∃ rz', inV (.str rz') [.str "r", .str "rw", .str "rx"] = true ∧ σ1 = [some (.ref p), some (.int pg), some (.int m), some (.int sp), some (.ref c), some (.ref D), some (.str rz'), some (.str wd), y8, y9, y10, y11, y12] ∧ JP p H D c ws qs (n + 11 + 10 * i) H1) (fun N hN => ?_) ?_
      · refine ⟨_, rfl, ?_⟩
        try dsimp only [tCons, tC, tNil]
        refine draw_of j6.2.1 (by omega) (by decide) (by decide) fun r H7 r0 r1 hp7 sb7 => ?_
        have j7 := j6.pool sb7 hp7
        refine ⟨rfl, _, rfl, ?_⟩
        refine ite2 (fun cc => ?_) (fun cc => ?_)
        · refine ⟨_, rfl, by show 3 ≤ sizeLine; decide, fun a na => ?_⟩
          try dsimp only [tNil]
          refine pick_lit j7.2.1 (by omega) na (by decide) (by decide) fun x H8 hx hp8 sb8 => ?_
          obtain ⟨z, rfl, hz⟩ := R3_ok hx
          exact hN _ _ ⟨z, hz, rfl, j7.pool sb8 (hp8.mono (by omega))⟩
        · exact hN _ _ ⟨rz, hrz, rfl, j7.pool (k' := n + 11 + 10 * i) SameBut.refl (hp7.mono (by omega))⟩
      rintro σ1 H7 ⟨rz', hrz', rfl, j7⟩
      -- least
      refine ⟨_, rfl, _, rfl, _, rfl, _, _, rfl, rfl, by show 8 ≤ sizeLine; decide, fun a na => ?_⟩
      try dsimp only [tNil]
      refine pick_lit j7.2.1 (by omega) na (by show 1 ≤ 8; decide) (by show 8 ≤ 1000; decide) fun lv H8 hlv hp8 sb8 => ?_
      obtain ⟨lo, rfl, lo0, lo1⟩ : ∃ lo : Int, lv = .int lo ∧ 0 ≤ lo ∧ lo ≤ 65 := by
        simp only [List.mem_cons, List.not_mem_nil, or_false] at hlv
        rcases hlv with rfl | rfl | rfl | rfl | rfl | rfl | rfl | rfl <;> exact ⟨_, rfl, by omega, by omega⟩
      have j8 := j7.pool sb8 hp8
      -- zeros
      refine te_any (t := tOrV _ _) (fun v H1 => ∃ b, v = .bl b ∧ (∀ q0, qs.getLast? = some q0 → ¬ (q0.z = true ∧ b = false ∧ q0.r = rz')) ∧ JP p H D c ws qs (n + 13 + 10 * i) H1) (fun Qr hq => ?_) ?_
      · refine ⟨_, rfl, ?_⟩
        try dsimp only [tCons, tC, tNil]
        refine draw_of j8.2.1 (by omega) (by decide) (by decide) fun r H9 r0 r1 hp9 sb9 => ?_
        have j9 : JP p H D c ws qs (n + 13 + 10 * i) H9 := j8.pool sb9 (hp9.mono (by omega))
        refine ⟨rfl, _, rfl, ?_⟩
        refine ite2 (fun cc => ?_) (fun cc => ?_)
        · exact hq _ _ ⟨true, rfl, fun q0 _ z => Bool.noConfusion z.2.1, j9⟩
        · refine ⟨_, rfl, by show 0 ≤ sizeLine; decide, fun e ne => ?_⟩
          have j10 := j9.same (same_new (o := .lst []) ne)
          have he : upd H9 e (.lst []) e = some (.lst []) := upd_same
          try dsimp only [tNil]
          generalize upd H9 e (.lst []) = H10 at j10 he ⊢
          obtain ⟨as, hD, hpr⟩ := j10.1.at_
          refine ⟨_, _, _, rfl, rfl, sqL_of hD, sqL_of he, _, rfl, ?_⟩
          rcases List.eq_nil_or_concat qs with rfl | ⟨qs0, q0, rfl⟩
          · have ea : as = [] := List.eq_nil_of_length_eq_zero (paired_len hpr)
            subst ea
            exact hq _ _ ⟨false, rfl, fun q0 z => (by cases z), j10⟩
          · obtain ⟨as0, a0, rfl⟩ : ∃ as0 a0, as = as0 ++ [a0] := by
              rcases List.eq_nil_or_concat as with rfl | ⟨x, y, e⟩
              · have := paired_len hpr
                simp at this
              · exact ⟨x, y, by rw [e, List.concat_eq_append]⟩
            have hl2 := paired_len hpr
            rw [List.concat_eq_append] at hpr hl2
            obtain ⟨q', eq', hq'⟩ := paired_get (i := as0.length) (x := a0) hpr (by rw [List.getElem?_append_right (by omega), Nat.sub_self]; rfl)
            have l0 : as0.length = qs0.length := by
              rw [List.length_append, List.length_append] at hl2
              simpa using hl2
            rw [l0, List.getElem?_append_right (by omega), Nat.sub_self] at eq'
            cases eq'
            have hD' : H10 D = some (.lst (as0.map V.ref ++ [.ref a0])) := by rw [hD, List.map_append]; rfl
            have hem : (!((as0 ++ [a0]).map V.ref).isEmpty) = true := by
              rw [List.map_append]
              cases as0 <;> rfl
            rw [hem]
            have hlast : ∀ qq, (qs0.concat q0).getLast? = some qq → qq = q0 := fun qq z => by
              rw [List.concat_eq_append, List.getLast?_append] at z
              exact (Option.some.inj z).symm
            refine ⟨_, rfl, _, rfl, .inl ⟨D, _, _, _, rfl, rfl, sqL_of hD', atI_last _ _, ixS (j := 5) (sq_tup hq') rfl ⟨_, rfl, ?_⟩⟩⟩
            by_cases z0 : q0.z = true
            · rw [z0]
              refine ⟨_, rfl, _, rfl, .inl ⟨D, _, _, _, rfl, rfl, sqL_of hD', atI_last _ _, ixS (j := 1) (sq_tup hq') rfl ⟨_, rfl, rfl, ?_⟩⟩⟩
              refine hq _ _ ⟨_, rfl, fun qq z y => ?_, j10⟩
              cases hlast qq z
              exact of_decide_eq_false y.2.1 (by rw [y.2.2])
            · rw [Bool.eq_false_iff.mpr z0]
              refine hq _ _ ⟨false, rfl, fun qq z y => ?_, j10⟩
              cases hlast qq z
              exact z0 y.1
      rintro zv H9 ⟨zb, rfl, hzb, j9⟩
      -- align
      dsimp only [gName]
      refine te_any (t := tOp _ _ _) (fun v H1 => ∃ al : Int, v = .int al ∧ inV (.int al) [.int 1, .int 2, .int 4, .int 8, .int 16, .int 32, .int 64] = true ∧ al ≤ pg ∧ JP p H D c ws qs (n + 14 + 10 * i) H1) (fun Qr hq => ?_) ?_
      · refine ⟨_, rfl, by show 6 ≤ sizeLine; decide, fun a na => ?_⟩
        try dsimp only [tNil]
        refine pick_lit j9.2.1 (by omega) na (by show 1 ≤ 6; decide) (by show 6 ≤ 1000; decide) fun av H10 hav hp10 sb10 => ?_
        obtain ⟨al, rfl, hal⟩ : ∃ al : Int, av = .int al ∧ inV (.int al) [.int 1, .int 2, .int 4, .int 8, .int 16, .int 32, .int 64] = true := by
          simp only [List.mem_cons, List.not_mem_nil, or_false] at hav
          rcases hav with rfl | rfl | rfl | rfl | rfl | rfl <;> exact ⟨_, rfl, by decide +kernel⟩
        have j10 : JP p H D c ws qs (n + 14 + 10 * i) H10 := j9.pool sb10 (hp10.mono (by omega))
        refine ⟨by show 1 ≤ sizeLine; decide, fun b1 nb1 => ?_⟩
        have j11 := j10.same (same_new (o := .lst [.int al]) nb1)
        have hb1 : upd H10 b1 (.lst [.int al]) b1 = some (.lst [.int al]) := upd_same
        try dsimp only [tNil]
        generalize upd H10 b1 (.lst [.int al]) = H11 at j11 hb1 ⊢
        refine ⟨by show 1 ≤ sizeLine; decide, fun b2 nb2 => ?_⟩
        have j12 := j11.same (same_new (o := .lst [.int 1]) nb2)
        have hb2 : upd H11 b2 (.lst [.int 1]) b2 = some (.lst [.int 1]) := upd_same
        have hb12 := same_new (o := .lst [.int 1]) nb2 _ _ hb1
        try dsimp only [tNil]
        generalize upd H11 b2 (.lst [.int 1]) = H12 at j12 hb2 hb12 ⊢
        refine ⟨b1, b2, _, _, rfl, rfl, hb12, hb2, by show 2 ≤ sizeLine; decide, fun b3 nb3 => ?_⟩
        have j13 := j12.same (same_new (o := .lst [.int al, .int 1]) nb3)
        have hb3 : upd H12 b3 (.lst [.int al, .int 1]) b3 = some (.lst [.int al, .int 1]) := upd_same
        dsimp only [List.cons_append, List.nil_append]
        generalize upd H12 b3 (.lst [.int al, .int 1]) = H13 at j13 hb3 ⊢
        refine lc_seq (K := K) (sq_lst hb3) (fun Dd i2 H' => Same H13 H' ∧ H' Dd = some (.lst (((([al, 1] : List Int).take i2).filter (fun v => decide (v ≤ pg))).map V.int))) (fun Dd hDd => ⟨same_new hDd, upd_same⟩) (fun Dd i2 H' _ pv => pv.1.keeps) ?_ ?_
        · intro Dd i2 x H14 hDd ex pv
          obtain ⟨v, ev2, rfl⟩ : ∃ v : Int, ([al, 1] : List Int)[i2]? = some v ∧ x = .int v := map_at (f := V.int) (l := [al, 1]) ex
          have hi2 : i2 < 2 := (List.getElem?_eq_some_iff.mp ev2).1
          refine ⟨rfl, ?_⟩
          refine ⟨_, rfl, _, rfl, _, _, rfl, rfl, _, rfl, ?_⟩
          rw [take_snoc ev2, List.filter_append, List.map_append]
          refine ite2 (fun cc => ?_) (fun cc => ?_)
          · refine ⟨_, rfl, _, pv.2, ?_, (pv.1.mut hDd), ?_⟩
            · rw [List.length_map, sizeLine_eq]
              have := List.length_filter_le (fun v => decide (v ≤ pg)) (([al, 1] : List Int).take i2)
              rw [List.length_take] at this
              have : min i2 ([al, 1] : List Int).length ≤ 2 := by omega
              omega
            · rw [upd_same, filt1 (p := fun v => decide (v ≤ pg)) cc]
              rfl
          · refine ⟨pv.1, ?_⟩
            rw [filt0 (p := fun v => decide (v ≤ pg)) cc, List.map_nil, List.append_nil]
            exact pv.2
        · intro Dd H14 hDd pv
          obtain ⟨s14, hd14⟩ := pv
          have j14 := j13.same s14
          by_cases cc : al ≤ pg
          · refine ixS (j := 0) (sq_lst hd14) (v := .int al) ?_ (hq _ _ ⟨al, rfl, hal, cc, j14⟩)
            show ((([al, 1] : List Int).filter (fun v => decide (v ≤ pg))).map V.int)[0]? = _
            rw [List.filter_cons_of_pos (by simpa using cc)]
            rfl
          · refine ixS (j := 0) (sq_lst hd14) (v := .int 1) ?_ (hq _ _ ⟨1, rfl, by decide +kernel, by omega, j14⟩)
            show ((([al, 1] : List Int).filter (fun v => decide (v ≤ pg))).map V.int)[0]? = _
            rw [List.filter_cons_of_neg (by simpa using cc), List.filter_cons_of_pos (by simp; omega)]
            rfl
      rintro alv H10 ⟨al, rfl, hal, hle, j10⟩
      -- more
      refine ⟨_, rfl, _, rfl, _, rfl, _, rfl, _, _, rfl, rfl, ?_⟩
      try dsimp only [tCons, tC, tNil]
      refine draw_of j10.2.1 (by omega) (by omega) (by omega) fun r H11 r0 r1 hp11 sb11 => ?_
      have j11 := j10.pool sb11 hp11
      refine ⟨by show 5 ≤ sizeLine; decide, fun a na => ?_⟩
      try dsimp only [tNil]
      refine pick_lit j11.2.1 (by omega) na (by show 1 ≤ 5; decide) (by show 5 ≤ 1000; decide) fun mv H12 hmv hp12 sb12 => ?_
      obtain ⟨mo, rfl, mo0, mo1⟩ : ∃ mo : Int, mv = .int mo ∧ 0 ≤ mo ∧ mo ≤ 1000 := by
        simp only [List.mem_cons, List.not_mem_nil, or_false] at hmv
        rcases hmv with rfl | rfl | rfl | rfl | rfl <;> exact ⟨_, rfl, by omega, by omega⟩
      have j12 : JP p H D c ws qs (n + 9 + 10 * (i + 1)) H12 := j11.pool sb12 (hp12.mono (by omega))
      obtain ⟨as, hD, hpr⟩ := j12.1.at_
      refine ⟨_, rfl, .inl ⟨rfl, _, sqL_of hD⟩, _, rfl, _, rfl, _, rfl, _, rfl, _, rfl, _, rfl, _, _, rfl, rfl, _, rfl, by show 6 ≤ sizeLine; decide, fun t nt => ?_⟩
      have lq : qs.length = i := by
        have := congrArg List.length ew
        rw [List.length_map, List.length_take] at this
        have := (List.getElem?_eq_some_iff.mp ewd).1
        omega
      obtain ⟨u12, hu12⟩ := j12.2.1.at_
      obtain ⟨acc, f1, f2, f3⟩ := j12.1.step (q := ⟨wd, rz', al, lo, lo + mo, zb⟩) hu nDH (by omega) t nt ⟨_, hu12⟩
      refine ⟨D, acc, _, rfl, rfl, f1, f2, ?_⟩
      refine ⟨⟨rz', _, _, _, _, _, _, rfl, hrz'⟩, _, ⟨f3, ?_, ?_, cp, nDp, cD⟩, ?_, ?_⟩
      · refine j12.2.1.keeps fun o ho => ?_
        rw [upd_ne (Ne.symm nDp), upd_ne (ne_of_none ho nt)]
        exact ho
      · rw [upd_ne cD, upd_ne (ne_of_none j12.2.2.1 nt)]
        exact j12.2.2.1
      · rw [List.map_append, ew, take_snoc ewd]
        rfl
      · exact dr.snoc ⟨⟨wsk wd (List.mem_of_getElem? ewd), hrz', hal, hle, lo0, by show lo ≤ lo + mo; omega⟩, by show lo + mo ≤ lo + 1000; omega⟩ hzb
    · rintro σ H6 ⟨⟨rz, y7, y8, y9, y10, y11, y12, rfl, hrz⟩, qs, j6, ew, dr⟩
      rw [List.length_map] at ew j6
      rw [List.take_length] at ew
      have lq : qs.length = ws.length := by rw [← ew, List.length_map]
      exact ⟨_, rfl, k H6 D qs (j6.2.1.mono (by omega)) j6.1 nDH (by omega) (by rw [ew]; exact wsn) dr⟩
end
end Lk
namespace Lk
open PySem PySem.Spec PyProof.Rows L2 RZ
section
variable {P : Program} {w : World} {K : PySem.W.Frag} {mg : Str → Option Value} {base : Heap} {ad ai : Nat → Addr} {fd : Nat → FuncData}
theorem PartsL.sb {H H' : Hp} {p l : Addr} {qs : List Part} {u : List V} (e : SameBut p H H') (hp : H p = some (.lst u)) (lp : l ≠ p) (h : PartsL H l qs) : PartsL H' l qs := by
  obtain ⟨as, h1, h2⟩ := h
  exact ⟨as, e _ _ lp h1, paired_sb e hp h2⟩
/-! ### sizes are drawn -/
def sp_ssizes : Sp := fun vs H Q _ => ∃ (p l : Addr) (qs : List Part) (n : Nat), vs = [.ref p, .ref l] ∧ Pool H p n ∧ n ≤ 100000 ∧ PartsL H l qs ∧ l ≠ p ∧ qs.length ≤ 100 ∧ (∀ q ∈ qs, q.lo ≤ q.hi ∧ q.hi ≤ q.lo + 1000) ∧ ∀ H' s ns, SameBut p H H' → Pool H' p (n + 100) → H s = none → H' s = some (.lst (ns.map V.int)) → SizesOk qs ns → Q (.ref s) H'
theorem ok_ssizes (T : Txt K mg ad ai fd) : FnOk P w K mg base CX0 2 (ad 33) (fd 33) ["_law_source_here", "_law_parts_here"] (sp_ssizes) := by
  have G_law_draw : FnOk P w K mg base CX0 1 (ad 27) (fd 27) ["_law_source_here", "_law_many"] (sp_draw) := ok_draw T
  refine T.F_law_some_sizes.ok sc_law_some_sizes (fun vs H Q E h => ?_) (fun cdv A outer s H vs Q E hr h => ?_)
  · obtain ⟨p, l, qs, n, rfl, _⟩ := h
    rfl
  · obtain ⟨p, l, qs, n, rfl, hp, hn, hpl, lp, hq, hb, k⟩ := h
    refine ⟨_, (pss_one (ps_ret (pe_lc (own := [("_law_part", 2)]) rfl sc_law_some_sizes.nd (pi_seq (K := K) (pv 1)) (blkOk_by (N := ["_law_source_here", "_law_parts_here", "_law_part"]) (sc := defScope s_law_some_sizes) (by decide +kernel)) (fun _ _ _ _ _ => (pg_name (i := 2) sc_law_some_sizes.nd rfl (.inl rfl))) (fun _ _ _ _ _ => pts_nil) (fun _ _ _ _ _ => (pe_op op_add (pe_ix (ix_seq (K := K)) (pv 2) pe_int (fun _ _ => rfl)) (pe_call G_law_draw (hr.mono (by decide)) (by rfl) T.g_law_draw T.F_law_draw.kp T.b_law_draw .nil pass0 (pa_cons (pv 0) (pa_cons (pe_op op_add (pe_op op_sub (pe_ix (ix_seq (K := K)) (pv 2) pe_int (fun _ _ => rfl)) (pe_ix (ix_seq (K := K)) (pv 2) pe_int (fun _ _ => rfl))) pe_int) pa_nil)))))))), ?_⟩
    obtain ⟨u, hu⟩ := hp.at_
    obtain ⟨as, hl, hpr⟩ := id hpl
    have el := paired_len hpr
    refine ⟨_, rfl, lc_seq (K := K) (sq_lst hl) (fun D i H' => SameBut p H H' ∧ Pool H' p (n + i) ∧ ∃ ns : List Int, H' D = some (.lst (ns.map V.int)) ∧ ns.length = i ∧ ∀ j, j < i → (MP.pt qs j).lo ≤ MP.sz ns j ∧ MP.sz ns j ≤ (MP.pt qs j).hi) (fun D hD => ⟨SameBut.refl.new hD, hp.keeps (same_new hD).keeps, [], upd_same, rfl, fun j hj => by omega⟩) (fun D i H' hD pv => pv.1.keeps lp) ?_ ?_⟩
    · rintro D i x H1 hD ex ⟨sb1, hp1, ns, hD1, hns, hbs⟩
      obtain ⟨a, ea, rfl⟩ := map_at ex
      obtain ⟨q, eq, hqa⟩ := paired_get hpr ea
      have hi := (List.getElem?_eq_some_iff.mp eq).1
      obtain ⟨b1, b2⟩ := hb q (List.mem_of_getElem? eq)
      have nDp : D ≠ p := fun z => by rw [z, hu] at hD; cases hD
      have hq1 : IsQ H1 a q := sb1 _ _ (ne_of hqa hu (by intro z; cases z)) hqa
      refine ⟨rfl, ?_⟩
      refine ⟨_, rfl, ixS (j := 3) (sq_tup hq1) rfl ?_⟩
      refine ⟨_, rfl, _, rfl, ixS (j := 4) (sq_tup hq1) rfl ⟨_, rfl, ixS (j := 3) (sq_tup hq1) rfl ⟨_, _, rfl, rfl, _, _, rfl, rfl, ?_⟩⟩⟩
      try dsimp only [tCons, tC, tNil]
      refine draw_of hp1 (by omega) (by omega) (by omega) fun r H2 r0 r1 hp2 sb2 => ?_
      refine ⟨_, _, rfl, rfl, ?_⟩
      have hD2 := sb2 _ _ nDp hD1
      refine ⟨_, hD2, ?_, ?_, ?_, ns ++ [q.lo + r], ?_, ?_, ?_⟩
      · rw [List.length_map, hns, sizeLine_eq]
        omega
      · exact (sb1.trans sb2).mut hD
      · have e1 : n + (i + 1) = n + i + 1 := by omega
        rw [e1]
        refine hp2.keeps fun o ho => ?_
        rw [upd_ne (Ne.symm nDp)]
        exact ho
      · rw [upd_same, List.map_append]
        rfl
      · rw [List.length_append, hns]
        rfl
      · intro j hj
        by_cases c : j < i
        · have e : MP.sz (ns ++ [q.lo + r]) j = MP.sz ns j := by
            unfold MP.sz
            rw [List.getD_eq_getElem?_getD, List.getD_eq_getElem?_getD, List.getElem?_append_left (by omega)]
          rw [e]
          exact hbs j c
        · have ej : j = i := by omega
          subst ej
          have e : MP.sz (ns ++ [q.lo + r]) j = q.lo + r := by
            refine sz_of ?_
            rw [List.getElem?_append_right (by omega), hns, Nat.sub_self]
            rfl
          rw [e, pt_of eq]
          exact ⟨by omega, by omega⟩
    · rintro D H1 hD ⟨sb1, hp1, ns, hD1, hns, hbs⟩
      rw [List.length_map, el] at hns hbs hp1
      exact k H1 D ns sb1 (hp1.mono (by omega)) hD hD1 ⟨hns, hbs⟩
/-! ### few sizes -/
structure Cut (q' q : Part) : Prop where
  w : q'.w = q.w
  r : q'.r = q.r
  al : q'.al = q.al
  lo : q'.lo = q.lo
  z : q'.z = q.z
  h1 : q'.lo ≤ q'.hi
  h2 : q'.hi ≤ q.hi
theorem cut_map : ∀ {qs' qs : List Part}, Paired Cut qs' qs → qs'.map Part.w = qs.map Part.w
  | _, _, .nil => rfl
  | _, _, .cons h t => by rw [List.map_cons, List.map_cons, h.w, cut_map t]
theorem cut_drawn {pg : Int} {qs' qs : List Part} (h : Paired Cut qs' qs) (d : Drawn pg qs) : Drawn pg qs' := by
  refine ⟨fun q' hq' => ?_, fun i p q ep eq z => ?_⟩
  · obtain ⟨i, hi⟩ := List.getElem?_of_mem hq'
    obtain ⟨q, eq, c⟩ := paired_get h hi
    obtain ⟨ok, b⟩ := d.q q (List.mem_of_getElem? eq)
    refine ⟨⟨by rw [c.w]; exact ok.w, by rw [c.r]; exact ok.r, by rw [c.al]; exact ok.al, by rw [c.al]; exact ok.le, by rw [c.lo]; exact ok.lo, c.h1⟩, ?_⟩
    have := c.h2
    rw [c.lo]
    omega
  · obtain ⟨p0, ep0, cp⟩ := paired_get h ep
    obtain ⟨q0, eq0, cq⟩ := paired_get h eq
    exact d.adj i p0 q0 ep0 eq0 (by rw [← cp.z, ← cq.z, ← cp.r, ← cq.r]; exact z)
def sp_few : Sp := fun vs H Q _ => ∃ (p : Addr) (mo : Int) (n : Nat), vs = [.ref p, .int mo] ∧ Pool H p n ∧ n ≤ 90000 ∧ 1 ≤ mo ∧ mo ≤ 1000000 ∧
  ∀ H' t l pg qs, SameBut p H H' → Pool H' p (n + 300) → H t = none → H' t = some (.tup [.int pg, .ref l]) → H l = none → PartsL H' l qs → PlanOk pg qs → Drawn pg qs → Q (.ref t) H'
theorem ok_few (T : Txt K mg ad ai fd) : FnOk P w K mg base CX0 4 (ad 38) (fd 38) ["_law_source_here", "_law_most"] (sp_few) := by
  have G_law_parts : FnOk P w K mg base CX0 3 (ad 32) (fd 32) ["_law_source_here", "_law_page", "_law_many", "_law_spread"] (sp_parts) := ok_parts T
  have G_law_pick : FnOk P w K mg base CX0 2 (ad 28) (fd 28) ["_law_source_here", "_law_things"] (sp_pick K) := ok_pick T
  have G_law_draw : FnOk P w K mg base CX0 1 (ad 27) (fd 27) ["_law_source_here", "_law_many"] (sp_draw) := ok_draw T
  refine T.F_law_few.ok sc_law_few (fun vs H Q E h => ?_) (fun cdv A outer s H vs Q E hr h => ?_)
  · obtain ⟨p, mo, n, rfl, _⟩ := h
    rfl
  · obtain ⟨p, mo, n, rfl, hp, hn, mo1, mo2, k⟩ := h
    refine ⟨_, (pss_cons (ps_par (i := 2) (j := 3) (by rfl) sc_law_few.nd rfl rfl (by decide) rfl rfl (pa_cons (pe_call G_law_pick (hr.mono (by decide)) (by rfl) T.g_law_pick T.F_law_pick.kp T.b_law_pick .nil pass0 (pa_cons (pv 0) (pa_cons (pe_lst (pa_cons pe_int (pa_cons pe_int (pa_cons pe_int (pa_cons pe_int pa_nil))))) pa_nil))) (pa_cons (pe_op op_add pe_int (pe_call G_law_draw (hr.mono (by decide)) (by rfl) T.g_law_draw T.F_law_draw.kp T.b_law_draw .nil pass0 (pa_cons (pv 0) (pa_cons pe_int pa_nil)))) pa_nil)) (by rfl))
      (pss_cons (ps_par3 (i := 4) (j := 5) (l := 6) (by rfl) sc_law_few.nd rfl rfl rfl (by decide) (by decide) (by decide) rfl rfl rfl (pa_cons (pe_lst pa_nil) (pa_cons pe_int (pa_cons pe_int pa_nil))) (by rfl))
      (pss_cons (ps_for PassesOwn.never rfl (pi_seq (K := K) (pe_call G_law_parts (hr.mono (by decide)) (by rfl) T.g_law_parts T.F_law_parts.kp T.b_law_parts .nil pass0 (pa_cons (pv 0) (pa_cons (pv 2) (pa_cons (pv 3) (pa_cons (pe_call G_law_pick (hr.mono (by decide)) (by rfl) T.g_law_pick T.F_law_pick.kp T.b_law_pick .nil pass0 (pa_cons (pv 0) (pa_cons (pe_lst (pa_cons pe_int (pa_cons pe_int (pa_cons pe_int pa_nil)))) pa_nil))) pa_nil)))))) (pg_name (i := 7) sc_law_few.nd rfl (.inl rfl))
          (pss_cons (ps_set (i := 8) sc_law_few.nd rfl (.inl rfl) (pe_op op_add (pe_op op_sub (pe_ix (ix_seq (K := K)) (pv 7) pe_int (fun _ _ => rfl)) (pe_ix (ix_seq (K := K)) (pv 7) pe_int (fun _ _ => rfl))) pe_int))
          (pss_cons (ps_set (i := 9) sc_law_few.nd rfl (.inl rfl) (pe_and (pe_cmpR op_le (pe_op op_mul (pv 5) (pv 8)) (pv 1) (nomark _)) (pe_one (pe_or (pe_cmpR op_eq (pv 8) pe_int (nomark _)) (pe_one (pe_cmpR op_lt (pv 6) pe_int (nomark _)))))))
          (pss_cons (ps_expr (pe_bmK (K := K) PySem.F.plainAttrs_list PySem.F.slot_list_append PySem.F.type_list_append mt_append (pv 4) (pa_cons (pe_ifExp (pt_val (pv 9)) (pv 7) (pe_op op_catT (pe_slice sl_tup (pv 7) po_none (po_some pe_int)) (pe_tup (pa_cons (pe_ix (ix_seq (K := K)) (pv 7) pe_int (fun _ _ => rfl)) (pa_cons (pe_ix (ix_seq (K := K)) (pv 7) pe_int (fun _ _ => rfl)) pa_nil))))) pa_nil)))
          (pss_one (ps_par (i := 5) (j := 6) (by rfl) sc_law_few.nd rfl rfl (by decide) rfl rfl (pa_cons (pe_op op_mul (pv 5) (pe_ifExp (pt_val (pv 9)) (pv 8) pe_int)) (pa_cons (pe_op op_add (pv 6) (pe_callTy call_int1 (by rfl) T.n_int (by decide +kernel) (pa_cons (pe_and (pv 9) (pe_one (pe_cmpR op_gt (pv 8) pe_int (nomark _)))) pa_nil))) pa_nil)) (by rfl)))))))
      (pss_one (ps_ret (pe_tup (pa_cons (pv 2) (pa_cons (pv 4) pa_nil)))))))), ?_⟩
    obtain ⟨u, hu⟩ := hp.at_
    refine ⟨_, rfl, by show 4 ≤ sizeLine; decide, fun a na => ?_⟩
    try dsimp only [tNil]
    refine pick_lit hp (by omega) na (by show 1 ≤ 4; decide) (by show 4 ≤ 1000; decide) fun pv H1 hpv hp1 sb1 => ?_
    obtain ⟨pg, rfl, hpg, g8, g64⟩ : ∃ pg : Int, pv = .int pg ∧ inV (.int pg) [.int 8, .int 16, .int 32, .int 64] = true ∧ 8 ≤ pg ∧ pg ≤ 64 := by
      simp only [List.mem_cons, List.not_mem_nil, or_false] at hpv
      rcases hpv with rfl | rfl | rfl | rfl <;> exact ⟨_, rfl, by decide +kernel, by decide, by decide⟩
    refine ⟨_, rfl, ?_⟩
    try dsimp only [tCons, tC, tNil]
    refine draw_of hp1 (by omega) (by decide) (by decide) fun r H2 r0 r1 hp2 sb2 => ?_
    have sbH2 := sb1.trans sb2
    refine ⟨_, _, rfl, rfl, _, _, rfl, ?_⟩
    refine ⟨by show 0 ≤ sizeLine; decide, fun D nD => ?_⟩
    have sD : Same H2 (upd H2 D (.lst [])) := same_new nD
    have hD3 : upd H2 D (.lst []) D = some (.lst []) := upd_same
    try dsimp only [tNil]
    generalize upd H2 D (.lst []) = H3 at sD hD3 ⊢
    refine ⟨_, _, _, rfl, ?_⟩
    have hp3 := hp2.keeps sD.keeps
    obtain ⟨u3, hu3⟩ := hp3.at_
    obtain ⟨u2, hu2⟩ := hp2.at_
    have nDp : D ≠ p := fun z => by rw [z, hu2] at nD; cases nD
    have nDH : H D = none := by
      cases z : H D with
      | none => rfl
      | some o =>
        rw [sbH2 _ _ nDp z] at nD
        cases nD
    refine ⟨_, rfl, _, rfl, _, rfl, _, rfl, by show 3 ≤ sizeLine; decide, fun a3 na3 => ?_⟩
    show sp_pick K [V.ref p, V.ref a3] (upd H3 a3 (.lst [.int 2, .int 4, .int 9])) _ E0
    refine pick_lit hp3 (by omega) na3 (by show 1 ≤ 3; decide) (by show 3 ≤ 1000; decide) fun sv H4 hsv hp4 sb4 => ?_
    obtain ⟨sp, rfl, sp0, sp1⟩ : ∃ sp : Int, sv = .int sp ∧ 0 ≤ sp ∧ sp ≤ 9 := by
      simp only [List.mem_cons, List.not_mem_nil, or_false] at hsv
      rcases hsv with rfl | rfl | rfl <;> exact ⟨_, rfl, by decide, by decide⟩
    refine ⟨p, pg, 1 + r, sp, _, rfl, hp4, by omega, g8, g64, by omega, by omega, sp0, by omega, fun H5 l qs hp5 g5 nl lq nd dr => ?_⟩
    have hD4 := sb4 _ _ nDp hD3
    have hD5 := g5.1 _ _ nDp hD4
    obtain ⟨_, as, hl5, hpr5, hne5⟩ := id g5
    have el := paired_len hpr5
    have lD : l ≠ D := fun z => by rw [z, hD4] at nl; cases nl
    obtain ⟨u4, hu4⟩ := hp4.at_
    have lp : l ≠ p := fun z => by rw [z, hu4] at nl; cases nl
    have sbH5 : SameBut p H H5 := (sbH2.trans sD.but).trans (sb4.trans g5.1)
    have nlH : H l = none := by
      cases z : H l with
      | none => rfl
      | some o =>
        rw [sb4 _ _ lp (sD _ _ (sbH2 _ _ lp z))] at nl
        cases nl
    refine for_seq (K := K) (sq_lst hl5) (fun i σ H' => (∃ wh fr y7 y8 y9, σ = [some (.ref p), some (.int mo), some (.int pg), some (.int (1 + r)), some (.ref D), some (.int wh), some (.int fr), y7, y8, y9] ∧ 1 ≤ wh ∧ wh ≤ mo) ∧ SameBut D H5 H' ∧ ∃ as' qs', H' D = some (.lst (as'.map V.ref)) ∧ Paired (IsQ H') as' qs' ∧ Paired Cut qs' (qs.take i)) ⟨⟨1, 0, none, none, none, rfl, by omega, mo1⟩, SameBut.refl, [], [], hD5, .nil, .nil⟩ (fun i σ H' h => h.2.1.keeps lD) ?_ ?_
    · rintro i v σ H6 ev ⟨⟨wh, fr, y7, y8, y9, rfl, wh1, wh2⟩, sb6, as', qs', hD6, hpr6, hcut⟩
      obtain ⟨a6, ea6, rfl⟩ := map_at ev
      obtain ⟨q, eq, hq5⟩ := paired_get hpr5 ea6
      obtain ⟨okq, hb⟩ := dr.q q (List.mem_of_getElem? eq)
      have hlh := okq.hi
      have a6D : a6 ≠ D := ne_of hq5 hD5 (by intro z; cases z)
      have hq6 : IsQ H6 a6 q := sb6 _ _ a6D hq5
      have hi : i < qs.length := (List.getElem?_eq_some_iff.mp eq).1
      have lens := paired_len hcut
      rw [List.length_take] at lens
      have lens2 := paired_len hpr6
      have h8 : qs.length ≤ 8 := by omega
      have lacc : (as'.map V.ref).length < sizeLine := by
        rw [List.length_map, lens2, sizeLine_eq]
        omega
      -- wide
      refine ⟨_, rfl, ixS (j := 4) (sq_tup hq6) rfl ⟨_, rfl, ixS (j := 3) (sq_tup hq6) rfl ⟨_, _, rfl, rfl, _, _, rfl, rfl, ?_⟩⟩⟩
      dsimp only [gName]
      -- is_kept
      refine te_any (t := tAndV _ _) (fun v H1 => ∃ b, v = .bl b ∧ H1 = H6 ∧ (b = true → wh * (q.hi - q.lo + 1) ≤ mo)) (fun Qr hq => ?_) ?_
      · refine ⟨_, rfl, _, rfl, _, _, rfl, rfl, .inl ⟨by omega, by omega⟩, _, rfl, _, _, rfl, rfl, _, rfl, ?_⟩
        refine ite2 (fun c => ?_) (fun c => ?_)
        · have c1 := of_decide_eq_true c
          refine ⟨_, rfl, rfl, _, rfl, ?_⟩
          refine ite2 (fun c2 => ?_) (fun c2 => ?_)
          · exact hq _ _ ⟨true, rfl, rfl, fun _ => c1⟩
          · exact ⟨_, rfl, _, _, rfl, rfl, hq _ _ ⟨_, rfl, rfl, fun _ => c1⟩⟩
        · exact hq _ _ ⟨false, rfl, rfl, fun z => Bool.noConfusion z⟩
      rintro kv H6' ⟨kb, rfl, rfl, hkb⟩
      dsimp only [gName]
      -- what is appended
      refine ⟨_, rfl, .inl ⟨rfl, _, sqL_of hD6⟩, ?_⟩
      refine te_any (t := tIf _ _ _) (fun v H1 => ∃ b7 q', v = .ref b7 ∧ SameBut D H5 H1 ∧ H1 D = some (.lst (as'.map V.ref)) ∧ Paired (IsQ H1) as' qs' ∧ IsQ H1 b7 q' ∧ Cut q' q) (fun Qr hq => ?_) ?_
      · refine ⟨_, rfl, _, rfl, ?_⟩
        refine ite2 (fun c => ?_) (fun c => ?_)
        · exact ⟨_, rfl, hq _ _ ⟨a6, q, rfl, sb6, hD6, hpr6, hq6, ⟨rfl, rfl, rfl, rfl, rfl, hlh, Int.le_refl _⟩⟩⟩
        · refine ⟨_, rfl, _, rfl, a6, _, rfl, sqT_of hq6, (by show ¬ (HT.sIx 6 0 none = 0 ∧ HT.sIx 6 6 (some 4) = 6); decide), fun c1 nc1 => ?_⟩
          rw [cut_take (by decide) (by show (4 : Int) ≤ 6; decide)]
          have s7 := same_new (o := .tup [.str q.w, .str q.r, .int q.al, .int q.lo]) nc1
          have hc7 : upd H6' c1 (.tup [.str q.w, .str q.r, .int q.al, .int q.lo]) c1 = some (.tup [.str q.w, .str q.r, .int q.al, .int q.lo]) := upd_same
          show _
          dsimp only [List.take, Int.toNat]
          generalize upd H6' c1 (.tup [.str q.w, .str q.r, .int q.al, .int q.lo]) = H7 at s7 hc7 ⊢
          have hq7 := s7 _ _ hq6
          refine ⟨_, rfl, ixS (j := 3) (sq_tup hq7) rfl ⟨_, rfl, ixS (j := 5) (sq_tup hq7) rfl ⟨by show 2 ≤ sizeLine; decide, fun c2 nc2 => ?_⟩⟩⟩
          have s8 := same_new (o := .tup [.int q.lo, .bl q.z]) nc2
          have hc8 : upd H7 c2 (.tup [.int q.lo, .bl q.z]) c2 = some (.tup [.int q.lo, .bl q.z]) := upd_same
          try dsimp only [tNil]
          generalize upd H7 c2 (.tup [.int q.lo, .bl q.z]) = H8 at s8 hc8 ⊢
          refine ⟨c1, c2, _, _, rfl, rfl, sqT_of (s8 _ _ hc7), sqT_of hc8, (by intro z; cases z), by show 6 ≤ sizeLine; decide, (fun z => by cases z), fun _ c3 nc3 => ?_⟩
          have s9 := same_new (o := objQ ⟨q.w, q.r, q.al, q.lo, q.lo, q.z⟩) nc3
          have s69 := (s7.trans s8).trans s9
          exact hq _ _ ⟨c3, ⟨q.w, q.r, q.al, q.lo, q.lo, q.z⟩, rfl, sb6.trans s69.but, s69 _ _ hD6, paired_same s69 hpr6, upd_same, ⟨rfl, rfl, rfl, rfl, rfl, Int.le_refl _, hlh⟩⟩
      rintro bv H7 ⟨b7, q', rfl, sb7, hD7, hpr7, hb7, ct⟩
      refine ⟨D, _, _, rfl, rfl, hD7, lacc, ?_⟩
      have nx2 : SameBut D H5 (upd H7 D (.lst (as'.map V.ref ++ [.ref b7]))) ∧ ∃ as2 qs2, (upd H7 D (.lst (as'.map V.ref ++ [.ref b7]))) D = some (.lst (as2.map V.ref)) ∧ Paired (IsQ (upd H7 D (.lst (as'.map V.ref ++ [.ref b7])))) as2 qs2 ∧ Paired Cut qs2 (qs.take (i + 1)) := by
        have mv : ∀ (b : Addr) (x : Part), IsQ H7 b x → IsQ (upd H7 D (.lst (as'.map V.ref ++ [.ref b7]))) b x := fun b x z => by
          show upd H7 D _ b = _
          rw [upd_ne (ne_of z hD7 (by intro z; cases z))]
          exact z
        refine ⟨sb7.trans SameBut.at_, as' ++ [b7], qs' ++ [q'], ?_, ?_, ?_⟩
        · rw [upd_same, List.map_append]
          rfl
        · exact paired_snoc (mv _ _ hb7) (paired_mono mv hpr7)
        · rw [take_snoc eq]
          exact paired_snoc ct hcut
      generalize upd H7 D (.lst (as'.map V.ref ++ [.ref b7])) = H8 at nx2 ⊢
      -- whole, free
      have hw : 1 ≤ q.hi - q.lo + 1 := by omega
      cases kb with
      | true =>
        have := hkb rfl
        have hpos : 0 < wh * (q.hi - q.lo + 1) := Int.mul_pos (by omega) (by omega)
        refine ⟨_, rfl, _, rfl, _, rfl, _, rfl, _, _, rfl, rfl, .inl ⟨by omega, by omega⟩, ?_⟩
        refine ⟨_, rfl, _, rfl, _, rfl, _, rfl, _, _, rfl, rfl, .inr ⟨_, rfl, _, _, rfl, rfl, _, _, rfl, ?_⟩⟩
        exact ⟨⟨_, _, _, _, _, rfl, by omega, this⟩, nx2⟩
      | false =>
        refine ⟨_, rfl, _, rfl, _, rfl, _, _, rfl, rfl, .inl ⟨by omega, by omega⟩, ?_⟩
        refine ⟨_, rfl, _, rfl, _, rfl, .inr ⟨_, rfl, _, _, rfl, rfl, _, _, rfl, ?_⟩⟩
        exact ⟨⟨_, _, _, _, _, rfl, by omega, by omega⟩, nx2⟩
    · rintro σ H6 ⟨⟨wh, fr, y7, y8, y9, rfl, wh1, wh2⟩, sb6, as', qs', hD6, hpr6, hcut⟩
      rw [List.length_map, el, List.take_length] at hcut
      have l2 := paired_len hcut
      refine ⟨_, rfl, _, rfl, by show 2 ≤ sizeLine; decide, fun t nt => ?_⟩
      have st := same_new (o := .tup [.int pg, .ref D]) nt
      have sb56 : SameBut p H H6 := fun b o nb hb => sb6 _ _ (fun z => by rw [z, nDH] at hb; cases hb) (sbH5 _ _ nb hb)
      have pD : p ≠ D := Ne.symm nDp
      have hp6 := hp5.keeps (sb6.keeps pD)
      have ntH : H t = none := by
        obtain ⟨u6, hu6⟩ := hp6.at_
        exact sb56.free hu6 nt
      have dr' := cut_drawn hcut dr
      refine k _ t D pg qs' (sb56.trans st.but) ((hp6.keeps st.keeps).mono (by omega)) ntH upd_same nDH ⟨as', st _ _ hD6, paired_same st hpr6⟩ ?_ dr'
      exact dr'.plan hpg (by omega) (by omega) (by rw [cut_map hcut]; exact nd)
end
end Lk
namespace Lk
open PySem PySem.Spec PyProof.Rows L2 RZ
namespace MP
theorem fD_congr {pg : Int} {qs : List Part} {ns : List Int} {k j k' j' : Nat → Int} {i : Nat} (h : ∀ x, x < i → k x = k' x ∧ j x = j' x) : ∀ x, x ≤ i → st (fD pg qs k j) ns x = st (fD pg qs k' j') ns x
  | 0, _ => rfl
  | x + 1, hx => by
    have ih := fD_congr (pg := pg) (qs := qs) (ns := ns) h x (by omega)
    obtain ⟨h1, h2⟩ := h x (by omega)
    show nextS _ _ (fD pg qs k j x _ _) = nextS _ _ (fD pg qs k' j' x _ _)
    rw [ih]
    unfold fD
    rw [h1, h2]
theorem lay_congr {pg : Int} {qs : List Part} {ns : List Int} {k j k' j' : Nat → Int} {i : Nat} (h : ∀ x, x < i → k x = k' x ∧ j x = j' x) : lay (fD pg qs k j) ns i = lay (fD pg qs k' j') ns i := by
  unfold lay
  refine List.map_congr_left fun x hx => ?_
  have hx' := List.mem_range.mp hx
  obtain ⟨h1, h2⟩ := h x hx'
  unfold out
  rw [fD_congr (pg := pg) (qs := qs) (ns := ns) h x (by omega)]
  unfold fD
  rw [h1, h2]
def put (k : Nat → Int) (i : Nat) (v : Int) : Nat → Int := fun x => if x = i then v else k x
theorem put_lt {k : Nat → Int} {i x : Nat} {v : Int} (h : x < i) : put k i v x = k x := if_neg (by omega)
theorem put_at {k : Nat → Int} {i : Nat} {v : Int} : put k i v i = v := if_pos rfl
theorem put_nn {k : Nat → Int} {i : Nat} {v : Int} (h : ∀ x, 0 ≤ k x) (hv : 0 ≤ v) : ∀ x, 0 ≤ put k i v x := fun x => by
  unfold put
  split
  · exact hv
  · exact h x
end MP
section
variable {P : Program} {w : World} {K : PySem.W.Frag} {mg : Str → Option Value} {base : Heap} {ad ai : Nat → Addr} {fd : Nat → FuncData}
def sp_rlay : Sp := fun vs H Q _ => ∃ (p : Addr) (pg : Int) (l s : Addr) (qs : List Part) (ns : List Int) (n : Nat), vs = [.ref p, .int pg, .ref l, .ref s] ∧ Pool H p n ∧ n ≤ 90000 ∧ l ≠ p ∧ s ≠ p ∧ PartsL H l qs ∧ PartsOk pg qs ∧ H s = some (.lst (ns.map V.int)) ∧ ns.length = qs.length ∧ ∀ H' r kf jf, (∀ i, 0 ≤ kf i) → (∀ i, 0 ≤ jf i) → SameBut p H H' → Pool H' p (n + 200) → H r = none → LayAt H' r (MP.lay (MP.fD pg qs kf jf) ns qs.length) → Q (.ref r) H'
theorem layP_step {f : MP.Way} {ns : List Int} {i : Nat} {p : Addr} {H H4 : Hp} {D : Addr} {a : Int} {o : Option Int} {u : HO} (hu : H p = some u) (nD : H D = none) (g : GrowP p objL H D (MP.lay f ns i) H4) (hi : i ≤ 100) (eo : MP.out f ns i = (a, o)) (t : Addr) (nt : H4 t = none) (hp : ∃ o, H4 p = some o) :
    ∃ acc, (upd H4 t (.tup [.int a, offV o])) D = some (.lst acc) ∧ acc.length < sizeLine ∧ GrowP p objL H D (MP.lay f ns (i + 1)) (upd (upd H4 t (.tup [.int a, offV o])) D (.lst (acc ++ [.ref t]))) := by
  have := GrowP.step (obj := objL) (q := (a, o)) g hu nD (by rw [lay_len]; omega) t nt hp
  rw [lay_succ, eo]
  exact this
theorem Pool.upd2 {p : Addr} {n : Nat} {H : Hp} {t D : Addr} {o o2 : HO} (h : Pool H p n) (nt : H t = none) (Dp : D ≠ p) : Pool (upd (upd H t o) D o2) p n := h.keeps fun u hu => by
  rw [upd_ne (Ne.symm Dp), upd_ne (ne_of_none hu nt)]
  exact hu
theorem ok_rlay (T : Txt K mg ad ai fd) : FnOk P w K mg base CX0 3 (ad 37) (fd 37) ["_law_source_here", "_law_page", "_law_parts_here", "_law_sizes"] (sp_rlay) := by
  have G_law_lowest : FnOk P w K mg base CX0 1 (ad 34) (fd 34) ["_law_page", "_law_parts_here", "_law_k", "_law_end"] (sp_llow) := ok_llow T
  have G_law_same_rest : FnOk P w K mg base CX0 1 (ad 36) (fd 36) ["_law_page", "_law_start", "_law_place"] (sp_lrest) := ok_lrest T
  have G_law_pick : FnOk P w K mg base CX0 2 (ad 28) (fd 28) ["_law_source_here", "_law_things"] (sp_pick K) := ok_pick T
  refine T.F_law_right_layout.ok sc_law_right_layout (fun vs H Q E h => ?_) (fun cdv A outer s H vs Q E hr h => ?_)
  · obtain ⟨p, pg, l, s, qs, ns, n, rfl, _⟩ := h
    rfl
  · obtain ⟨p, pg, l, sa, qs, ns, n, rfl, hp, hn90, lp, sap, hpl, ok, hs, hn, k⟩ := h
    refine ⟨_, (pss_cons (ps_par3 (i := 4) (j := 5) (l := 6) (by rfl) sc_law_right_layout.nd rfl rfl rfl (by decide) (by decide) (by decide) rfl rfl rfl (pa_cons (pe_lst pa_nil) (pa_cons pe_int (pa_cons pe_int pa_nil))) (by rfl))
      (pss_cons (ps_for PassesOwn.never rfl (pi_enumS (K := K) (by rfl) T.n_enumerate (pa_cons (pv 2) pa_nil)) (pg_tp (K := K) (n := 2) rfl (pgs_cons (pg_name (i := 7) sc_law_right_layout.nd rfl (.inl rfl)) (pgs_cons (pg_name (i := 8) sc_law_right_layout.nd rfl (.inl rfl)) pgs_nil)))
          (pss_cons (ps_par (i := 9) (j := 10) (by rfl) sc_law_right_layout.nd rfl rfl (by decide) rfl rfl (pa_cons (pe_op op_add (pe_call G_law_lowest (hr.mono (by decide)) (by rfl) T.g_law_lowest T.F_law_lowest.kp T.b_law_lowest .nil pass0 (pa_cons (pv 1) (pa_cons (pv 2) (pa_cons (pv 7) (pa_cons (pv 5) pa_nil))))) (pe_op op_mul (pe_ix (ix_seq (K := K)) (pv 8) pe_int (fun _ _ => rfl)) (pe_call G_law_pick (hr.mono (by decide)) (by rfl) T.g_law_pick T.F_law_pick.kp T.b_law_pick .nil pass0 (pa_cons (pv 0) (pa_cons (pe_lst (pa_cons pe_int (pa_cons pe_int (pa_cons pe_int (pa_cons pe_int pa_nil))))) pa_nil))))) (pa_cons pe_non pa_nil)) (by rfl))
          (pss_cons (ps_if (pt_not (pt_val (pe_ix (ix_seq (K := K)) (pv 8) pe_int (fun _ _ => rfl)))) (pss_cons (ps_set (i := 10) sc_law_right_layout.nd rfl (.inl rfl) (pe_op op_add (pe_call G_law_same_rest (hr.mono (by decide)) (by rfl) T.g_law_same_rest T.F_law_same_rest.kp T.b_law_same_rest .nil pass0 (pa_cons (pv 1) (pa_cons (pv 6) (pa_cons (pv 9) pa_nil)))) (pe_op op_mul (pv 1) (pe_call G_law_pick (hr.mono (by decide)) (by rfl) T.g_law_pick T.F_law_pick.kp T.b_law_pick .nil pass0 (pa_cons (pv 0) (pa_cons (pe_lst (pa_cons pe_int (pa_cons pe_int (pa_cons pe_int (pa_cons pe_int pa_nil))))) pa_nil))))))
              (pss_one (ps_set (i := 6) sc_law_right_layout.nd rfl (.inl rfl) (pe_op op_add (pv 10) (pe_ix (ix_seq (K := K)) (pv 3) (pv 7) (fun _ _ => rfl)))))) pss_nil)
          (pss_cons (ps_set (i := 5) sc_law_right_layout.nd rfl (.inl rfl) (pe_op op_add (pv 9) (pe_ix (ix_seq (K := K)) (pv 3) (pv 7) (fun _ _ => rfl))))
          (pss_one (ps_expr (pe_bmK (K := K) PySem.F.plainAttrs_list PySem.F.slot_list_append PySem.F.type_list_append mt_append (pv 4) (pa_cons (pe_tup (pa_cons (pv 9) (pa_cons (pv 10) pa_nil))) pa_nil))))))))
      (pss_one (ps_ret (pv 4))))), ?_⟩
    obtain ⟨u, hu⟩ := hp.at_
    refine ⟨by show 0 ≤ sizeLine; decide, fun D nD => ?_⟩
    have g2 : GrowP p objL H D [] (upd H D (.lst [])) := growP0 nD
    have hp2 : Pool (upd H D (.lst [])) p n := hp.keeps (same_new nD).keeps
    have nDp : D ≠ p := fun z => by rw [z, hu] at nD; cases nD
    generalize upd H D (.lst []) = H2 at g2 hp2 ⊢
    refine ⟨_, _, _, rfl, ?_⟩
    obtain ⟨as, hl, hpr⟩ := id hpl
    have el := paired_len hpr
    refine ⟨_, rfl, ?_⟩
    refine for_enum (K := K) (sq_lst (g2.1 _ _ lp hl)) (fun i σ H' => ∃ kf jf, (∀ i, 0 ≤ kf i) ∧ (∀ i, 0 ≤ jf i) ∧ (∃ y7 y8 y9 y10, σ = [some (.ref p), some (.int pg), some (.ref l), some (.ref sa), some (.ref D), some (.int (MP.st (MP.fD pg qs kf jf) ns i).1), some (.int (MP.st (MP.fD pg qs kf jf) ns i).2), y7, y8, y9, y10]) ∧ GrowP p objL H D (MP.lay (MP.fD pg qs kf jf) ns i) H' ∧ Pool H' p (n + 2 * i)) ⟨fun _ => 0, fun _ => 0, fun _ => Int.le_refl _, fun _ => Int.le_refl _, ⟨none, none, none, none, rfl⟩, g2, hp2⟩ (fun i σ H' h o ho => ?_) ?_ ?_
    · obtain ⟨kf, jf, _, _, _, g, _⟩ := h
      rw [g2.1 _ _ lp hl] at ho
      cases ho
      exact g.1 _ _ lp hl
    · rintro i v σ H3 tt ev ⟨kf, jf, kf0, jf0, ⟨y7, y8, y9, y10, rfl⟩, g3, hp3⟩ nt
      obtain ⟨a, ea, rfl⟩ := map_at ev
      obtain ⟨q, eq, hq⟩ := paired_get hpr ea
      have hiq := (List.getElem?_eq_some_iff.mp eq).1
      have hin : i < ns.length := by omega
      have hi100 : i ≤ 100 := by have := ok.few; omega
      have ep := pt_of eq
      have s4 : Same H3 (upd H3 tt (.tup [.int (i : Nat), .ref a])) := same_new nt
      refine ⟨tt, _, rfl, sqT_of upd_same, rfl, _, _, rfl, _, _, rfl, rfl, ?_⟩
      generalize upd H3 tt (.tup [.int (i : Nat), .ref a]) = H4 at s4 ⊢
      have g4 := g3.same s4
      have hp4 := hp3.keeps s4.keeps
      have ap : a ≠ p := ne_of hq hu (by intro z; cases z)
      have hq4 : IsQ H4 a q := g4.1 _ _ ap hq
      have hpl4 := hpl.sb g4.1 hu lp
      refine ⟨_, rfl, _, rfl, _, rfl, _, rfl, pg, l, i, _, qs, rfl, hpl4, ok, hiq, ?_⟩
      refine ⟨_, rfl, ixS (j := 2) (sq_tup hq4) rfl ⟨_, rfl, by show 4 ≤ sizeLine; decide, fun a3 na3 => ?_⟩⟩
      try dsimp only [tNil]
      refine pick_lit hp4 (by omega) na3 (by show 1 ≤ 4; decide) (by show 4 ≤ 1000; decide) fun kv H5 hkv hp5 sb5 => ?_
      obtain ⟨kk, rfl, kk0, kk1⟩ : ∃ kk : Int, kv = .int kk ∧ 0 ≤ kk ∧ kk ≤ 3 := by
        simp only [List.mem_cons, List.not_mem_nil, or_false] at hkv
        rcases hkv with rfl | rfl | rfl | rfl <;> exact ⟨_, rfl, by decide, by decide⟩
      have g5 := g4.pool nDp sb5
      refine ⟨_, _, rfl, rfl, .inr ⟨by omega, by omega⟩, _, _, rfl, rfl, _, _, rfl, ?_⟩
      have hq5 : IsQ H5 a q := g5.1 _ _ ap hq
      have hs5 := g5.1 _ _ sap hs
      obtain ⟨u5, hu5⟩ := hp5.at_
      generalize he : (MP.st (MP.fD pg qs kf jf) ns i).1 = e
      generalize hb : (MP.st (MP.fD pg qs kf jf) ns i).2 = b
      have cg : ∀ jv x, x < i → kf x = MP.put kf i kk x ∧ jf x = MP.put jf i jv x := fun jv x hx => ⟨(MP.put_lt hx).symm, (MP.put_lt hx).symm⟩
      refine ⟨_, rfl, ixS (j := 5) (sq_tup hq5) rfl ⟨_, rfl, ?_⟩⟩
      by_cases c : q.z = true
      · rw [c]
        refine ⟨_, rfl, _, rfl, _, rfl, ixS (j := i) (sq_lst hs5) (ints_at hin) ⟨_, _, rfl, rfl, ?_⟩⟩
        have est0 : MP.st (MP.fD pg qs (MP.put kf i kk) (MP.put jf i 0)) ns i = (e, b) := by
          rw [← MP.fD_congr (cg 0) i (Nat.le_refl _), ← he, ← hb]
        have eo : MP.out (MP.fD pg qs (MP.put kf i kk) (MP.put jf i 0)) ns i = (MP.low pg qs i e + q.al * kk, none) := by
          unfold MP.out
          rw [est0]
          unfold MP.fD
          rw [ep, if_pos c, MP.put_at]
        have est : MP.st (MP.fD pg qs (MP.put kf i kk) (MP.put jf i 0)) ns (i + 1) = (MP.low pg qs i e + q.al * kk + MP.sz ns i, b) := by
          show MP.nextS _ _ (MP.out (MP.fD pg qs (MP.put kf i kk) (MP.put jf i 0)) ns i) = _
          rw [eo, est0]
          rfl
        rw [MP.lay_congr (cg 0)] at g5
        obtain ⟨as5, hD5, _⟩ := g5.at_
        refine ⟨_, rfl, .inl ⟨rfl, _, sqL_of hD5⟩, _, rfl, _, rfl, by show 2 ≤ sizeLine; decide, fun tt2 ntt2 => ?_⟩
        obtain ⟨acc, f1, f2, f3⟩ := layP_step hu nD g5 hi100 eo tt2 ntt2 ⟨_, hu5⟩
        refine ⟨D, acc, _, rfl, rfl, f1, f2, ?_⟩
        refine ⟨MP.put kf i kk, MP.put jf i 0, MP.put_nn kf0 kk0, MP.put_nn jf0 (Int.le_refl _), ⟨_, _, _, _, by rw [est]; rfl⟩, f3, ?_⟩
        exact (hp5.upd2 ntt2 nDp).mono (by omega)
      · rw [Bool.eq_false_iff.mpr c]
        refine ⟨_, rfl, _, rfl, _, rfl, _, _, _, rfl, ok.pos, ?_⟩
        refine ⟨_, rfl, _, rfl, by show 4 ≤ sizeLine; decide, fun a6 na6 => ?_⟩
        try dsimp only [tNil]
        refine pick_lit hp5 (by omega) na6 (by show 1 ≤ 4; decide) (by show 4 ≤ 1000; decide) fun jv H6 hjv hp6 sb6 => ?_
        obtain ⟨jj, rfl, jj0, jj1⟩ : ∃ jj : Int, jv = .int jj ∧ 0 ≤ jj ∧ jj ≤ 1 := by
          simp only [List.mem_cons, List.not_mem_nil, or_false] at hjv
          rcases hjv with rfl | rfl | rfl | rfl <;> exact ⟨_, rfl, by decide, by decide⟩
        have g6 := g5.pool nDp sb6
        have hs6 := g6.1 _ _ sap hs
        obtain ⟨u6, hu6⟩ := hp6.at_
        refine ⟨_, _, rfl, rfl, .inr ⟨by omega, by omega⟩, _, _, rfl, rfl, ?_⟩
        refine ⟨_, rfl, _, rfl, _, rfl, ixS (j := i) (sq_lst hs6) (ints_at hin) ⟨_, _, rfl, rfl, ?_⟩⟩
        refine ⟨_, rfl, _, rfl, _, rfl, ixS (j := i) (sq_lst hs6) (ints_at hin) ⟨_, _, rfl, rfl, ?_⟩⟩
        have est0 : MP.st (MP.fD pg qs (MP.put kf i kk) (MP.put jf i jj)) ns i = (e, b) := by
          rw [← MP.fD_congr (cg jj) i (Nat.le_refl _), ← he, ← hb]
        have eo : MP.out (MP.fD pg qs (MP.put kf i kk) (MP.put jf i jj)) ns i = (MP.low pg qs i e + q.al * kk, some (MP.lift b pg (MP.low pg qs i e + q.al * kk) + pg * jj)) := by
          unfold MP.out
          rw [est0]
          unfold MP.fD
          rw [ep, if_neg c, MP.put_at, MP.put_at]
        have est : MP.st (MP.fD pg qs (MP.put kf i kk) (MP.put jf i jj)) ns (i + 1) = (MP.low pg qs i e + q.al * kk + MP.sz ns i, MP.lift b pg (MP.low pg qs i e + q.al * kk) + pg * jj + MP.sz ns i) := by
          show MP.nextS _ _ (MP.out (MP.fD pg qs (MP.put kf i kk) (MP.put jf i jj)) ns i) = _
          rw [eo]
          rfl
        rw [MP.lay_congr (cg jj)] at g6
        obtain ⟨as6, hD6, _⟩ := g6.at_
        refine ⟨_, rfl, .inl ⟨rfl, _, sqL_of hD6⟩, _, rfl, _, rfl, by show 2 ≤ sizeLine; decide, fun tt2 ntt2 => ?_⟩
        obtain ⟨acc, f1, f2, f3⟩ := layP_step hu nD g6 hi100 eo tt2 ntt2 ⟨_, hu6⟩
        refine ⟨D, acc, _, rfl, rfl, f1, f2, ?_⟩
        refine ⟨MP.put kf i kk, MP.put jf i jj, MP.put_nn kf0 kk0, MP.put_nn jf0 jj0, ⟨_, _, _, _, by rw [est]; rfl⟩, f3, ?_⟩
        exact (hp6.upd2 ntt2 nDp).mono (by omega)
    · rintro σ H3 ⟨kf, jf, kf0, jf0, ⟨y7, y8, y9, y10, rfl⟩, g3, hp3⟩
      rw [List.length_map, el] at g3 hp3
      obtain ⟨as3, hD3, hpr3⟩ := g3.at_
      exact ⟨_, rfl, k H3 D kf jf kf0 jf0 g3.1 (hp3.mono (by have := ok.few; omega)) nD ⟨as3, hD3, hpr3⟩⟩
end
end Lk
namespace Lk
open PySem PySem.Spec PyProof.Rows L2 RZ
/-! ### none is better -/
abbrev AO := Int × Option Int
def col (f : Nat) (x : AO) : Option Int := if f = 0 then some x.1 else x.2
def val (f : Nat) (x : AO) : Int := if f = 0 then x.2.getD 0 else x.1
def fz (x : AO) : Bool := x.2.isSome
theorem objL_at {x : AO} {f : Nat} (hf : f = 0 ∨ f = 1) : [V.int x.1, offV x.2][f]? = some (offV (col f x)) := by
  rcases hf with rfl | rfl <;> rfl
theorem objL_rest {x : AO} {f : Nat} (hf : f = 0 ∨ f = 1) (hx : fz x = true) : [V.int x.1, offV x.2][1 - f]? = some (.int (val f x)) := by
  obtain ⟨a, o⟩ := x
  cases o with
  | none => cases hx
  | some o => rcases hf with rfl | rfl <;> rfl
theorem paired_range {α β : Type} {R : α → β → Prop} {g : Nat → α} {h : Nat → β} : ∀ {m : Nat}, (∀ i, i < m → R (g i) (h i)) → Paired R ((List.range m).map g) ((List.range m).map h)
  | 0, _ => .nil
  | m + 1, H => by
    rw [List.range_succ, List.map_append, List.map_append]
    exact paired_snoc (H m (by omega)) (paired_range fun i hi => H i (by omega))
theorem paired_filter {f : Nat} : ∀ {L1 L2 : List AO}, Paired (fun x y => fz x = fz y ∧ (fz x = true → val f x ≤ val f y)) L1 L2 → Paired (fun a b : Int => a ≤ b) ((L1.filter fz).map (val f)) ((L2.filter fz).map (val f))
  | _, _, .nil => .nil
  | _, _, .cons (a := x) (b := y) h t => by
    have ih := paired_filter (f := f) t
    rw [List.filter_cons, List.filter_cons, ← h.1]
    by_cases c : fz x = true
    · rw [if_pos c, if_pos c]
      exact .cons (h.2 c) ih
    · rw [if_neg c, if_neg c]
      exact ih
section
variable {K : PySem.W.Frag}
theorem dp_offs {H : Hp} : ∀ cs : List (Option Int), DpAll K H (cs.map offV) (cs.map PySem.W.Datum.toD)
  | [] => .nil
  | none :: cs => .cons .non (dp_offs cs)
  | some i :: cs => .cons (.int i) (dp_offs cs)
theorem hasD_offs {H : Hp} {a : Addr} {cs : List (Option Int)} (h : SqL K H a (cs.map offV)) : HasD K H (.ref a) cs := .lst h (dp_offs cs)
end
/-- a list that a comprehension made is added -/
theorem growO_add {β : Type} {obj : β → HO} {H1 H' H2 : Hp} {D : Addr} {qs : List β} {q : β} (g : GrowO obj H1 D qs H') (hD : H1 D = none) (s : Same H' H2) (hl : qs.length < 100000) (t : Addr) (nt : H' t = none) (ht : H2 t = some (obj q)) :
    ∃ acc, H2 D = some (.lst acc) ∧ acc.length < sizeLine ∧ GrowO obj H1 D (qs ++ [q]) (upd H2 D (.lst (acc ++ [.ref t]))) := by
  obtain ⟨s3, as, hd, hpr, hne⟩ := g
  have hd2 := s _ _ hd
  have ntD : D ≠ t := ne_of_none hd nt
  refine ⟨as.map V.ref, hd2, ?_, ?_⟩
  · rw [List.length_map, paired_len hpr, sizeLine_eq]
    omega
  · refine ⟨(s3.trans s).mut hD, as ++ [t], ?_, ?_, ?_⟩
    · rw [upd_same, List.map_append]
      rfl
    · refine paired_snoc ?_ (paired_mem hpr fun c x hc hcq => ?_)
      · show (upd H2 D _) t = _
        rw [upd_ne (Ne.symm ntD)]
        exact ht
      · show (upd H2 D _) c = _
        rw [upd_ne (hne c hc).1]
        exact s _ _ hcq
    · intro c hc
      rcases List.mem_append.mp hc with hc | hc
      · exact hne c hc
      · cases List.mem_singleton.mp hc
        exact ⟨Ne.symm ntD, s3.free nt⟩
/-- the objects of the two columns -/
abbrev objC (f : Nat) (L : List AO) : HO := .lst ((L.map (col f)).map offV)
abbrev objR (f : Nat) (L : List AO) : HO := .lst (((L.filter fz).map (val f)).map V.int)
theorem two_of {α β : Type} {R : α → β → Prop} {as : List α} {x y : β} (h : Paired R as [x, y]) : ∃ a b, as = [a, b] ∧ R a x ∧ R b y := by
  cases h with
  | cons h1 t =>
    cases t with
    | cons h2 t2 =>
      cases t2
      exact ⟨_, _, rfl, h1, h2⟩
section
variable {P : Program} {w : World} {K : PySem.W.Frag} {mg : Str → Option Value} {base : Heap} {ad ai : Nat → Addr} {fd : Nat → FuncData}
structure NoBetter (f m : Nat) (g1 g2 : Nat → AO) : Prop where
  fs : f = 0 ∨ f = 1
  few : m ≤ 100
  z : ∀ i, i < m → fz (g1 i) = fz (g2 i)
  a : ∀ i, i < m → ∀ x y, col f (g1 i) = some x → col f (g2 i) = some y → x ≤ y
  c : (∀ i, i < m → col f (g1 i) = col f (g2 i)) → ∀ i, i < m → fz (g1 i) = true → val f (g1 i) ≤ val f (g2 i)
def sp_better : Sp := fun vs H Q _ => ∃ (l1 l2 : Addr) (f m : Nat) (g1 g2 : Nat → AO), vs = [.ref l1, .ref l2, .int (f : Nat)] ∧ LayAt H l1 ((List.range m).map g1) ∧ LayAt H l2 ((List.range m).map g2) ∧ NoBetter f m g1 g2 ∧ ∀ H', Same H H' → Q (.bl true) H'
theorem ok_better (T : Txt K mg ad ai fd) : FnOk P w K mg base CX0 1 (ad 41) (fd 41) ["_law_one", "_law_other", "_law_first"] (sp_better) := by
  refine T.F_law_none_better.ok sc_law_none_better (fun vs H Q E h => ?_) (fun cdv A outer s H vs Q E hr h => ?_)
  · obtain ⟨l1, l2, f, m, g1, g2, rfl, _⟩ := h
    rfl
  · obtain ⟨l1, l2, f, m, g1, g2, rfl, hL1, hL2, nb, k⟩ := h
    refine ⟨_, (pss_cons (ps_for PassesOwn.never rfl (pi_zipA (by rfl) T.n_zip (pa_cons (pv 0) (pa_cons (pv 1) pa_nil))) (pg_tp (K := K) (n := 2) rfl (pgs_cons (pg_name (i := 3) sc_law_none_better.nd rfl (.inl rfl)) (pgs_cons (pg_name (i := 4) sc_law_none_better.nd rfl (.inl rfl)) pgs_nil)))
          (pss_cons (ps_if (PW.pt (pw_and (pt_cmpR op_isN (pe_ix (ix_seq (K := K)) (pv 3) pe_int (fun _ _ => rfl)) pe_non (nomark _)) (pw_and1 (PW.pt (pw_or (pt_cmpR op_eq (pv 2) pe_int (nomark _)) (pw_or1 (pt_cmpR op_ge (pe_ix (ix_seq (K := K)) (pv 4) pe_int (fun _ _ => rfl)) (pe_ix (ix_seq (K := K)) (pv 3) pe_int (fun _ _ => rfl)) (nomark _)))))))) (pss_one ps_continue) pss_nil)
          (pss_one (ps_if (pt_cmpR op_lt (pe_ix (ix_seq (K := K)) (pv 4) (pv 2) (fun _ _ => rfl)) (pe_ix (ix_seq (K := K)) (pv 3) (pv 2) (fun _ _ => rfl)) (nomark _)) (pss_one (ps_ret pe_bl)) pss_nil))))
      (pss_cons (ps_setLc (i := 5) (own := [("_law_rows", 7)]) rfl sc_law_none_better.nd rfl rfl (sw_true rfl rfl rfl (by decide +kernel)) (pi_seq (K := K) (pe_tup (pa_cons (pv 0) (pa_cons (pv 1) pa_nil)))) (blkOk_by (N := ["_law_one", "_law_other", "_law_first", "_law_pair", "_law_drawn", "_law_firsts", "_law_row", "_law_rows", "_law_rest", "_law_least"]) (sc := defScope s_law_none_better) (by decide +kernel)) (fun _ _ _ _ _ => (pg_name (i := 7) sc_law_none_better.nd rfl (.inl rfl))) (fun _ _ _ _ _ => pts_nil) (fun _ _ _ _ _ => (pe_lc (own := [("_law_row", 6)]) rfl sc_law_none_better.nd (pi_seq (K := K) (pv 7)) (blkOk_by (N := ["_law_one", "_law_other", "_law_first", "_law_pair", "_law_drawn", "_law_firsts", "_law_row", "_law_rows", "_law_rest", "_law_least"]) (sc := { kind := ScopeKind.function, names := [(PySem.Str.ofString ".0", NameKind.local), (PySem.Str.ofString "_law_rows", NameKind.local), (PySem.Str.ofString "_law_first", NameKind.cell)], isGenerator := false, isCoroutine := false, more := [] }) (by decide +kernel)) (fun _ _ _ _ _ => (pg_name (i := 6) sc_law_none_better.nd rfl (.inl rfl))) (fun _ _ _ _ _ => pts_nil) (fun _ _ _ _ _ => (pe_ix (ix_seq (K := K)) (pv 6) (pv 2) (fun _ _ => rfl))))))
      (pss_cons (ps_if (pt_cmpR (op_neT (α := List (Option Int)) (K := K) (hu_of hr)) (pe_ix (ix_seq (K := K)) (pv 5) pe_int (fun _ _ => rfl)) (pe_ix (ix_seq (K := K)) (pv 5) pe_int (fun _ _ => rfl)) (nomark _)) (pss_one (ps_ret pe_bl)) pss_nil)
      (pss_cons (ps_setLc (i := 8) (own := [("_law_rows", 7)]) rfl sc_law_none_better.nd rfl rfl (sw_true rfl rfl rfl (by decide +kernel)) (pi_seq (K := K) (pe_tup (pa_cons (pv 0) (pa_cons (pv 1) pa_nil)))) (blkOk_by (N := ["_law_one", "_law_other", "_law_first", "_law_pair", "_law_drawn", "_law_firsts", "_law_row", "_law_rows", "_law_rest", "_law_least"]) (sc := defScope s_law_none_better) (by decide +kernel)) (fun _ _ _ _ _ => (pg_name (i := 7) sc_law_none_better.nd rfl (.inl rfl))) (fun _ _ _ _ _ => pts_nil) (fun _ _ _ _ _ => (pe_lc (own := [("_law_row", 6)]) rfl sc_law_none_better.nd (pi_seq (K := K) (pv 7)) (blkOk_by (N := ["_law_one", "_law_other", "_law_first", "_law_pair", "_law_drawn", "_law_firsts", "_law_row", "_law_rows", "_law_rest", "_law_least"]) (sc := { kind := ScopeKind.function, names := [(PySem.Str.ofString ".0", NameKind.local), (PySem.Str.ofString "_law_rows", NameKind.local), (PySem.Str.ofString "_law_first", NameKind.cell)], isGenerator := false, isCoroutine := false, more := [] }) (by decide +kernel)) (fun _ _ _ _ _ => (pg_name (i := 6) sc_law_none_better.nd rfl (.inl rfl))) (fun _ _ _ _ _ => (pts_one (pt_cmpR op_notN (pe_ix (ix_seq (K := K)) (pv 6) pe_int (fun _ _ => rfl)) pe_non (nomark _)))) (fun _ _ _ _ _ => (pe_ix (ix_seq (K := K)) (pv 6) (pe_op op_sub pe_int (pv 2)) (fun _ _ => rfl))))))
      (pss_one (ps_ret (pe_callB (call_all (K := K) rfl) (by rfl) T.n_all (by decide +kernel) (pa_cons (pe_lc (own := [("_law_least", 9), ("_law_drawn", 4)]) rfl sc_law_none_better.nd (pi_zipA (by rfl) T.n_zip (pa_cons (pe_ix (ix_seq (K := K)) (pv 8) pe_int (fun _ _ => rfl)) (pa_cons (pe_ix (ix_seq (K := K)) (pv 8) pe_int (fun _ _ => rfl)) pa_nil))) (blkOk_by (N := ["_law_one", "_law_other", "_law_first", "_law_pair", "_law_drawn", "_law_firsts", "_law_row", "_law_rows", "_law_rest", "_law_least"]) (sc := defScope s_law_none_better) (by decide +kernel)) (fun _ _ _ _ _ => (pg_tp (K := K) (n := 2) rfl (pgs_cons (pg_name (i := 9) sc_law_none_better.nd rfl (.inl rfl)) (pgs_cons (pg_name (i := 4) sc_law_none_better.nd rfl (.inl rfl)) pgs_nil)))) (fun _ _ _ _ _ => pts_nil) (fun _ _ _ _ _ => (pe_cmpR op_ge (pv 4) (pv 9) (nomark _)))) pa_nil)))))))), ?_⟩
    obtain ⟨as1, h1, p1⟩ := id hL1
    obtain ⟨as2, h2, p2⟩ := id hL2
    have e1 := paired_len p1
    have e2 := paired_len p2
    rw [List.length_map, List.length_range] at e1 e2
    have hf := nb.fs
    have hm := nb.few
    refine ⟨_, rfl, _, rfl, for_zip (K := K) (n := m) (by rw [List.length_map, List.length_map, e1, e2, Nat.min_self]) (.inl ⟨sqL_of h1, sqL_of h2⟩) (fun i σ H' => (∃ y3 y4, σ = [some (.ref l1), some (.ref l2), some (.int (f : Nat)), y3, y4, none, none, none, none, none]) ∧ Same H H') ⟨⟨none, none, rfl⟩, Same.refl _⟩ (fun i σ H' h => ⟨h.2.keeps, h.2.keeps⟩) ?_ ?_⟩
    · rintro i x y σ H3 tt ex ey ⟨⟨y3, y4, rfl⟩, s3⟩ nt
      obtain ⟨a, ea, rfl⟩ := map_at ex
      obtain ⟨b, eb, rfl⟩ := map_at ey
      have hi : i < m := by
        have := (List.getElem?_eq_some_iff.mp ea).1
        omega
      obtain ⟨xa, exa, ha⟩ := paired_get p1 ea
      obtain ⟨xb, exb, hb⟩ := paired_get p2 eb
      rw [range_take_at hi] at exa exb
      cases exa
      cases exb
      have s4 := s3.new (o := .tup [.ref a, .ref b]) nt
      refine ⟨tt, _, rfl, sqT_of upd_same, rfl, _, _, rfl, _, _, rfl, rfl, ?_⟩
      generalize upd H3 tt (.tup [.ref a, .ref b]) = H4 at s4 ⊢
      have ha4 := s4 _ _ ha
      have hb4 := s4 _ _ hb
      have hz := nb.z i hi
      have hA := nb.a i hi
      refine ⟨_, rfl, ixS (j := 1) (sq_tup ha4) rfl ⟨rfl, _, rfl, ?_⟩⟩
      cases eo : (g1 i).2 with
      | none =>
        rcases hf with rfl | rfl
        · refine ⟨_, rfl, rfl, _, rfl, ?_⟩
          refine ⟨_, rfl, ixS (j := 0) (sq_tup hb4) rfl ⟨_, rfl, ixS (j := 0) (sq_tup ha4) rfl ⟨_, _, rfl, rfl, _, rfl, ?_⟩⟩⟩
          rw [decide_eq_true (hA _ _ rfl rfl)]
          exact ⟨⟨_, _, rfl⟩, s4⟩
        · refine ⟨_, rfl, rfl, _, rfl, ?_⟩
          exact ⟨⟨_, _, rfl⟩, s4⟩
      | some o =>
        obtain ⟨o2, eo2⟩ : ∃ o2, (g2 i).2 = some o2 := by
          unfold fz at hz
          rw [eo] at hz
          exact Option.isSome_iff_exists.mp hz.symm
        rcases hf with rfl | rfl
        · refine ⟨_, rfl, _, rfl, ixS (j := 0) (sq_tup hb4) rfl ⟨_, rfl, _, rfl, ixS (j := 0) (sq_tup ha4) rfl ⟨_, _, rfl, rfl, _, rfl, ?_⟩⟩⟩
          rw [decide_eq_false (Int.not_lt.mpr (hA _ _ rfl rfl))]
          exact ⟨⟨_, _, rfl⟩, s4⟩
        · have ha4' : [V.int (g1 i).1, offV (g1 i).2][1]? = some (.int o) := by rw [eo]; rfl
          have hb4' : [V.int (g2 i).1, offV (g2 i).2][1]? = some (.int o2) := by rw [eo2]; rfl
          refine ⟨_, rfl, _, rfl, ixS (j := 1) (sq_tup hb4) hb4' ⟨_, rfl, _, rfl, ixS (j := 1) (sq_tup ha4) ha4' ⟨_, _, rfl, rfl, _, rfl, ?_⟩⟩⟩
          rw [decide_eq_false (Int.not_lt.mpr (hA _ _ eo eo2))]
          exact ⟨⟨_, _, rfl⟩, s4⟩
    · rintro σ H3 ⟨⟨y3, y4, rfl⟩, s3⟩
      generalize hG1 : (List.range m).map g1 = L1 at *
      generalize hG2 : (List.range m).map g2 = L2 at *
      have l1m : L1.length = m := by rw [← hG1, List.length_map, List.length_range]
      have l2m : L2.length = m := by rw [← hG2, List.length_map, List.length_range]
      have pick : ∀ (H5 : Hp), Same H H5 → ∀ (i : Nat) (x : V), [V.ref l1, V.ref l2][i]? = some x → ∃ l L, x = .ref l ∧ [L1, L2][i]? = some L ∧ LayAt H5 l L ∧ L.length = m := by
        intro H5 s5 i x ex
        match i, ex with
        | 0, ex => cases ex; exact ⟨l1, L1, rfl, rfl, hL1.same s5, l1m⟩
        | 1, ex => cases ex; exact ⟨l2, L2, rfl, rfl, hL2.same s5, l2m⟩
        | _ + 2, ex => simp at ex
      refine ⟨_, rfl, _, rfl, by show 2 ≤ sizeLine; decide, fun t nt => ?_⟩
      have s4 := s3.new (o := .tup [.ref l1, .ref l2]) nt
      have ht4 : upd H3 t (.tup [.ref l1, .ref l2]) t = some (.tup [.ref l1, .ref l2]) := upd_same
      generalize upd H3 t (.tup [.ref l1, .ref l2]) = H4 at s4 ht4 ⊢
      refine lc_seq (K := K) (sq_tup ht4) (fun D i H' => GrowO (objC f) H4 D ([L1, L2].take i) H') (fun D hD => growO0 hD) (fun D i H' hD pv => pv.1.keeps) ?_ ?_
      · intro D i x H5 hD ex g5
        obtain ⟨l, L, rfl, eL, ⟨as, hl, hpr⟩, lm⟩ := pick H5 (s4.trans g5.1) i x ex
        refine ⟨rfl, ?_⟩
        refine ⟨_, rfl, lc_seq (K := K) (sq_lst hl) (PvV H5 ((L.map (col f)).map offV)) (fun D2 hD2 => vals0 hD2) (fun D2 j H' _ pv => pv.1.keeps) ?_ ?_⟩
        · intro D2 j y H6 hD2 ey pv
          obtain ⟨a, ea, rfl⟩ := map_at ey
          obtain ⟨xx, exx, ha⟩ := paired_get hpr ea
          refine ⟨rfl, ?_⟩
          refine ⟨_, rfl, _, rfl, ixS (j := f) (sq_tup (pv.1 _ _ ha)) (objL_at hf) ?_⟩
          exact vals_step pv hD2 (Same.refl _) (at_map (at_map exx)) (by rw [List.length_map, List.length_map]; omega)
        · intro D2 H6 hD2 pv
          obtain ⟨s6, hd6⟩ := valsE pv (by rw [List.length_map, List.length_map, List.length_map, paired_len hpr])
          rw [take_snoc eL]
          exact growO_add g5 hD s6 (by rw [List.length_take]; have : min i [L1, L2].length ≤ 2 := Nat.min_le_right _ _; omega) D2 hD2 hd6
      · intro D H5 hD g5
        have g5' : GrowO (objC f) H4 D [L1, L2] H5 := g5
        obtain ⟨s45, as, hD5, hpr, _⟩ := g5'
        obtain ⟨b1, b2, rfl, hb1, hb2⟩ := two_of hpr
        have s5 := s4.trans s45
        refine ⟨_, rfl, ixS (j := 0) (sq_lst hD5) rfl ⟨_, rfl, ixS (j := 1) (sq_lst hD5) rfl ⟨_, _, hasD_offs (sqL_of hb1), hasD_offs (sqL_of hb2), _, rfl, ?_⟩⟩⟩
        by_cases c : L1.map (col f) = L2.map (col f)
        rotate_left
        · rw [decide_eq_false c]
          exact k _ s5
        · rw [decide_eq_true c]
          have cc : ∀ i, i < m → col f (g1 i) = col f (g2 i) := by
            intro i hi
            have x1 : (L1.map (col f))[i]? = some (col f (g1 i)) := by rw [← hG1]; exact at_map (range_take_at hi)
            have x2 : (L2.map (col f))[i]? = some (col f (g2 i)) := by rw [← hG2]; exact at_map (range_take_at hi)
            rw [c] at x1
            exact Option.some.inj (x1.symm.trans x2)
          have PR : Paired (fun a b : Int => a ≤ b) ((L1.filter fz).map (val f)) ((L2.filter fz).map (val f)) := by
            rw [← hG1, ← hG2]
            exact paired_filter (paired_range fun i hi => ⟨nb.z i hi, fun hz => nb.c cc i hi hz⟩)
          have fzv : ∀ x : AO, (!decide (offV x.2 = V.non)) = fz x := by
            intro x
            obtain ⟨a, o⟩ := x
            cases o <;> rfl
          have ef : (1 : Int) - (f : Nat) = ((1 - f : Nat) : Int) := by rcases hf with rfl | rfl <;> rfl
          refine ⟨_, rfl, _, rfl, by show 2 ≤ sizeLine; decide, fun t6 nt6 => ?_⟩
          have s6 := s5.new (o := .tup [.ref l1, .ref l2]) nt6
          have ht6 : upd H5 t6 (.tup [.ref l1, .ref l2]) t6 = some (.tup [.ref l1, .ref l2]) := upd_same
          generalize upd H5 t6 (.tup [.ref l1, .ref l2]) = H6 at s6 ht6 ⊢
          refine lc_seq (K := K) (sq_tup ht6) (fun D i H' => GrowO (objR f) H6 D ([L1, L2].take i) H') (fun D hD => growO0 hD) (fun D i H' hD pv => pv.1.keeps) ?_ ?_
          · intro D i x H7 hD ex g7
            obtain ⟨l, L, rfl, eL, ⟨as, hl, hpr⟩, lm⟩ := pick H7 (s6.trans g7.1) i x ex
            refine ⟨rfl, ?_⟩
            refine ⟨_, rfl, lc_seq (K := K) (sq_lst hl) (fun D2 j H' => Same H7 H' ∧ H' D2 = some (.lst ((((L.take j).filter fz).map (val f)).map V.int))) (fun D2 hD2 => ⟨same_new hD2, upd_same⟩) (fun D2 j H' _ pv => pv.1.keeps) ?_ ?_⟩
            · intro D2 j y H8 hD2 ey pv
              obtain ⟨a, ea, rfl⟩ := map_at ey
              obtain ⟨xx, exx, ha⟩ := paired_get hpr ea
              have ha8 := pv.1 _ _ ha
              refine ⟨rfl, ?_⟩
              refine ⟨_, rfl, ixS (j := 1) (sq_tup ha8) rfl ⟨rfl, _, rfl, ?_⟩⟩
              rw [fzv xx, take_snoc exx, List.filter_append]
              refine ite2 (fun cz => ?_) (fun cz => ?_)
              · refine ⟨_, rfl, _, rfl, _, _, rfl, rfl, ?_⟩
                dsimp only
                rw [ef]
                refine ixS (j := 1 - f) (sq_tup ha8) (objL_rest hf cz) ⟨_, pv.2, ?_, pv.1.mut hD2, ?_⟩
                · rw [List.length_map, List.length_map, sizeLine_eq]
                  have := List.length_filter_le fz (L.take j)
                  rw [List.length_take] at this
                  omega
                · rw [upd_same, List.filter_cons, if_pos cz, List.map_append, List.map_append]
                  rfl
              · refine ⟨pv.1, ?_⟩
                rw [List.filter_cons, if_neg cz]
                show H8 D2 = some (.lst ((((L.take j).filter fz ++ []).map (val f)).map V.int))
                rw [List.append_nil]
                exact pv.2
            · intro D2 H8 hD2 pv
              obtain ⟨s8, hd8⟩ := pv
              rw [List.length_map, paired_len hpr, List.take_length] at hd8
              rw [take_snoc eL]
              exact growO_add g7 hD s8 (by rw [List.length_take]; have : min i [L1, L2].length ≤ 2 := Nat.min_le_right _ _; omega) D2 hD2 hd8
          · intro D7 H7 hD7n g7
            have g7' : GrowO (objR f) H6 D7 [L1, L2] H7 := g7
            obtain ⟨s67, as7, hD7, hpr7, _⟩ := g7'
            obtain ⟨c1, c2, rfl, hc1, hc2⟩ := two_of hpr7
            have s7 := s6.trans s67
            have lPR := paired_len PR
            generalize hR1 : (L1.filter fz).map (val f) = R1 at *
            generalize hR2 : (L2.filter fz).map (val f) = R2 at *
            have lR1 : R1.length ≤ 100 := by
              rw [← hR1, List.length_map]
              have := List.length_filter_le fz L1
              omega
            refine ⟨_, rfl, ixS (j := 0) (sq_lst hD7) rfl ⟨_, rfl, ixS (j := 1) (sq_lst hD7) rfl ?_⟩⟩
            have hc1' : H7 c1 = some (.lst (R1.map V.int)) := by rw [← hR1]; exact hc1
            have hc2' : H7 c2 = some (.lst (R2.map V.int)) := by rw [← hR2]; exact hc2
            refine lc_zip (K := K) (n := R1.length) (by rw [List.length_map, List.length_map, ← lPR, Nat.min_self]) (.inl ⟨sqL_of hc1', sqL_of hc2'⟩) (PvV H7 ((R1.map fun _ => true).map V.bl)) (fun D2 hD2 => vals0 hD2) (fun D2 i H' _ pv => ⟨pv.1.keeps, pv.1.keeps⟩) ?_ ?_
            · intro D2 i x y H8 t8 hD2 ex ey pv nt8
              obtain ⟨a, ea, rfl⟩ := map_at ex
              obtain ⟨b, eb, rfl⟩ := map_at ey
              obtain ⟨b', eb', hab⟩ := paired_get PR ea
              have : b' = b := Option.some.inj (eb'.symm.trans eb)
              subst this
              refine ⟨t8, _, rfl, sqT_of upd_same, rfl, _, _, rfl, _, _, rfl, rfl, ?_⟩
              refine ⟨rfl, ?_⟩
              refine ⟨_, rfl, _, rfl, _, _, rfl, rfl, ?_⟩
              dsimp only
              rw [decide_eq_true hab]
              exact vals_step pv hD2 (same_new nt8) (at_map (at_map ea)) (by rw [List.length_map, List.length_map]; omega)
            · intro D2 H8 hD2 pv
              obtain ⟨s8, hd8⟩ := valsE pv (by rw [List.length_map, List.length_map])
              refine ⟨D2, _, rfl, sqL_of hd8, ?_⟩
              have e : (R1.map fun _ => true).all id = true := by simp
              rw [e]
              exact k _ (s7.trans s8)
end
end Lk
namespace Lk
open PySem PySem.Spec PyProof.Rows L2 RZ
/-! ### what the law knows within a turn -/
structure WJ (C : Addr) (H : Hp) (p x l s : Addr) (pg : Int) (qs : List Part) (ns : List Int) (k : Nat) (H' : Hp) : Prop where
  sm : Same H H'
  pool : Pool H' p k
  plan : PlanAt C H' x pg qs
  parts : PartsL H' l qs
  size : H' s = some (.lst (ns.map V.int))
  np : H p = none
  lp : l ≠ p
  sp : s ≠ p
theorem WJ.same {C : Addr} {H : Hp} {p x l s : Addr} {pg : Int} {qs : List Part} {ns : List Int} {k : Nat} {H1 H2 : Hp} (j : WJ C H p x l s pg qs ns k H1) (e : Same H1 H2) : WJ C H p x l s pg qs ns k H2 :=
  ⟨j.sm.trans e, j.pool.keeps e.keeps, j.plan.same e, j.parts.same e, e _ _ j.size, j.np, j.lp, j.sp⟩
theorem WJ.sb {C : Addr} {H : Hp} {p x l s : Addr} {pg : Int} {qs : List Part} {ns : List Int} {k k' : Nat} {H1 H2 : Hp} (j : WJ C H p x l s pg qs ns k H1) (e : SameBut p H1 H2) (h : Pool H2 p k') : WJ C H p x l s pg qs ns k' H2 := by
  obtain ⟨u, hu⟩ := j.pool.at_
  exact ⟨fun b o hb => e _ _ (ne_of_none hb j.np) (j.sm _ _ hb), h, j.plan.sb e hu, j.parts.sb e hu j.lp, e _ _ j.sp j.size, j.np, j.lp, j.sp⟩
theorem LayAt.sb {H1 H2 : Hp} {p r : Addr} {L : List AO} {u : List V} (e : SameBut p H1 H2) (hu : H1 p = some (.lst u)) (rp : r ≠ p) (h : LayAt H1 r L) : LayAt H2 r L := by
  obtain ⟨as, h1, h2⟩ := h
  exact ⟨as, e _ _ rp h1, paired_mono (fun a x z => e _ _ (ne_of z hu (by intro z; cases z)) z) h2⟩
/-! ### data of layouts -/
def offD : Option Int → PyData
  | none => .none
  | some o => .int o
def layD (L : List AO) : PyData := .list (L.map fun x => .tuple [.int x.1, offD x.2])
section
variable {K : PySem.W.Frag}
theorem dp_off {H : Hp} : ∀ o : Option Int, Dp K H (offV o) (offD o)
  | none => .non
  | some o => .int o
theorem dp_lays {H : Hp} : ∀ {as : List Addr} {L : List AO}, Paired (fun a x => H a = some (objL x)) as L → DpAll K H (as.map V.ref) (L.map fun x => PyData.tuple [.int x.1, offD x.2])
  | _, _, .nil => .nil
  | _, _, .cons h t => .cons (.tup (sqT_of h) (.cons (.int _) (.cons (dp_off _) .nil))) (dp_lays t)
theorem dp_lay {H : Hp} {r : Addr} {L : List AO} (h : LayAt H r L) : Dp K H (.ref r) (layD L) := by
  obtain ⟨as, h1, h2⟩ := h
  exact .lst (sqL_of h1) (dp_lays h2)
end
theorem fits_off (n : Nat) : ∀ o : Option Int, Fits n (offD o)
  | none => by cases n <;> trivial
  | some o => by cases n <;> trivial
theorem fits_lay {L : List AO} (h : L.length ≤ 1000) : Fits 2 (layD L) := by
  refine ⟨by rw [List.length_map]; exact h, fun d hd => ?_⟩
  obtain ⟨x, _, rfl⟩ := List.mem_map.mp hd
  refine ⟨by show 2 ≤ 1000; decide, fun e he => ?_⟩
  rcases List.mem_cons.mp he with rfl | he
  · trivial
  · cases List.mem_singleton.mp he
    exact fits_off 0 _
theorem fits_two {d e : PyData} (h1 : Fits 2 d) (h2 : Fits 2 e) : Fits 3 (.list [d, e]) := by
  refine ⟨by show 2 ≤ 1000; decide, fun x hx => ?_⟩
  rcases List.mem_cons.mp hx with rfl | hx
  · exact h1
  · cases List.mem_singleton.mp hx
    exact h2
/-! ### the plan is good -/
theorem al_dvd {q : Part} {pg : Int} {qs : List Part} (h : PartOk pg q) (ok : PlanOk pg qs) : q.al ∣ pg := by
  have h1 := h.al
  have h2 := ok.pgs
  have h3 := h.le
  simp [inV, eqV] at h1 h2
  rcases h1 with h1 | h1 | h1 | h1 | h1 | h1 | h1 <;> rcases h2 with h2 | h2 | h2 | h2 <;> first | omega | (rw [← h1, ← h2]; decide)
theorem good_of {pg : Int} {qs : List Part} {ns : List Int} (ok : PlanOk pg qs) (sok : SizesOk qs ns) : MP.Good pg qs ns qs.length := by
  refine ⟨pg_pos ok, fun i hi => ?_, fun i => ?_⟩
  · have okq := ok.q _ (List.mem_of_getElem? (pt_at hi))
    exact ⟨al_pos okq, al_dvd okq ok⟩
  · by_cases c : i < qs.length
    · have := (sok.at_ i c).1
      have := (ok.q _ (List.mem_of_getElem? (pt_at c))).lo
      omega
    · unfold MP.sz
      rw [List.getD_eq_getElem?_getD, List.getElem?_eq_none (by rw [sok.len]; omega)]
      exact Int.le_refl 0
theorem partsOk_of {pg : Int} {qs : List Part} (ok : PlanOk pg qs) : PartsOk pg qs := ⟨pg_pos ok, fun i hi => al_pos (ok.q _ (List.mem_of_getElem? (pt_at hi))), ok.few⟩
theorem better_E {pg : Int} {qs : List Part} {ns : List Int} {k j : Nat → Int} (g : MP.Good pg qs ns qs.length) (few : qs.length ≤ 100) (hk : ∀ i, 0 ≤ k i) (hj : ∀ i, 0 ≤ j i) : NoBetter 0 qs.length (MP.out (MP.fE pg qs) ns) (MP.out (MP.fD pg qs k j) ns) := by
  have hz : ∀ i, fz (MP.out (MP.fE pg qs) ns i) = fz (MP.out (MP.fD pg qs k j) ns i) := fun i => by
    unfold fz
    rw [MP.outE_z, MP.outD_z]
    split <;> rfl
  refine ⟨.inl rfl, few, fun i hi => hz i, fun i hi x y hx hy => ?_, fun he i hi hf => ?_⟩
  · cases hx
    cases hy
    exact MP.early_addr g hk hi
  · have he' : ∀ i, i < qs.length → (MP.out (MP.fE pg qs) ns i).1 = (MP.out (MP.fD pg qs k j) ns i).1 := fun i hi => Option.some.inj (he i hi)
    have hf2 := hf
    rw [hz i] at hf2
    obtain ⟨a, ea⟩ := Option.isSome_iff_exists.mp hf
    obtain ⟨b, eb⟩ := Option.isSome_iff_exists.mp hf2
    show (MP.out (MP.fE pg qs) ns i).2.getD 0 ≤ (MP.out (MP.fD pg qs k j) ns i).2.getD 0
    have := MP.early_off g hj he' hi ea eb
    rw [ea, eb]
    exact this
theorem better_S {pg : Int} {qs : List Part} {ns : List Int} {k j : Nat → Int} (g : MP.Good pg qs ns qs.length) (few : qs.length ≤ 100) (hk : ∀ i, 0 ≤ k i) (hj : ∀ i, 0 ≤ j i) : NoBetter 1 qs.length (MP.out (MP.fS pg qs) ns) (MP.out (MP.fD pg qs k j) ns) := by
  have hz : ∀ i, fz (MP.out (MP.fS pg qs) ns i) = fz (MP.out (MP.fD pg qs k j) ns i) := fun i => by
    unfold fz
    rw [MP.outS_z, MP.outD_z]
    split <;> rfl
  refine ⟨.inr rfl, few, fun i hi => hz i, fun i hi x y hx hy => ?_, fun he i hi hf => ?_⟩
  · exact MP.short_off g hj hi (MP.short_b g hj i (by omega)) hx hy
  · exact MP.short_addr g hk hj hi (he i hi) (MP.short_a g hk hj he i (by omega))
def sp_law (K : PySem.W.Frag) : Sp := fun vs H Q _ => ∃ (a : Addr) (ns : List Int), vs = [.ref a] ∧ SqL K H a (ns.map V.int) ∧ ns.length ≤ 63 ∧ ∀ H', Q (.bl true) H'
section
variable {P : Program} {w : World} {K : PySem.W.Frag} {mg : Str → Option Value} {base : Heap} {ad ai : Nat → Addr} {fd : Nat → FuncData}
theorem ok_law (T : Txt K mg ad ai fd) : FnOk P w K mg base CX0 6 (ad 42) (fd 42) ["_law_script"] (sp_law K) := by
  have G_law_source : FnOk P w K mg base CX0 1 (ad 26) (fd 26) ["_law_script", "_law_turn"] (sp_source K) := ok_source T
  have G_law_few : FnOk P w K mg base CX0 4 (ad 38) (fd 38) ["_law_source_here", "_law_most"] (sp_few) := ok_few T
  have G_law_some_sizes : FnOk P w K mg base CX0 2 (ad 33) (fd 33) ["_law_source_here", "_law_parts_here"] (sp_ssizes) := ok_ssizes T
  have G_Plan___init__ : FnOk P w K mg base CX0 4 (ai 1340) (fd 1340) ["self", "page", "parts"] (sp_plan (ad 17)) := ok_plan T
  have G_earliest : FnOk P w K mg base CX0 4 (ad 23) (fd 23) ["plan", "sizes"] (sp_lay K (ad 17) MP.fE) := ok_earliest T
  have G_shortest : FnOk P w K mg base CX0 3 (ad 24) (fd 24) ["plan", "sizes"] (sp_lay K (ad 17) MP.fS) := ok_shortest T
  have G_is_layout : FnOk P w K mg base CX0 3 (ad 21) (fd 21) ["plan", "sizes", "thing"] (sp_is_layout K (ad 17)) := ok_is_layout T
  have G_law_loose : FnOk P w K mg base CX0 2 (ad 30) (fd 30) ["_law_source_here", "_law_thing"] (sp_loose K) := ok_loose T
  have G_law_same : FnOk P w K mg base CX0 4 (ad 31) (fd 31) ["_law_found", "_law_due"] (sp_same K 3) := ok_same T 3
  have G_law_earliest : FnOk P w K mg base CX0 3 (ad 39) (fd 39) ["_law_page", "_law_parts_here", "_law_sizes"] (sp_llay MP.fE) := ok_learly T
  have G_law_shortest : FnOk P w K mg base CX0 2 (ad 40) (fd 40) ["_law_page", "_law_parts_here", "_law_sizes"] (sp_llay MP.fS) := ok_lshort T
  have G_law_right_layout : FnOk P w K mg base CX0 3 (ad 37) (fd 37) ["_law_source_here", "_law_page", "_law_parts_here", "_law_sizes"] (sp_rlay) := ok_rlay T
  have G_law_none_better : FnOk P w K mg base CX0 1 (ad 41) (fd 41) ["_law_one", "_law_other", "_law_first"] (sp_better) := ok_better T
  refine T.F_law.ok sc_law (fun vs H Q E h => ?_) (fun cdv A outer s H vs Q E hr h => ?_)
  · obtain ⟨a, ns, rfl, _⟩ := h
    rfl
  · obtain ⟨a, zs, rfl, hs, hl, q⟩ := h
    refine ⟨_, (pss_cons (ps_for PassesOwn.never rfl (pi_range1 (by rfl) T.n_range (pa_cons (pe_op op_add pe_int (pe_callB (call_min2 rfl) (by rfl) T.n_min (by decide +kernel) (pa_cons (pe_callB (call_len (K := K)) (by rfl) T.n_len (by decide +kernel) (pa_cons (pv 0) pa_nil)) (pa_cons pe_int pa_nil)))) pa_nil)) (pg_name (i := 1) sc_law.nd rfl (.inl rfl))
          (pss_cons (ps_set (i := 2) sc_law.nd rfl (.inl rfl) (pe_call G_law_source (hr.mono (by decide)) (by rfl) T.g_law_source T.F_law_source.kp T.b_law_source .nil pass0 (pa_cons (pv 0) (pa_cons (pv 1) pa_nil))))
          (pss_cons (ps_asg (pe_call G_law_few (hr.mono (by decide)) (by rfl) T.g_law_few T.F_law_few.kp T.b_law_few .nil pass0 (pa_cons (pv 2) (pa_cons pe_int pa_nil))) (pg_tp (K := K) (n := 2) rfl (pgs_cons (pg_name (i := 3) sc_law.nd rfl (.inl rfl)) (pgs_cons (pg_name (i := 4) sc_law.nd rfl (.inl rfl)) pgs_nil))))
          (pss_cons (ps_par (i := 5) (j := 6) (by rfl) sc_law.nd rfl rfl (by decide) rfl rfl (pa_cons (pe_call G_law_some_sizes (hr.mono (by decide)) (by rfl) T.g_law_some_sizes T.F_law_some_sizes.kp T.b_law_some_sizes .nil pass0 (pa_cons (pv 2) (pa_cons (pv 4) pa_nil))) (pa_cons (pe_make T.mk_Plan G_Plan___init__ (hr.mono (by decide)) (by rfl) T.g_Plan T.b_Plan___init__ .nil pass0 (pa_cons (pv 3) (pa_cons (pv 4) pa_nil))) pa_nil)) (by rfl))
          (pss_cons (ps_expr (pe_bmK (K := K) PySem.F.plainAttrs_list PySem.F.slot_list_append PySem.F.type_list_append mt_append (pe_call G_earliest (hr.mono (by decide)) (by rfl) T.g_earliest T.F_earliest.kp T.b_earliest .nil pass0 (pa_cons (pv 6) (pa_cons (pv 5) pa_nil))) (pa_cons pe_str pa_nil)))
          (pss_cons (ps_par (i := 7) (j := 8) (by rfl) sc_law.nd rfl rfl (by decide) rfl rfl (pa_cons (pe_call G_earliest (hr.mono (by decide)) (by rfl) T.g_earliest T.F_earliest.kp T.b_earliest .nil pass0 (pa_cons (pv 6) (pa_cons (pe_callTy (call_tuple (K := K)) (by rfl) T.n_tuple (by decide +kernel) (pa_cons (pv 5) pa_nil)) pa_nil))) (pa_cons (pe_call G_shortest (hr.mono (by decide)) (by rfl) T.g_shortest T.F_shortest.kp T.b_shortest .nil pass0 (pa_cons (pv 6) (pa_cons (pe_call G_law_loose (hr.mono (by decide)) (by rfl) T.g_law_loose T.F_law_loose.kp T.b_law_loose .nil pass0 (pa_cons (pv 2) (pa_cons (pv 5) pa_nil))) pa_nil))) pa_nil)) (by rfl))
          (pss_cons (ps_set (i := 9) sc_law.nd rfl (.inl rfl) (pe_lst (pa_cons (pe_call G_law_earliest (hr.mono (by decide)) (by rfl) T.g_law_earliest T.F_law_earliest.kp T.b_law_earliest .nil pass0 (pa_cons (pv 3) (pa_cons (pv 4) (pa_cons (pv 5) pa_nil)))) (pa_cons (pe_call G_law_shortest (hr.mono (by decide)) (by rfl) T.g_law_shortest T.F_law_shortest.kp T.b_law_shortest .nil pass0 (pa_cons (pv 3) (pa_cons (pv 4) (pa_cons (pv 5) pa_nil)))) pa_nil))))
          (pss_cons (ps_if (pt_not (pt_val (pe_call G_law_same (hr.mono (by decide)) (by rfl) T.g_law_same T.F_law_same.kp T.b_law_same .nil pass0 (pa_cons (pe_lst (pa_cons (pv 7) (pa_cons (pv 8) pa_nil))) (pa_cons (pv 9) pa_nil))))) (pss_one (ps_ret pe_bl)) pss_nil)
          (pss_cons (ps_if (pt_not (pt_val (pe_call G_law_same (hr.mono (by decide)) (by rfl) T.g_law_same T.F_law_same.kp T.b_law_same .nil pass0 (pa_cons (pe_lst (pa_cons (pe_call G_is_layout (hr.mono (by decide)) (by rfl) T.g_is_layout T.F_is_layout.kp T.b_is_layout .nil pass0 (pa_cons (pv 6) (pa_cons (pv 5) (pa_cons (pv 7) pa_nil)))) (pa_cons (pe_call G_is_layout (hr.mono (by decide)) (by rfl) T.g_is_layout T.F_is_layout.kp T.b_is_layout .nil pass0 (pa_cons (pv 6) (pa_cons (pv 5) (pa_cons (pv 8) pa_nil)))) pa_nil))) (pa_cons (pe_op op_rep (pe_lst (pa_cons pe_bl pa_nil)) pe_int) pa_nil))))) (pss_one (ps_ret pe_bl)) pss_nil)
          (pss_one (ps_for PassesOwn.never rfl (pi_range1 (by rfl) T.n_range (pa_cons pe_int pa_nil)) (pg_name (i := 10) sc_law.nd rfl (.inl rfl))
            (pss_cons (ps_set (i := 11) sc_law.nd rfl (.inl rfl) (pe_call G_law_right_layout (hr.mono (by decide)) (by rfl) T.g_law_right_layout T.F_law_right_layout.kp T.b_law_right_layout .nil pass0 (pa_cons (pv 2) (pa_cons (pv 3) (pa_cons (pv 4) (pa_cons (pv 5) pa_nil))))))
            (pss_one (ps_if (PW.pt (pw_or (pt_not (pt_val (pe_call G_law_none_better (hr.mono (by decide)) (by rfl) T.g_law_none_better T.F_law_none_better.kp T.b_law_none_better .nil pass0 (pa_cons (pv 7) (pa_cons (pv 11) (pa_cons pe_int pa_nil)))))) (pw_or1 (pt_not (pt_val (pe_call G_law_none_better (hr.mono (by decide)) (by rfl) T.g_law_none_better T.F_law_none_better.kp T.b_law_none_better .nil pass0 (pa_cons (pv 8) (pa_cons (pv 11) (pa_cons pe_int pa_nil))))))))) (pss_one (ps_ret pe_bl)) pss_nil))))))))))))))
      (pss_one (ps_ret pe_bl))), ?_⟩
    refine ⟨_, rfl, _, _, rfl, .inl hs, _, _, rfl, _, _, rfl, rfl, ?_⟩
    obtain ⟨N, hN, hN2⟩ : ∃ N : Nat, (2 : Int) + (if (3 : Int) < ((zs.map V.int).length : Int) then 3 else ((zs.map V.int).length : Int)) = (N : Nat) ∧ N ≤ 5 := by
      refine ⟨((2 : Int) + (if (3 : Int) < ((zs.map V.int).length : Int) then 3 else ((zs.map V.int).length : Int))).toNat, ?_, ?_⟩
      · split <;> omega
      · split <;> omega
    refine ⟨(N : Int), (by rw [← hN]), by omega, by omega, ?_⟩
    refine for_range (lo := 0) (n := N) (fun i σ H' => (∃ y1 y2 y3 y4 y5 y6 y7 y8 y9 y10 y11, σ = [some (.ref a), y1, y2, y3, y4, y5, y6, y7, y8, y9, y10, y11]) ∧ Same H H') ⟨⟨_, _, _, _, _, _, _, _, _, _, _, rfl⟩, Same.refl _⟩ ?_ ?_
    · rintro i σ H1 hi ⟨⟨y1, y2, y3, y4, y5, y6, y7, y8, y9, y10, y11, rfl⟩, s1⟩
      refine ⟨_, rfl, _, rfl, ?_⟩
      refine ⟨a, zs, _, rfl, s1.seq hs, by omega, by omega, fun H2 p s2 np hp2 => ?_⟩
      refine ⟨_, rfl, ?_⟩
      refine ⟨p, 1000, 0, rfl, hp2, by omega, by omega, by omega, fun H3 t l pg qs sb3 hp3 nt ht nl hpl ok dr => ?_⟩
      refine ⟨t, _, rfl, sqT_of ht, rfl, _, _, rfl, _, _, rfl, rfl, ?_⟩
      obtain ⟨u2, hu2⟩ := hp2.at_
      obtain ⟨u3, hu3⟩ := hp3.at_
      have lp : l ≠ p := fun z => by rw [z, hu2] at nl; cases nl
      have npH : H p = none := s1.free np
      have s03 : Same H H3 := fun b o hb => sb3 _ _ (ne_of_none hb npH) ((s1.trans s2) _ _ hb)
      -- sizes
      refine ⟨_, rfl, _, rfl, ?_⟩
      refine ⟨p, l, qs, 0 + 300, rfl, hp3, by omega, hpl, lp, ok.few, (fun q hq => ⟨(dr.q q hq).1.hi, (dr.q q hq).2⟩), fun H4 sz ns sb4 hp4 nsz hsz sok => ?_⟩
      have szp : sz ≠ p := fun z => by rw [z, hu3] at nsz; cases nsz
      have hpl4 := hpl.sb sb4 hu3 lp
      have s04 : Same H H4 := fun b o hb => sb4 _ _ (ne_of_none hb npH) (s03 _ _ hb)
      -- the plan
      refine ⟨_, rfl, _, rfl, fun x dx nx ndx dxx => ?_⟩
      have s45 : Same H4 (upd (upd H4 dx (.own x)) x (.ins (ad 17) dx [])) := (same_new ndx).mut nx
      have hx5 : (upd (upd H4 dx (.own x)) x (.ins (ad 17) dx [])) x = some (.ins (ad 17) dx []) := upd_same
      generalize upd (upd H4 dx (.own x)) x (.ins (ad 17) dx []) = H5 at s45 hx5 ⊢
      obtain ⟨as, hl5, hpr5⟩ := hpl4.same s45
      refine ⟨x, pg, l, dx, as, qs, rfl, hx5, hl5, hpr5, ok, fun H6 sb6 hplan6 => ⟨rfl, ?_⟩⟩
      have s46 : Same H4 H6 := fun b o hb => sb6 _ _ (ne_of_none hb nx) (s45 _ _ hb)
      refine ⟨_, _, rfl, ?_⟩
      have j6 : WJ (ad 17) H p x l sz pg qs ns (0 + 300 + 100) H6 := ⟨s04.trans s46, hp4.keeps s46.keeps, hplan6, hpl4.same s46, s46 _ _ hsz, npH, lp, szp⟩
      have g := good_of ok sok
      have pok := partsOk_of ok
      -- earliest(..).append('late')
      refine ⟨_, rfl, _, rfl, x, sz, pg, qs, ns, rfl, j6.plan, ok, sq_lst j6.size, sok, fun H7 r7 s7 nr7 hl7 => ?_⟩
      obtain ⟨as7, hr7, _⟩ := id hl7
      have lr7 : (as7.map V.ref).length < sizeLine := by
        have := paired_len ‹Paired _ as7 _›
        rw [List.length_map, this, lay_len, sizeLine_eq]
        have := ok.few
        omega
      refine ⟨.inl ⟨rfl, _, sqL_of hr7⟩, r7, _, _, rfl, rfl, hr7, lr7, ?_⟩
      have j8 := j6.same (s7.mut (o := .lst (as7.map V.ref ++ [.str "late"])) nr7)
      generalize upd H7 r7 (.lst (as7.map V.ref ++ [.str "late"])) = H8 at j8 ⊢
      -- first
      refine ⟨_, rfl, _, rfl, sz, _, rfl, .inl ⟨sqL_of j8.size, fun tp ntp => ?_⟩⟩
      have j9 := j8.same (same_new (o := .tup (ns.map V.int)) ntp)
      have htp : upd H8 tp (.tup (ns.map V.int)) tp = some (.tup (ns.map V.int)) := upd_same
      try dsimp only [tNil]
      generalize upd H8 tp (.tup (ns.map V.int)) = H9 at j9 htp ⊢
      refine ⟨x, tp, pg, qs, ns, rfl, j9.plan, ok, sq_tup htp, sok, fun H10 r1 s10 nr1 hL1 => ?_⟩
      have j10 := j9.same s10
      obtain ⟨u9, hu9⟩ := j9.pool.at_
      have r1p : r1 ≠ p := fun z => by rw [z, hu9] at nr1; cases nr1
      obtain ⟨u10, hu10⟩ := j10.pool.at_
      -- second
      refine ⟨_, rfl, _, rfl, _, rfl, ?_⟩
      refine ⟨p, sz, ns.map V.int, _, rfl, j10.pool, by omega, sq_lst j10.size, szp, by rw [List.length_map, sok.len]; have := ok.few; omega, (fun v hv => ?_), fun H11 lo sb11 hp11 nlo hlo => ?_⟩
      · obtain ⟨z, _, rfl⟩ := List.mem_map.mp hv
        exact .int z
      have j11 := j10.sb sb11 hp11
      have hL1' := hL1.sb sb11 hu10 r1p
      refine ⟨x, lo, pg, qs, ns, rfl, j11.plan, ok, hlo.imp sqL_of sqT_of, sok, fun H12 r2 s12 nr2 hL2 => ?_⟩
      have j12 := j11.same s12
      obtain ⟨u11, hu11⟩ := j11.pool.at_
      have r2p : r2 ≠ p := fun z => by rw [z, hu11] at nr2; cases nr2
      have hL1'' := hL1'.same s12
      refine ⟨_, _, rfl, ?_⟩
      -- due
      refine ⟨_, rfl, _, rfl, _, rfl, pg, l, sz, qs, ns, rfl, j12.parts, pok, j12.size, sok.len, fun H13 d1 s13 nd1 hd1 => ?_⟩
      have j13 := j12.same s13
      refine ⟨_, rfl, _, rfl, _, rfl, pg, l, sz, qs, ns, rfl, j13.parts, pok, j13.size, sok.len, fun H14 d2 s14 nd2 hd2 => ?_⟩
      have j14 := j13.same s14
      refine ⟨by show 2 ≤ sizeLine; decide, fun du ndu => ?_⟩
      have s15 : Same H14 (upd H14 du (.lst [.ref d1, .ref d2])) := same_new ndu
      have hdu : upd H14 du (.lst [.ref d1, .ref d2]) du = some (.lst [.ref d1, .ref d2]) := upd_same
      generalize upd H14 du (.lst [.ref d1, .ref d2]) = H15 at s15 hdu ⊢
      have j15 := j14.same s15
      have hL1_15 := hL1''.same ((s13.trans s14).trans s15)
      have hL2_15 := hL2.same ((s13.trans s14).trans s15)
      have hd1_15 := hd1.same (s14.trans s15)
      have hd2_15 := hd2.same s15
      have few1000 : ∀ f : MP.Way, (MP.lay f ns qs.length).length ≤ 1000 := fun f => by rw [lay_len]; have := ok.few; omega
      -- the first test
      refine ⟨_, rfl, _, rfl, by show 2 ≤ sizeLine; decide, fun fs nfs => ?_⟩
      have s16 : Same H15 (upd H15 fs (.lst [.ref r1, .ref r2])) := same_new nfs
      have hfs : upd H15 fs (.lst [.ref r1, .ref r2]) fs = some (.lst [.ref r1, .ref r2]) := upd_same
      try dsimp only [tNil]
      generalize upd H15 fs (.lst [.ref r1, .ref r2]) = H16 at s16 hfs ⊢
      refine ⟨_, rfl, .ref fs, .ref du, .list [layD (MP.lay (MP.fE pg qs) ns qs.length), layD (MP.lay (MP.fS pg qs) ns qs.length)], rfl, .lst (sqL_of hfs) (.cons (dp_lay (hL1_15.same s16)) (.cons (dp_lay (hL2_15.same s16)) .nil)), .lst (sqL_of (s16 _ _ hdu)) (.cons (dp_lay (hd1_15.same s16)) (.cons (dp_lay (hd2_15.same s16)) .nil)), fits_two (fits_lay (few1000 _)) (fits_lay (few1000 _)), fun H17 s17 => ⟨_, rfl, ?_⟩⟩
      have s167 := s16.trans s17
      have j17 := j15.same s167
      have hL1_17 := hL1_15.same s167
      have hL2_17 := hL2_15.same s167
      -- the second test
      refine ⟨_, rfl, _, rfl, _, rfl, x, sz, r1, pg, qs, ns, MP.fE pg qs, rfl, j17.plan, ok, sq_lst j17.size, sok, hL1_17, MP.right_E g, fun H18 s18 => ?_⟩
      have j18 := j17.same s18
      refine ⟨_, rfl, _, rfl, _, rfl, x, sz, r2, pg, qs, ns, MP.fS pg qs, rfl, j18.plan, ok, sq_lst j18.size, sok, hL2_17.same s18, MP.right_S g, fun H19 s19 => ?_⟩
      have j19 := j18.same s19
      refine ⟨by show 2 ≤ sizeLine; decide, fun b1 nb1 => ?_⟩
      have s20 : Same H19 (upd H19 b1 (.lst [.bl true, .bl true])) := same_new nb1
      have hb1 : upd H19 b1 (.lst [.bl true, .bl true]) b1 = some (.lst [.bl true, .bl true]) := upd_same
      try dsimp only [tNil]
      generalize upd H19 b1 (.lst [.bl true, .bl true]) = H20 at s20 hb1 ⊢
      refine ⟨by show 1 ≤ sizeLine; decide, fun b2 nb2 => ?_⟩
      have s21 : Same H20 (upd H20 b2 (.lst [.bl true])) := same_new nb2
      have hb2 : upd H20 b2 (.lst [.bl true]) b2 = some (.lst [.bl true]) := upd_same
      try dsimp only [tNil]
      generalize upd H20 b2 (.lst [.bl true]) = H21 at s21 hb2 ⊢
      refine ⟨b2, 2, _, rfl, rfl, hb2, by decide, by decide, by show 1 * 2 ≤ sizeLine; decide, fun b3 nb3 => ?_⟩
      have s22 : Same H21 (upd H21 b3 (.lst [.bl true, .bl true])) := same_new nb3
      have hb3 : upd H21 b3 (.lst [.bl true, .bl true]) b3 = some (.lst [.bl true, .bl true]) := upd_same
      refine ⟨.ref b1, .ref b3, .list [.bool true, .bool true], rfl, .lst (sqL_of (s22 _ _ (s21 _ _ hb1))) (.cons (.bl true) (.cons (.bl true) .nil)), .lst (sqL_of hb3) (.cons (.bl true) (.cons (.bl true) .nil)), fits_two trivial trivial, fun H23 s23 => ⟨_, rfl, ?_⟩⟩
      have s1723 : Same H17 H23 := ((((s18.trans s19).trans s20).trans s21).trans s22).trans s23
      have j23 := j17.same s1723
      have hL1_23 := hL1_17.same s1723
      have hL2_23 := hL2_17.same s1723
      -- three right layouts
      refine ⟨3, rfl, by decide, by decide, ?_⟩
      refine for_range (lo := 0) (n := 3) (fun i σ H' => (∃ y1 y9 y10 y11, σ = [some (.ref a), y1, some (.ref p), some (.int pg), some (.ref l), some (.ref sz), some (.ref x), some (.ref r1), some (.ref r2), y9, y10, y11]) ∧ WJ (ad 17) H p x l sz pg qs ns (1000 + 1000 * i) H' ∧ LayAt H' r1 (MP.lay (MP.fE pg qs) ns qs.length) ∧ LayAt H' r2 (MP.lay (MP.fS pg qs) ns qs.length)) ⟨⟨_, _, _, _, rfl⟩, j23.sb SameBut.refl (j23.pool.mono (by omega)), hL1_23, hL2_23⟩ ?_ ?_
      · rintro i2 σ H24 hi2 ⟨⟨z1, z9, z10, z11, rfl⟩, j24, hA, hB⟩
        obtain ⟨u24, hu24⟩ := j24.pool.at_
        refine ⟨_, rfl, _, rfl, _, rfl, _, rfl, ?_⟩
        refine ⟨p, pg, l, sz, qs, ns, _, rfl, j24.pool, by omega, lp, szp, j24.parts, pok, j24.size, sok.len, fun H25 rr kf jf kf0 jf0 sb25 hp25 nrr hL3 => ?_⟩
        have j25 := j24.sb sb25 hp25
        have hA25 := hA.sb sb25 hu24 r1p
        have hB25 := hB.sb sb25 hu24 r2p
        refine ⟨_, rfl, _, rfl, r1, rr, 0, qs.length, MP.out (MP.fE pg qs) ns, MP.out (MP.fD pg qs kf jf) ns, rfl, hA25, hL3, better_E g ok.few kf0 jf0, fun H26 s26 => ⟨_, rfl, ?_⟩⟩
        refine ⟨_, rfl, _, rfl, r2, rr, 1, qs.length, MP.out (MP.fS pg qs) ns, MP.out (MP.fD pg qs kf jf) ns, rfl, hB25.same s26, hL3.same s26, better_S g ok.few kf0 jf0, fun H27 s27 => ⟨_, rfl, ?_⟩⟩
        have s2 := s26.trans s27
        have j27 := j25.same s2
        exact ⟨⟨_, _, _, _, rfl⟩, j27.sb SameBut.refl (j27.pool.mono (by omega)), hA25.same s2, hB25.same s2⟩
      · rintro σ H24 ⟨⟨z1, z9, z10, z11, rfl⟩, j24, _, _⟩
        exact ⟨⟨_, _, _, _, _, _, _, _, _, _, _, rfl⟩, j24.sm⟩
    · rintro σ H1 ⟨⟨y1, y2, y3, y4, y5, y6, y7, y8, y9, y10, y11, rfl⟩, s1⟩
      exact q H1
end
end Lk
namespace Lk
open PySem PySem.Spec PyProof.Rows L2
theorem exm_self {K : PySem.W.Frag} {S : Addr} (h1 : PySem.W.subIn K (.ref S) (.type "BaseException") = some true) (h2 : PySem.W.isClsIn K S = true) (h3 : PySem.W.typeIn K (.ref S) = some (.type "type")) (h4 : PySem.W.subIn K (.ref S) (.ref S) = some true) :
    PySem.W.exmOne K (.ref S) (.ref S) = some true := by
  have e1 : (PySem.W.subIn K (.ref S) (.type "BaseException") == some true) = true := by rw [h1] <;> rfl
  have e2 : ((PySem.W.clsIn K S).isSome && PySem.W.typeIn K (.ref S) == some (.type "type")) = true := by
    have h2' : (PySem.W.clsIn K S).isSome = true := h2
    rw [h2', h3] <;> rfl
  show (if (PySem.W.subIn K (.ref S) (.type "BaseException") == some true) = true then (if ((PySem.W.clsIn K S).isSome && PySem.W.typeIn K (.ref S) == some (.type "type")) = true then PySem.W.subIn K (.ref S) (.ref S) else none) else none) = some true
  rw [if_pos e1, if_pos e2]
  exact h4
theorem all_mk {l : PySem.W.OpenLaw} {w : World} {K : PySem.W.Frag} {h : Heap} {mg : Str → Option Value} {fa : Addr} (X : K.In h) (G : h.Ns mainGlobals mg) (hfa : mg "law" = some (.ref fa))
    {f2 : Addr} {od2 an2 : Option Addr} {sl2 : Array (Option Value)} {oc2 kV2 dc2 pm2 cd2 ct2 : Value}
    {f3 : Addr} {od3 an3 : Option Addr} {sl3 : Array (Option Value)} {oc3 kV3 dc3 pm3 cd3 ct3 : Value}
    {f4 : Addr} {od4 an4 : Option Addr} {sl4 : Array (Option Value)} {oc4 kV4 dc4 pm4 cd4 ct4 : Value}
    {f5 : Addr} {od5 an5 : Option Addr} {sl5 : Array (Option Value)} {oc5 kV5 dc5 pm5 cd5 ct5 : Value}
    {f6 : Addr} {od6 an6 : Option Addr} {sl6 : Array (Option Value)} {oc6 kV6 dc6 pm6 cd6 ct6 : Value}
    {f16 : Addr} {od16 an16 : Option Addr} {sl16 : Array (Option Value)} {oc16 kV16 dc16 pm16 cd16 ct16 : Value}
    {f18 : Addr} {od18 an18 : Option Addr} {sl18 : Array (Option Value)} {oc18 kV18 dc18 pm18 cd18 ct18 : Value}
    {f19 : Addr} {od19 an19 : Option Addr} {sl19 : Array (Option Value)} {oc19 kV19 dc19 pm19 cd19 ct19 : Value}
    {f20 : Addr} {od20 an20 : Option Addr} {sl20 : Array (Option Value)} {oc20 kV20 dc20 pm20 cd20 ct20 : Value}
    {f21 : Addr} {od21 an21 : Option Addr} {sl21 : Array (Option Value)} {oc21 kV21 dc21 pm21 cd21 ct21 : Value}
    {f22 : Addr} {od22 an22 : Option Addr} {sl22 : Array (Option Value)} {oc22 kV22 dc22 pm22 cd22 ct22 : Value}
    {f23 : Addr} {od23 an23 : Option Addr} {sl23 : Array (Option Value)} {oc23 kV23 dc23 pm23 cd23 ct23 : Value}
    {f24 : Addr} {od24 an24 : Option Addr} {sl24 : Array (Option Value)} {oc24 kV24 dc24 pm24 cd24 ct24 : Value}
    {f26 : Addr} {od26 an26 : Option Addr} {sl26 : Array (Option Value)} {oc26 kV26 dc26 pm26 cd26 ct26 : Value}
    {f27 : Addr} {od27 an27 : Option Addr} {sl27 : Array (Option Value)} {oc27 kV27 dc27 pm27 cd27 ct27 : Value}
    {f28 : Addr} {od28 an28 : Option Addr} {sl28 : Array (Option Value)} {oc28 kV28 dc28 pm28 cd28 ct28 : Value}
    {f29 : Addr} {od29 an29 : Option Addr} {sl29 : Array (Option Value)} {oc29 kV29 dc29 pm29 cd29 ct29 : Value}
    {f30 : Addr} {od30 an30 : Option Addr} {sl30 : Array (Option Value)} {oc30 kV30 dc30 pm30 cd30 ct30 : Value}
    {f31 : Addr} {od31 an31 : Option Addr} {sl31 : Array (Option Value)} {oc31 kV31 dc31 pm31 cd31 ct31 : Value}
    {f32 : Addr} {od32 an32 : Option Addr} {sl32 : Array (Option Value)} {oc32 kV32 dc32 pm32 cd32 ct32 : Value}
    {f33 : Addr} {od33 an33 : Option Addr} {sl33 : Array (Option Value)} {oc33 kV33 dc33 pm33 cd33 ct33 : Value}
    {f34 : Addr} {od34 an34 : Option Addr} {sl34 : Array (Option Value)} {oc34 kV34 dc34 pm34 cd34 ct34 : Value}
    {f35 : Addr} {od35 an35 : Option Addr} {sl35 : Array (Option Value)} {oc35 kV35 dc35 pm35 cd35 ct35 : Value}
    {f36 : Addr} {od36 an36 : Option Addr} {sl36 : Array (Option Value)} {oc36 kV36 dc36 pm36 cd36 ct36 : Value}
    {f37 : Addr} {od37 an37 : Option Addr} {sl37 : Array (Option Value)} {oc37 kV37 dc37 pm37 cd37 ct37 : Value}
    {f38 : Addr} {od38 an38 : Option Addr} {sl38 : Array (Option Value)} {oc38 kV38 dc38 pm38 cd38 ct38 : Value}
    {f39 : Addr} {od39 an39 : Option Addr} {sl39 : Array (Option Value)} {oc39 kV39 dc39 pm39 cd39 ct39 : Value}
    {f40 : Addr} {od40 an40 : Option Addr} {sl40 : Array (Option Value)} {oc40 kV40 dc40 pm40 cd40 ct40 : Value}
    {f41 : Addr} {od41 an41 : Option Addr} {sl41 : Array (Option Value)} {oc41 kV41 dc41 pm41 cd41 ct41 : Value}
    {f42 : Addr} {od42 an42 : Option Addr} {sl42 : Array (Option Value)} {oc42 kV42 dc42 pm42 cd42 ct42 : Value}
    {C9 B9 f9 : Addr} {od9 an9 : Option Addr} {sl9 : Array (Option Value)} {oc9 kV9 dc9 pm9 cd9 ct9 : Value}
    {nm9 q9 : Str} {N9 : Addr} {bs9 : List Value} {sn9 : List Str} {sub9 : List Value} {ab9 : Bool} {col9 : Option Bool} {dd9 : Option Addr} {m09 m19 m29 m39 m59 : Option Value}
    {C10 B10 f10 : Addr} {od10 an10 : Option Addr} {sl10 : Array (Option Value)} {oc10 kV10 dc10 pm10 cd10 ct10 : Value}
    {nm10 q10 : Str} {N10 : Addr} {bs10 : List Value} {sn10 : List Str} {sub10 : List Value} {ab10 : Bool} {col10 : Option Bool} {dd10 : Option Addr} {m010 m110 m210 m310 m510 : Option Value}
    {C11 B11 f11 : Addr} {od11 an11 : Option Addr} {sl11 : Array (Option Value)} {oc11 kV11 dc11 pm11 cd11 ct11 : Value}
    {nm11 q11 : Str} {N11 : Addr} {bs11 : List Value} {sn11 : List Str} {sub11 : List Value} {ab11 : Bool} {col11 : Option Bool} {dd11 : Option Addr} {m011 m111 m211 m311 m511 : Option Value}
    {t1 : Tok}
    {f12 : Addr} {od12 : Option Addr} {its12 : Array Value} {nn12 : Nat} {sl12 : Array (Option Value)}
    {f13 : Addr} {od13 : Option Addr} {its13 : Array Value} {nn13 : Nat} {sl13 : Array (Option Value)}
    {f15 : Addr} {od15 : Option Addr} {its15 : Array Value} {nn15 : Nat} {sl15 : Array (Option Value)}
    {C17 : Addr}
    {f1340 : Addr} {od1340 an1340 : Option Addr} {sl1340 : Array (Option Value)} {oc1340 kV1340 dc1340 pm1340 cd1340 ct1340 : Value}
    {f1341 : Addr} {od1341 an1341 : Option Addr} {sl1341 : Array (Option Value)} {oc1341 kV1341 dc1341 pm1341 cd1341 ct1341 : Value}
    {f1342 : Addr} {od1342 an1342 : Option Addr} {sl1342 : Array (Option Value)} {oc1342 kV1342 dc1342 pm1342 cd1342 ct1342 : Value}
    {f1343 : Addr} {od1343 an1343 : Option Addr} {sl1343 : Array (Option Value)} {oc1343 kV1343 dc1343 pm1343 cd1343 ct1343 : Value}
    (a2 : PySem.W.nsIn K mainGlobals "is_integer" = some (some (.ref f2)))
    (l2 : K.lookup f2 = some ⟨oc2, od2, .func (PySem.W.fnOf "is_integer" "is_integer" (defArgs s_is_integer) (defBody s_is_integer) (defScope s_is_integer) .none kV2 dc2 pm2 an2 cd2 ct2), sl2⟩)
    (c2 : PySem.W.codeIn K cd2 "is_integer" = true) (k2 : PySem.W.keepIn K (.ref f2) = true)
    (a3 : PySem.W.nsIn K mainGlobals "is_natural" = some (some (.ref f3)))
    (l3 : K.lookup f3 = some ⟨oc3, od3, .func (PySem.W.fnOf "is_natural" "is_natural" (defArgs s_is_natural) (defBody s_is_natural) (defScope s_is_natural) .none kV3 dc3 pm3 an3 cd3 ct3), sl3⟩)
    (c3 : PySem.W.codeIn K cd3 "is_natural" = true) (k3 : PySem.W.keepIn K (.ref f3) = true)
    (a4 : PySem.W.nsIn K mainGlobals "is_list" = some (some (.ref f4)))
    (l4 : K.lookup f4 = some ⟨oc4, od4, .func (PySem.W.fnOf "is_list" "is_list" (defArgs s_is_list) (defBody s_is_list) (defScope s_is_list) .none kV4 dc4 pm4 an4 cd4 ct4), sl4⟩)
    (c4 : PySem.W.codeIn K cd4 "is_list" = true) (k4 : PySem.W.keepIn K (.ref f4) = true)
    (a5 : PySem.W.nsIn K mainGlobals "is_pair" = some (some (.ref f5)))
    (l5 : K.lookup f5 = some ⟨oc5, od5, .func (PySem.W.fnOf "is_pair" "is_pair" (defArgs s_is_pair) (defBody s_is_pair) (defScope s_is_pair) .none kV5 dc5 pm5 an5 cd5 ct5), sl5⟩)
    (c5 : PySem.W.codeIn K cd5 "is_pair" = true) (k5 : PySem.W.keepIn K (.ref f5) = true)
    (a6 : PySem.W.nsIn K mainGlobals "is_word" = some (some (.ref f6)))
    (l6 : K.lookup f6 = some ⟨oc6, od6, .func (PySem.W.fnOf "is_word" "is_word" (defArgs s_is_word) (defBody s_is_word) (defScope s_is_word) .none kV6 dc6 pm6 an6 cd6 ct6), sl6⟩)
    (c6 : PySem.W.codeIn K cd6 "is_word" = true) (k6 : PySem.W.keepIn K (.ref f6) = true)
    (a16 : PySem.W.nsIn K mainGlobals "is_part" = some (some (.ref f16)))
    (l16 : K.lookup f16 = some ⟨oc16, od16, .func (PySem.W.fnOf "is_part" "is_part" (defArgs s_is_part) (defBody s_is_part) (defScope s_is_part) .none kV16 dc16 pm16 an16 cd16 ct16), sl16⟩)
    (c16 : PySem.W.codeIn K cd16 "is_part" = true) (k16 : PySem.W.keepIn K (.ref f16) = true)
    (a18 : PySem.W.nsIn K mainGlobals "checked_sizes" = some (some (.ref f18)))
    (l18 : K.lookup f18 = some ⟨oc18, od18, .func (PySem.W.fnOf "checked_sizes" "checked_sizes" (defArgs s_checked_sizes) (defBody s_checked_sizes) (defScope s_checked_sizes) .none kV18 dc18 pm18 an18 cd18 ct18), sl18⟩)
    (c18 : PySem.W.codeIn K cd18 "checked_sizes" = true) (k18 : PySem.W.keepIn K (.ref f18) = true)
    (a19 : PySem.W.nsIn K mainGlobals "lifted" = some (some (.ref f19)))
    (l19 : K.lookup f19 = some ⟨oc19, od19, .func (PySem.W.fnOf "lifted" "lifted" (defArgs s_lifted) (defBody s_lifted) (defScope s_lifted) .none kV19 dc19 pm19 an19 cd19 ct19), sl19⟩)
    (c19 : PySem.W.codeIn K cd19 "lifted" = true) (k19 : PySem.W.keepIn K (.ref f19) = true)
    (a20 : PySem.W.nsIn K mainGlobals "lowest" = some (some (.ref f20)))
    (l20 : K.lookup f20 = some ⟨oc20, od20, .func (PySem.W.fnOf "lowest" "lowest" (defArgs s_lowest) (defBody s_lowest) (defScope s_lowest) .none kV20 dc20 pm20 an20 cd20 ct20), sl20⟩)
    (c20 : PySem.W.codeIn K cd20 "lowest" = true) (k20 : PySem.W.keepIn K (.ref f20) = true)
    (a21 : PySem.W.nsIn K mainGlobals "is_layout" = some (some (.ref f21)))
    (l21 : K.lookup f21 = some ⟨oc21, od21, .func (PySem.W.fnOf "is_layout" "is_layout" (defArgs s_is_layout) (defBody s_is_layout) (defScope s_is_layout) .none kV21 dc21 pm21 an21 cd21 ct21), sl21⟩)
    (c21 : PySem.W.codeIn K cd21 "is_layout" = true) (k21 : PySem.W.keepIn K (.ref f21) = true)
    (a22 : PySem.W.nsIn K mainGlobals "earliest_of" = some (some (.ref f22)))
    (l22 : K.lookup f22 = some ⟨oc22, od22, .func (PySem.W.fnOf "earliest_of" "earliest_of" (defArgs s_earliest_of) (defBody s_earliest_of) (defScope s_earliest_of) .none kV22 dc22 pm22 an22 cd22 ct22), sl22⟩)
    (c22 : PySem.W.codeIn K cd22 "earliest_of" = true) (k22 : PySem.W.keepIn K (.ref f22) = true)
    (a23 : PySem.W.nsIn K mainGlobals "earliest" = some (some (.ref f23)))
    (l23 : K.lookup f23 = some ⟨oc23, od23, .func (PySem.W.fnOf "earliest" "earliest" (defArgs s_earliest) (defBody s_earliest) (defScope s_earliest) .none kV23 dc23 pm23 an23 cd23 ct23), sl23⟩)
    (c23 : PySem.W.codeIn K cd23 "earliest" = true) (k23 : PySem.W.keepIn K (.ref f23) = true)
    (a24 : PySem.W.nsIn K mainGlobals "shortest" = some (some (.ref f24)))
    (l24 : K.lookup f24 = some ⟨oc24, od24, .func (PySem.W.fnOf "shortest" "shortest" (defArgs s_shortest) (defBody s_shortest) (defScope s_shortest) .none kV24 dc24 pm24 an24 cd24 ct24), sl24⟩)
    (c24 : PySem.W.codeIn K cd24 "shortest" = true) (k24 : PySem.W.keepIn K (.ref f24) = true)
    (a26 : PySem.W.nsIn K mainGlobals "_law_source" = some (some (.ref f26)))
    (l26 : K.lookup f26 = some ⟨oc26, od26, .func (PySem.W.fnOf "_law_source" "_law_source" (defArgs s_law_source) (defBody s_law_source) (defScope s_law_source) .none kV26 dc26 pm26 an26 cd26 ct26), sl26⟩)
    (c26 : PySem.W.codeIn K cd26 "_law_source" = true) (k26 : PySem.W.keepIn K (.ref f26) = true)
    (a27 : PySem.W.nsIn K mainGlobals "_law_draw" = some (some (.ref f27)))
    (l27 : K.lookup f27 = some ⟨oc27, od27, .func (PySem.W.fnOf "_law_draw" "_law_draw" (defArgs s_law_draw) (defBody s_law_draw) (defScope s_law_draw) .none kV27 dc27 pm27 an27 cd27 ct27), sl27⟩)
    (c27 : PySem.W.codeIn K cd27 "_law_draw" = true) (k27 : PySem.W.keepIn K (.ref f27) = true)
    (a28 : PySem.W.nsIn K mainGlobals "_law_pick" = some (some (.ref f28)))
    (l28 : K.lookup f28 = some ⟨oc28, od28, .func (PySem.W.fnOf "_law_pick" "_law_pick" (defArgs s_law_pick) (defBody s_law_pick) (defScope s_law_pick) .none kV28 dc28 pm28 an28 cd28 ct28), sl28⟩)
    (c28 : PySem.W.codeIn K cd28 "_law_pick" = true) (k28 : PySem.W.keepIn K (.ref f28) = true)
    (a29 : PySem.W.nsIn K mainGlobals "_law_mixed" = some (some (.ref f29)))
    (l29 : K.lookup f29 = some ⟨oc29, od29, .func (PySem.W.fnOf "_law_mixed" "_law_mixed" (defArgs s_law_mixed) (defBody s_law_mixed) (defScope s_law_mixed) .none kV29 dc29 pm29 an29 cd29 ct29), sl29⟩)
    (c29 : PySem.W.codeIn K cd29 "_law_mixed" = true) (k29 : PySem.W.keepIn K (.ref f29) = true)
    (a30 : PySem.W.nsIn K mainGlobals "_law_loose" = some (some (.ref f30)))
    (l30 : K.lookup f30 = some ⟨oc30, od30, .func (PySem.W.fnOf "_law_loose" "_law_loose" (defArgs s_law_loose) (defBody s_law_loose) (defScope s_law_loose) .none kV30 dc30 pm30 an30 cd30 ct30), sl30⟩)
    (c30 : PySem.W.codeIn K cd30 "_law_loose" = true) (k30 : PySem.W.keepIn K (.ref f30) = true)
    (a31 : PySem.W.nsIn K mainGlobals "_law_same" = some (some (.ref f31)))
    (l31 : K.lookup f31 = some ⟨oc31, od31, .func (PySem.W.fnOf "_law_same" "_law_same" (defArgs s_law_same) (defBody s_law_same) (defScope s_law_same) .none kV31 dc31 pm31 an31 cd31 ct31), sl31⟩)
    (c31 : PySem.W.codeIn K cd31 "_law_same" = true) (k31 : PySem.W.keepIn K (.ref f31) = true)
    (a32 : PySem.W.nsIn K mainGlobals "_law_parts" = some (some (.ref f32)))
    (l32 : K.lookup f32 = some ⟨oc32, od32, .func (PySem.W.fnOf "_law_parts" "_law_parts" (defArgs s_law_parts) (defBody s_law_parts) (defScope s_law_parts) .none kV32 dc32 pm32 an32 cd32 ct32), sl32⟩)
    (c32 : PySem.W.codeIn K cd32 "_law_parts" = true) (k32 : PySem.W.keepIn K (.ref f32) = true)
    (a33 : PySem.W.nsIn K mainGlobals "_law_some_sizes" = some (some (.ref f33)))
    (l33 : K.lookup f33 = some ⟨oc33, od33, .func (PySem.W.fnOf "_law_some_sizes" "_law_some_sizes" (defArgs s_law_some_sizes) (defBody s_law_some_sizes) (defScope s_law_some_sizes) .none kV33 dc33 pm33 an33 cd33 ct33), sl33⟩)
    (c33 : PySem.W.codeIn K cd33 "_law_some_sizes" = true) (k33 : PySem.W.keepIn K (.ref f33) = true)
    (a34 : PySem.W.nsIn K mainGlobals "_law_lowest" = some (some (.ref f34)))
    (l34 : K.lookup f34 = some ⟨oc34, od34, .func (PySem.W.fnOf "_law_lowest" "_law_lowest" (defArgs s_law_lowest) (defBody s_law_lowest) (defScope s_law_lowest) .none kV34 dc34 pm34 an34 cd34 ct34), sl34⟩)
    (c34 : PySem.W.codeIn K cd34 "_law_lowest" = true) (k34 : PySem.W.keepIn K (.ref f34) = true)
    (a35 : PySem.W.nsIn K mainGlobals "_law_addresses" = some (some (.ref f35)))
    (l35 : K.lookup f35 = some ⟨oc35, od35, .func (PySem.W.fnOf "_law_addresses" "_law_addresses" (defArgs s_law_addresses) (defBody s_law_addresses) (defScope s_law_addresses) .none kV35 dc35 pm35 an35 cd35 ct35), sl35⟩)
    (c35 : PySem.W.codeIn K cd35 "_law_addresses" = true) (k35 : PySem.W.keepIn K (.ref f35) = true)
    (a36 : PySem.W.nsIn K mainGlobals "_law_same_rest" = some (some (.ref f36)))
    (l36 : K.lookup f36 = some ⟨oc36, od36, .func (PySem.W.fnOf "_law_same_rest" "_law_same_rest" (defArgs s_law_same_rest) (defBody s_law_same_rest) (defScope s_law_same_rest) .none kV36 dc36 pm36 an36 cd36 ct36), sl36⟩)
    (c36 : PySem.W.codeIn K cd36 "_law_same_rest" = true) (k36 : PySem.W.keepIn K (.ref f36) = true)
    (a37 : PySem.W.nsIn K mainGlobals "_law_right_layout" = some (some (.ref f37)))
    (l37 : K.lookup f37 = some ⟨oc37, od37, .func (PySem.W.fnOf "_law_right_layout" "_law_right_layout" (defArgs s_law_right_layout) (defBody s_law_right_layout) (defScope s_law_right_layout) .none kV37 dc37 pm37 an37 cd37 ct37), sl37⟩)
    (c37 : PySem.W.codeIn K cd37 "_law_right_layout" = true) (k37 : PySem.W.keepIn K (.ref f37) = true)
    (a38 : PySem.W.nsIn K mainGlobals "_law_few" = some (some (.ref f38)))
    (l38 : K.lookup f38 = some ⟨oc38, od38, .func (PySem.W.fnOf "_law_few" "_law_few" (defArgs s_law_few) (defBody s_law_few) (defScope s_law_few) .none kV38 dc38 pm38 an38 cd38 ct38), sl38⟩)
    (c38 : PySem.W.codeIn K cd38 "_law_few" = true) (k38 : PySem.W.keepIn K (.ref f38) = true)
    (a39 : PySem.W.nsIn K mainGlobals "_law_earliest" = some (some (.ref f39)))
    (l39 : K.lookup f39 = some ⟨oc39, od39, .func (PySem.W.fnOf "_law_earliest" "_law_earliest" (defArgs s_law_earliest) (defBody s_law_earliest) (defScope s_law_earliest) .none kV39 dc39 pm39 an39 cd39 ct39), sl39⟩)
    (c39 : PySem.W.codeIn K cd39 "_law_earliest" = true) (k39 : PySem.W.keepIn K (.ref f39) = true)
    (a40 : PySem.W.nsIn K mainGlobals "_law_shortest" = some (some (.ref f40)))
    (l40 : K.lookup f40 = some ⟨oc40, od40, .func (PySem.W.fnOf "_law_shortest" "_law_shortest" (defArgs s_law_shortest) (defBody s_law_shortest) (defScope s_law_shortest) .none kV40 dc40 pm40 an40 cd40 ct40), sl40⟩)
    (c40 : PySem.W.codeIn K cd40 "_law_shortest" = true) (k40 : PySem.W.keepIn K (.ref f40) = true)
    (a41 : PySem.W.nsIn K mainGlobals "_law_none_better" = some (some (.ref f41)))
    (l41 : K.lookup f41 = some ⟨oc41, od41, .func (PySem.W.fnOf "_law_none_better" "_law_none_better" (defArgs s_law_none_better) (defBody s_law_none_better) (defScope s_law_none_better) .none kV41 dc41 pm41 an41 cd41 ct41), sl41⟩)
    (c41 : PySem.W.codeIn K cd41 "_law_none_better" = true) (k41 : PySem.W.keepIn K (.ref f41) = true)
    (a42 : PySem.W.nsIn K mainGlobals "law" = some (some (.ref f42)))
    (l42 : K.lookup f42 = some ⟨oc42, od42, .func (PySem.W.fnOf "law" "law" (defArgs s_law) (defBody s_law) (defScope s_law) .none kV42 dc42 pm42 an42 cd42 ct42), sl42⟩)
    (c42 : PySem.W.codeIn K cd42 "law" = true) (k42 : PySem.W.keepIn K (.ref f42) = true)
    (a9 : PySem.W.nsIn K mainGlobals "BadPage" = some (some (.ref C9)))
    (x9 : K.lookup C9 = some (excClassObj nm9 q9 C9 N9 bs9 [.ref B9, .type "ValueError", .type "Exception", .type "BaseException", .type "object"] true sn9 sub9 ab9 col9 dd9 m09 m19 m29 m39 m59 "ValueError.__new__"))
    (sa9 : PySem.W.findIn K (.ref C9) "__setattr__" = some (some (.builtin "object.__setattr__")))
    (ga9 : PySem.W.findIn K (.ref C9) "__getattribute__" = some (some (.builtin "BaseException.__getattribute__")))
    (gg9 : PySem.W.findIn K (.ref C9) "__getattr__" = some none)
    (nf9 : PySem.W.findIn K (.ref C9) "thing" = some none)
    (ii9 : PySem.W.findIn K (.ref C9) "__init__" = some (some (.ref f9)))
    (ti9 : PySem.W.typeIn K (.ref f9) = some (.type "function"))
    (kc9 : PySem.W.keepIn K (.ref C9) = true)
    (ec9 : PySem.W.subIn K (.ref C9) (.type "BaseException") = some true)
    (tc9 : PySem.W.typeIn K (.ref C9) = some (.type "type"))
    (hc9 : PySem.W.hasDictIn K C9 = true)
    (ic9 : PySem.W.isClsIn K C9 = true)
    (sc9 : PySem.W.subIn K (.ref C9) (.ref C9) = some true)
    (l9 : K.lookup f9 = some ⟨oc9, od9, .func (PySem.W.fnOf "__init__" "BadPage.__init__" (defArgs s_BadPage) (defBody s_BadPage) (defScope s_BadPage) .none kV9 dc9 pm9 an9 cd9 ct9), sl9⟩)
    (c9 : PySem.W.codeIn K cd9 "BadPage.__init__" = true) (k9 : PySem.W.keepIn K (.ref f9) = true)
    (a10 : PySem.W.nsIn K mainGlobals "BadPart" = some (some (.ref C10)))
    (x10 : K.lookup C10 = some (excClassObj nm10 q10 C10 N10 bs10 [.ref B10, .type "ValueError", .type "Exception", .type "BaseException", .type "object"] true sn10 sub10 ab10 col10 dd10 m010 m110 m210 m310 m510 "ValueError.__new__"))
    (sa10 : PySem.W.findIn K (.ref C10) "__setattr__" = some (some (.builtin "object.__setattr__")))
    (ga10 : PySem.W.findIn K (.ref C10) "__getattribute__" = some (some (.builtin "BaseException.__getattribute__")))
    (gg10 : PySem.W.findIn K (.ref C10) "__getattr__" = some none)
    (nf10 : PySem.W.findIn K (.ref C10) "index" = some none)
    (ii10 : PySem.W.findIn K (.ref C10) "__init__" = some (some (.ref f10)))
    (ti10 : PySem.W.typeIn K (.ref f10) = some (.type "function"))
    (kc10 : PySem.W.keepIn K (.ref C10) = true)
    (ec10 : PySem.W.subIn K (.ref C10) (.type "BaseException") = some true)
    (tc10 : PySem.W.typeIn K (.ref C10) = some (.type "type"))
    (hc10 : PySem.W.hasDictIn K C10 = true)
    (ic10 : PySem.W.isClsIn K C10 = true)
    (sc10 : PySem.W.subIn K (.ref C10) (.ref C10) = some true)
    (l10 : K.lookup f10 = some ⟨oc10, od10, .func (PySem.W.fnOf "__init__" "BadPart.__init__" (defArgs s_BadPart) (defBody s_BadPart) (defScope s_BadPart) .none kV10 dc10 pm10 an10 cd10 ct10), sl10⟩)
    (c10 : PySem.W.codeIn K cd10 "BadPart.__init__" = true) (k10 : PySem.W.keepIn K (.ref f10) = true)
    (a11 : PySem.W.nsIn K mainGlobals "BadSizes" = some (some (.ref C11)))
    (x11 : K.lookup C11 = some (excClassObj nm11 q11 C11 N11 bs11 [.ref B11, .type "ValueError", .type "Exception", .type "BaseException", .type "object"] true sn11 sub11 ab11 col11 dd11 m011 m111 m211 m311 m511 "ValueError.__new__"))
    (sa11 : PySem.W.findIn K (.ref C11) "__setattr__" = some (some (.builtin "object.__setattr__")))
    (ga11 : PySem.W.findIn K (.ref C11) "__getattribute__" = some (some (.builtin "BaseException.__getattribute__")))
    (gg11 : PySem.W.findIn K (.ref C11) "__getattr__" = some none)
    (nf11 : PySem.W.findIn K (.ref C11) "index" = some none)
    (ii11 : PySem.W.findIn K (.ref C11) "__init__" = some (some (.ref f11)))
    (ti11 : PySem.W.typeIn K (.ref f11) = some (.type "function"))
    (kc11 : PySem.W.keepIn K (.ref C11) = true)
    (ec11 : PySem.W.subIn K (.ref C11) (.type "BaseException") = some true)
    (tc11 : PySem.W.typeIn K (.ref C11) = some (.type "type"))
    (hc11 : PySem.W.hasDictIn K C11 = true)
    (ic11 : PySem.W.isClsIn K C11 = true)
    (sc11 : PySem.W.subIn K (.ref C11) (.ref C11) = some true)
    (l11 : K.lookup f11 = some ⟨oc11, od11, .func (PySem.W.fnOf "__init__" "BadSizes.__init__" (defArgs s_BadSizes) (defBody s_BadSizes) (defScope s_BadSizes) .none kV11 dc11 pm11 an11 cd11 ct11), sl11⟩)
    (c11 : PySem.W.codeIn K cd11 "BadSizes.__init__" = true) (k11 : PySem.W.keepIn K (.ref f11) = true)
    (a1 : PySem.W.nsIn K mainGlobals "LETTERS" = some (some (.str "abcdefghijklmnopqrstuvwxyz" t1)))
    (a12 : PySem.W.nsIn K mainGlobals "RIGHTS" = some (some (.ref f12)))
    (l12 : K.lookup f12 = some ⟨.type "tuple", od12, .seq its12 nn12, sl12⟩)
    (v12 : Vals [.str "r", .str "rw", .str "rx"] its12.toList)
    (w12 : its12.size ≤ sizeLine)
    (a13 : PySem.W.nsIn K mainGlobals "ALIGNS" = some (some (.ref f13)))
    (l13 : K.lookup f13 = some ⟨.type "tuple", od13, .seq its13 nn13, sl13⟩)
    (v13 : Vals [.int 1, .int 2, .int 4, .int 8, .int 16, .int 32, .int 64] its13.toList)
    (w13 : its13.size ≤ sizeLine)
    (a15 : PySem.W.nsIn K mainGlobals "PAGES" = some (some (.ref f15)))
    (l15 : K.lookup f15 = some ⟨.type "tuple", od15, .seq its15 nn15, sl15⟩)
    (v15 : Vals [.int 8, .int 16, .int 32, .int 64] its15.toList)
    (w15 : its15.size ≤ sizeLine)
    (a17 : PySem.W.nsIn K mainGlobals "Plan" = some (some (.ref C17)))
    (pg17 : PySem.W.plainGet K C17 Str.empty = true)
    (hd17 : PySem.W.hasDictIn K C17 = true)
    (po17 : PySem.W.plainOver K C17 = true)
    (sa17 : PySem.W.findIn K (.ref C17) "__setattr__" = some (some (.builtin "object.__setattr__")))
    (mk17 : PySem.W.makesIn K C17 = true)
    (kc17 : PySem.W.keepIn K (.ref C17) = true)
    (no17_0 : PySem.W.findIn K (.ref C17) "kept_page" = some none)
    (no17_1 : PySem.W.findIn K (.ref C17) "kept_parts" = some none)
    (a1340 : PySem.W.findIn K (.ref C17) "__init__" = some (some (.ref f1340)))
    (i1340 : PySem.W.isFn K (.ref f1340) = true)
    (l1340 : K.lookup f1340 = some ⟨oc1340, od1340, .func (PySem.W.fnOf "__init__" "Plan.__init__" (defArgs s_Plan___init__) (defBody s_Plan___init__) (defScope s_Plan___init__) .none kV1340 dc1340 pm1340 an1340 cd1340 ct1340), sl1340⟩)
    (c1340 : PySem.W.codeIn K cd1340 "Plan.__init__" = true) (k1340 : PySem.W.keepIn K (.ref f1340) = true)
    (a1341 : PySem.W.findIn K (.ref C17) "page" = some (some (.ref f1341)))
    (i1341 : PySem.W.isFn K (.ref f1341) = true)
    (l1341 : K.lookup f1341 = some ⟨oc1341, od1341, .func (PySem.W.fnOf "page" "Plan.page" (defArgs s_Plan_page) (defBody s_Plan_page) (defScope s_Plan_page) .none kV1341 dc1341 pm1341 an1341 cd1341 ct1341), sl1341⟩)
    (c1341 : PySem.W.codeIn K cd1341 "Plan.page" = true) (k1341 : PySem.W.keepIn K (.ref f1341) = true)
    (a1342 : PySem.W.findIn K (.ref C17) "parts" = some (some (.ref f1342)))
    (i1342 : PySem.W.isFn K (.ref f1342) = true)
    (l1342 : K.lookup f1342 = some ⟨oc1342, od1342, .func (PySem.W.fnOf "parts" "Plan.parts" (defArgs s_Plan_parts) (defBody s_Plan_parts) (defScope s_Plan_parts) .none kV1342 dc1342 pm1342 an1342 cd1342 ct1342), sl1342⟩)
    (c1342 : PySem.W.codeIn K cd1342 "Plan.parts" = true) (k1342 : PySem.W.keepIn K (.ref f1342) = true)
    (a1343 : PySem.W.findIn K (.ref C17) "__eq__" = some (some (.ref f1343)))
    (i1343 : PySem.W.isFn K (.ref f1343) = true)
    (l1343 : K.lookup f1343 = some ⟨oc1343, od1343, .func (PySem.W.fnOf "__eq__" "Plan.__eq__" (defArgs s_Plan___eq__) (defBody s_Plan___eq__) (defScope s_Plan___eq__) .none kV1343 dc1343 pm1343 an1343 cd1343 ct1343), sl1343⟩)
    (c1343 : PySem.W.codeIn K cd1343 "Plan.__eq__" = true) (k1343 : PySem.W.keepIn K (.ref f1343) = true)
    (z0 : PySem.W.nsIn K mainGlobals "all" = some none)
    (z1 : PySem.W.nsIn K mainGlobals "bool" = some none)
    (z2 : PySem.W.nsIn K mainGlobals "dict" = some none)
    (z3 : PySem.W.nsIn K mainGlobals "enumerate" = some none)
    (z4 : PySem.W.nsIn K mainGlobals "int" = some none)
    (z5 : PySem.W.nsIn K mainGlobals "isinstance" = some none)
    (z6 : PySem.W.nsIn K mainGlobals "len" = some none)
    (z7 : PySem.W.nsIn K mainGlobals "list" = some none)
    (z8 : PySem.W.nsIn K mainGlobals "min" = some none)
    (z9 : PySem.W.nsIn K mainGlobals "range" = some none)
    (z10 : PySem.W.nsIn K mainGlobals "str" = some none)
    (z11 : PySem.W.nsIn K mainGlobals "sum" = some none)
    (z12 : PySem.W.nsIn K mainGlobals "tuple" = some none)
    (z13 : PySem.W.nsIn K mainGlobals "zip" = some none) :
    ∃ fd : FuncData, (∀ (s : Shared) (v : Value), BindsTo s fd ⟨[v], []⟩ [("_law_script", v)]) ∧ ∀ base : Heap, K.In base → base.Ns mainGlobals mg → FnOk l.prog w K mg base CX0 6 fa fd ["_law_script"] (sp_law K) := by
  have e := hfa.symm.trans (PySem.W.mg_of X G a42)
  cases e
  let ad : Nat → Addr := fun n => match n with | 2 => f2 | 3 => f3 | 4 => f4 | 5 => f5 | 6 => f6 | 16 => f16 | 18 => f18 | 19 => f19 | 20 => f20 | 21 => f21 | 22 => f22 | 23 => f23 | 24 => f24 | 26 => f26 | 27 => f27 | 28 => f28 | 29 => f29 | 30 => f30 | 31 => f31 | 32 => f32 | 33 => f33 | 34 => f34 | 35 => f35 | 36 => f36 | 37 => f37 | 38 => f38 | 39 => f39 | 40 => f40 | 41 => f41 | 42 => fa | 9 => C9 | 10 => C10 | 11 => C11 | 12 => f12 | 13 => f13 | 15 => f15 | 17 => C17 | _ => 0
  let ai : Nat → Addr := fun n => match n with | 9 => f9 | 10 => f10 | 11 => f11 | 1340 => f1340 | 1341 => f1341 | 1342 => f1342 | 1343 => f1343 | _ => 0
  let fd : Nat → FuncData := fun n => match n with | 2 => PySem.W.fnOf "is_integer" "is_integer" (defArgs s_is_integer) (defBody s_is_integer) (defScope s_is_integer) .none kV2 dc2 pm2 an2 cd2 ct2 | 3 => PySem.W.fnOf "is_natural" "is_natural" (defArgs s_is_natural) (defBody s_is_natural) (defScope s_is_natural) .none kV3 dc3 pm3 an3 cd3 ct3 | 4 => PySem.W.fnOf "is_list" "is_list" (defArgs s_is_list) (defBody s_is_list) (defScope s_is_list) .none kV4 dc4 pm4 an4 cd4 ct4 | 5 => PySem.W.fnOf "is_pair" "is_pair" (defArgs s_is_pair) (defBody s_is_pair) (defScope s_is_pair) .none kV5 dc5 pm5 an5 cd5 ct5 | 6 => PySem.W.fnOf "is_word" "is_word" (defArgs s_is_word) (defBody s_is_word) (defScope s_is_word) .none kV6 dc6 pm6 an6 cd6 ct6 | 16 => PySem.W.fnOf "is_part" "is_part" (defArgs s_is_part) (defBody s_is_part) (defScope s_is_part) .none kV16 dc16 pm16 an16 cd16 ct16 | 18 => PySem.W.fnOf "checked_sizes" "checked_sizes" (defArgs s_checked_sizes) (defBody s_checked_sizes) (defScope s_checked_sizes) .none kV18 dc18 pm18 an18 cd18 ct18 | 19 => PySem.W.fnOf "lifted" "lifted" (defArgs s_lifted) (defBody s_lifted) (defScope s_lifted) .none kV19 dc19 pm19 an19 cd19 ct19 | 20 => PySem.W.fnOf "lowest" "lowest" (defArgs s_lowest) (defBody s_lowest) (defScope s_lowest) .none kV20 dc20 pm20 an20 cd20 ct20 | 21 => PySem.W.fnOf "is_layout" "is_layout" (defArgs s_is_layout) (defBody s_is_layout) (defScope s_is_layout) .none kV21 dc21 pm21 an21 cd21 ct21 | 22 => PySem.W.fnOf "earliest_of" "earliest_of" (defArgs s_earliest_of) (defBody s_earliest_of) (defScope s_earliest_of) .none kV22 dc22 pm22 an22 cd22 ct22 | 23 => PySem.W.fnOf "earliest" "earliest" (defArgs s_earliest) (defBody s_earliest) (defScope s_earliest) .none kV23 dc23 pm23 an23 cd23 ct23 | 24 => PySem.W.fnOf "shortest" "shortest" (defArgs s_shortest) (defBody s_shortest) (defScope s_shortest) .none kV24 dc24 pm24 an24 cd24 ct24 | 26 => PySem.W.fnOf "_law_source" "_law_source" (defArgs s_law_source) (defBody s_law_source) (defScope s_law_source) .none kV26 dc26 pm26 an26 cd26 ct26 | 27 => PySem.W.fnOf "_law_draw" "_law_draw" (defArgs s_law_draw) (defBody s_law_draw) (defScope s_law_draw) .none kV27 dc27 pm27 an27 cd27 ct27 | 28 => PySem.W.fnOf "_law_pick" "_law_pick" (defArgs s_law_pick) (defBody s_law_pick) (defScope s_law_pick) .none kV28 dc28 pm28 an28 cd28 ct28 | 29 => PySem.W.fnOf "_law_mixed" "_law_mixed" (defArgs s_law_mixed) (defBody s_law_mixed) (defScope s_law_mixed) .none kV29 dc29 pm29 an29 cd29 ct29 | 30 => PySem.W.fnOf "_law_loose" "_law_loose" (defArgs s_law_loose) (defBody s_law_loose) (defScope s_law_loose) .none kV30 dc30 pm30 an30 cd30 ct30 | 31 => PySem.W.fnOf "_law_same" "_law_same" (defArgs s_law_same) (defBody s_law_same) (defScope s_law_same) .none kV31 dc31 pm31 an31 cd31 ct31 | 32 => PySem.W.fnOf "_law_parts" "_law_parts" (defArgs s_law_parts) (defBody s_law_parts) (defScope s_law_parts) .none kV32 dc32 pm32 an32 cd32 ct32 | 33 => PySem.W.fnOf "_law_some_sizes" "_law_some_sizes" (defArgs s_law_some_sizes) (defBody s_law_some_sizes) (defScope s_law_some_sizes) .none kV33 dc33 pm33 an33 cd33 ct33 | 34 => PySem.W.fnOf "_law_lowest" "_law_lowest" (defArgs s_law_lowest) (defBody s_law_lowest) (defScope s_law_lowest) .none kV34 dc34 pm34 an34 cd34 ct34 | 35 => PySem.W.fnOf "_law_addresses" "_law_addresses" (defArgs s_law_addresses) (defBody s_law_addresses) (defScope s_law_addresses) .none kV35 dc35 pm35 an35 cd35 ct35 | 36 => PySem.W.fnOf "_law_same_rest" "_law_same_rest" (defArgs s_law_same_rest) (defBody s_law_same_rest) (defScope s_law_same_rest) .none kV36 dc36 pm36 an36 cd36 ct36 | 37 => PySem.W.fnOf "_law_right_layout" "_law_right_layout" (defArgs s_law_right_layout) (defBody s_law_right_layout) (defScope s_law_right_layout) .none kV37 dc37 pm37 an37 cd37 ct37 | 38 => PySem.W.fnOf "_law_few" "_law_few" (defArgs s_law_few) (defBody s_law_few) (defScope s_law_few) .none kV38 dc38 pm38 an38 cd38 ct38 | 39 => PySem.W.fnOf "_law_earliest" "_law_earliest" (defArgs s_law_earliest) (defBody s_law_earliest) (defScope s_law_earliest) .none kV39 dc39 pm39 an39 cd39 ct39 | 40 => PySem.W.fnOf "_law_shortest" "_law_shortest" (defArgs s_law_shortest) (defBody s_law_shortest) (defScope s_law_shortest) .none kV40 dc40 pm40 an40 cd40 ct40 | 41 => PySem.W.fnOf "_law_none_better" "_law_none_better" (defArgs s_law_none_better) (defBody s_law_none_better) (defScope s_law_none_better) .none kV41 dc41 pm41 an41 cd41 ct41 | 42 => PySem.W.fnOf "law" "law" (defArgs s_law) (defBody s_law) (defScope s_law) .none kV42 dc42 pm42 an42 cd42 ct42 | 9 => PySem.W.fnOf "__init__" "BadPage.__init__" (defArgs s_BadPage) (defBody s_BadPage) (defScope s_BadPage) .none kV9 dc9 pm9 an9 cd9 ct9 | 10 => PySem.W.fnOf "__init__" "BadPart.__init__" (defArgs s_BadPart) (defBody s_BadPart) (defScope s_BadPart) .none kV10 dc10 pm10 an10 cd10 ct10 | 11 => PySem.W.fnOf "__init__" "BadSizes.__init__" (defArgs s_BadSizes) (defBody s_BadSizes) (defScope s_BadSizes) .none kV11 dc11 pm11 an11 cd11 ct11 | 1340 => PySem.W.fnOf "__init__" "Plan.__init__" (defArgs s_Plan___init__) (defBody s_Plan___init__) (defScope s_Plan___init__) .none kV1340 dc1340 pm1340 an1340 cd1340 ct1340 | 1341 => PySem.W.fnOf "page" "Plan.page" (defArgs s_Plan_page) (defBody s_Plan_page) (defScope s_Plan_page) .none kV1341 dc1341 pm1341 an1341 cd1341 ct1341 | 1342 => PySem.W.fnOf "parts" "Plan.parts" (defArgs s_Plan_parts) (defBody s_Plan_parts) (defScope s_Plan_parts) .none kV1342 dc1342 pm1342 an1342 cd1342 ct1342 | 1343 => PySem.W.fnOf "__eq__" "Plan.__eq__" (defArgs s_Plan___eq__) (defBody s_Plan___eq__) (defScope s_Plan___eq__) .none kV1343 dc1343 pm1343 an1343 cd1343 ct1343 | _ => PySem.W.fnOf "law" "law" (defArgs s_law) (defBody s_law) (defScope s_law) .none kV42 dc42 pm42 an42 cd42 ct42
  have F2 : Fun K "is_integer" "is_integer" s_is_integer f2 (PySem.W.fnOf "is_integer" "is_integer" (defArgs s_is_integer) (defBody s_is_integer) (defScope s_is_integer) .none kV2 dc2 pm2 an2 cd2 ct2) := fun_mk (st := s_is_integer) l2 c2 k2
  have F3 : Fun K "is_natural" "is_natural" s_is_natural f3 (PySem.W.fnOf "is_natural" "is_natural" (defArgs s_is_natural) (defBody s_is_natural) (defScope s_is_natural) .none kV3 dc3 pm3 an3 cd3 ct3) := fun_mk (st := s_is_natural) l3 c3 k3
  have F4 : Fun K "is_list" "is_list" s_is_list f4 (PySem.W.fnOf "is_list" "is_list" (defArgs s_is_list) (defBody s_is_list) (defScope s_is_list) .none kV4 dc4 pm4 an4 cd4 ct4) := fun_mk (st := s_is_list) l4 c4 k4
  have F5 : Fun K "is_pair" "is_pair" s_is_pair f5 (PySem.W.fnOf "is_pair" "is_pair" (defArgs s_is_pair) (defBody s_is_pair) (defScope s_is_pair) .none kV5 dc5 pm5 an5 cd5 ct5) := fun_mk (st := s_is_pair) l5 c5 k5
  have F6 : Fun K "is_word" "is_word" s_is_word f6 (PySem.W.fnOf "is_word" "is_word" (defArgs s_is_word) (defBody s_is_word) (defScope s_is_word) .none kV6 dc6 pm6 an6 cd6 ct6) := fun_mk (st := s_is_word) l6 c6 k6
  have F16 : Fun K "is_part" "is_part" s_is_part f16 (PySem.W.fnOf "is_part" "is_part" (defArgs s_is_part) (defBody s_is_part) (defScope s_is_part) .none kV16 dc16 pm16 an16 cd16 ct16) := fun_mk (st := s_is_part) l16 c16 k16
  have F18 : Fun K "checked_sizes" "checked_sizes" s_checked_sizes f18 (PySem.W.fnOf "checked_sizes" "checked_sizes" (defArgs s_checked_sizes) (defBody s_checked_sizes) (defScope s_checked_sizes) .none kV18 dc18 pm18 an18 cd18 ct18) := fun_mk (st := s_checked_sizes) l18 c18 k18
  have F19 : Fun K "lifted" "lifted" s_lifted f19 (PySem.W.fnOf "lifted" "lifted" (defArgs s_lifted) (defBody s_lifted) (defScope s_lifted) .none kV19 dc19 pm19 an19 cd19 ct19) := fun_mk (st := s_lifted) l19 c19 k19
  have F20 : Fun K "lowest" "lowest" s_lowest f20 (PySem.W.fnOf "lowest" "lowest" (defArgs s_lowest) (defBody s_lowest) (defScope s_lowest) .none kV20 dc20 pm20 an20 cd20 ct20) := fun_mk (st := s_lowest) l20 c20 k20
  have F21 : Fun K "is_layout" "is_layout" s_is_layout f21 (PySem.W.fnOf "is_layout" "is_layout" (defArgs s_is_layout) (defBody s_is_layout) (defScope s_is_layout) .none kV21 dc21 pm21 an21 cd21 ct21) := fun_mk (st := s_is_layout) l21 c21 k21
  have F22 : Fun K "earliest_of" "earliest_of" s_earliest_of f22 (PySem.W.fnOf "earliest_of" "earliest_of" (defArgs s_earliest_of) (defBody s_earliest_of) (defScope s_earliest_of) .none kV22 dc22 pm22 an22 cd22 ct22) := fun_mk (st := s_earliest_of) l22 c22 k22
  have F23 : Fun K "earliest" "earliest" s_earliest f23 (PySem.W.fnOf "earliest" "earliest" (defArgs s_earliest) (defBody s_earliest) (defScope s_earliest) .none kV23 dc23 pm23 an23 cd23 ct23) := fun_mk (st := s_earliest) l23 c23 k23
  have F24 : Fun K "shortest" "shortest" s_shortest f24 (PySem.W.fnOf "shortest" "shortest" (defArgs s_shortest) (defBody s_shortest) (defScope s_shortest) .none kV24 dc24 pm24 an24 cd24 ct24) := fun_mk (st := s_shortest) l24 c24 k24
  have F26 : Fun K "_law_source" "_law_source" s_law_source f26 (PySem.W.fnOf "_law_source" "_law_source" (defArgs s_law_source) (defBody s_law_source) (defScope s_law_source) .none kV26 dc26 pm26 an26 cd26 ct26) := fun_mk (st := s_law_source) l26 c26 k26
  have F27 : Fun K "_law_draw" "_law_draw" s_law_draw f27 (PySem.W.fnOf "_law_draw" "_law_draw" (defArgs s_law_draw) (defBody s_law_draw) (defScope s_law_draw) .none kV27 dc27 pm27 an27 cd27 ct27) := fun_mk (st := s_law_draw) l27 c27 k27
  have F28 : Fun K "_law_pick" "_law_pick" s_law_pick f28 (PySem.W.fnOf "_law_pick" "_law_pick" (defArgs s_law_pick) (defBody s_law_pick) (defScope s_law_pick) .none kV28 dc28 pm28 an28 cd28 ct28) := fun_mk (st := s_law_pick) l28 c28 k28
  have F29 : Fun K "_law_mixed" "_law_mixed" s_law_mixed f29 (PySem.W.fnOf "_law_mixed" "_law_mixed" (defArgs s_law_mixed) (defBody s_law_mixed) (defScope s_law_mixed) .none kV29 dc29 pm29 an29 cd29 ct29) := fun_mk (st := s_law_mixed) l29 c29 k29
  have F30 : Fun K "_law_loose" "_law_loose" s_law_loose f30 (PySem.W.fnOf "_law_loose" "_law_loose" (defArgs s_law_loose) (defBody s_law_loose) (defScope s_law_loose) .none kV30 dc30 pm30 an30 cd30 ct30) := fun_mk (st := s_law_loose) l30 c30 k30
  have F31 : Fun K "_law_same" "_law_same" s_law_same f31 (PySem.W.fnOf "_law_same" "_law_same" (defArgs s_law_same) (defBody s_law_same) (defScope s_law_same) .none kV31 dc31 pm31 an31 cd31 ct31) := fun_mk (st := s_law_same) l31 c31 k31
  have F32 : Fun K "_law_parts" "_law_parts" s_law_parts f32 (PySem.W.fnOf "_law_parts" "_law_parts" (defArgs s_law_parts) (defBody s_law_parts) (defScope s_law_parts) .none kV32 dc32 pm32 an32 cd32 ct32) := fun_mk (st := s_law_parts) l32 c32 k32
  have F33 : Fun K "_law_some_sizes" "_law_some_sizes" s_law_some_sizes f33 (PySem.W.fnOf "_law_some_sizes" "_law_some_sizes" (defArgs s_law_some_sizes) (defBody s_law_some_sizes) (defScope s_law_some_sizes) .none kV33 dc33 pm33 an33 cd33 ct33) := fun_mk (st := s_law_some_sizes) l33 c33 k33
  have F34 : Fun K "_law_lowest" "_law_lowest" s_law_lowest f34 (PySem.W.fnOf "_law_lowest" "_law_lowest" (defArgs s_law_lowest) (defBody s_law_lowest) (defScope s_law_lowest) .none kV34 dc34 pm34 an34 cd34 ct34) := fun_mk (st := s_law_lowest) l34 c34 k34
  have F35 : Fun K "_law_addresses" "_law_addresses" s_law_addresses f35 (PySem.W.fnOf "_law_addresses" "_law_addresses" (defArgs s_law_addresses) (defBody s_law_addresses) (defScope s_law_addresses) .none kV35 dc35 pm35 an35 cd35 ct35) := fun_mk (st := s_law_addresses) l35 c35 k35
  have F36 : Fun K "_law_same_rest" "_law_same_rest" s_law_same_rest f36 (PySem.W.fnOf "_law_same_rest" "_law_same_rest" (defArgs s_law_same_rest) (defBody s_law_same_rest) (defScope s_law_same_rest) .none kV36 dc36 pm36 an36 cd36 ct36) := fun_mk (st := s_law_same_rest) l36 c36 k36
  have F37 : Fun K "_law_right_layout" "_law_right_layout" s_law_right_layout f37 (PySem.W.fnOf "_law_right_layout" "_law_right_layout" (defArgs s_law_right_layout) (defBody s_law_right_layout) (defScope s_law_right_layout) .none kV37 dc37 pm37 an37 cd37 ct37) := fun_mk (st := s_law_right_layout) l37 c37 k37
  have F38 : Fun K "_law_few" "_law_few" s_law_few f38 (PySem.W.fnOf "_law_few" "_law_few" (defArgs s_law_few) (defBody s_law_few) (defScope s_law_few) .none kV38 dc38 pm38 an38 cd38 ct38) := fun_mk (st := s_law_few) l38 c38 k38
  have F39 : Fun K "_law_earliest" "_law_earliest" s_law_earliest f39 (PySem.W.fnOf "_law_earliest" "_law_earliest" (defArgs s_law_earliest) (defBody s_law_earliest) (defScope s_law_earliest) .none kV39 dc39 pm39 an39 cd39 ct39) := fun_mk (st := s_law_earliest) l39 c39 k39
  have F40 : Fun K "_law_shortest" "_law_shortest" s_law_shortest f40 (PySem.W.fnOf "_law_shortest" "_law_shortest" (defArgs s_law_shortest) (defBody s_law_shortest) (defScope s_law_shortest) .none kV40 dc40 pm40 an40 cd40 ct40) := fun_mk (st := s_law_shortest) l40 c40 k40
  have F41 : Fun K "_law_none_better" "_law_none_better" s_law_none_better f41 (PySem.W.fnOf "_law_none_better" "_law_none_better" (defArgs s_law_none_better) (defBody s_law_none_better) (defScope s_law_none_better) .none kV41 dc41 pm41 an41 cd41 ct41) := fun_mk (st := s_law_none_better) l41 c41 k41
  have F42 : Fun K "law" "law" s_law fa (PySem.W.fnOf "law" "law" (defArgs s_law) (defBody s_law) (defScope s_law) .none kV42 dc42 pm42 an42 cd42 ct42) := fun_mk (st := s_law) l42 c42 k42
  have F9 : Fun K "__init__" "BadPage.__init__" s_BadPage f9 (PySem.W.fnOf "__init__" "BadPage.__init__" (defArgs s_BadPage) (defBody s_BadPage) (defScope s_BadPage) .none kV9 dc9 pm9 an9 cd9 ct9) := fun_mk (st := s_BadPage) l9 c9 k9
  have F10 : Fun K "__init__" "BadPart.__init__" s_BadPart f10 (PySem.W.fnOf "__init__" "BadPart.__init__" (defArgs s_BadPart) (defBody s_BadPart) (defScope s_BadPart) .none kV10 dc10 pm10 an10 cd10 ct10) := fun_mk (st := s_BadPart) l10 c10 k10
  have F11 : Fun K "__init__" "BadSizes.__init__" s_BadSizes f11 (PySem.W.fnOf "__init__" "BadSizes.__init__" (defArgs s_BadSizes) (defBody s_BadSizes) (defScope s_BadSizes) .none kV11 dc11 pm11 an11 cd11 ct11) := fun_mk (st := s_BadSizes) l11 c11 k11
  have F1340 : Fun K "__init__" "Plan.__init__" s_Plan___init__ f1340 (PySem.W.fnOf "__init__" "Plan.__init__" (defArgs s_Plan___init__) (defBody s_Plan___init__) (defScope s_Plan___init__) .none kV1340 dc1340 pm1340 an1340 cd1340 ct1340) := fun_mk (st := s_Plan___init__) l1340 c1340 k1340
  have F1341 : Fun K "page" "Plan.page" s_Plan_page f1341 (PySem.W.fnOf "page" "Plan.page" (defArgs s_Plan_page) (defBody s_Plan_page) (defScope s_Plan_page) .none kV1341 dc1341 pm1341 an1341 cd1341 ct1341) := fun_mk (st := s_Plan_page) l1341 c1341 k1341
  have F1342 : Fun K "parts" "Plan.parts" s_Plan_parts f1342 (PySem.W.fnOf "parts" "Plan.parts" (defArgs s_Plan_parts) (defBody s_Plan_parts) (defScope s_Plan_parts) .none kV1342 dc1342 pm1342 an1342 cd1342 ct1342) := fun_mk (st := s_Plan_parts) l1342 c1342 k1342
  have F1343 : Fun K "__eq__" "Plan.__eq__" s_Plan___eq__ f1343 (PySem.W.fnOf "__eq__" "Plan.__eq__" (defArgs s_Plan___eq__) (defBody s_Plan___eq__) (defScope s_Plan___eq__) .none kV1343 dc1343 pm1343 an1343 cd1343 ct1343) := fun_mk (st := s_Plan___eq__) l1343 c1343 k1343
  have T : Txt K mg ad ai fd :=
    { F_is_integer := F2, g_is_integer := PySem.W.mg_of X G a2, b_is_integer := F2.binds (ps := ["thing"]) fun _ _ _ _ _ _ us hl => match us, hl with | [_], _ => rfl,
      F_is_natural := F3, g_is_natural := PySem.W.mg_of X G a3, b_is_natural := F3.binds (ps := ["thing"]) fun _ _ _ _ _ _ us hl => match us, hl with | [_], _ => rfl,
      F_is_list := F4, g_is_list := PySem.W.mg_of X G a4, b_is_list := F4.binds (ps := ["thing"]) fun _ _ _ _ _ _ us hl => match us, hl with | [_], _ => rfl,
      F_is_pair := F5, g_is_pair := PySem.W.mg_of X G a5, b_is_pair := F5.binds (ps := ["thing"]) fun _ _ _ _ _ _ us hl => match us, hl with | [_], _ => rfl,
      F_is_word := F6, g_is_word := PySem.W.mg_of X G a6, b_is_word := F6.binds (ps := ["thing"]) fun _ _ _ _ _ _ us hl => match us, hl with | [_], _ => rfl,
      F_is_part := F16, g_is_part := PySem.W.mg_of X G a16, b_is_part := F16.binds (ps := ["thing", "page", "met"]) fun _ _ _ _ _ _ us hl => match us, hl with | [_, _, _], _ => rfl,
      F_checked_sizes := F18, g_checked_sizes := PySem.W.mg_of X G a18, b_checked_sizes := F18.binds (ps := ["plan", "sizes"]) fun _ _ _ _ _ _ us hl => match us, hl with | [_, _], _ => rfl,
      F_lifted := F19, g_lifted := PySem.W.mg_of X G a19, b_lifted := F19.binds (ps := ["place", "step", "rest"]) fun _ _ _ _ _ _ us hl => match us, hl with | [_, _, _], _ => rfl,
      F_lowest := F20, g_lowest := PySem.W.mg_of X G a20, b_lowest := F20.binds (ps := ["plan", "number", "end"]) fun _ _ _ _ _ _ us hl => match us, hl with | [_, _, _], _ => rfl,
      F_is_layout := F21, g_is_layout := PySem.W.mg_of X G a21, b_is_layout := F21.binds (ps := ["plan", "sizes", "thing"]) fun _ _ _ _ _ _ us hl => match us, hl with | [_, _, _], _ => rfl,
      F_earliest_of := F22, g_earliest_of := PySem.W.mg_of X G a22, b_earliest_of := F22.binds (ps := ["plan", "sizes"]) fun _ _ _ _ _ _ us hl => match us, hl with | [_, _], _ => rfl,
      F_earliest := F23, g_earliest := PySem.W.mg_of X G a23, b_earliest := F23.binds (ps := ["plan", "sizes"]) fun _ _ _ _ _ _ us hl => match us, hl with | [_, _], _ => rfl,
      F_shortest := F24, g_shortest := PySem.W.mg_of X G a24, b_shortest := F24.binds (ps := ["plan", "sizes"]) fun _ _ _ _ _ _ us hl => match us, hl with | [_, _], _ => rfl,
      F_law_source := F26, g_law_source := PySem.W.mg_of X G a26, b_law_source := F26.binds (ps := ["_law_script", "_law_turn"]) fun _ _ _ _ _ _ us hl => match us, hl with | [_, _], _ => rfl,
      F_law_draw := F27, g_law_draw := PySem.W.mg_of X G a27, b_law_draw := F27.binds (ps := ["_law_source_here", "_law_many"]) fun _ _ _ _ _ _ us hl => match us, hl with | [_, _], _ => rfl,
      F_law_pick := F28, g_law_pick := PySem.W.mg_of X G a28, b_law_pick := F28.binds (ps := ["_law_source_here", "_law_things"]) fun _ _ _ _ _ _ us hl => match us, hl with | [_, _], _ => rfl,
      F_law_mixed := F29, g_law_mixed := PySem.W.mg_of X G a29, b_law_mixed := F29.binds (ps := ["_law_source_here", "_law_things"]) fun _ _ _ _ _ _ us hl => match us, hl with | [_, _], _ => rfl,
      F_law_loose := F30, g_law_loose := PySem.W.mg_of X G a30, b_law_loose := F30.binds (ps := ["_law_source_here", "_law_thing"]) fun _ _ _ _ _ _ us hl => match us, hl with | [_, _], _ => rfl,
      F_law_same := F31, g_law_same := PySem.W.mg_of X G a31, b_law_same := F31.binds (ps := ["_law_found", "_law_due"]) fun _ _ _ _ _ _ us hl => match us, hl with | [_, _], _ => rfl,
      F_law_parts := F32, g_law_parts := PySem.W.mg_of X G a32, b_law_parts := F32.binds (ps := ["_law_source_here", "_law_page", "_law_many", "_law_spread"]) fun _ _ _ _ _ _ us hl => match us, hl with | [_, _, _, _], _ => rfl,
      F_law_some_sizes := F33, g_law_some_sizes := PySem.W.mg_of X G a33, b_law_some_sizes := F33.binds (ps := ["_law_source_here", "_law_parts_here"]) fun _ _ _ _ _ _ us hl => match us, hl with | [_, _], _ => rfl,
      F_law_lowest := F34, g_law_lowest := PySem.W.mg_of X G a34, b_law_lowest := F34.binds (ps := ["_law_page", "_law_parts_here", "_law_k", "_law_end"]) fun _ _ _ _ _ _ us hl => match us, hl with | [_, _, _, _], _ => rfl,
      F_law_addresses := F35, g_law_addresses := PySem.W.mg_of X G a35, b_law_addresses := F35.binds (ps := ["_law_page", "_law_parts_here", "_law_sizes"]) fun _ _ _ _ _ _ us hl => match us, hl with | [_, _, _], _ => rfl,
      F_law_same_rest := F36, g_law_same_rest := PySem.W.mg_of X G a36, b_law_same_rest := F36.binds (ps := ["_law_page", "_law_start", "_law_place"]) fun _ _ _ _ _ _ us hl => match us, hl with | [_, _, _], _ => rfl,
      F_law_right_layout := F37, g_law_right_layout := PySem.W.mg_of X G a37, b_law_right_layout := F37.binds (ps := ["_law_source_here", "_law_page", "_law_parts_here", "_law_sizes"]) fun _ _ _ _ _ _ us hl => match us, hl with | [_, _, _, _], _ => rfl,
      F_law_few := F38, g_law_few := PySem.W.mg_of X G a38, b_law_few := F38.binds (ps := ["_law_source_here", "_law_most"]) fun _ _ _ _ _ _ us hl => match us, hl with | [_, _], _ => rfl,
      F_law_earliest := F39, g_law_earliest := PySem.W.mg_of X G a39, b_law_earliest := F39.binds (ps := ["_law_page", "_law_parts_here", "_law_sizes"]) fun _ _ _ _ _ _ us hl => match us, hl with | [_, _, _], _ => rfl,
      F_law_shortest := F40, g_law_shortest := PySem.W.mg_of X G a40, b_law_shortest := F40.binds (ps := ["_law_page", "_law_parts_here", "_law_sizes"]) fun _ _ _ _ _ _ us hl => match us, hl with | [_, _, _], _ => rfl,
      F_law_none_better := F41, g_law_none_better := PySem.W.mg_of X G a41, b_law_none_better := F41.binds (ps := ["_law_one", "_law_other", "_law_first"]) fun _ _ _ _ _ _ us hl => match us, hl with | [_, _, _], _ => rfl,
      F_law := F42, g_law := PySem.W.mg_of X G a42, b_law := F42.binds (ps := ["_law_script"]) fun _ _ _ _ _ _ us hl => match us, hl with | [_], _ => rfl,
      F_BadPage := F9, g_BadPage := PySem.W.mg_of X G a9, b_BadPage := F9.binds (ps := ["self", "thing"]) fun _ _ _ _ _ _ us hl => match us, hl with | [_, _], _ => rfl,
      e_BadPage := { oex := { cls := ⟨nm9, q9, N9, bs9, _, sn9, sub9, ab9, col9, dd9, m09, m19, m29, m39, m59, x9, rfl⟩, sa := sa9, exC := ec9, tyC := tc9, kC := kc9 }, xf := ⟨ga9, gg9, ec9, hc9⟩, no := nf9, iC := ii9, tI := ti9, te := exm_self ec9 ic9 tc9 sc9 },
      F_BadPart := F10, g_BadPart := PySem.W.mg_of X G a10, b_BadPart := F10.binds (ps := ["self", "index"]) fun _ _ _ _ _ _ us hl => match us, hl with | [_, _], _ => rfl,
      e_BadPart := { oex := { cls := ⟨nm10, q10, N10, bs10, _, sn10, sub10, ab10, col10, dd10, m010, m110, m210, m310, m510, x10, rfl⟩, sa := sa10, exC := ec10, tyC := tc10, kC := kc10 }, xf := ⟨ga10, gg10, ec10, hc10⟩, no := nf10, iC := ii10, tI := ti10, te := exm_self ec10 ic10 tc10 sc10 },
      F_BadSizes := F11, g_BadSizes := PySem.W.mg_of X G a11, b_BadSizes := F11.binds (ps := ["self", "index"]) fun _ _ _ _ _ _ us hl => match us, hl with | [_, _], _ => rfl,
      e_BadSizes := { oex := { cls := ⟨nm11, q11, N11, bs11, _, sn11, sub11, ab11, col11, dd11, m011, m111, m211, m311, m511, x11, rfl⟩, sa := sa11, exC := ec11, tyC := tc11, kC := kc11 }, xf := ⟨ga11, gg11, ec11, hc11⟩, no := nf11, iC := ii11, tI := ti11, te := exm_self ec11 ic11 tc11 sc11 },
      g_LETTERS := ⟨_, PySem.W.mg_of X G a1⟩,
      g_RIGHTS := PySem.W.mg_of X G a12, q_RIGHTS := fun _ => .inr ⟨_, _, _, l12, rfl, rfl, w12, v12⟩,
      g_ALIGNS := PySem.W.mg_of X G a13, q_ALIGNS := fun _ => .inr ⟨_, _, _, l13, rfl, rfl, w13, v13⟩,
      g_PAGES := PySem.W.mg_of X G a15, q_PAGES := fun _ => .inr ⟨_, _, _, l15, rfl, rfl, w15, v15⟩,
      g_Plan := PySem.W.mg_of X G a17, cl_Plan := ⟨pg17, hd17, po17, sa17⟩,
      no_Plan_kept_page := no17_0,
      no_Plan_kept_parts := no17_1,
      F_Plan___init__ := F1340, b_Plan___init__ := F1340.binds (ps := ["self", "page", "parts"]) fun _ _ _ _ _ _ us hl => match us, hl with | [_, _, _], _ => rfl, m_Plan___init__ := ⟨a1340, i1340, k1340⟩,
      mk_Plan := ⟨mk17, a1340, i1340, kc17⟩,
      F_Plan_page := F1341, b_Plan_page := F1341.binds (ps := ["self"]) fun _ _ _ _ _ _ us hl => match us, hl with | [_], _ => rfl, m_Plan_page := ⟨a1341, i1341, k1341⟩,
      F_Plan_parts := F1342, b_Plan_parts := F1342.binds (ps := ["self"]) fun _ _ _ _ _ _ us hl => match us, hl with | [_], _ => rfl, m_Plan_parts := ⟨a1342, i1342, k1342⟩,
      F_Plan___eq__ := F1343, b_Plan___eq__ := F1343.binds (ps := ["self", "other"]) fun _ _ _ _ _ _ us hl => match us, hl with | [_, _], _ => rfl, m_Plan___eq__ := ⟨a1343, i1343, k1343⟩,
      n_all := PySem.W.mg_none_of X G z0,
      n_bool := PySem.W.mg_none_of X G z1,
      n_dict := PySem.W.mg_none_of X G z2,
      n_enumerate := PySem.W.mg_none_of X G z3,
      n_int := PySem.W.mg_none_of X G z4,
      n_isinstance := PySem.W.mg_none_of X G z5,
      n_len := PySem.W.mg_none_of X G z6,
      n_list := PySem.W.mg_none_of X G z7,
      n_min := PySem.W.mg_none_of X G z8,
      n_range := PySem.W.mg_none_of X G z9,
      n_str := PySem.W.mg_none_of X G z10,
      n_sum := PySem.W.mg_none_of X G z11,
      n_tuple := PySem.W.mg_none_of X G z12,
      n_zip := PySem.W.mg_none_of X G z13 }
  exact ⟨fd 42, fun s v => .of_eq rfl, fun base _ _ => ok_law T⟩
end Lk
open PySem PySem.W PyProof.Rows
set_option maxHeartbeats 0 in
theorem PySem.Challenge.cw_linklines_k67_whole_earliest_and_shortes_holds : PySem.Challenge.rw_linklines_k67_whole_earliest_and_shortes.Holds := by
  w_on; o_law; k_head; (case hw => w_witness2)
  k_fill
  refine L2.walk_of (l := PySem.Challenge.rw_linklines_k67_whole_earliest_and_shortes) (n := 63) (k := 6) (x := "_law_script") (CX := fun _ => L2.CX0) (sp := fun w => Lk.sp_law _) rfl (by decide) rfl ⟨rfl, by decide, by decide⟩ (fun w h Y => PySem.W.kIn_of Y) ?F (fun _ _ a ns hl _ hS => ⟨a, ns, rfl, hS, hl, fun _ => rfl⟩) (fun _ _ _ _ _ h => h)
  case F =>
    intro w mg fa h KX G hmg
    refine' Lk.all_mk KX G hmg ?a2 ?l2 ?c2 ?k2 ?a3 ?l3 ?c3 ?k3 ?a4 ?l4 ?c4 ?k4 ?a5 ?l5 ?c5 ?k5 ?a6 ?l6 ?c6 ?k6 ?a16 ?l16 ?c16 ?k16 ?a18 ?l18 ?c18 ?k18 ?a19 ?l19 ?c19 ?k19 ?a20 ?l20 ?c20 ?k20 ?a21 ?l21 ?c21 ?k21 ?a22 ?l22 ?c22 ?k22 ?a23 ?l23 ?c23 ?k23 ?a24 ?l24 ?c24 ?k24 ?a26 ?l26 ?c26 ?k26 ?a27 ?l27 ?c27 ?k27 ?a28 ?l28 ?c28 ?k28 ?a29 ?l29 ?c29 ?k29 ?a30 ?l30 ?c30 ?k30 ?a31 ?l31 ?c31 ?k31 ?a32 ?l32 ?c32 ?k32 ?a33 ?l33 ?c33 ?k33 ?a34 ?l34 ?c34 ?k34 ?a35 ?l35 ?c35 ?k35 ?a36 ?l36 ?c36 ?k36 ?a37 ?l37 ?c37 ?k37 ?a38 ?l38 ?c38 ?k38 ?a39 ?l39 ?c39 ?k39 ?a40 ?l40 ?c40 ?k40 ?a41 ?l41 ?c41 ?k41 ?a42 ?l42 ?c42 ?k42 ?a9 ?x9 ?sa9 ?ga9 ?gg9 ?nf9 ?ii9 ?ti9 ?kc9 ?ec9 ?tc9 ?hc9 ?ic9 ?sc9 ?l9 ?c9 ?k9 ?a10 ?x10 ?sa10 ?ga10 ?gg10 ?nf10 ?ii10 ?ti10 ?kc10 ?ec10 ?tc10 ?hc10 ?ic10 ?sc10 ?l10 ?c10 ?k10 ?a11 ?x11 ?sa11 ?ga11 ?gg11 ?nf11 ?ii11 ?ti11 ?kc11 ?ec11 ?tc11 ?hc11 ?ic11 ?sc11 ?l11 ?c11 ?k11 ?a1 ?a12 ?l12 ?v12 ?w12 ?a13 ?l13 ?v13 ?w13 ?a15 ?l15 ?v15 ?w15 ?a17 ?pg17 ?hd17 ?po17 ?sa17 ?mk17 ?kc17 ?no17_0 ?no17_1 ?a1340 ?i1340 ?l1340 ?c1340 ?k1340 ?a1341 ?i1341 ?l1341 ?c1341 ?k1341 ?a1342 ?i1342 ?l1342 ?c1342 ?k1342 ?a1343 ?i1343 ?l1343 ?c1343 ?k1343 ?z0 ?z1 ?z2 ?z3 ?z4 ?z5 ?z6 ?z7 ?z8 ?z9 ?z10 ?z11 ?z12 ?z13
    (case a2 => k_is)
    (case l2 => k_is)
    (case c2 => k_is)
    (case k2 => k_is)
    (case a3 => k_is)
    (case l3 => k_is)
    (case c3 => k_is)
    (case k3 => k_is)
    (case a4 => k_is)
    (case l4 => k_is)
    (case c4 => k_is)
    (case k4 => k_is)
    (case a5 => k_is)
    (case l5 => k_is)
    (case c5 => k_is)
    (case k5 => k_is)
    (case a6 => k_is)
    (case l6 => k_is)
    (case c6 => k_is)
    (case k6 => k_is)
    (case a16 => k_is)
    (case l16 => k_is)
    (case c16 => k_is)
    (case k16 => k_is)
    (case a18 => k_is)
    (case l18 => k_is)
    (case c18 => k_is)
    (case k18 => k_is)
    (case a19 => k_is)
    (case l19 => k_is)
    (case c19 => k_is)
    (case k19 => k_is)
    (case a20 => k_is)
    (case l20 => k_is)
    (case c20 => k_is)
    (case k20 => k_is)
    (case a21 => k_is)
    (case l21 => k_is)
    (case c21 => k_is)
    (case k21 => k_is)
    (case a22 => k_is)
    (case l22 => k_is)
    (case c22 => k_is)
    (case k22 => k_is)
    (case a23 => k_is)
    (case l23 => k_is)
    (case c23 => k_is)
    (case k23 => k_is)
    (case a24 => k_is)
    (case l24 => k_is)
    (case c24 => k_is)
    (case k24 => k_is)
    (case a26 => k_is)
    (case l26 => k_is)
    (case c26 => k_is)
    (case k26 => k_is)
    (case a27 => k_is)
    (case l27 => k_is)
    (case c27 => k_is)
    (case k27 => k_is)
    (case a28 => k_is)
    (case l28 => k_is)
    (case c28 => k_is)
    (case k28 => k_is)
    (case a29 => k_is)
    (case l29 => k_is)
    (case c29 => k_is)
    (case k29 => k_is)
    (case a30 => k_is)
    (case l30 => k_is)
    (case c30 => k_is)
    (case k30 => k_is)
    (case a31 => k_is)
    (case l31 => k_is)
    (case c31 => k_is)
    (case k31 => k_is)
    (case a32 => k_is)
    (case l32 => k_is)
    (case c32 => k_is)
    (case k32 => k_is)
    (case a33 => k_is)
    (case l33 => k_is)
    (case c33 => k_is)
    (case k33 => k_is)
    (case a34 => k_is)
    (case l34 => k_is)
    (case c34 => k_is)
    (case k34 => k_is)
    (case a35 => k_is)
    (case l35 => k_is)
    (case c35 => k_is)
    (case k35 => k_is)
    (case a36 => k_is)
    (case l36 => k_is)
    (case c36 => k_is)
    (case k36 => k_is)
    (case a37 => k_is)
    (case l37 => k_is)
    (case c37 => k_is)
    (case k37 => k_is)
    (case a38 => k_is)
    (case l38 => k_is)
    (case c38 => k_is)
    (case k38 => k_is)
    (case a39 => k_is)
    (case l39 => k_is)
    (case c39 => k_is)
    (case k39 => k_is)
    (case a40 => k_is)
    (case l40 => k_is)
    (case c40 => k_is)
    (case k40 => k_is)
    (case a41 => k_is)
    (case l41 => k_is)
    (case c41 => k_is)
    (case k41 => k_is)
    (case a42 => k_is)
    (case l42 => k_is)
    (case c42 => k_is)
    (case k42 => k_is)
    (case a9 => k_is)
    (case x9 => k_is)
    (case sa9 => k_is)
    (case ga9 => k_is)
    (case gg9 => k_is)
    (case nf9 => k_is)
    (case ii9 => k_is)
    (case ti9 => k_is)
    (case kc9 => k_is)
    (case ec9 => k_is)
    (case tc9 => k_is)
    (case hc9 => k_is)
    (case ic9 => k_is)
    (case sc9 => first | rfl | k_is)
    (case l9 => k_is)
    (case c9 => k_is)
    (case k9 => k_is)
    (case a10 => k_is)
    (case x10 => k_is)
    (case sa10 => k_is)
    (case ga10 => k_is)
    (case gg10 => k_is)
    (case nf10 => k_is)
    (case ii10 => k_is)
    (case ti10 => k_is)
    (case kc10 => k_is)
    (case ec10 => k_is)
    (case tc10 => k_is)
    (case hc10 => k_is)
    (case ic10 => k_is)
    (case sc10 => first | rfl | k_is)
    (case l10 => k_is)
    (case c10 => k_is)
    (case k10 => k_is)
    (case a11 => k_is)
    (case x11 => k_is)
    (case sa11 => k_is)
    (case ga11 => k_is)
    (case gg11 => k_is)
    (case nf11 => k_is)
    (case ii11 => k_is)
    (case ti11 => k_is)
    (case kc11 => k_is)
    (case ec11 => k_is)
    (case tc11 => k_is)
    (case hc11 => k_is)
    (case ic11 => k_is)
    (case sc11 => first | rfl | k_is)
    (case l11 => k_is)
    (case c11 => k_is)
    (case k11 => k_is)
    (case a1 => k_is)
    (case a12 => k_is)
    (case l12 => k_is)
    (case v12 => exact .cons ⟨_, rfl⟩ (.cons ⟨_, rfl⟩ (.cons ⟨_, rfl⟩ .nil)))
    (case w12 => decide)
    (case a13 => k_is)
    (case l13 => k_is)
    (case v13 => exact .cons ⟨_, rfl⟩ (.cons ⟨_, rfl⟩ (.cons ⟨_, rfl⟩ (.cons ⟨_, rfl⟩ (.cons ⟨_, rfl⟩ (.cons ⟨_, rfl⟩ (.cons ⟨_, rfl⟩ .nil)))))))
    (case w13 => decide)
    (case a15 => k_is)
    (case l15 => k_is)
    (case v15 => exact .cons ⟨_, rfl⟩ (.cons ⟨_, rfl⟩ (.cons ⟨_, rfl⟩ (.cons ⟨_, rfl⟩ .nil))))
    (case w15 => decide)
    (case a17 => k_is)
    (case pg17 => k_is)
    (case hd17 => k_is)
    (case po17 => k_is)
    (case sa17 => k_is)
    (case mk17 => k_is)
    (case kc17 => k_is)
    (case no17_0 => k_is)
    (case no17_1 => k_is)
    (case a1340 => k_is)
    (case i1340 => k_is)
    (case l1340 => k_is)
    (case c1340 => k_is)
    (case k1340 => k_is)
    (case a1341 => k_is)
    (case i1341 => k_is)
    (case l1341 => k_is)
    (case c1341 => k_is)
    (case k1341 => k_is)
    (case a1342 => k_is)
    (case i1342 => k_is)
    (case l1342 => k_is)
    (case c1342 => k_is)
    (case k1342 => k_is)
    (case a1343 => k_is)
    (case i1343 => k_is)
    (case l1343 => k_is)
    (case c1343 => k_is)
    (case k1343 => k_is)
    (case z0 => k_is)
    (case z1 => k_is)
    (case z2 => k_is)
    (case z3 => k_is)
    (case z4 => k_is)
    (case z5 => k_is)
    (case z6 => k_is)
    (case z7 => k_is)
    (case z8 => k_is)
    (case z9 => k_is)
    (case z10 => k_is)
    (case z11 => k_is)
    (case z12 => k_is)
    (case z13 => k_is)
