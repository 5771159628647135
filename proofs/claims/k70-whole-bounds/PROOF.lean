import PyProof.Rows.All
import Wide.All
import OpenK.AllK
import Wide.FinOn
import PyProof.EqAt
import PyProof.EqKinds
import PyProof.TupleCall
import KE.GoesEnum
import HandS.ForMost
import HandS.Exc
import HandS.WordsExc
import HandS.IsInst
import HandS.Walk
import HandS.ExcInit
import HandS.ExcField
import HandS.CallLocal
import KE.DatumOrd
import HandS.Zip
import PyProof.NeKinds
import KE.SortData
import KE.KDictPairs
import KE.KDictCopyH
import HandS.Star
import HandS.Style
import KE.DataMinMax
import PySem.Challenge.RW_linklines_k70_whole_bounds
set_option Elab.async false
set_option linter.all false
set_option maxRecDepth 100000
set_option maxHeartbeats 4000000
/-! Rules for a list or a tuple alike: subscripts, walks, enumerate. -/
namespace Lk
open PySem PySem.Spec PyProof.Rows L2

/-! ### subscripts -/
def rIxS (K : PySem.W.Frag) : R2 := fun x y H Q => rIxL K x y H Q ∨ rIxT K x y H Q
theorem ix_seq {X : Cx} {K : PySem.W.Frag} (hK : X.K = K := by rfl) : IxR X (rIxS K) := by
  subst hK
  exact IxR.or ix_list ix_tup
/-! ### rules of the layer with the written part as a letter of its own (within comprehensions) -/
section
variable {X : Cx} {K : PySem.W.Frag}
def rLen (K : PySem.W.Frag) : List V → Hp → VK → Prop := fun xs H Q => ∃ p ys, xs = [.ref p] ∧ (SqL K H p ys ∨ SqT K H p ys) ∧ Q (.int ys.length) H
theorem call_len (hK : X.K = K := by rfl) : CallR X (.builtin "len") (rLen K) := by
  subst hK
  exact call_len_seq
theorem call_all (hc : X.calm = true) (hK : X.K = K := by rfl) : CallR X (.builtin "all") (rAll K) := by
  subst hK
  exact cr_all hc
theorem call_any (hc : X.calm = true) (hK : X.K = K := by rfl) : CallR X (.builtin "any") (rAny K) := by
  subst hK
  exact cr_any hc
theorem call_sum (hc : X.calm = true) (hK : X.K = K := by rfl) : CallR X (.builtin "sum") (rSum K) := by
  subst hK
  exact cr_sum hc
theorem call_isinst (hK : X.K = K := by rfl) : CallR X (.builtin "isinstance") (rIsi K) := by
  subst hK
  exact call_isi
theorem call_isinstT (hK : X.K = K := by rfl) : CallR X (.builtin "isinstance") (rIsiT K) := by
  subst hK
  exact call_isiT
theorem sl_lst (hK : X.K = K := by rfl) : SlR X (rSlL K) := by
  subst hK
  exact sl_list
theorem op_inS (hK : X.K = K := by rfl) : OpR X (compareOp .In) (rIn K false) := by
  subst hK
  exact op_in_seq
theorem op_eqData (hu : X.A.units + 64 < cLine) (hK : X.K = K := by rfl) : OpR X (compareOp .Eq) (rEqD K) := by
  subst hK
  exact op_eqD hu
theorem op_neData (hu : X.A.units + 64 < cLine) (hK : X.K = K := by rfl) : OpR X (compareOp .NotEq) (rNeD K) := by
  subst hK
  exact op_neD hu
def rListOf (K : PySem.W.Frag) : List V → Hp → VK → Prop := fun xs H Q => ∃ p ys, xs = [.ref p] ∧ (SqL K H p ys ∨ SqT K H p ys) ∧ ∀ l, H l = none → Q (.ref l) (upd H l (.lst ys))
theorem call_list (hK : X.K = K := by rfl) : CallR X (.type "list") (rListOf K) := by
  subst hK
  exact call_list_of
theorem pg_tp {es : List Expr} {k n : Nat} {t : TGs} {pos : Pos} (hc : X.calm = true) (h : PGs X es t) (hK : X.K = K := by rfl)
    (hn : (assignEach es X.env).length = n := by rfl) (hst : (assignEach es X.env).findIdx? (·.1) = none := by rfl) : PG X (.Tuple es k pos) (gTup K n t) := by
  subst hK
  exact pg_tup hc h hn hst
theorem pe_bmK {T id : String} {name : Str} {r : V → List V → Hp → VK → Prop} {o e : Expr} {es : List Expr} {to : TE} {t : TA} {apos cpos : Pos} (pa : PlainAttrs T) (slot : Slot T name id) (hty : typeOf (.builtin id) = pure (.type "method_descriptor")) (hm : MtR X id r) (ho : PE X o to) (ha : PA X (e :: es) t) (hK : X.K = K := by rfl)
    (hbase : attributeBase o name X.env (eval o X.env) = eval o X.env := by rfl)
    (hfew : ((backTo cpos (starEach (e :: es) X.env)).all (fun x => !x.1) && (backToKw cpos (keywordEach [] X.env)).all (fun x => x.1.isSome)
      && decide ((e :: es).length + ([] : List Keyword).length + (if ([] : List Keyword).isEmpty then 0 else 1) < 30)) = true := by rfl)
    (hline : (apos.endLine == cpos.line) = true := by rfl) (hs : starEach (e :: es) X.env = (false, eval e X.env) :: starEach es X.env := by rfl) (hplain : (backTo cpos (starEach es X.env)).any (·.1) = false := by rfl) :
    PE X (.Call (.Attribute o name apos) (e :: es) [] cpos) (tBM K T r to t) := by
  subst hK
  exact pe_bm pa slot hty hm ho ha hbase hfew hline hs hplain
theorem pe_bm0K {T id : String} {name : Str} {r : V → List V → Hp → VK → Prop} {o : Expr} {to : TE} {apos cpos : Pos} (pa : PlainAttrs T) (slot : Slot T name id) (hty : typeOf (.builtin id) = pure (.type "method_descriptor")) (hm : MtR X id r) (ho : PE X o to) (hK : X.K = K := by rfl)
    (hbase : attributeBase o name X.env (eval o X.env) = eval o X.env := by rfl) (hline : (apos.endLine == cpos.line) = true := by rfl) : PE X (.Call (.Attribute o name apos) [] [] cpos) (tBM0 K T r to) := by
  subst hK
  exact pe_bm0 pa slot hty hm ho hbase hline
def rTupleOf (K : PySem.W.Frag) : List V → Hp → VK → Prop := fun xs H Q => ∃ p ys, xs = [.ref p] ∧ ((SqL K H p ys ∧ ∀ l, H l = none → Q (.ref l) (upd H l (.tup ys))) ∨ (SqT K H p ys ∧ Q (.ref p) H))
theorem call_tuple (hK : X.K = K := by rfl) : CallR X (.type "tuple") (rTupleOf K) := by
  subst hK
  exact call_tuple_of
end

/-! ### a list or a tuple walked -/
def iSeq (K : PySem.W.Frag) (tl : TE) : TI := fun σ H R => tl σ H fun x H1 => ∃ a, x = .ref a ∧ (((∃ xs, SqL K H1 a xs) ∧ R (Itl K a) H1) ∨ ((∃ xs, SqT K H1 a xs) ∧ R (Itt K a) H1))
theorem pi_seq {X : Cx} {K : PySem.W.Frag} {tg l : Expr} {tl : TE} (hl : PE X l tl) (hK : X.K = K := by rfl) : PI X tg l (iSeq K tl) := by
  subst hK
  refine ⟨fun pins s σ H R I h => ?_⟩
  refine thn (hl.run pins s σ H _ I h) fun v s1 ⟨x, H1, I1, r1, q1⟩ => ?_
  obtain ⟨a, e, q1⟩ := q1
  subst e
  cases r1
  rcases q1 with ⟨⟨xs, hq⟩, q⟩ | ⟨⟨xs, hq⟩, q⟩
  · obtain ⟨its, rv, p, hz⟩ := I1.list hq
    refine wpAny_pyIter_list p.isList ?_
    refine ⟨s1.heap.objs.size, [s1.heap.objs.size], _, _, H1, rfl, I1.kept (t' := s1.toks) fun b o e => Heap.get?_push_of_some _ e, turn_list a _, ⟨_, Heap.get?_push_size _ rfl, rfl, rfl⟩, fun b hb => ?_, q⟩
    have e : b = s1.heap.objs.size := by simpa using hb
    subst e
    exact I1.fpOk (Nat.le_refl _) (I1.hok.fresh (Nat.le_refl _))
  · obtain ⟨its, rv, p, hz⟩ := I1.tuple hq
    refine wpAny_pyIter_tuple (show s1.heap.IsTuple a its.toArray from p) ?_
    refine ⟨s1.heap.objs.size, [s1.heap.objs.size], _, _, H1, rfl, I1.kept (t' := s1.toks) fun b o e => Heap.get?_push_of_some _ e, turn_tuple a _, ⟨_, Heap.get?_push_size _ rfl, rfl, rfl⟩, fun b hb => ?_, q⟩
    have e : b = s1.heap.objs.size := by simpa using hb
    subst e
    exact I1.fpOk (Nat.le_refl _) (I1.hok.fresh (Nat.le_refl _))

/-! ### enumerate(tuple) -/
theorem meets_enumerate_newT (l : Addr) (items : Array Value) (n : Nat) (dct : Option Addr) (sl : Array (Option Value)) :
    Meets (Builtin.«enumerate.__new__» ⟨[.type "enumerate", .ref l], []⟩) (fun _ R s => s.heap.get? l = some { cls := .type "tuple", dict := dct, data := .seq items n, slots := sl } ∧
      R (.ok (.ret (.ref (s.heap.push { cls := .type "tuple_iterator", data := .fields #[.ref l, .int 0 0] }).objs.size)))
        { s with heap := (s.heap.push { cls := .type "tuple_iterator", data := .fields #[.ref l, .int 0 0] }).push { cls := .type "enumerate", data := .fields #[.none, .bool false, .ref s.heap.objs.size, rawInt 0, .none, .none] } }) :=
  .of_wp fun prog w A R s h => by
    obtain ⟨hp, g, d, tk, os⟩ := s; obtain ⟨hl, h⟩ := h
    have hsub := sub_enumerate
    have hL : Heap.IsTuple (Shared.heap ⟨hp, g, d, tk, os⟩) l items := ⟨_, hl, rfl, n, rfl⟩
    wp_walk using PySem.AutoSeq1.wpAny_loadPart' hl
    refine wpAny_stack_any fun st => wpAny_pure ?_
    split
    · rename_i c _ _ _ _ _
      cases (c == Value.type "enumerate")
      · wp_walk using PySem.AutoSeq1.wpAny_loadPart' hl, wpAny_pyIter_tuple hL
        exact ⟨_, rfl, h⟩
      · wp_walk using PySem.AutoSeq1.wpAny_loadPart' hl, wpAny_pyIter_tuple hL
        exact ⟨_, rfl, h⟩
    · wp_walk using PySem.AutoSeq1.wpAny_loadPart' hl, wpAny_pyIter_tuple hL
      exact ⟨_, rfl, h⟩
section
variable {prog : Program} {w : World} {A : Around} {E : Value → Shared → Prop} {s : Shared}
theorem call_enumerate_tuple {l : Addr} {items : Array Value} {Q : Value → Shared → Prop} (hL : s.heap.IsTuple l items)
    (h : ∀ h', IsEnum h' (s.heap.objs.size + 1) s.heap.objs.size 0 .none → h'.IsTupleIter s.heap.objs.size l 0 → h'.objs.size = s.heap.objs.size + 2 →
      (∀ b o, s.heap.get? b = some o → h'.get? b = some o) → Q (.ref (s.heap.objs.size + 1)) { s with heap := h' }) :
    wpAny (model prog w) A (call (.type "enumerate") [.ref l]) Q E s := by
  obtain ⟨⟨c, dct, dt, sl⟩, hl, hc, n, hd⟩ := hL
  replace hc : c = .type "tuple" := hc
  replace hd : dt = .seq items n := hd
  subst hc hd
  refine callType_new F.called_enumerate (by decide) (F.typeCall_enumerate_1 _) (F.newCall_enumerate_1 _) (fun obj => F.args_object_init_2 obj _) F.entry_enumerate_new
    (meets_enumerate_newT l items n dct sl) ⟨hl, ?_⟩
  have hz : (s.heap.push { cls := .type "tuple_iterator", data := .fields #[.ref l, .int 0 0] }).objs.size = s.heap.objs.size + 1 := Heap.size_push ..
  show _ ∧ _
  rw [hz]
  have he : IsEnum ((s.heap.push { cls := .type "tuple_iterator", data := .fields #[.ref l, .int 0 0] }).push
      { cls := .type "enumerate", data := .fields #[.none, .bool false, .ref s.heap.objs.size, rawInt 0, .none, .none] }) (s.heap.objs.size + 1) s.heap.objs.size 0 .none := by
    have := Heap.get?_push_size (s.heap.push { cls := .type "tuple_iterator", data := .fields #[.ref l, .int 0 0] })
      (o := { cls := .type "enumerate", data := .fields #[.none, .bool false, .ref s.heap.objs.size, rawInt 0, .none, .none] }) rfl
    rw [hz] at this; exact this
  refine ⟨⟨_, he, rfl⟩, h _ he ⟨_, Heap.get?_push_of_some _ (Heap.get?_push_size _ rfl), rfl, rfl⟩ (by rw [Heap.size_push, hz]) fun b o x => Heap.get?_push_of_some _ (Heap.get?_push_of_some _ x)⟩
end
def IteT (K : PySem.W.Frag) (a : Addr) : It :=
  ⟨fun i H => ∃ (xs : List V) (x : V), SqT K H a xs ∧ xs[i]? = some x, fun i H v H' => ∃ T x, v = .ref T ∧ H T = none ∧ H' = upd H T (.tup [.int (i : Nat), x]) ∧ ∀ xs, SqT K H a xs → xs[i]? = some x, fun i H => ∃ xs : List V, SqT K H a xs ∧ xs.length = i⟩
theorem turn_enumT {P : Program} {w : World} {K : PySem.W.Frag} {elts : List Expr} {kk : Nat} {tpos : Pos} (a e it : Addr) (hai : a ≠ it) (hae : a ≠ e) :
    Turn P w K (.Tuple elts kk tpos) (IteT K a) [e, it] e (fun i h => (∃ old, IsEnum h e it ((i : Nat) : Int) old) ∧ h.IsTupleIter it a i ∧ e ≠ it) where
  mem := by simp
  obj := fun i h st b hb => by
    obtain ⟨⟨old, he⟩, ⟨o, ho, hc, hd⟩, _⟩ := st
    have e' : b = e ∨ b = it := by simpa using hb
    rcases e' with z | z
    · rw [z]; exact ⟨_, he, fun v q => nomatch q⟩
    · rw [z]; exact ⟨o, ho, fun v q => by rw [hd] at q; cases q⟩
  keep := fun i h h' st k => let ⟨⟨old, he⟩, hi, hne⟩ := st; ⟨⟨old, k e (by simp) _ he⟩, hi.at fun o q => k it (by simp) o q, hne⟩
  item := by
    intro X hP hw hK hc i pins s σ H E I hf st hg
    subst hP hw hK
    obtain ⟨⟨old, he⟩, hit, hne⟩ := st
    obtain ⟨xs, x, hq, hx⟩ := hg
    obtain ⟨its, rv, p, hz⟩ := I.tuple hq
    obtain ⟨u, hu, ru⟩ := rv.get hx
    have hel : e < s.heap.objs.size := Heap.lt_size he
    have hil : it < s.heap.objs.size := by obtain ⟨_, q, _⟩ := hit; exact Heap.lt_size q
    have pt : s.heap.IsTuple a its.toArray := p
    have hi : i < its.toArray.size := by
      have := rv.length
      have hh := (List.getElem?_eq_some_iff.mp hx).1
      simp
      omega
    have Dr := Draws.tuple (prog := X.prog) (w := X.w) (A := X.A.in1) (I.ok.hd hc) it a hai its.toArray
    refine wpAny_pyNext_enum_itemD Dr he ⟨hit, pt⟩ hi hne (by simp; exact ⟨hne, fun z => hae z.symm⟩) fun x' h' tk hP' ho hst' hT hsz hk => ?_
    have eu : x' = u := by
      have h1 : its.toArray[i]? = some x' := hP'
      have h2 : its.toArray[i]? = some u := by simpa using hu
      exact Option.some.inj (h1.symm.trans h2)
    subst eu
    obtain ⟨hit', _⟩ := hst'
    refine ⟨_, rfl, wpAny_letOwnedTupleGo_enum (s := { s with heap := h', toks := tk + 1 }) ho fun h'' he' sb => ?_⟩
    have hT2 : h''.get? s.heap.objs.size = some { cls := .type "tuple", data := .seq #[.int i tk, x'] } := (sb.2 _ (Nat.ne_of_gt hel)).trans hT
    have new : ObjOk X.prog X.w (upd H s.heap.objs.size (.tup [.int (i : Nat), x])) h'' s.heap.objs.size (.tup [.int (i : Nat), x]) :=
      ⟨by show 2 ≤ sizeLine; decide, [.int i tk, x'], .cons ⟨_, rfl⟩ (.cons ru .nil), ⟨_, hT2, rfl, _, rfl⟩⟩
    have I1 : Inv X pins σ (upd H s.heap.objs.size (.tup [.int (i : Nat), x])) { s with heap := h'', toks := tk + 1 } :=
      I.turnedNew (ch := [e, it]) (fun b ob hb q => (sb.2 b (fun z => hb (by simp [z]))).trans (hk b ob (fun z => hb (by simp [z])) (fun z => hb (by simp [z])) q)) hf (Nat.le_refl _) new
    refine ⟨.ref s.heap.objs.size, _, I1, rfl, ⟨_, x, rfl, I.hok.fresh (Nat.le_refl _), rfl, fun ys hy => by rw [I.tuple_inj hy hq]; exact hx⟩, ⟨⟨x', ?_⟩, hit'.at fun o q => (sb.2 it (Ne.symm hne)).trans q, hne⟩, fun b hb => ?_⟩
    · have e1 : ((i + 1 : Nat) : Int) = (i : Int) + 1 := by omega
      rw [e1]; exact he'
    · have hb' : b < s.heap.objs.size := by
        have e' : b = e ∨ b = it := by simpa using hb
        rcases e' with z | z
        · rw [z]; exact hel
        · rw [z]; exact hil
      rw [upd_ne (Nat.ne_of_lt hb')]
      exact (hf b hb).1
  done := by
    intro X hP hw hK hc i pins s σ H E I hf st hg
    subst hP hw hK
    obtain ⟨⟨old, he⟩, hit, hne⟩ := st
    obtain ⟨xs, hq, hx⟩ := hg
    obtain ⟨its, rv, p, hz⟩ := I.tuple hq
    obtain ⟨f0, f1, f2, f3, f4, f5⟩ := hf it (by simp)
    have hl := rv.length
    have pt : s.heap.IsTuple a its.toArray := p
    have Dr := Draws.tuple (prog := X.prog) (w := X.w) (A := X.A.in1) (I.ok.hd hc) it a hai its.toArray
    have hi : its.toArray.size = i := by simp; omega
    exact wpAny_pyNext_enum_endD Dr he (by rw [hi]; exact ⟨hit, pt⟩) fun h' eb => ⟨rfl, I.turned (t' := s.toks) (fun b o hb q => eb b o hb q) f0 f1 f3 f4 f5⟩
  self := fun A i s Q E st h => let ⟨⟨_, he⟩, _⟩ := st; wpAny_pyIter_enum he h
def iEnumS (K : PySem.W.Frag) (ta : TA) : TI := fun σ H R => ta σ H fun vs H1 => ∃ a xs, vs = [.ref a] ∧ ((SqL K H1 a xs ∧ R (Ite K a) H1) ∨ (SqT K H1 a xs ∧ R (IteT K a) H1))
theorem pi_enumS {X : Cx} {K : PySem.W.Frag} {e : Expr} {ta : TA} {p pos tpos : Pos} {elts : List Expr} {kk : Nat} (hg : Gl X "enumerate") (hm : X.mg "enumerate" = none) (ha : PA X [e] ta) (hK : X.K = K := by rfl) (hs : starEach [e] X.env = [(false, eval e X.env)] := by rfl) :
    PI X (.Tuple elts kk tpos) (.Call (.Name "enumerate" p) [e] [] pos) (iEnumS K ta) := by
  subst hK
  refine ⟨fun pins s σ H R I h => ?_⟩
  refine Call_ (ld_blt I hg hm boot_enumerate (PyProof.Rows.callWith_type1 (thn (ha.run pos pins s σ H _ I h) fun us s1 ⟨vs, H1, I1, r1, q1⟩ => ?_) hs rfl))
  obtain ⟨a, xs, ex, hq⟩ := q1
  subst ex
  cases r1 with
  | cons r rr =>
    cases rr
    cases r
    have fp : ∀ b ∈ [s1.heap.objs.size + 1, s1.heap.objs.size], FpOk X pins H1 b := fun b hb => by
      have e' : b = s1.heap.objs.size + 1 ∨ b = s1.heap.objs.size := by simpa using hb
      have hle : s1.heap.objs.size ≤ b := by
        rcases e' with z | z
        · rw [z]; exact Nat.le_add_right _ _
        · rw [z]; exact Nat.le_refl _
      exact I1.fpOk hle (I1.hok.fresh hle)
    rcases hq with ⟨hq, q⟩ | ⟨hq, q⟩
    · obtain ⟨its, rv, p', hz⟩ := I1.list hq
      refine call_enumerate_list p'.isList fun h' he hit hsz hk => wpAny_pyIter_enum he ?_
      have I2 : Inv X pins σ H1 { s1 with heap := h' } := I1.kept (t' := s1.toks) hk
      exact ⟨s1.heap.objs.size + 1, [s1.heap.objs.size + 1, s1.heap.objs.size], _, _, H1, rfl, I2, turn_enum a (s1.heap.objs.size + 1) s1.heap.objs.size, ⟨⟨.none, he⟩, hit, Nat.succ_ne_self _⟩, fp, q⟩
    · obtain ⟨its, rv, p', hz⟩ := I1.tuple hq
      have pt : s1.heap.IsTuple a its.toArray := p'
      have hal : a < s1.heap.objs.size := by
        obtain ⟨o, ho, _⟩ := pt
        exact Heap.lt_size ho
      refine call_enumerate_tuple pt fun h' he hit hsz hk => wpAny_pyIter_enum he ?_
      have I2 : Inv X pins σ H1 { s1 with heap := h' } := I1.kept (t' := s1.toks) hk
      exact ⟨s1.heap.objs.size + 1, [s1.heap.objs.size + 1, s1.heap.objs.size], _, _, H1, rfl, I2, turn_enumT a (s1.heap.objs.size + 1) s1.heap.objs.size (Nat.ne_of_lt hal) (Nat.ne_of_lt (Nat.lt_succ_of_lt hal)), ⟨⟨.none, he⟩, hit, Nat.succ_ne_self _⟩, fp, q⟩
end Lk
/-! Types by tags, heaps, a call of a local name that may raise. -/
namespace Lk
open PySem PySem.Spec PyProof.Rows L2

/-! ### types by tags -/
inductive Tg where
  | non | bl | int | str | lst | tup | dct
  deriving DecidableEq
def Tg.nm : Tg → String
  | .non => "NoneType" | .bl => "bool" | .int => "int" | .str => "str" | .lst => "list" | .tup => "tuple" | .dct => "dict"
def Tg.sub (a b : Tg) : Bool := decide (a = b) || (decide (a = .bl) && decide (b = .int))
def HasTy (K : PySem.W.Frag) (H : Hp) (v : V) (t : Tg) : Prop := TyX K H v (.type t.nm)
theorem kit_tg {K : PySem.W.Frag} : ∀ (a b : Tg), b ≠ .non → PySem.W.kitOne K (.type a.nm) (.type b.nm) = some (a.sub b) := by
  intro a b h
  cases b
  · exact absurd rfl h
  all_goals (cases a <;> exact kit_ty (by decide +kernel))
section
variable {K : PySem.W.Frag} {H H' : Hp} {a : Addr} {xs : List V}
theorem hasTy_non : HasTy K H .non .non := .base .non
theorem hasTy_bl {b : Bool} : HasTy K H (.bl b) .bl := .base (.bl b)
theorem hasTy_int {i : Int} : HasTy K H (.int i) .int := .base (.int i)
theorem hasTy_str {z : Str} : HasTy K H (.str z) .str := .base (.str z)
theorem hasTy_lst (h : SqL K H a xs) : HasTy K H (.ref a) .lst := by
  rcases h with (h | ⟨o, h⟩) | ⟨o, its, n, h1, h2, _⟩
  · exact .base (.lst h)
  · exact .base (.frz h)
  · exact .kList h1 h2
theorem hasTy_tup (h : SqT K H a xs) : HasTy K H (.ref a) .tup := by
  rcases h with (h | ⟨o, h⟩) | ⟨o, its, n, h1, h2, _⟩
  · exact .base (.tup h)
  · exact .fTuple h
  · exact .kTuple h1 h2
theorem hasTy_dct {kvs : List (Key × V)} (h : H a = some (.dK kvs)) : HasTy K H (.ref a) .dct := .base (.dK h)

/-! ### heaps -/
theorem same_new {p : Addr} {o : HO} (h : H p = none) : Same H (upd H p o) := fun b x e => by
  rw [upd_ne (ne_of_none e h)]
  exact e
theorem _root_.L2.Same.new {p : Addr} {o : HO} (e : Same H H') (h : H' p = none) : Same H (upd H' p o) := e.trans (same_new h)
/-- what H did not know may change -/
theorem _root_.L2.Same.mut {p : Addr} {o : HO} (e : Same H H') (h : H p = none) : Same H (upd H' p o) := fun b x q => by
  rw [upd_ne (ne_of_none q h)]
  exact e b x q
theorem _root_.L2.Same.rd {u : HO} (e : Same H H') (h : Rd H a u) : Rd H' a u := by
  rcases h with h | ⟨o, h⟩
  · exact Or.inl (e a _ h)
  · exact Or.inr ⟨o, e a _ h⟩
theorem _root_.L2.Same.sqT (e : Same H H') (h : SqT K H a xs) : SqT K H' a xs := by
  rcases h with h | h
  · exact Or.inl (e.rd h)
  · exact Or.inr h
def Sq (K : PySem.W.Frag) (H : Hp) (a : Addr) (xs : List V) : Prop := SqL K H a xs ∨ SqT K H a xs
theorem _root_.L2.Same.sq (e : Same H H') (h : Sq K H a xs) : Sq K H' a xs := h.imp (fun z => e.seq z) fun z => e.sqT z
theorem _root_.L2.Same.ty {v : V} {t : Tg} (e : Same H H') (h : HasTy K H v t) : HasTy K H' v t := by
  unfold HasTy at *
  generalize hg : Value.type t.nm = g at *
  cases h with
  | base b =>
    cases b with
    | non => exact .base .non
    | bl x => exact .base (.bl x)
    | int x => exact .base (.int x)
    | str x => exact .base (.str x)
    | flt x => exact .base (.flt x)
    | lst q => exact .base (.lst (e _ _ q))
    | frz q => exact .base (.frz (e _ _ q))
    | tup q => exact .base (.tup (e _ _ q))
    | dK q => exact .base (.dK (e _ _ q))
    | dT q => exact .base (.dT (e _ _ q))
    | ins q cl ha hn htk hm => exact .base (.ins (e _ _ q) cl ha hn htk hm)
  | byt b => exact .byt b
  | set q => exact .set (e _ _ q)
  | kList q c => exact .kList q c
  | kTuple q c => exact .kTuple q c
  | kDict q c => exact .kDict q c
  | fTuple q => exact .fTuple (e _ _ q)
  | fDict q => exact .fDict (e _ _ q)
theorem sqL_of (h : H a = some (.lst xs)) : SqL K H a xs := .inl (.inl h)
theorem sqT_of (h : H a = some (.tup xs)) : SqT K H a xs := .inl (.inl h)
theorem sq_lst (h : H a = some (.lst xs)) : Sq K H a xs := .inl (sqL_of h)
theorem sq_tup (h : H a = some (.tup xs)) : Sq K H a xs := .inr (sqT_of h)
theorem Sq.ty (h : Sq K H a xs) : HasTy K H (.ref a) .lst ∨ HasTy K H (.ref a) .tup := h.imp hasTy_lst hasTy_tup
theorem none_of_upd {p q : Addr} {o : HO} (h : upd H p o q = none) : H q = none ∧ q ≠ p := by
  by_cases e : q = p
  · subst e
    rw [upd_same] at h
    cases h
  · rw [upd_ne e] at h
    exact ⟨h, e⟩
end
/-- all but what stands at p is as it was -/
def SameBut (p : Addr) (H H' : Hp) : Prop := ∀ b o, b ≠ p → H b = some o → H' b = some o
theorem SameBut.refl {p : Addr} {H : Hp} : SameBut p H H := fun _ _ _ h => h
theorem SameBut.trans {p : Addr} {H H1 H2 : Hp} (a : SameBut p H H1) (b : SameBut p H1 H2) : SameBut p H H2 := fun x o n h => b x o n (a x o n h)
theorem _root_.L2.Same.but {p : Addr} {H H' : Hp} (e : Same H H') : SameBut p H H' := fun b o _ h => e b o h
theorem SameBut.at_ {p : Addr} {H : Hp} {o : HO} : SameBut p H (upd H p o) := fun b x n h => by
  rw [upd_ne n]
  exact h
theorem SameBut.new {p q : Addr} {H H' : Hp} {o : HO} (e : SameBut p H H') (h : H' q = none) : SameBut p H (upd H' q o) := e.trans (same_new h).but
theorem SameBut.mut {p q : Addr} {H H' : Hp} {o : HO} (e : SameBut p H H') (h : H q = none) : SameBut p H (upd H' q o) := fun b x n z => by
  rw [upd_ne (ne_of_none z h)]
  exact e b x n z
theorem SameBut.free {p q : Addr} {H H' : Hp} {o : HO} (e : SameBut p H H') (hp : H' p = some o) (h : H' q = none) : H q = none := by
  cases z : H q with
  | none => rfl
  | some x =>
    have n : q ≠ p := fun y => by
      subst y
      rw [hp] at h
      cases h
    rw [e q x n z] at h
    cases h

/-! ### for loops and comprehensions over a list or a tuple -/
/-- what stands at a stays -/
def KeepsAt (a : Addr) (H H' : Hp) : Prop := ∀ o, H a = some o → H' a = some o
theorem _root_.L2.Same.keeps {a : Addr} {H H' : Hp} (e : Same H H') : KeepsAt a H H' := fun o h => e a o h
theorem SameBut.keeps {a p : Addr} {H H' : Hp} (e : SameBut p H H') (n : a ≠ p) : KeepsAt a H H' := fun o h => e a o n h
theorem KeepsAt.sqL {K : PySem.W.Frag} {a : Addr} {H H' : Hp} {xs : List V} (e : KeepsAt a H H') (h : SqL K H a xs) : SqL K H' a xs := by
  rcases h with (h | ⟨o, h⟩) | h
  · exact .inl (.inl (e _ h))
  · exact .inl (.inr ⟨o, e _ h⟩)
  · exact .inr h
theorem KeepsAt.sqT {K : PySem.W.Frag} {a : Addr} {H H' : Hp} {xs : List V} (e : KeepsAt a H H') (h : SqT K H a xs) : SqT K H' a xs := by
  rcases h with (h | ⟨o, h⟩) | h
  · exact .inl (.inl (e _ h))
  · exact .inl (.inr ⟨o, e _ h⟩)
  · exact .inr h
theorem KeepsAt.sq {K : PySem.W.Frag} {a : Addr} {H H' : Hp} {xs : List V} (e : KeepsAt a H H') (h : Sq K H a xs) : Sq K H' a xs := h.imp e.sqL e.sqT
theorem KeepsAt.refl {a : Addr} {H : Hp} : KeepsAt a H H := fun _ h => h
theorem KeepsAt.trans {a : Addr} {H H1 H2 : Hp} (x : KeepsAt a H H1) (y : KeepsAt a H1 H2) : KeepsAt a H H2 := fun o h => y o (x o h)
theorem walk_enumT {K : PySem.W.Frag} {a : Addr} {xs : List V} : Walk (IteT K a) xs.length (fun H => SqT K H a xs) (YPair (fun i => some (.int (i : Nat))) (fun i => xs[i]?)) := by
  refine ⟨fun i _ hi q => ⟨xs, xs[i], q, by simp [hi]⟩, fun _ q => ⟨xs, q, rfl⟩, fun i H v H' _ q y => ?_⟩
  obtain ⟨T, x, h1, h2, h3, h4⟩ := y
  exact ⟨T, .int (i : Nat), x, h1, h2, h3, rfl, h4 xs q⟩
/-- for x in a list or tuple -/
theorem for_seq {K : PySem.W.Frag} {a : Addr} {xs : List V} {g : TG} {tb : TS} {D : Ends} {σ : L2.St} {H : Hp} (hq : Sq K H a xs) (Pv : Nat → L2.St → Hp → Prop) (h0 : Pv 0 σ H) (hl : ∀ i σ H', Pv i σ H' → KeepsAt a H H')
    (hs : ∀ i x σ H, xs[i]? = some x → Pv i σ H → g x σ H fun σ2 H2 => tb { D with nx := Pv (i + 1), ct := Pv (i + 1), bk := D.nx } σ2 H2) (hd : ∀ σ H, Pv xs.length σ H → D.nx σ H) :
    ∃ a', V.ref a = V.ref a' ∧ (((∃ xs, SqL K H a' xs) ∧ ∃ W : Nat → Nat → L2.St → Hp → Prop, (∃ m, W 0 m σ H) ∧ ∀ i m σ H, W i m σ H →
      ((Itl K a').stop i H ∧ D.nx σ H) ∨ ((Itl K a').go i H ∧ ∃ N : L2.St → Hp → Prop, (∀ σ' H', N σ' H' → ∃ m', m' < m ∧ W (i + 1) m' σ' H') ∧ ∀ x H', (Itl K a').yld i H x H' → g x σ H' fun σ2 H2 => tb { D with nx := N, ct := N, bk := D.nx } σ2 H2)) ∨
      ((∃ xs, SqT K H a' xs) ∧ ∃ W : Nat → Nat → L2.St → Hp → Prop, (∃ m, W 0 m σ H) ∧ ∀ i m σ H, W i m σ H →
      ((Itt K a').stop i H ∧ D.nx σ H) ∨ ((Itt K a').go i H ∧ ∃ N : L2.St → Hp → Prop, (∀ σ' H', N σ' H' → ∃ m', m' < m ∧ W (i + 1) m' σ' H') ∧ ∀ x H', (Itt K a').yld i H x H' → g x σ H' fun σ2 H2 => tb { D with nx := N, ct := N, bk := D.nx } σ2 H2))) := by
  refine ⟨a, rfl, ?_⟩
  rcases hq with q | q
  · exact .inl ⟨⟨xs, q⟩, for_it walk_list Pv h0 (fun i σ' H' _ p => (hl i σ' H' p).sqL q) (fun i x σ' H1 H' _ p y => by rw [y.1]; exact hs i x σ' H1 y.2 p) hd⟩
  · exact .inr ⟨⟨xs, q⟩, for_it walk_tup Pv h0 (fun i σ' H' _ p => (hl i σ' H' p).sqT q) (fun i x σ' H1 H' _ p y => by rw [y.1]; exact hs i x σ' H1 y.2 p) hd⟩
/-- for i, x in enumerate(a list or tuple) -/
theorem for_enum {K : PySem.W.Frag} {a : Addr} {xs : List V} {g : TG} {tb : TS} {D : Ends} {σ : L2.St} {H : Hp} (hq : Sq K H a xs) (Pv : Nat → L2.St → Hp → Prop) (h0 : Pv 0 σ H) (hl : ∀ i σ H', Pv i σ H' → KeepsAt a H H')
    (hs : ∀ i x σ H T, xs[i]? = some x → Pv i σ H → H T = none → g (.ref T) σ (upd H T (.tup [.int (i : Nat), x])) fun σ2 H2 => tb { D with nx := Pv (i + 1), ct := Pv (i + 1), bk := D.nx } σ2 H2) (hd : ∀ σ H, Pv xs.length σ H → D.nx σ H) :
    ∃ a' xs', [V.ref a] = [V.ref a'] ∧ ((SqL K H a' xs' ∧ ∃ W : Nat → Nat → L2.St → Hp → Prop, (∃ m, W 0 m σ H) ∧ ∀ i m σ H, W i m σ H →
      ((Ite K a').stop i H ∧ D.nx σ H) ∨ ((Ite K a').go i H ∧ ∃ N : L2.St → Hp → Prop, (∀ σ' H', N σ' H' → ∃ m', m' < m ∧ W (i + 1) m' σ' H') ∧ ∀ x H', (Ite K a').yld i H x H' → g x σ H' fun σ2 H2 => tb { D with nx := N, ct := N, bk := D.nx } σ2 H2)) ∨
      (SqT K H a' xs' ∧ ∃ W : Nat → Nat → L2.St → Hp → Prop, (∃ m, W 0 m σ H) ∧ ∀ i m σ H, W i m σ H →
      ((IteT K a').stop i H ∧ D.nx σ H) ∨ ((IteT K a').go i H ∧ ∃ N : L2.St → Hp → Prop, (∀ σ' H', N σ' H' → ∃ m', m' < m ∧ W (i + 1) m' σ' H') ∧ ∀ x H', (IteT K a').yld i H x H' → g x σ H' fun σ2 H2 => tb { D with nx := N, ct := N, bk := D.nx } σ2 H2))) := by
  refine ⟨a, xs, rfl, ?_⟩
  have st : ∀ i x σ' H1 H', Pv i σ' H1 → YPair (fun i => some (.int (i : Nat))) (fun i => xs[i]?) i H1 x H' → g x σ' H' fun σ2 H2 => tb { D with nx := Pv (i + 1), ct := Pv (i + 1), bk := D.nx } σ2 H2 := by
    rintro i x σ' H1 H' p ⟨T, y, z, rfl, nT, rfl, e1, e2⟩
    cases e1
    exact hs i z σ' H1 T e2 p nT
  rcases hq with q | q
  · exact .inl ⟨q, for_it walk_enum Pv h0 (fun i σ' H' _ p => (hl i σ' H' p).sqL q) (fun i x σ' H1 H' _ p y => st i x σ' H1 H' p y) hd⟩
  · exact .inr ⟨q, for_it walk_enumT Pv h0 (fun i σ' H' _ p => (hl i σ' H' p).sqT q) (fun i x σ' H1 H' _ p y => st i x σ' H1 H' p y) hd⟩
/-- [e for x in a list or tuple] -/
theorem lc_seq {K : PySem.W.Frag} {a : Addr} {xs : List V} {g : TG} {tt : TT} {te : TE} {vs : List Nat} {σ : L2.St} {H : Hp} {Qd : Addr → Hp → Prop} (hq : Sq K H a xs) (Pv : Addr → Nat → Hp → Prop) (h0 : ∀ D, H D = none → Pv D 0 (upd H D (.lst []))) (hl : ∀ D i H', H D = none → Pv D i H' → KeepsAt a H H')
    (hs : ∀ D i x H', H D = none → xs[i]? = some x → Pv D i H' → g x (wipe σ vs) H' fun σ2 H2 => wipe σ2 vs = wipe σ vs ∧ tt σ2 H2 fun b H3 =>
      if b = true then te σ2 H3 fun y H4 => ∃ acc, H4 D = some (.lst acc) ∧ acc.length < sizeLine ∧ Pv D (i + 1) (upd H4 D (.lst (acc ++ [y]))) else Pv D (i + 1) H3) (hd : ∀ D H', H D = none → Pv D xs.length H' → Qd D H') :
    ∃ a', V.ref a = V.ref a' ∧ (((∃ xs, SqL K H a' xs) ∧ ∀ D : Addr, H D = none → ∃ W : Nat → Nat → Hp → Prop, (∃ m, W 0 m (upd H D (.lst []))) ∧ ∀ i m H, W i m H →
      ((Itl K a').stop i H ∧ Qd D H) ∨ ((Itl K a').go i H ∧ ∃ Nx : Hp → Prop, (∀ H', Nx H' → ∃ m', m' < m ∧ W (i + 1) m' H') ∧ ∀ x H', (Itl K a').yld i H x H' → g x (wipe σ vs) H' fun σ2 H2 => wipe σ2 vs = wipe σ vs ∧ tt σ2 H2 fun b H3 =>
        if b = true then te σ2 H3 fun y H4 => ∃ acc, H4 D = some (.lst acc) ∧ acc.length < sizeLine ∧ Nx (upd H4 D (.lst (acc ++ [y]))) else Nx H3)) ∨
      ((∃ xs, SqT K H a' xs) ∧ ∀ D : Addr, H D = none → ∃ W : Nat → Nat → Hp → Prop, (∃ m, W 0 m (upd H D (.lst []))) ∧ ∀ i m H, W i m H →
      ((Itt K a').stop i H ∧ Qd D H) ∨ ((Itt K a').go i H ∧ ∃ Nx : Hp → Prop, (∀ H', Nx H' → ∃ m', m' < m ∧ W (i + 1) m' H') ∧ ∀ x H', (Itt K a').yld i H x H' → g x (wipe σ vs) H' fun σ2 H2 => wipe σ2 vs = wipe σ vs ∧ tt σ2 H2 fun b H3 =>
        if b = true then te σ2 H3 fun y H4 => ∃ acc, H4 D = some (.lst acc) ∧ acc.length < sizeLine ∧ Nx (upd H4 D (.lst (acc ++ [y]))) else Nx H3))) := by
  refine ⟨a, rfl, ?_⟩
  rcases hq with q | q
  · exact .inl ⟨⟨xs, q⟩, fun D hD => lc_it walk_list (Pv D) (h0 D hD) (fun i H' _ p => (hl D i H' hD p).sqL q) (fun i x H1 H' _ p y => by rw [y.1]; exact hs D i x H1 hD y.2 p) (fun H' => hd D H' hD)⟩
  · exact .inr ⟨⟨xs, q⟩, fun D hD => lc_it walk_tup (Pv D) (h0 D hD) (fun i H' _ p => (hl D i H' hD p).sqT q) (fun i x H1 H' _ p y => by rw [y.1]; exact hs D i x H1 hD y.2 p) (fun H' => hd D H' hD)⟩
/-- [e for i, x in enumerate(a list or tuple)] -/
theorem lc_enum {K : PySem.W.Frag} {a : Addr} {xs : List V} {g : TG} {tt : TT} {te : TE} {vs : List Nat} {σ : L2.St} {H : Hp} {Qd : Addr → Hp → Prop} (hq : Sq K H a xs) (Pv : Addr → Nat → Hp → Prop) (h0 : ∀ D, H D = none → Pv D 0 (upd H D (.lst []))) (hl : ∀ D i H', H D = none → Pv D i H' → KeepsAt a H H')
    (hs : ∀ D i x H' T, H D = none → xs[i]? = some x → Pv D i H' → H' T = none → g (.ref T) (wipe σ vs) (upd H' T (.tup [.int (i : Nat), x])) fun σ2 H2 => wipe σ2 vs = wipe σ vs ∧ tt σ2 H2 fun b H3 =>
      if b = true then te σ2 H3 fun y H4 => ∃ acc, H4 D = some (.lst acc) ∧ acc.length < sizeLine ∧ Pv D (i + 1) (upd H4 D (.lst (acc ++ [y]))) else Pv D (i + 1) H3) (hd : ∀ D H', H D = none → Pv D xs.length H' → Qd D H') :
    ∃ a' xs', [V.ref a] = [V.ref a'] ∧ ((SqL K H a' xs' ∧ ∀ D : Addr, H D = none → ∃ W : Nat → Nat → Hp → Prop, (∃ m, W 0 m (upd H D (.lst []))) ∧ ∀ i m H, W i m H →
      ((Ite K a').stop i H ∧ Qd D H) ∨ ((Ite K a').go i H ∧ ∃ Nx : Hp → Prop, (∀ H', Nx H' → ∃ m', m' < m ∧ W (i + 1) m' H') ∧ ∀ x H', (Ite K a').yld i H x H' → g x (wipe σ vs) H' fun σ2 H2 => wipe σ2 vs = wipe σ vs ∧ tt σ2 H2 fun b H3 =>
        if b = true then te σ2 H3 fun y H4 => ∃ acc, H4 D = some (.lst acc) ∧ acc.length < sizeLine ∧ Nx (upd H4 D (.lst (acc ++ [y]))) else Nx H3)) ∨
      (SqT K H a' xs' ∧ ∀ D : Addr, H D = none → ∃ W : Nat → Nat → Hp → Prop, (∃ m, W 0 m (upd H D (.lst []))) ∧ ∀ i m H, W i m H →
      ((IteT K a').stop i H ∧ Qd D H) ∨ ((IteT K a').go i H ∧ ∃ Nx : Hp → Prop, (∀ H', Nx H' → ∃ m', m' < m ∧ W (i + 1) m' H') ∧ ∀ x H', (IteT K a').yld i H x H' → g x (wipe σ vs) H' fun σ2 H2 => wipe σ2 vs = wipe σ vs ∧ tt σ2 H2 fun b H3 =>
        if b = true then te σ2 H3 fun y H4 => ∃ acc, H4 D = some (.lst acc) ∧ acc.length < sizeLine ∧ Nx (upd H4 D (.lst (acc ++ [y]))) else Nx H3))) := by
  refine ⟨a, xs, rfl, ?_⟩
  have st : ∀ D i x H1 H', H D = none → Pv D i H1 → YPair (fun i => some (.int (i : Nat))) (fun i => xs[i]?) i H1 x H' → g x (wipe σ vs) H' fun σ2 H2 => wipe σ2 vs = wipe σ vs ∧ tt σ2 H2 fun b H3 =>
      if b = true then te σ2 H3 fun y H4 => ∃ acc, H4 D = some (.lst acc) ∧ acc.length < sizeLine ∧ Pv D (i + 1) (upd H4 D (.lst (acc ++ [y]))) else Pv D (i + 1) H3 := by
    rintro D i x H1 H' hD p ⟨T, y, z, rfl, nT, rfl, e1, e2⟩
    cases e1
    exact hs D i z H1 T hD e2 p nT
  rcases hq with q | q
  · exact .inl ⟨q, fun D hD => lc_it walk_enum (Pv D) (h0 D hD) (fun i H' _ p => (hl D i H' hD p).sqL q) (fun i x H1 H' _ p y => st D i x H1 H' hD p y) (fun H' => hd D H' hD)⟩
  · exact .inr ⟨q, fun D hD => lc_it walk_enumT (Pv D) (h0 D hD) (fun i H' _ p => (hl D i H' hD p).sqT q) (fun i x H1 H' _ p y => st D i x H1 H' hD p y) (fun H' => hd D H' hD)⟩

/-! ### an own error is made -/
/-- self.f = f -/
def sp_init (C : Addr) (f : Str) : Sp := fun vs H Q _ => ∃ a v, vs = [.ref a, v] ∧ H a = some (exo a C none) ∧ ∀ dx, H dx = none → dx ≠ a → Q .non (upd (upd H dx (exd dx [(f, v)])) a (exo a C (some dx)))
/-- what is asked of the way out of an error with one field -/
def ErrK (E : XK) (C : Addr) (f : Str) (v : V) (H : Hp) : Prop := ∀ d H', Same H H' → H d = none → H' d = some (.xd [(f, v)]) → E (.ref C) (some d) H'
theorem err_k {C : Addr} {f : Str} {H1 : Hp} {v : V} {W : XK} (h : ErrK W C f v H1) :
    ([v] : List V).length ≤ 1000 ∧ ∀ a, H1 a = none → sp_init C f (.ref a :: ([v] ++ [])) (upd H1 a (exo a C none)) (fun u H2 => u = .non ∧ ∃ (d : Addr) (fs : List (Str × V)), H2 a = some (exo a C (some d)) ∧ H2 d = some (exd d fs) ∧ H1 d = none ∧ W (.ref C) (some d) (upd (del H2 a) d (.xd fs))) (fun _ _ _ => False) := by
  refine ⟨by show 1 ≤ 1000; decide, fun a ha => ⟨a, v, rfl, upd_same, fun dx hd hne => ⟨rfl, dx, [(f, v)], upd_same, ?_, (none_of_upd hd).1, ?_⟩⟩⟩
  · rw [upd_ne hne, upd_same]
  · refine h dx _ (fun b o e => ?_) (none_of_upd hd).1 upd_same
    have n1 : b ≠ dx := ne_of_none e (none_of_upd hd).1
    have n2 : b ≠ a := ne_of_none e ha
    rw [upd_ne n1, del_ne n2, upd_ne n2, upd_ne n1, upd_ne n2]
    exact e

/-! ### a call of a local name that holds one of several defs; it may raise -/
structure HeldX (P : Program) (w : World) (K : PySem.W.Frag) (mg : Str → Option Value) (base : Heap) (k : Nat) (f : Addr) (sp : Sp) : Prop where
  ex : ∃ (fd : FuncData) (ps : List Str), FnOk P w K mg base (L2.CX P w) k f fd ps sp ∧ PySem.W.keepIn K (.ref f) = true ∧ Binds K fd ps []
def tCallLS (i : Nat) (S : Addr → Option Sp) (E : L2.St → XK) (t : TA) : TE := fun σ H Q => ∃ f sp, σ[i]? = some (some (.ref f)) ∧ S f = some sp ∧ t σ H fun vs H1 => sp vs H1 Q (E σ)
section
variable {X : Cx} {k i : Nat} {E : L2.St → XK} {x : Str} {p pos : Pos} {e : Expr} {es : List Expr} {t : TA} {S : Addr → Option Sp}
theorem pe_callLS (hS : ∀ f sp, S f = some sp → HeldX X.prog X.w X.K X.mg X.base k f sp) (hr : Room k X.A) (hN : X.N[i]? = some x) (hv : Vis X.env.scope x) (hx : ∀ σ, PassesAt (L2.CX X.prog X.w) X σ (E σ)) (ha : PA X (e :: es) t)
    (hdb : (x == ("__debug__" : Str)) = false := by decide) (hcd : (x == ("__classdict__" : Str)) = false := by decide)
    (he : starEach (e :: es) X.env = (false, eval e X.env) :: starEach es X.env := by rfl) (hpl : (backTo pos (starEach es X.env)).any (·.1) = false := by rfl) : PE X (.Call (.Name x p) (e :: es) [] pos) (tCallLS i S E t) := by
  refine ⟨fun pins s σ H Q I h => ?_⟩
  obtain ⟨f, sp, hs, hsp, ht⟩ := h
  obtain ⟨fd, ps, F, hk, hb⟩ := (hS f sp hsp).ex
  refine wpAny_Call_Name_kw (thn ((pe_var (pos := p) hN hv hdb hcd).run pins s σ H (fun v H1 => v = .ref f ∧ H1 = H) I ⟨.ref f, hs, rfl, rfl⟩) fun u s1 ⟨v, H1, I1, r1, q1⟩ => ?_)
  obtain ⟨rfl, rfl⟩ := q1
  cases r1
  refine PySem.W.callWith_K (h₀ := X.base) I.ok.mod.kin hk (thn (ha.run pos pins s1 σ _ _ I1 ht) fun us s2 ⟨vs, H2, I2, r, q⟩ => ⟨I2.kIn, ?_⟩) he hpl
  exact run_fnS F hr hb (hx σ) I2 r q
end
end Lk
/-! General lemmas: pairings, new lists, the draws' pool. -/
namespace Lk
open PySem PySem.Spec PyProof.Rows L2
section
variable {K : PySem.W.Frag}
def Tg.seq : Tg → Bool
  | .lst => true | .tup => true | _ => false
theorem Sq.tys {H : Hp} {a : Addr} {xs : List V} (h : Sq K H a xs) : ∃ t, HasTy K H (.ref a) t ∧ t.seq = true := by
  rcases h with h | h
  · exact ⟨.lst, hasTy_lst h, rfl⟩
  · exact ⟨.tup, hasTy_tup h, rfl⟩
theorem ErrK.same {E : XK} {C : Addr} {f : Str} {v : V} {H H' : Hp} (e : Same H H') (h : ErrK E C f v H) : ErrK E C f v H' := fun d H2 s n x => h d H2 (e.trans s) (e.free n) x
theorem paired_get {α β : Type} {R : α → β → Prop} : ∀ {xs : List α} {ys : List β} {i : Nat} {x : α}, Paired R xs ys → xs[i]? = some x → ∃ y, ys[i]? = some y ∧ R x y
  | _, _, 0, _, .cons h _, e => ⟨_, rfl, by cases e; exact h⟩
  | _, _, i + 1, _, .cons _ t, e => paired_get (i := i) t e
  | _, _, _, _, .nil, e => by simp at e
theorem paired_len {α β : Type} {R : α → β → Prop} : ∀ {xs : List α} {ys : List β}, Paired R xs ys → xs.length = ys.length
  | _, _, .nil => rfl
  | _, _, .cons _ t => by rw [List.length_cons, List.length_cons, paired_len t]
theorem paired_mono {α β : Type} {R S : α → β → Prop} (f : ∀ x y, R x y → S x y) : ∀ {xs : List α} {ys : List β}, Paired R xs ys → Paired S xs ys
  | _, _, .nil => .nil
  | _, _, .cons h t => .cons (f _ _ h) (paired_mono f t)
theorem paired_snoc {α β : Type} {R : α → β → Prop} {x : α} {y : β} (h : R x y) : ∀ {xs : List α} {ys : List β}, Paired R xs ys → Paired R (xs ++ [x]) (ys ++ [y])
  | _, _, .nil => .cons h .nil
  | _, _, .cons z t => .cons z (paired_snoc h t)
theorem take_snoc {α : Type} : ∀ {l : List α} {i : Nat} {x : α}, l[i]? = some x → l.take (i + 1) = l.take i ++ [x]
  | [], i, x, h => by simp at h
  | a :: l, 0, x, h => by cases h; rfl
  | a :: l, i + 1, x, h => by
    show a :: l.take (i + 1) = a :: l.take i ++ [x]
    rw [take_snoc (l := l) (i := i) h]
    rfl
theorem paired_mem {α β : Type} {R S : α → β → Prop} : ∀ {xs : List α} {ys : List β}, Paired R xs ys → (∀ x y, x ∈ xs → R x y → S x y) → Paired S xs ys
  | _, _, .nil, _ => .nil
  | _, _, .cons h t, f => .cons (f _ _ (List.mem_cons_self ..) h) (paired_mem t fun x y hx => f x y (List.mem_cons_of_mem _ hx))
theorem ixS {H : Hp} {a : Addr} {xs : List V} {j : Nat} {v : V} {Q : VK} (h : Sq K H a xs) (hv : xs[j]? = some v) (q : Q v H) : rIxS K (.ref a) (.int (j : Nat)) H Q := by
  rcases h with h | h
  · exact .inl ⟨a, xs, _, v, rfl, rfl, h, atI_nat hv, q⟩
  · exact .inr ⟨a, xs, _, v, rfl, rfl, h, atI_nat hv, q⟩
def Pool (H : Hp) (p : Addr) (n : Nat) : Prop := ∃ a b c : Int, H p = some (.lst [.int a, .int b, .int c]) ∧ 0 ≤ a ∧ 0 ≤ b ∧ b < 2147483647 ∧ 0 ≤ c ∧ c ≤ n
theorem Pool.mono {H : Hp} {p : Addr} {n m : Nat} (h : Pool H p n) (l : n ≤ m) : Pool H p m := by
  obtain ⟨a, b, c, h1, h2, h3, h4, h5, h6⟩ := h
  exact ⟨a, b, c, h1, h2, h3, h4, h5, by omega⟩
theorem Pool.keeps {H H' : Hp} {p : Addr} {n : Nat} (h : Pool H p n) (k : KeepsAt p H H') : Pool H' p n := by
  obtain ⟨a, b, c, h1, h2⟩ := h
  exact ⟨a, b, c, k _ h1, h2⟩
theorem Pool.at_ {H : Hp} {p : Addr} {n : Nat} (h : Pool H p n) : ∃ xs, H p = some (.lst xs) := by
  obtain ⟨a, b, c, h1, h2⟩ := h
  exact ⟨_, h1⟩
theorem fmod_lo {a b : Int} (h : 0 < b) : 0 ≤ a.fmod b := by rw [Int.fmod_eq_emod_of_nonneg a (by omega)]; exact Int.emod_nonneg a (by omega)
theorem fmod_hi {a b : Int} (h : 0 < b) : a.fmod b < b := by rw [Int.fmod_eq_emod_of_nonneg a (by omega)]; exact Int.emod_lt_of_pos a h
theorem fdiv_lo {a b : Int} (ha : 0 ≤ a) (h : 0 < b) : 0 ≤ a.fdiv b := by rw [Int.fdiv_eq_ediv_of_nonneg a (by omega)]; exact Int.ediv_nonneg ha (by omega)
theorem erase_perm {α : Type} : ∀ {l : List α} {i : Nat} (h : i < l.length), (l[i] :: l.eraseIdx i).Perm l
  | x :: l, 0, _ => .refl _
  | x :: l, i + 1, h => by
    have h2 : i < l.length := by simpa using h
    have ih := erase_perm (l := l) (i := i) h2
    show (l[i] :: x :: l.eraseIdx i).Perm (x :: l)
    exact (List.Perm.swap _ _ _).trans (ih.cons x)
theorem cutV_map (ns : List Int) (lo hi : Option Int) : ∃ ms : List Int, cutV (ns.map V.int) lo hi = ms.map V.int := by
  unfold cutV
  exact ⟨_, by rw [← List.map_drop, ← List.map_take]⟩
def PvV (H : Hp) (vs : List V) (D : Addr) (i : Nat) (H' : Hp) : Prop := Same H H' ∧ H' D = some (.lst (vs.take i))
theorem vals0 {H : Hp} {vs : List V} {D : Addr} (hD : H D = none) : PvV H vs D 0 (upd H D (.lst [])) := ⟨same_new hD, upd_same⟩
theorem vals_step {H H' H4 : Hp} {vs : List V} {D : Addr} {i : Nat} {y : V} (h : PvV H vs D i H') (hD : H D = none) (s : Same H' H4) (hy : vs[i]? = some y) (hl : vs.length ≤ 100000) :
    ∃ acc, H4 D = some (.lst acc) ∧ acc.length < sizeLine ∧ PvV H vs D (i + 1) (upd H4 D (.lst (acc ++ [y]))) := by
  obtain ⟨s1, hd⟩ := h
  refine ⟨vs.take i, s _ _ hd, ?_, fun b o e => ?_, ?_⟩
  · have hi := (List.getElem?_eq_some_iff.mp hy).1
    rw [List.length_take, sizeLine_eq]
    omega
  · rw [upd_ne (ne_of_none e hD)]
    exact s _ _ (s1 _ _ e)
  · rw [upd_same, take_snoc hy]
theorem valsE {H H' : Hp} {vs : List V} {D : Addr} {n : Nat} (h : PvV H vs D n H') (hn : n = vs.length) : Same H H' ∧ H' D = some (.lst vs) := by
  subst hn
  obtain ⟨s, h⟩ := h
  rw [List.take_length] at h
  exact ⟨s, h⟩
def GrowO {β : Type} (obj : β → HO) (H1 : Hp) (D : Addr) (qs : List β) (H' : Hp) : Prop := Same H1 H' ∧ ∃ as : List Addr, H' D = some (.lst (as.map V.ref)) ∧ Paired (fun a q => H' a = some (obj q)) as qs ∧ ∀ b ∈ as, b ≠ D ∧ H1 b = none
theorem growO0 {β : Type} {obj : β → HO} {H1 : Hp} {D : Addr} (hD : H1 D = none) : GrowO obj H1 D [] (upd H1 D (.lst [])) := ⟨same_new hD, [], upd_same, .nil, (fun b hb => nomatch hb)⟩
theorem growO_step {β : Type} {obj : β → HO} {H1 H' H2 : Hp} {D : Addr} {qs : List β} {q : β} (g : GrowO obj H1 D qs H') (hD : H1 D = none) (s : Same H' H2) (hl : qs.length < 100000) (t : Addr) (nt : H2 t = none) :
    ∃ acc, (upd H2 t (obj q)) D = some (.lst acc) ∧ acc.length < sizeLine ∧ GrowO obj H1 D (qs ++ [q]) (upd (upd H2 t (obj q)) D (.lst (acc ++ [.ref t]))) := by
  obtain ⟨s3, as, hd, hpr, hne⟩ := g
  have hd2 := s _ _ hd
  have ntD : D ≠ t := ne_of_none hd2 nt
  refine ⟨as.map V.ref, ?_, ?_, ?_⟩
  · rw [upd_ne ntD]
    exact hd2
  · rw [List.length_map, paired_len hpr, sizeLine_eq]
    omega
  · refine ⟨fun b' o' e' => ?_, as ++ [t], ?_, ?_, ?_⟩
    · have n1 : b' ≠ D := ne_of_none e' hD
      have e2 := s _ _ (s3 _ _ e')
      have n2 : b' ≠ t := ne_of_none e2 nt
      rw [upd_ne n1, upd_ne n2]
      exact e2
    · rw [upd_same, List.map_append]
      rfl
    · refine paired_snoc ?_ (paired_mem hpr fun c x hc hcq => ?_)
      · show (upd (upd H2 t (obj q)) D _) t = _
        rw [upd_ne (Ne.symm ntD), upd_same]
      · have hcq2 := s _ _ hcq
        show (upd (upd H2 t (obj q)) D _) c = _
        rw [upd_ne (hne c hc).1, upd_ne (ne_of_none hcq2 nt)]
        exact hcq2
    · intro c hc
      rcases List.mem_append.mp hc with hc | hc
      · exact hne c hc
      · cases List.mem_singleton.mp hc
        exact ⟨Ne.symm ntD, s3.free (s.free nt)⟩
theorem paired_app {α β : Type} {R : α → β → Prop} : ∀ {xs xs' : List α} {ys ys' : List β}, Paired R xs ys → Paired R xs' ys' → Paired R (xs ++ xs') (ys ++ ys')
  | _, _, _, _, .nil, h => h
  | _, _, _, _, .cons a t, h => .cons a (paired_app t h)
theorem paired_perm {α β : Type} {R : α → β → Prop} {xs xs' : List α} (h : xs'.Perm xs) : ∀ {ys : List β}, Paired R xs ys → ∃ ys', ys'.Perm ys ∧ Paired R xs' ys' := by
  induction h with
  | nil => intro ys q; exact ⟨ys, .refl _, q⟩
  | cons x _ ih =>
    intro ys q
    cases q with
    | cons a t =>
      obtain ⟨ys', p, r⟩ := ih t
      exact ⟨_ :: ys', p.cons _, .cons a r⟩
  | swap x y l =>
    intro ys q
    cases q with
    | cons a t =>
      cases t with
      | cons b t => exact ⟨_, List.Perm.swap _ _ _, .cons b (.cons a t)⟩
  | trans _ _ ih1 ih2 =>
    intro ys q
    obtain ⟨ys1, p1, r1⟩ := ih2 q
    obtain ⟨ys2, p2, r2⟩ := ih1 r1
    exact ⟨ys2, p2.trans p1, r2⟩
theorem paired_all {α β : Type} {R : α → β → Prop} {G : β → Prop} : ∀ {xs : List α}, (∀ x ∈ xs, ∃ y, R x y ∧ G y) → ∃ ys, Paired R xs ys ∧ ∀ y ∈ ys, G y
  | [], _ => ⟨[], .nil, (fun y hy => nomatch hy)⟩
  | x :: xs, h => by
    obtain ⟨y, h1, h2⟩ := h x (List.mem_cons_self ..)
    obtain ⟨ys, h3, h4⟩ := paired_all (xs := xs) fun z hz => h z (List.mem_cons_of_mem _ hz)
    refine ⟨y :: ys, .cons h1 h3, fun z hz => ?_⟩
    rcases List.mem_cons.mp hz with e | hz
    · rw [e]
      exact h2
    · exact h4 z hz
def backA : V → Addr
  | .ref a => a
  | _ => 0
theorem perm_refs {ys : List V} {as : List Addr} (h : ys.Perm (as.map V.ref)) : ∃ as' : List Addr, ys = as'.map V.ref ∧ as'.Perm as := by
  refine ⟨ys.map backA, ?_, ?_⟩
  · rw [List.map_map]
    refine (List.map_id ys).symm.trans (List.map_congr_left fun y hy => ?_)
    obtain ⟨a, _, rfl⟩ := List.mem_map.mp (h.mem_iff.mp hy)
    rfl
  · have := h.map backA
    rw [List.map_map] at this
    have e : as.map (backA ∘ V.ref) = as := (List.map_congr_left fun a _ => rfl).trans (List.map_id as)
    rw [e] at this
    exact this
theorem cutV_refs (as : List Addr) (lo hi : Option Int) : ∃ bs : List Addr, cutV (as.map V.ref) lo hi = bs.map V.ref ∧ bs.Sublist as := by
  unfold cutV
  refine ⟨_, by rw [← List.map_drop, ← List.map_take], ?_⟩
  exact (List.take_sublist _ _).trans (List.drop_sublist _ _)
theorem map_at {α β : Type} {f : α → β} {l : List α} {i : Nat} {y : β} (h : (l.map f)[i]? = some y) : ∃ x, l[i]? = some x ∧ y = f x := by
  rw [List.getElem?_map] at h
  cases e : l[i]? with
  | none => rw [e] at h; cases h
  | some x => rw [e] at h; exact ⟨x, rfl, (Option.some.inj h).symm⟩
theorem at_map {α β : Type} {f : α → β} {l : List α} {i : Nat} {x : α} (h : l[i]? = some x) : (l.map f)[i]? = some (f x) := by
  rw [List.getElem?_map, h]
  rfl
/-! ### _law_serves -/
theorem isi {H : Hp} {x : V} {t b : Tg} {Q : VK} (h : HasTy K H x t) (hb : b ≠ .non) (q : Q (.bl (t.sub b)) H) : rIsi K [x, .ty b.nm] H Q := ⟨x, _, _, _, _, rfl, .ty _, h, kit_tg t b hb, q⟩
theorem cut1V (xs : List V) : cutV xs (some 1) none = xs.drop 1 := by
  unfold cutV
  rw [show HT.sIx xs.length 0 (some 1) = min 1 xs.length from HT.sIx_nat xs.length 0 1, HT.sIx_none]
  cases xs with
  | nil => rfl
  | cons x r =>
    rw [show min 1 (x :: r).length = 1 by rw [List.length_cons]; omega]
    show List.take ((x :: r).length - 1) r = r
    rw [List.length_cons, Nat.add_sub_cancel]
    exact List.take_length
theorem range_take_at {α : Type} {f : Nat → α} {m i : Nat} (h : i < m) : ((List.range m).map f)[i]? = some (f i) := by
  rw [List.getElem?_map, List.getElem?_range h]
  rfl
theorem pe_fun {X : Cx} {x : Str} {f : Addr} {pos : Pos} (hg : Gl X x) (hm : X.mg x = some (.ref f)) (hd : (x == ("__debug__" : Str)) = false := by decide) : PE X (.Name x pos) (tC (.ref f)) := pe_glob (v := .ref f) hg hm rfl hd
/-! ### what is no change -/
def FlatV (v : V) : Prop := v = .non ∨ (∃ i, v = .int i) ∨ (∃ z, v = .str z) ∨ ∃ b, v = .bl b
theorem FlatV.ty {H : Hp} {v : V} (h : FlatV v) : ∃ t, HasTy K H v t ∧ t.seq = false := by
  rcases h with rfl | ⟨i, rfl⟩ | ⟨z, rfl⟩ | ⟨b, rfl⟩
  · exact ⟨.non, hasTy_non, rfl⟩
  · exact ⟨.int, hasTy_int, rfl⟩
  · exact ⟨.str, hasTy_str, rfl⟩
  · exact ⟨.bl, hasTy_bl, rfl⟩
end
end Lk
/-! ==, !=, <, >, in of data with a Lean type (KE.Datum). -/
namespace Lk
open PySem PySem.Spec PyProof.Rows L2 PySem.W
section
variable {α : Type} [DecidableEq α] [Datum α]
/-- v holds x -/
def HasD (K : Frag) (H : Hp) (v : V) (x : α) : Prop := Dp K H v (Datum.toD x)
def rEqT (α : Type) [DecidableEq α] [Datum α] (K : Frag) : R2 := fun u v H Q => ∃ x y : α, HasD K H u x ∧ HasD K H v y ∧ Q (.bl (decide (x = y))) H
def rNeT (α : Type) [DecidableEq α] [Datum α] (K : Frag) : R2 := fun u v H Q => ∃ x y : α, HasD K H u x ∧ HasD K H v y ∧ Q (.bl (!decide (x = y))) H
variable {X : Cx} {K : Frag}
theorem op_eqT (hu : X.A.units + Datum.depth α < cLine) (hK : X.K = K := by rfl) : OpR X (compareOp .Eq) (rEqT α K) := by
  subst hK
  intro pins s σ H u v a b Q I ru rv h
  obtain ⟨x, y, hx, hy, q⟩ := h
  exact eq_datum (Dp.reads I _ _ _ hx ru) (Dp.reads I _ _ _ hy rv) hu ⟨.bl (decide (x = y)), H, I, rfl, q⟩
theorem op_neT (hu : X.A.units + Datum.depth α < cLine) (hK : X.K = K := by rfl) : OpR X (compareOp .NotEq) (rNeT α K) := by
  subst hK
  intro pins s σ H u v a b Q I ru rv h
  obtain ⟨x, y, hx, hy, q⟩ := h
  exact ne_datum (Dp.reads I _ _ _ hx ru) (Dp.reads I _ _ _ hy rv) hu ⟨.bl (!decide (x = y)), H, I, by rw [decide_not]; rfl, q⟩
end
section
variable {α : Type} [DecidableEq α] [DatumOrd α] {X : Cx} {K : Frag}
def rGtT (α : Type) [DecidableEq α] [DatumOrd α] (K : Frag) : R2 := fun u v H Q => ∃ x y : α, HasD K H u x ∧ HasD K H v y ∧ Q (.bl (DatumOrd.lt y x)) H
theorem op_gtT (hu : X.A.units + Datum.depth α < cLine) (hK : X.K = K := by rfl) : OpR X (compareOp .Gt) (rGtT α K) := by
  subst hK
  intro pins s σ H u v a b Q I ru rv h
  obtain ⟨x, y, hx, hy, q⟩ := h
  exact gt_datum (Dp.reads I _ _ _ hx ru) (Dp.reads I _ _ _ hy rv) hu ⟨.bl (DatumOrd.lt y x), H, I, rfl, q⟩
end
section
variable {K : Frag} {H H' : Hp}
mutual
theorem dp_same (e : Same H H') : ∀ {v : V} {d : PyData}, Dp K H v d → Dp K H' v d
  | _, _, .non => .non
  | _, _, .bl b => .bl b
  | _, _, .int i => .int i
  | _, _, .str x => .str x
  | _, _, .lst h t => .lst (e.seq h) (dpAll_same e t)
  | _, _, .tup h t => .tup (e.sqT h) (dpAll_same e t)
theorem dpAll_same (e : Same H H') : ∀ {vs : List V} {ds : List PyData}, DpAll K H vs ds → DpAll K H' vs ds
  | _, _, .nil => .nil
  | _, _, .cons h t => .cons (dp_same e h) (dpAll_same e t)
end
theorem dp_ints : ∀ ns : List Int, DpAll K H (ns.map V.int) (ns.map Datum.toD)
  | [] => .nil
  | n :: ns => .cons (.int n) (dp_ints ns)
theorem hasD_int {i : Int} : HasD K H (.int i) i := .int i
theorem hasD_ints {a : Addr} {ns : List Int} (h : SqL K H a (ns.map V.int)) : HasD K H (.ref a) ns := .lst h (dp_ints ns)
end
end Lk
/-! zip of two lists or two tuples. -/
namespace Lk
open PySem PySem.Spec PyProof.Rows L2 RZ
theorem walk_zipT {K : PySem.W.Frag} {a b : Addr} {xs ys : List V} {n : Nat} (hn : n = min xs.length ys.length) : Walk (ItzT K a b) n (fun H => SqT K H a xs ∧ SqT K H b ys) (YPair (fun i => xs[i]?) (fun i => ys[i]?)) := by
  subst hn
  refine ⟨fun i _ hi q => ?_, fun _ q => ⟨xs, ys, q.1, q.2, by omega⟩, fun i H v H' _ q y => ?_⟩
  · have h1 : i < xs.length := by omega
    have h2 : i < ys.length := by omega
    exact ⟨xs, ys, xs[i], ys[i], q.1, q.2, by simp [h1], by simp [h2]⟩
  · obtain ⟨T, x, z, h1, h2, h3, h4, h5⟩ := y
    exact ⟨T, x, z, h1, h2, h3, h4 xs q.1, h5 ys q.2⟩
/-- both lists, or both tuples -/
def Sq2 (K : PySem.W.Frag) (H : Hp) (a b : Addr) (xs ys : List V) : Prop := (SqL K H a xs ∧ SqL K H b ys) ∨ (SqT K H a xs ∧ SqT K H b ys)
theorem _root_.L2.Same.sq2 {K : PySem.W.Frag} {H H' : Hp} {a b : Addr} {xs ys : List V} (e : Same H H') (h : Sq2 K H a b xs ys) : Sq2 K H' a b xs ys := h.imp (fun z => ⟨e.seq z.1, e.seq z.2⟩) fun z => ⟨e.sqT z.1, e.sqT z.2⟩
/-- [e for x, y in zip(a, b)] -/
theorem lc_zip {K : PySem.W.Frag} {a b : Addr} {xs ys : List V} {g : TG} {tt : TT} {te : TE} {vs : List Nat} {σ : L2.St} {H : Hp} {Qd : Addr → Hp → Prop} {n : Nat} (hn : n = min xs.length ys.length) (hq : Sq2 K H a b xs ys) (Pv : Addr → Nat → Hp → Prop) (h0 : ∀ D, H D = none → Pv D 0 (upd H D (.lst []))) (hl : ∀ D i H', H D = none → Pv D i H' → KeepsAt a H H' ∧ KeepsAt b H H')
    (hs : ∀ D i x y H' T, H D = none → xs[i]? = some x → ys[i]? = some y → Pv D i H' → H' T = none → g (.ref T) (wipe σ vs) (upd H' T (.tup [x, y])) fun σ2 H2 => wipe σ2 vs = wipe σ vs ∧ tt σ2 H2 fun b H3 =>
      if b = true then te σ2 H3 fun y H4 => ∃ acc, H4 D = some (.lst acc) ∧ acc.length < sizeLine ∧ Pv D (i + 1) (upd H4 D (.lst (acc ++ [y]))) else Pv D (i + 1) H3) (hd : ∀ D H', H D = none → Pv D n H' → Qd D H') :
    ∃ a' b' xs' ys', [V.ref a, V.ref b] = [V.ref a', V.ref b'] ∧ ((SqL K H a' xs' ∧ SqL K H b' ys' ∧ ∀ D : Addr, H D = none → ∃ W : Nat → Nat → Hp → Prop, (∃ m, W 0 m (upd H D (.lst []))) ∧ ∀ i m H, W i m H →
      ((Itz K a' b').stop i H ∧ Qd D H) ∨ ((Itz K a' b').go i H ∧ ∃ Nx : Hp → Prop, (∀ H', Nx H' → ∃ m', m' < m ∧ W (i + 1) m' H') ∧ ∀ x H', (Itz K a' b').yld i H x H' → g x (wipe σ vs) H' fun σ2 H2 => wipe σ2 vs = wipe σ vs ∧ tt σ2 H2 fun b H3 =>
        if b = true then te σ2 H3 fun y H4 => ∃ acc, H4 D = some (.lst acc) ∧ acc.length < sizeLine ∧ Nx (upd H4 D (.lst (acc ++ [y]))) else Nx H3)) ∨
      (SqT K H a' xs' ∧ SqT K H b' ys' ∧ ∀ D : Addr, H D = none → ∃ W : Nat → Nat → Hp → Prop, (∃ m, W 0 m (upd H D (.lst []))) ∧ ∀ i m H, W i m H →
      ((ItzT K a' b').stop i H ∧ Qd D H) ∨ ((ItzT K a' b').go i H ∧ ∃ Nx : Hp → Prop, (∀ H', Nx H' → ∃ m', m' < m ∧ W (i + 1) m' H') ∧ ∀ x H', (ItzT K a' b').yld i H x H' → g x (wipe σ vs) H' fun σ2 H2 => wipe σ2 vs = wipe σ vs ∧ tt σ2 H2 fun b H3 =>
        if b = true then te σ2 H3 fun y H4 => ∃ acc, H4 D = some (.lst acc) ∧ acc.length < sizeLine ∧ Nx (upd H4 D (.lst (acc ++ [y]))) else Nx H3))) := by
  refine ⟨a, b, xs, ys, rfl, ?_⟩
  have st : ∀ D i x H1 H', H D = none → Pv D i H1 → YPair (fun i => xs[i]?) (fun i => ys[i]?) i H1 x H' → g x (wipe σ vs) H' fun σ2 H2 => wipe σ2 vs = wipe σ vs ∧ tt σ2 H2 fun b H3 =>
      if b = true then te σ2 H3 fun y H4 => ∃ acc, H4 D = some (.lst acc) ∧ acc.length < sizeLine ∧ Pv D (i + 1) (upd H4 D (.lst (acc ++ [y]))) else Pv D (i + 1) H3 := by
    rintro D i x H1 H' hD p ⟨T, y, z, rfl, nT, rfl, e1, e2⟩
    exact hs D i y z H1 T hD e1 e2 p nT
  rcases hq with ⟨q1, q2⟩ | ⟨q1, q2⟩
  · exact .inl ⟨q1, q2, fun D hD => lc_it (walk_zip hn) (Pv D) (h0 D hD) (fun i H' _ p => ⟨(hl D i H' hD p).1.sqL q1, (hl D i H' hD p).2.sqL q2⟩) (fun i x H1 H' _ p y => st D i x H1 H' hD p y) (fun H' => hd D H' hD)⟩
  · exact .inr ⟨q1, q2, fun D hD => lc_it (walk_zipT hn) (Pv D) (h0 D hD) (fun i H' _ p => ⟨(hl D i H' hD p).1.sqT q1, (hl D i H' hD p).2.sqT q2⟩) (fun i x H1 H' _ p y => st D i x H1 H' hD p y) (fun H' => hd D H' hD)⟩
/-- for x, y in zip(a, b) -/
theorem for_zip {K : PySem.W.Frag} {a b : Addr} {xs ys : List V} {g : TG} {tb : TS} {D : Ends} {σ : L2.St} {H : Hp} {n : Nat} (hn : n = min xs.length ys.length) (hq : Sq2 K H a b xs ys) (Pv : Nat → L2.St → Hp → Prop) (h0 : Pv 0 σ H) (hl : ∀ i σ H', Pv i σ H' → KeepsAt a H H' ∧ KeepsAt b H H')
    (hs : ∀ i x y σ H T, xs[i]? = some x → ys[i]? = some y → Pv i σ H → H T = none → g (.ref T) σ (upd H T (.tup [x, y])) fun σ2 H2 => tb { D with nx := Pv (i + 1), ct := Pv (i + 1), bk := D.nx } σ2 H2) (hd : ∀ σ H, Pv n σ H → D.nx σ H) :
    ∃ a' b' xs' ys', [V.ref a, V.ref b] = [V.ref a', V.ref b'] ∧ ((SqL K H a' xs' ∧ SqL K H b' ys' ∧ ∃ W : Nat → Nat → L2.St → Hp → Prop, (∃ m, W 0 m σ H) ∧ ∀ i m σ H, W i m σ H →
      ((Itz K a' b').stop i H ∧ D.nx σ H) ∨ ((Itz K a' b').go i H ∧ ∃ N : L2.St → Hp → Prop, (∀ σ' H', N σ' H' → ∃ m', m' < m ∧ W (i + 1) m' σ' H') ∧ ∀ x H', (Itz K a' b').yld i H x H' → g x σ H' fun σ2 H2 => tb { D with nx := N, ct := N, bk := D.nx } σ2 H2)) ∨
      (SqT K H a' xs' ∧ SqT K H b' ys' ∧ ∃ W : Nat → Nat → L2.St → Hp → Prop, (∃ m, W 0 m σ H) ∧ ∀ i m σ H, W i m σ H →
      ((ItzT K a' b').stop i H ∧ D.nx σ H) ∨ ((ItzT K a' b').go i H ∧ ∃ N : L2.St → Hp → Prop, (∀ σ' H', N σ' H' → ∃ m', m' < m ∧ W (i + 1) m' σ' H') ∧ ∀ x H', (ItzT K a' b').yld i H x H' → g x σ H' fun σ2 H2 => tb { D with nx := N, ct := N, bk := D.nx } σ2 H2))) := by
  refine ⟨a, b, xs, ys, rfl, ?_⟩
  have st : ∀ i x σ' H1 H', Pv i σ' H1 → YPair (fun i => xs[i]?) (fun i => ys[i]?) i H1 x H' → g x σ' H' fun σ2 H2 => tb { D with nx := Pv (i + 1), ct := Pv (i + 1), bk := D.nx } σ2 H2 := by
    rintro i x σ' H1 H' p ⟨T, y, z, rfl, nT, rfl, e1, e2⟩
    exact hs i y z σ' H1 T e1 e2 p nT
  rcases hq with ⟨q1, q2⟩ | ⟨q1, q2⟩
  · exact .inl ⟨q1, q2, for_it (walk_zip hn) Pv h0 (fun i σ' H' _ p => ⟨(hl i σ' H' p).1.sqL q1, (hl i σ' H' p).2.sqL q2⟩) (fun i x σ' H1 H' _ p y => st i x σ' H1 H' p y) hd⟩
  · exact .inr ⟨q1, q2, for_it (walk_zipT hn) Pv h0 (fun i σ' H' _ p => ⟨(hl i σ' H' p).1.sqT q1, (hl i σ' H' p).2.sqT q2⟩) (fun i x σ' H1 H' _ p y => st i x σ' H1 H' p y) hd⟩
end Lk
/-! x == [], x != []: whatever the list holds. -/
namespace Lk
open PySem PySem.Spec PyProof.Rows L2
def rEqNil (K : PySem.W.Frag) : R2 := fun x y H Q => ∃ a b xs, x = .ref a ∧ y = .ref b ∧ SqL K H a xs ∧ SqL K H b [] ∧ Q (.bl xs.isEmpty) H
def rNeNil (K : PySem.W.Frag) : R2 := fun x y H Q => ∃ a b xs, x = .ref a ∧ y = .ref b ∧ SqL K H a xs ∧ SqL K H b [] ∧ Q (.bl (!xs.isEmpty)) H
section
variable {X : Cx} {K : PySem.W.Frag}
theorem op_eqNil (hu : X.A.units + 1 < cLine) (hK : X.K = K := by rfl) : OpR X (compareOp .Eq) (rEqNil K) := by
  subst hK
  intro pins s σ H u v a b Q I ru rv h
  obtain ⟨p, q, xs, rfl, rfl, hx, hy, k⟩ := h
  cases ru
  cases rv
  obtain ⟨its, r1, p1, _⟩ := I.list hx
  obtain ⟨its2, r2, p2, _⟩ := I.list hy
  cases r2
  have hu' : X.A.units < cLine := by omega
  cases r1 with
  | nil =>
    exact PySem.SeqAt.eq_listAt (e := fun _ => true) p1.isList p2.isList rfl hu' (fun j h1 _ => absurd h1 (by simp)) ⟨.bl true, H, I, rfl, k⟩
  | cons r rr =>
    exact PySem.SeqAt.eq_list_lengthsAt p1.isList p2.isList (by simp) hu' ⟨.bl false, H, I, rfl, k⟩
theorem op_neNil (hu : X.A.units + 1 < cLine) (hK : X.K = K := by rfl) : OpR X (compareOp .NotEq) (rNeNil K) := by
  subst hK
  intro pins s σ H u v a b Q I ru rv h
  obtain ⟨p, q, xs, rfl, rfl, hx, hy, k⟩ := h
  cases ru
  cases rv
  obtain ⟨its, r1, p1, _⟩ := I.list hx
  obtain ⟨its2, r2, p2, _⟩ := I.list hy
  cases r2
  have hu' : X.A.units < cLine := by omega
  cases r1 with
  | nil =>
    exact PySem.SeqAt.RcNeAt.lists (e := fun _ => true) p1.isList p2.isList rfl hu' (fun j h1 _ => absurd h1 (by simp)) X.prog X.w _ _ ⟨.bl false, H, I, rfl, k⟩
  | cons r rr =>
    exact PySem.SeqAt.RcNeAt.lists_lengths p1.isList p2.isList (by simp) hu' X.prog X.w _ _ ⟨.bl true, H, I, rfl, k⟩
end
end Lk
/-! Plans, in plain Lean: the least place with a rest, earliest and shortest layouts, and that no right layout is below them. -/
namespace Lk
open PySem
structure Part where
  w : Str
  r : Str
  al : Int
  lo : Int
  hi : Int
  z : Bool
instance : Inhabited Part := ⟨⟨"a", "r", 1, 0, 0, false⟩⟩
namespace MP
/-- the least place from p on with the rest r by s -/
def lift (p s r : Int) : Int := p + (r - p).fmod s
theorem lift_ge {p s r : Int} (h : 0 < s) : p ≤ lift p s r := by
  unfold lift
  have : 0 ≤ (r - p).fmod s := by rw [Int.fmod_eq_emod_of_nonneg _ (by omega)]; exact Int.emod_nonneg _ (by omega)
  omega
theorem lift_lt {p s r : Int} (h : 0 < s) : lift p s r < p + s := by
  unfold lift
  have : (r - p).fmod s < s := by rw [Int.fmod_eq_emod_of_nonneg _ (by omega)]; exact Int.emod_lt_of_pos _ h
  omega
theorem lift_rest {p s r : Int} (h : 0 < s) : s ∣ lift p s r - r := by
  unfold lift
  rw [Int.fmod_eq_emod_of_nonneg _ (by omega)]
  have e := Int.emod_add_mul_ediv (r - p) s
  exact ⟨-((r - p) / s), by rw [Int.mul_neg]; omega⟩
theorem lift_least {p s r q : Int} (h : 0 < s) (hq : p ≤ q) (hd : s ∣ q - r) : lift p s r ≤ q := by
  have h1 := lift_lt (p := p) (r := r) h
  have h2 := lift_rest (p := p) (r := r) h
  rcases Int.lt_or_le q (lift p s r) with c | c
  · have h3 : s ∣ lift p s r - q := by
      have := Int.dvd_sub h2 hd
      have e : lift p s r - r - (q - r) = lift p s r - q := by omega
      rwa [e] at this
    have := Int.le_of_dvd (by omega) h3
    omega
  · exact c
theorem lift_mono {p p' s r : Int} (h : 0 < s) (hp : p ≤ p') : lift p s r ≤ lift p' s r :=
  lift_least h (Int.le_trans hp (lift_ge h)) (lift_rest h)
theorem fmod_zero {a s : Int} (h : 0 < s) : a.fmod s = 0 ↔ s ∣ a := by
  rw [Int.fmod_eq_emod_of_nonneg _ (by omega)]
  exact ⟨Int.dvd_of_emod_eq_zero, Int.emod_eq_zero_of_dvd⟩
theorem fmod_same {a b s : Int} (h : 0 < s) : a.fmod s = b.fmod s ↔ s ∣ a - b := by
  rw [Int.fmod_eq_emod_of_nonneg _ (by omega), Int.fmod_eq_emod_of_nonneg _ (by omega)]
  exact ⟨fun h => Int.dvd_of_emod_eq_zero (Int.emod_eq_emod_iff_emod_sub_eq_zero.mp h), fun h => Int.emod_eq_emod_iff_emod_sub_eq_zero.mpr (Int.emod_eq_zero_of_dvd h)⟩
/-- the loop's test: at the least place, and only there -/
theorem lift_at {p s r q : Int} (h : 0 < s) (h1 : p ≤ q) (h2 : q ≤ lift p s r) : s ∣ q - r ↔ q = lift p s r :=
  ⟨fun d => Int.le_antisymm h2 (lift_least h h1 d), fun e => by rw [e]; exact lift_rest h⟩
def pt (qs : List Part) (i : Nat) : Part := qs.getD i default
def sz (ns : List Int) (i : Nat) : Int := ns.getD i 0
/-- a border of rights ahead of part i -/
def bord (qs : List Part) (i : Nat) : Bool := decide (0 < i) && !decide ((pt qs i).r = (pt qs (i - 1)).r)
def step (pg : Int) (qs : List Part) (i : Nat) : Int := if bord qs i = true then pg else (pt qs i).al
def low (pg : Int) (qs : List Part) (i : Nat) (e : Int) : Int := lift e (step pg qs i) 0
/-- a way to lay out: from the number, the end and the bits so far -/
abbrev Way := Nat → Int → Int → Int × Option Int
def nextS (n : Int) (b : Int) (x : Int × Option Int) : Int × Int := (x.1 + n, match x.2 with | none => b | some o => o + n)
def st (f : Way) (ns : List Int) : Nat → Int × Int
  | 0 => (0, 0)
  | i + 1 => nextS (sz ns i) (st f ns i).2 (f i (st f ns i).1 (st f ns i).2)
def out (f : Way) (ns : List Int) (i : Nat) : Int × Option Int := f i (st f ns i).1 (st f ns i).2
def lay (f : Way) (ns : List Int) (m : Nat) : List (Int × Option Int) := (List.range m).map (out f ns)
def fE (pg : Int) (qs : List Part) : Way := fun i e b => (low pg qs i e, if (pt qs i).z = true then none else some (lift b pg (low pg qs i e)))
def fS (pg : Int) (qs : List Part) : Way := fun i e b => if (pt qs i).z = true then (low pg qs i e, none) else (lift (low pg qs i e) pg (lift b (pt qs i).al 0), some (lift b (pt qs i).al 0))
/-- any right layout: k and j are drawn -/
def fD (pg : Int) (qs : List Part) (k j : Nat → Int) : Way := fun i e b => (low pg qs i e + (pt qs i).al * k i, if (pt qs i).z = true then none else some (lift b pg (low pg qs i e + (pt qs i).al * k i) + pg * j i))
structure GoodQ (pg : Int) (q : Part) : Prop where
  al : 0 < q.al
  dv : q.al ∣ pg
structure Good (pg : Int) (qs : List Part) (ns : List Int) (m : Nat) : Prop where
  pos : 0 < pg
  q : ∀ i, i < m → GoodQ pg (pt qs i)
  n : ∀ i, 0 ≤ sz ns i
section
variable {pg : Int} {qs : List Part} {ns : List Int} {m : Nat}
theorem Good.step (g : Good pg qs ns m) {i : Nat} (hi : i < m) : 0 < step pg qs i ∧ (pt qs i).al ∣ step pg qs i := by
  unfold MP.step
  split
  · exact ⟨g.pos, (g.q i hi).dv⟩
  · exact ⟨(g.q i hi).al, Int.dvd_refl _⟩
theorem Good.low_ge (g : Good pg qs ns m) {i : Nat} (hi : i < m) {e : Int} : e ≤ low pg qs i e := lift_ge (g.step hi).1
theorem Good.low_mono (g : Good pg qs ns m) {i : Nat} (hi : i < m) {e e' : Int} (h : e ≤ e') : low pg qs i e ≤ low pg qs i e' := lift_mono (g.step hi).1 h
theorem Good.low_dv (g : Good pg qs ns m) {i : Nat} (hi : i < m) {e : Int} : (pt qs i).al ∣ low pg qs i e := by
  have h := lift_rest (p := e) (r := 0) (g.step hi).1
  rw [Int.sub_zero] at h
  exact Int.dvd_trans (g.step hi).2 h
theorem st_fst {f : Way} {i : Nat} : (st f ns (i + 1)).1 = (out f ns i).1 + sz ns i := rfl
theorem st_snd {f : Way} {i : Nat} : (st f ns (i + 1)).2 = match (out f ns i).2 with | none => (st f ns i).2 | some o => o + sz ns i := rfl
variable {k j : Nat → Int}
/-- earliest: no address of a right layout is below -/
theorem early_a (g : Good pg qs ns m) (hk : ∀ i, 0 ≤ k i) : ∀ i, i ≤ m → (st (fE pg qs) ns i).1 ≤ (st (fD pg qs k j) ns i).1
  | 0, _ => Int.le_refl _
  | i + 1, hi => by
    have ih := early_a g hk i (by omega)
    have h1 := g.low_mono (show i < m by omega) ih
    have h2 := Int.mul_nonneg (Int.le_of_lt (g.q i (by omega)).al) (hk i)
    show low pg qs i _ + sz ns i ≤ low pg qs i _ + (pt qs i).al * k i + sz ns i
    omega
theorem early_addr (g : Good pg qs ns m) (hk : ∀ i, 0 ≤ k i) {i : Nat} (hi : i < m) : (out (fE pg qs) ns i).1 ≤ (out (fD pg qs k j) ns i).1 := by
  have h1 := g.low_mono hi (early_a (j := j) g hk i (by omega))
  have h2 := Int.mul_nonneg (Int.le_of_lt (g.q i hi).al) (hk i)
  show low pg qs i _ ≤ low pg qs i _ + (pt qs i).al * k i
  omega
theorem outE_z {i : Nat} : (out (fE pg qs) ns i).2 = if (pt qs i).z = true then none else some (lift (st (fE pg qs) ns i).2 pg (out (fE pg qs) ns i).1) := rfl
theorem outD_z {i : Nat} : (out (fD pg qs k j) ns i).2 = if (pt qs i).z = true then none else some (lift (st (fD pg qs k j) ns i).2 pg (out (fD pg qs k j) ns i).1 + pg * j i) := rfl
theorem outS_z {i : Nat} : (out (fS pg qs) ns i).2 = if (pt qs i).z = true then none else some (lift (st (fS pg qs) ns i).2 (pt qs i).al 0) := by
  unfold out fS
  split <;> rfl
theorem outS_a {i : Nat} : (out (fS pg qs) ns i).1 = if (pt qs i).z = true then low pg qs i (st (fS pg qs) ns i).1 else lift (low pg qs i (st (fS pg qs) ns i).1) pg (lift (st (fS pg qs) ns i).2 (pt qs i).al 0) := by
  unfold out fS
  split <;> rfl
/-- where all addresses are those of the earliest, no offset is below -/
theorem early_b (g : Good pg qs ns m) (hj : ∀ i, 0 ≤ j i) (he : ∀ i, i < m → (out (fE pg qs) ns i).1 = (out (fD pg qs k j) ns i).1) : ∀ i, i ≤ m → (st (fE pg qs) ns i).2 ≤ (st (fD pg qs k j) ns i).2
  | 0, _ => Int.le_refl _
  | i + 1, hi => by
    have ih := early_b g hj he i (by omega)
    rw [st_snd, st_snd, outE_z, outD_z]
    by_cases c : (pt qs i).z = true
    · rw [if_pos c, if_pos c]
      exact ih
    · rw [if_neg c, if_neg c, he i (by omega)]
      have h1 := lift_mono (r := (out (fD pg qs k j) ns i).1) g.pos ih
      have h2 := Int.mul_nonneg (Int.le_of_lt g.pos) (hj i)
      show lift _ pg _ + sz ns i ≤ lift _ pg _ + pg * j i + sz ns i
      omega
theorem early_off (g : Good pg qs ns m) (hj : ∀ i, 0 ≤ j i) (he : ∀ i, i < m → (out (fE pg qs) ns i).1 = (out (fD pg qs k j) ns i).1) {i : Nat} (hi : i < m) {a b : Int} (ha : (out (fE pg qs) ns i).2 = some a) (hb : (out (fD pg qs k j) ns i).2 = some b) : a ≤ b := by
  have ih := early_b g hj he i (by omega)
  rw [outE_z] at ha
  rw [outD_z] at hb
  by_cases c : (pt qs i).z = true
  · rw [if_pos c] at ha
    cases ha
  · rw [if_neg c] at ha hb
    cases ha
    cases hb
    rw [he i hi]
    have h1 := lift_mono (r := (out (fD pg qs k j) ns i).1) g.pos ih
    have h2 := Int.mul_nonneg (Int.le_of_lt g.pos) (hj i)
    omega
/-- what is drawn: the address is a multiple of the align, and so is the offset -/
theorem drawn_off (g : Good pg qs ns m) (hj : ∀ i, 0 ≤ j i) {i : Nat} (hi : i < m) {o : Int} (ho : (out (fD pg qs k j) ns i).2 = some o) : (st (fD pg qs k j) ns i).2 ≤ o ∧ (pt qs i).al ∣ o ∧ pg ∣ (out (fD pg qs k j) ns i).1 - o := by
  rw [outD_z] at ho
  by_cases c : (pt qs i).z = true
  · rw [if_pos c] at ho
    cases ho
  · rw [if_neg c] at ho
    cases ho
    have h1 := lift_ge (p := (st (fD pg qs k j) ns i).2) (r := (out (fD pg qs k j) ns i).1) g.pos
    have h2 := Int.mul_nonneg (Int.le_of_lt g.pos) (hj i)
    have h3 := lift_rest (p := (st (fD pg qs k j) ns i).2) (r := (out (fD pg qs k j) ns i).1) g.pos
    have h4 : (pt qs i).al ∣ (out (fD pg qs k j) ns i).1 := Int.dvd_add (g.low_dv hi) (Int.dvd_mul_right _ _)
    have h5 : pg ∣ (lift (st (fD pg qs k j) ns i).2 pg (out (fD pg qs k j) ns i).1 + pg * j i) - (out (fD pg qs k j) ns i).1 := by
      have := Int.dvd_add h3 (Int.dvd_mul_right pg (j i))
      have e : lift (st (fD pg qs k j) ns i).2 pg (out (fD pg qs k j) ns i).1 - (out (fD pg qs k j) ns i).1 + pg * j i = lift (st (fD pg qs k j) ns i).2 pg (out (fD pg qs k j) ns i).1 + pg * j i - (out (fD pg qs k j) ns i).1 := by omega
      rwa [e] at this
    refine ⟨by omega, ?_, ?_⟩
    · have := Int.dvd_add (Int.dvd_trans (g.q i hi).dv h5) h4
      rwa [Int.sub_add_cancel] at this
    · have := Int.dvd_neg.mpr h5
      rwa [Int.neg_sub] at this
theorem drawn_addr (g : Good pg qs ns m) (hk : ∀ i, 0 ≤ k i) {i : Nat} (hi : i < m) : low pg qs i (st (fD pg qs k j) ns i).1 ≤ (out (fD pg qs k j) ns i).1 := by
  have h2 := Int.mul_nonneg (Int.le_of_lt (g.q i hi).al) (hk i)
  show low pg qs i _ ≤ low pg qs i _ + (pt qs i).al * k i
  omega
/-- shortest: no offset of a right layout is below -/
theorem short_off (g : Good pg qs ns m) (hj : ∀ i, 0 ≤ j i) {i : Nat} (hi : i < m) (ih : (st (fS pg qs) ns i).2 ≤ (st (fD pg qs k j) ns i).2) {a b : Int} (ha : (out (fS pg qs) ns i).2 = some a) (hb : (out (fD pg qs k j) ns i).2 = some b) : a ≤ b := by
  obtain ⟨d1, d2, _⟩ := drawn_off g hj hi hb
  rw [outS_z] at ha
  by_cases c : (pt qs i).z = true
  · rw [if_pos c] at ha
    cases ha
  · rw [if_neg c] at ha
    cases ha
    exact lift_least (g.q i hi).al (by omega) (by rw [Int.sub_zero]; exact d2)
theorem short_b (g : Good pg qs ns m) (hj : ∀ i, 0 ≤ j i) : ∀ i, i ≤ m → (st (fS pg qs) ns i).2 ≤ (st (fD pg qs k j) ns i).2
  | 0, _ => Int.le_refl _
  | i + 1, hi => by
    have ih := short_b g hj i (by omega)
    rw [st_snd, st_snd]
    by_cases c : (pt qs i).z = true
    · rw [outS_z, outD_z, if_pos c, if_pos c]
      exact ih
    · have h1 : (out (fS pg qs) ns i).2 = some (lift (st (fS pg qs) ns i).2 (pt qs i).al 0) := by rw [outS_z, if_neg c]
      have h2 : (out (fD pg qs k j) ns i).2 = some (lift (st (fD pg qs k j) ns i).2 pg (out (fD pg qs k j) ns i).1 + pg * j i) := by rw [outD_z, if_neg c]
      have := short_off g hj (by omega) ih h1 h2
      rw [h1, h2]
      show _ + sz ns i ≤ _ + sz ns i
      omega
/-- where all offsets are those of the shortest, no address is below -/
theorem short_addr (g : Good pg qs ns m) (hk : ∀ i, 0 ≤ k i) (hj : ∀ i, 0 ≤ j i) {i : Nat} (hi : i < m) (he : (out (fS pg qs) ns i).2 = (out (fD pg qs k j) ns i).2) (ih : (st (fS pg qs) ns i).1 ≤ (st (fD pg qs k j) ns i).1) : (out (fS pg qs) ns i).1 ≤ (out (fD pg qs k j) ns i).1 := by
  have h1 := g.low_mono hi ih
  have h2 := drawn_addr (j := j) g hk hi
  rw [outS_a]
  by_cases c : (pt qs i).z = true
  · rw [if_pos c]
    omega
  · rw [if_neg c]
    rw [outS_z, if_neg c] at he
    obtain ⟨_, _, d3⟩ := drawn_off g hj hi he.symm
    exact lift_least g.pos (by omega) d3
theorem short_a (g : Good pg qs ns m) (hk : ∀ i, 0 ≤ k i) (hj : ∀ i, 0 ≤ j i) (he : ∀ i, i < m → (out (fS pg qs) ns i).2 = (out (fD pg qs k j) ns i).2) : ∀ i, i ≤ m → (st (fS pg qs) ns i).1 ≤ (st (fD pg qs k j) ns i).1
  | 0, _ => Int.le_refl _
  | i + 1, hi => by
    have ih := short_a g hk hj he i (by omega)
    have := short_addr g hk hj (by omega) (he i (by omega)) ih
    rw [st_fst, st_fst]
    omega
/-- what is_layout asks of one part -/
structure Right1 (pg : Int) (qs : List Part) (i : Nat) (e b : Int) (x : Int × Option Int) : Prop where
  nn : 0 ≤ x.1
  dv : (pt qs i).al ∣ x.1
  lo : low pg qs i e ≤ x.1
  off : match x.2 with | none => (pt qs i).z = true | some o => (pt qs i).z = false ∧ 0 ≤ o ∧ b ≤ o ∧ pg ∣ x.1 - o
def RightL (pg : Int) (qs : List Part) (ns : List Int) (m : Nat) (f : Way) : Prop := ∀ i, i < m → Right1 pg qs i (st f ns i).1 (st f ns i).2 (out f ns i)
theorem st_nn {f : Way} (hn : ∀ i, 0 ≤ sz ns i) (h : ∀ i, i < m → ∀ e b, 0 ≤ e → 0 ≤ b → 0 ≤ (f i e b).1 ∧ ∀ o, (f i e b).2 = some o → 0 ≤ o) : ∀ i, i ≤ m → 0 ≤ (st f ns i).1 ∧ 0 ≤ (st f ns i).2
  | 0, _ => ⟨Int.le_refl _, Int.le_refl _⟩
  | i + 1, hi => by
    obtain ⟨h1, h2⟩ := st_nn hn h i (by omega)
    obtain ⟨h3, h4⟩ := h i (by omega) _ _ h1 h2
    have hz := hn i
    refine ⟨?_, ?_⟩
    · rw [st_fst]
      have : 0 ≤ (out f ns i).1 := h3
      omega
    · rw [st_snd]
      cases e : (out f ns i).2 with
      | none => exact h2
      | some o =>
        have : 0 ≤ o := h4 o e
        show 0 ≤ o + sz ns i
        omega
theorem right_E (g : Good pg qs ns m) : RightL pg qs ns m (fE pg qs) := by
  intro i hi
  obtain ⟨h1, h2⟩ := st_nn (m := m) (f := fE pg qs) g.n (fun i hi e b he hb => by
    have l1 := g.low_ge hi (e := e)
    refine ⟨by show 0 ≤ low pg qs i e; omega, fun o ho => ?_⟩
    have ho' : (if (pt qs i).z = true then none else some (lift b pg (low pg qs i e))) = some o := ho
    split at ho'
    · cases ho'
    · cases ho'
      have := lift_ge (p := b) (r := low pg qs i e) g.pos
      omega) i (by omega)
  have l1 := g.low_ge hi (e := (st (fE pg qs) ns i).1)
  refine ⟨by show 0 ≤ low pg qs i _; omega, g.low_dv hi, Int.le_refl _, ?_⟩
  rw [outE_z]
  by_cases c : (pt qs i).z = true
  · rw [if_pos c]
    exact c
  · rw [if_neg c]
    have := lift_ge (p := (st (fE pg qs) ns i).2) (r := (out (fE pg qs) ns i).1) g.pos
    refine ⟨Bool.eq_false_iff.mpr c, by omega, by omega, ?_⟩
    have h := Int.dvd_neg.mpr (lift_rest (p := (st (fE pg qs) ns i).2) (r := (out (fE pg qs) ns i).1) g.pos)
    rwa [Int.neg_sub] at h
theorem right_S (g : Good pg qs ns m) : RightL pg qs ns m (fS pg qs) := by
  intro i hi
  obtain ⟨h1, h2⟩ := st_nn (m := m) (f := fS pg qs) g.n (fun i hi e b he hb => by
    have l1 := g.low_ge hi (e := e)
    have l2 := lift_ge (p := low pg qs i e) (r := lift b (pt qs i).al 0) g.pos
    have l3 := lift_ge (p := b) (r := 0) (g.q i hi).al
    unfold fS
    split
    · exact ⟨by show 0 ≤ low pg qs i e; omega, fun o ho => nomatch ho⟩
    · exact ⟨by show 0 ≤ lift (low pg qs i e) _ _; omega, fun o ho => by cases ho; omega⟩) i (by omega)
  have l1 := g.low_ge hi (e := (st (fS pg qs) ns i).1)
  have l3 := lift_ge (p := (st (fS pg qs) ns i).2) (r := 0) (g.q i hi).al
  by_cases c : (pt qs i).z = true
  · have ea : (out (fS pg qs) ns i).1 = low pg qs i (st (fS pg qs) ns i).1 := by rw [outS_a, if_pos c]
    refine ⟨by rw [ea]; omega, by rw [ea]; exact g.low_dv hi, by rw [ea]; exact Int.le_refl _, ?_⟩
    rw [outS_z, if_pos c]
    exact c
  · have ea : (out (fS pg qs) ns i).1 = lift (low pg qs i (st (fS pg qs) ns i).1) pg (lift (st (fS pg qs) ns i).2 (pt qs i).al 0) := by rw [outS_a, if_neg c]
    have l2 := lift_ge (p := low pg qs i (st (fS pg qs) ns i).1) (r := lift (st (fS pg qs) ns i).2 (pt qs i).al 0) g.pos
    have d1 := lift_rest (p := low pg qs i (st (fS pg qs) ns i).1) (r := lift (st (fS pg qs) ns i).2 (pt qs i).al 0) g.pos
    have d2 := lift_rest (p := (st (fS pg qs) ns i).2) (r := 0) (g.q i hi).al
    refine ⟨by rw [ea]; omega, ?_, by rw [ea]; omega, ?_⟩
    · rw [ea]
      rw [Int.sub_zero] at d2
      have := Int.dvd_add (Int.dvd_trans (g.q i hi).dv d1) d2
      rwa [Int.sub_add_cancel] at this
    · rw [outS_z, if_neg c, ea]
      exact ⟨Bool.eq_false_iff.mpr c, by omega, by omega, d1⟩
end
end MP
end Lk
/-! sorted of a list of data (ints, texts, tuples of them): the merge sort by the data's own order. -/
namespace Lk
open PySem PySem.Spec PyProof.Rows L2 PySem.W
section
variable {β : Type} {X : Cx} {K : Frag}
/-- sorted(xs): xs holds the data enc b; the new list holds the same values, sorted -/
def rSortedD (K : Frag) (enc : β → PyData) : List V → Hp → VK → Prop := fun vs H Q => ∃ (a : Addr) (xs : List V) (bs : List β), vs = [V.ref a] ∧ SqL K H a xs ∧ Paired (fun x b => Dp K H x (enc b)) xs bs ∧ AllAlike (bs.map enc) ∧ Sortable (bs.map enc) ∧ (∀ b ∈ bs, (enc b).depth ≤ 50) ∧
  ∀ (ys : List V) (p : Addr), Paired (fun x b => Dp K H x (enc b) ∧ x ∈ xs) ys (bs.mergeSort (dataLe false enc)) → H p = none → Q (.ref p) (upd H p (.lst ys))
theorem each_of {H : Hp} {pins : List (Addr × Obj)} {σ : L2.St} {s : Shared} {enc : β → PyData} {all : List V} (I : Inv X pins σ H s) : ∀ {xs : List V} {us : List Value} {bs : List β}, Vals xs us → Paired (fun x b => Dp X.K H x (enc b)) xs bs → (∀ x ∈ xs, x ∈ all) →
    EachIs (fun u b => ∃ x, RelV x u ∧ Dp X.K H x (enc b) ∧ x ∈ all) us bs ∧ EachIs (fun u b => ∃ as, Reads s.heap u (enc b) as) us bs
  | _, _, _, .nil, .nil, _ => ⟨.nil, .nil⟩
  | _, _, _, .cons r rr, .cons h t, hm => by
    obtain ⟨e1, e2⟩ := each_of (all := all) I rr t (fun x hx => hm x (List.mem_cons_of_mem _ hx))
    exact ⟨.cons ⟨_, r, h, hm _ (List.mem_cons_self ..)⟩ e1, .cons (Dp.reads I _ _ _ h r) e2⟩
theorem each_back {H : Hp} {enc : β → PyData} {all : List V} : ∀ {us : List Value} {bs : List β}, EachIs (fun u b => ∃ x, RelV x u ∧ Dp K H x (enc b) ∧ x ∈ all) us bs → ∃ ys, Vals ys us ∧ Paired (fun x b => Dp K H x (enc b) ∧ x ∈ all) ys bs
  | _, _, .nil => ⟨[], .nil, .nil⟩
  | _, _, .cons ⟨x, r, h⟩ t => by
    obtain ⟨ys, v, p⟩ := each_back t
    exact ⟨x :: ys, .cons r v, .cons h p⟩
theorem cr_sortedD {enc : β → PyData} (hu : X.A.units + 60 < cLine) (hK : X.K = K := by rfl) : CallR X (.builtin "sorted") (rSortedD K enc) := by
  subst hK
  intro pins s σ H vs us Q I r h
  obtain ⟨a, xs, bs, rfl, hs, hp, hal, hk, hd, q⟩ := h
  obtain ⟨u, rfl, r1⟩ := vals1 r
  cases r1
  obtain ⟨its, rv, pl, hz⟩ := I.list hs
  obtain ⟨e1, e2⟩ := each_of (all := xs) I rv hp (fun x hx => hx)
  have hl : bs.length = xs.length := by
    have := hp.length
    omega
  refine sorted_data (R := fun u b => ∃ x, RelV x u ∧ Dp X.K H x (enc b) ∧ x ∈ xs) pl.isList e1 e2 hal hk (by rw [hl]; exact hz) (fun b hb => by have := hd b hb; omega) fun out ho eo => ?_
  obtain ⟨ys, hv, hpy⟩ := each_back eo
  obtain ⟨c, hc⟩ := sortedAll_at s.heap its out.toArray
  have hly : ys.length ≤ sizeLine := by
    rw [hv.length, ho, hl]
    exact hz
  exact ⟨.ref (s.heap.objs.size + 1), upd H (s.heap.objs.size + 1) (.lst ys), I.laid (t' := s.toks) (fun _ _ => sortedAll_old) (Nat.le_succ _) (show ObjOk X.prog X.w _ _ _ (.lst ys) from ⟨hly, out, c, hv, hc⟩), rfl, q ys _ hpy (I.hok.fresh (Nat.le_succ _))⟩
end
end Lk
/-! dict(xs) of a list of pairs whose keys are tuples of ints and texts, no key twice. -/
namespace Lk
open PySem PySem.Spec PyProof.Rows L2
section
variable {X : Cx} {K : PySem.W.Frag}
abbrev KAV := List L2.Key × Addr × V
theorem items_key {P : Program} {w : World} : ∀ {ks : List L2.Key} {us : List Value}, Vals (ks.map kV) us → ItemsAre (mixKind P w) ks us
  | [], _, r => by
    cases r
    exact .nil
  | k :: ks, _, r => by
    cases r with
    | cons h t => exact .cons (kV_is h) (items_key t)
theorem pairsT_of {pins : List (Addr × Obj)} {σ : L2.St} {H : Hp} {s : Shared} (I : Inv X pins σ H s) : ∀ {ps : List Addr} {kvs : List KAV}, Paired (fun p kv => SqT X.K H p [.ref kv.2.1, kv.2.2] ∧ H kv.2.1 = some (.tup (kv.1.map kV))) ps kvs →
    ∃ prs : List (List L2.Key × Addr × Value), Paired (fun (kv : KAV) (q : List L2.Key × Addr × Value) => kv.1 = q.1 ∧ kv.2.1 = q.2.1 ∧ RelV kv.2.2 q.2.2 ∧ H kv.2.1 = some (.tup (kv.1.map kV))) kvs prs ∧ prs.length = ps.length ∧
      (∀ (j : Nat) (q : List L2.Key × Addr × Value), prs[j]? = some q → ∃ b : Addr, ps[j]? = some b ∧ PySem.PairAt s.heap b (.ref q.2.1) q.2.2) ∧ ∀ q ∈ prs, ∃ its : List Value, IsTup s.heap q.2.1 its.toArray ∧ ItemsAre (mixKind X.prog X.w) q.1 its
  | _, _, .nil => ⟨[], .nil, rfl, fun j q e => by simp at e, fun q hq => nomatch hq⟩
  | _, _, .cons (a := p) (b := kv) ⟨h, hk⟩ t => by
    obtain ⟨prs, r, hl, hp, hq⟩ := pairsT_of I t
    obtain ⟨its, rv, ht, _⟩ := I.tuple h
    obtain ⟨u, y, ei, ru, ry⟩ := vals2 rv
    subst ei
    cases ru
    obtain ⟨its2, rv2, ht2, _⟩ := I.tuple (SqT.of (K := X.K) hk)
    refine ⟨(kv.1, kv.2.1, y) :: prs, .cons ⟨rfl, rfl, ry, hk⟩ r, by rw [List.length_cons, List.length_cons, hl], fun j q e => ?_, fun q hm => ?_⟩
    · cases j with
      | zero =>
        have e' : (kv.1, kv.2.1, y) = q := Option.some.inj e
        subst e'
        obtain ⟨o, ho, hc, n, hd⟩ := ht
        exact ⟨p, rfl, .inl ⟨o, ho, hc, n, hd⟩⟩
      | succ j =>
        obtain ⟨b, e1, e2⟩ := hp j q (by simpa using e)
        exact ⟨b, by simpa using e1, e2⟩
    · rcases List.mem_cons.mp hm with rfl | hm
      · exact ⟨its2, ht2, items_key rv2⟩
      · exact hq q hm
theorem dT_pairs {H : Hp} {d : Addr} {ob : HO} (fr : H d = none) : ∀ {kvs : List KAV} {prs : List (List L2.Key × Addr × Value)}, Paired (fun (kv : KAV) (q : List L2.Key × Addr × Value) => kv.1 = q.1 ∧ kv.2.1 = q.2.1 ∧ RelV kv.2.2 q.2.2 ∧ H kv.2.1 = some (.tup (kv.1.map kV))) kvs prs →
    Paired (fun (p : List L2.Key × V) (q : List L2.Key × Addr × Value) => p.1 = q.1 ∧ upd H d ob q.2.1 = some (.tup (p.1.map kV)) ∧ RelV p.2 q.2.2) (kvs.map fun k => (k.1, k.2.2)) prs
  | _, _, .nil => .nil
  | _, _, .cons ⟨e1, e2, e3, e4⟩ t => by
    refine .cons ⟨e1, ?_, e3⟩ (dT_pairs fr t)
    rw [← e2, upd_ne (ne_of_none e4 fr)]
    exact e4
def rDictT (K : PySem.W.Frag) : List V → Hp → VK → Prop := fun xs H Q => ∃ (a : Addr) (ps : List Addr) (kvs : List KAV), xs = [.ref a] ∧ SqL K H a (ps.map V.ref) ∧ Paired (fun p kv => SqT K H p [.ref kv.2.1, kv.2.2] ∧ H kv.2.1 = some (.tup (kv.1.map kV))) ps kvs ∧ (kvs.map (·.1)).Nodup ∧
  ∀ p, H p = none → Q (.ref p) (upd H p (.dT (kvs.map fun k => (k.1, k.2.2))))
theorem cr_dictT (hcalm : X.calm = true) (hu : X.A.in1.in1.units < cLine) (hK : X.K = K := by rfl) : CallR X (.type "dict") (rDictT K) := by
  subst hK
  intro pins s σ H xs us Q I r q
  obtain ⟨a, ps, kvs, rfl, hq, hp, hn, q⟩ := q
  obtain ⟨u, rfl, rx⟩ := vals1 r
  cases rx
  obtain ⟨its, rv, pl, hz⟩ := I.list hq
  have ei := refs_at rv
  subst ei
  rw [List.length_map] at hz
  obtain ⟨prs, rel, hl, hpr, hkey⟩ := pairsT_of I hp
  have hkeys : prs.map (·.1) = kvs.map (·.1) := by
    clear hpr hkey hl hp hn q
    induction rel with
    | nil => rfl
    | cons h t ih => rw [List.map_cons, List.map_cons, ih, h.1]
  obtain ⟨o, n, ho, hc, hd, hdat⟩ := pl
  have hpi : PySem.PairItems s.heap (ps.map Value.ref).toArray (fun j => ps.getD j 0) (prs.map fun q => (Value.ref q.2.1, q.2.2)) := by
    refine ⟨by simp [hl], fun j k v e => ?_⟩
    obtain ⟨q', eq', e2⟩ : ∃ q', prs[j]? = some q' ∧ (k, v) = (Value.ref q'.2.1, q'.2.2) := by
      rw [List.getElem?_map] at e
      cases z : prs[j]? with
      | none => rw [z] at e; cases e
      | some q' => rw [z] at e; exact ⟨q', rfl, (Option.some.inj e).symm⟩
    cases e2
    obtain ⟨b, eb, hb⟩ := hpr j q' eq'
    have eT : ps.getD j 0 = b := by rw [List.getD_eq_getElem?_getD, eb]; rfl
    refine ⟨?_, by show PairAt s.heap (ps.getD j 0) _ _; rw [eT]; exact hb⟩
    show (ps.map Value.ref).toArray[j]? = some (Value.ref (ps.getD j 0))
    rw [eT]
    simp [eb]
  refine PySem.call_dict_pairsH (knd := tupleKind (mixKind X.prog X.w)) (ps := prs) (PySem.PairArg.list a (ps.map Value.ref).toArray (fun j => ps.getD j 0) (prs.map fun q => (Value.ref q.2.1, q.2.2))) (I.ok.hd hcalm) hu ⟨⟨o, n, ho, hc, hd, hdat⟩, hpi⟩ ⟨by simp, fun i key v e => ?_⟩ (fun h' hk x hx => ?_) (by simp [hl]; exact hz) fun h' tk hd' k => ?_
  · have e' : (prs.map fun q => (Value.ref q.2.1, q.2.2))[i]? = some (key, v) := e
    rw [List.getElem?_map] at e'
    cases z : prs[i]? with
    | none => rw [z] at e'; cases e'
    | some q' =>
      rw [z] at e'
      cases e'
      exact ⟨q'.1, q'.2.1, rfl, rfl⟩
  · obtain ⟨its, ⟨o2, ho2, hc2, n2, hd2⟩, hi⟩ := hkey x hx
    refine ⟨o2, its.toArray, n2, hk _ _ (Nat.ne_of_lt (Heap.lt_size ho2)) (by simp) ho2, hc2, hd2, ?_⟩
    simpa using hi
  · rw [PySem.storedAllH_nil_of_nodup prs (by rw [hkeys]; exact hn)] at hd'
    have hm : (s.heap.objs.size == sysModules) = false := beq_eq_false_iff_ne.mpr (Nat.ne_of_gt I.big)
    have hlen : (kvs.map fun k => (k.1, k.2.2)).length ≤ sizeLine := by
      rw [List.length_map, ← hp.length]
      exact hz
    obtain ⟨o3, es, ep, g1, g2, g3, g4, _, g5⟩ := hd'
    refine ⟨.ref s.heap.objs.size, upd H s.heap.objs.size (.dT (kvs.map fun k => (k.1, k.2.2))), I.laid (t' := tk) (fun b o e => k b o (by simp) e) (Nat.le_refl _) (show ObjOk X.prog X.w _ _ _ (.dT (kvs.map fun k => (k.1, k.2.2))) from ⟨hlen, hm, prs, ?_, o3, es, ep, g1, g2, g3, g4, g5⟩), rfl, q _ (I.hok.fresh (Nat.le_refl _))⟩
    exact dT_pairs (I.hok.fresh (Nat.le_refl s.heap.objs.size)) rel
end
end Lk
/-! stars in displays (within comprehensions too); room for comparisons of data. -/
namespace Lk
open PySem PySem.Spec PyProof.Rows L2 StX
theorem hu60 {k : Nat} {A : Around} (hr : Room k A) : A.units + 60 < cLine := by
  have := hr.un
  omega
section
variable {X : Cx} {K : PySem.W.Frag} {e : Expr} {es : List Expr} {te : TE} {t : TA} {p : Pos}
theorem pa_starK (he : PE X e te) (hr : PA X es t) (hK : X.K = K := by rfl) (hs : starEach (.Starred e p :: es) X.env = (true, eval e X.env) :: starEach es X.env := by rfl) : PA X (.Starred e p :: es) (tStar K te t) := by
  subst hK
  exact pa_star he hr hs
end
/-! t + u of tuples, empty ones too -/
def rCatTA (K : PySem.W.Frag) : R2 := fun x y H Q => ∃ a b xs ys, x = .ref a ∧ y = .ref b ∧ SqT K H a xs ∧ SqT K H b ys ∧ xs.length + ys.length ≤ sizeLine ∧ (xs = [] → Q (.ref b) H) ∧ (xs ≠ [] → ys = [] → Q (.ref a) H) ∧ (xs ≠ [] → ys ≠ [] → ∀ p, H p = none → Q (.ref p) (upd H p (.tup (xs ++ ys))))
theorem cat_tup0 {prog : Program} {w : World} {A : Around} {E : Value → Shared → Prop} {s : Shared} {t b : Addr} {ws : List Value} {Q : Value → Shared → Prop} (ht : IsTup s.heap t #[]) (hb : IsTup s.heap b ws.toArray) (h : Q (.ref b) s) : wpAny (model prog w) A (binaryOp .Add (.ref t) (.ref b)) Q E s := by
  obtain ⟨⟨cls, dd, data, sl⟩, ho, hc, n, hd⟩ := id ht
  obtain ⟨⟨cls2, dd2, data2, sl2⟩, ho2, hc2, n2, hd2⟩ := id hb
  simp only at hc hd hc2 hd2
  subst hc hd hc2 hd2
  exact concat_meets ⟨_, ho, rfl⟩ ⟨_, ho2, rfl⟩ noFill_tuple_add seq_tuple_add PySem.F.slot_tuple_add PySem.F.entry_tuple_add (PySem.F.args_tuple_add_2 _ _)
    (tuple_addW0 t b #[] ws.toArray n n2 dd dd2 sl sl2 (by simp)) ⟨ho, ho2, h⟩
theorem op_catTA {X : Cx} {K : PySem.W.Frag} (hK : X.K = K := by rfl) : OpR X (binaryOp .Add) (rCatTA K) := by
  subst hK
  intro pins s σ H x y v u Q I rx ry h
  obtain ⟨a, b, xs, ys, rfl, rfl, ha, hb, hz, q0, q1, q2⟩ := h
  by_cases hx : xs = []
  · subst hx
    cases rx
    cases ry
    obtain ⟨its, r1, p1, _⟩ := I.tuple ha
    obtain ⟨its2, r2, p2, _⟩ := I.tuple hb
    cases r1
    exact cat_tup0 p1 p2 ⟨.ref b, H, I, rfl, q0 rfl⟩
  · exact op_catT pins s σ H _ _ v u Q I rx ry ⟨a, b, xs, ys, rfl, rfl, ha, hb, hx, hz, q1 hx, q2 hx⟩
end Lk
/-! a list that is extended by a list that a comprehension made. -/
namespace Lk
open PySem PySem.Spec PyProof.Rows L2
theorem growO_ext {β : Type} {obj : β → HO} {H1 H' H2 : Hp} {D D2 : Addr} {qs qs2 : List β} (g : GrowO obj H1 D qs H') (hD : H1 D = none) (g2 : GrowO obj H' D2 qs2 H2) (hl : qs.length + qs2.length ≤ 1000000) :
    ∃ xs zs, H2 D = some (.lst xs) ∧ H2 D2 = some (.lst zs) ∧ xs.length + zs.length ≤ sizeLine ∧ GrowO obj H1 D (qs ++ qs2) (upd H2 D (.lst (xs ++ zs))) := by
  obtain ⟨s1, as, hd, hpr, hne⟩ := g
  obtain ⟨s2, as2, hd2, hpr2, hne2⟩ := g2
  refine ⟨as.map V.ref, as2.map V.ref, s2 _ _ hd, hd2, ?_, (s1.trans s2).mut hD, as ++ as2, ?_, ?_, ?_⟩
  · rw [List.length_map, List.length_map, paired_len hpr, paired_len hpr2, sizeLine_eq]
    omega
  · rw [upd_same, List.map_append]
  · refine paired_app (paired_mem hpr fun c x hc hcq => ?_) (paired_mem hpr2 fun c x hc hcq => ?_)
    · show (upd H2 D _) c = _
      rw [upd_ne (hne c hc).1]
      exact s2 _ _ hcq
    · show (upd H2 D _) c = _
      have : c ≠ D := fun e => by
        have := (hne2 c hc).2
        rw [e, hd] at this
        cases this
      rw [upd_ne this]
      exact hcq
  · intro c hc
    rcases List.mem_append.mp hc with hc | hc
    · exact hne c hc
    · refine ⟨fun e => ?_, s1.free (hne2 c hc).2⟩
      have := (hne2 c hc).2
      rw [e, hd] at this
      cases this
end Lk
/-! min(x, y) of two data of one Lean type. -/
namespace Lk
open PySem PySem.Spec PyProof.Rows L2 PySem.W
section
variable {prog : Program} {w : World} {A : Around} {E : Value → Shared → Prop} {s : Shared}
/-- two arguments: the tuple of them is walked -/
theorem call_min_twoH {a b : Value} {Q : Value → Shared → Prop}
    (h : wpAny (model prog w) A.in1 (pyIter (.ref s.heap.objs.size)) (fun it s₂ => ∃ I fp wr G n P St H bt, it = .ref I ∧ WalksS prog w A.in1 I fp wr G n P St ∧ St 0 s₂ ∧ (∀ b ∈ fp, b < s₂.heap.objs.size) ∧ 0 < n ∧
      (∀ b o, H.get? b = some o → b ∉ wr) ∧ (∀ b o, H.get? b = some o → s₂.heap.get? b = some o) ∧ CmpIn prog w A.in1 .Lt H P bt ∧ ∀ v s', P (argBest bt (n - 1)) v → Moved wr G s₂ s' → Q v s') E
      { s with heap := s.heap.push { cls := .type "tuple", data := .seq #[a, b] } }) :
    wpAny (model prog w) A (call (.builtin "min") [a, b]) Q E s := by
  have hname : (toString "min" ++ toString ".loop" : String) = "min.loop" := by decide
  refine call_function_tree F.kind_min F.plain_min F.entry_min (F.args_min2 _ _) ?_
  show wpAny _ A.in1 (Builtin.Builtins.bindParams "min" ["key", "default"] 0 ⟨[], []⟩ >>= _) _ _ s
  refine wpAny_bind (wpAny_of_eq (show Builtin.Builtins.bindParams "min" ["key", "default"] 0 ⟨[], []⟩ = pure [none, none] from rfl) ?_)
  show wpAny _ A.in1 (newTuple [a, b] >>= _) _ _ s
  refine wpAny_bind (wpAny_newObj_type ?_)
  refine wpAny_bind (wpAny_mono h (fun it s₂ h₂ => ?_) fun _ _ e => e)
  obtain ⟨I, fp, wr, G, n, P, St, H, bt, rfl, W, hst, hfp, hn, hw, hkeep, hcmp, hQ⟩ := h₂
  refine wpAny_bind (wpAny_newObj_type ?_)
  have hSf : s₂.heap.objs.size ∉ fp := fun hm => Nat.lt_irrefl _ (hfp _ hm)
  rw [hname]
  refine wpAny_pure ⟨plainId_quiet F.plain_min_loop _, codeAny_min_loop_firstH W H hw bt hcmp s₂.heap.objs.size hSf (fresh_in hkeep) _ hn (fun b o e => Heap.get?_push_of_some _ (hkeep b o e)) (W.frame 0 s₂ _ s₂.toks hst (Nat.le_refl _) fun b _ o e => Heap.get?_push_of_some _ e) (Heap.get?_push_size _ rfl) fun v s' hP hm => ?_⟩
  exact hQ v s' hP (Moved.drop_new (tk := s₂.toks) hm (Nat.le_refl _))
variable {α : Type} [DecidableEq α] [DatumOrd α]
theorem min_two_datum {a b : Value} {x y : α} {Q : Value → Shared → Prop} (hh : A.handled = none) (Ha : Holds s.heap a x) (Hb : Holds s.heap b y) (hu : A.units + 1 + Datum.depth α < cLine)
    (h : ∀ h' tk, (∀ c o, s.heap.get? c = some o → h'.get? c = some o) → Q (if DatumOrd.lt y x = true then b else a) { s with heap := h', toks := tk }) : wpAny (model prog w) A (call (.builtin "min") [a, b]) Q E s := by
  obtain ⟨as, ra⟩ := Ha
  obtain ⟨bs, rb⟩ := Hb
  have hT : (s.heap.push { cls := .type "tuple", data := .seq #[a, b] }).IsTuple s.heap.objs.size #[a, b] := ⟨_, Heap.get?_push_size _ rfl, rfl, 0, rfl⟩
  have old : ∀ c o, s.heap.get? c = some o → (s.heap.push { cls := .type "tuple", data := .seq #[a, b] }).get? c = some o := fun c o e => Heap.get?_push_of_some _ e
  have lt2 : ∀ {u v : Value} {p q : α} {s' : Shared} {us vs : List Addr} {Q' : Value → Shared → Prop} {E' : Value → Shared → Prop}, Reads s'.heap u (Datum.toD p) us → Reads s'.heap v (Datum.toD q) vs → Q' (.bool (DatumOrd.lt p q)) s' → wpAny (model prog w) A.in1 (richCompare .Lt u v) Q' E' s' := by
    intro u v p q s' us vs Q' E' ru rv hq
    exact lt_datum (A := A.in1) ⟨us, ru⟩ ⟨vs, rv⟩ (by show A.units + 1 + _ < _; exact hu) hq
  refine call_min_twoH (iter_tupleW (A := A.in1) (s := { s with heap := s.heap.push { cls := .type "tuple", data := .seq #[a, b] } }) hh hT fun s₂ e W st hfp hw hk => ?_)
  refine ⟨_, _, _, _, _, _, _, _, fun i j => DatumOrd.lt (if i = 0 then x else y) (if j = 0 then x else y), rfl, W, st, hfp, by show 0 < 2; decide, hw, hk, ?_, fun v s' hP m => ?_⟩
  · intro i j vi vj s' Q' E' hk' hi hj hq
    have rd : ∀ (i : Nat) (vi : Value), #[a, b][i]? = some vi → ∃ us, Reads s'.heap vi (Datum.toD (if i = 0 then x else y)) us := by
      intro i vi hi
      cases i with
      | zero =>
        cases hi
        exact ⟨as, reads_keeps hk' (reads_keeps old ra)⟩
      | succ i =>
        cases i with
        | zero =>
          cases hi
          exact ⟨bs, reads_keeps hk' (reads_keeps old rb)⟩
        | succ i => simp at hi
    obtain ⟨us, ru⟩ := rd i vi hi
    obtain ⟨vs, rv⟩ := rd j vj hj
    exact lt2 ru rv hq
  · obtain ⟨h', tk, rfl, hk'⟩ := moved_old e rfl m
    have hv : v = if DatumOrd.lt y x = true then b else a := by
      have hP' : #[a, b][argBest (fun i j => DatumOrd.lt (if i = 0 then x else y) (if j = 0 then x else y)) 1]? = some v := hP
      cases hc : DatumOrd.lt y x <;> simp [argBest, hc] at hP' <;> simp [hP']
    rw [hv]
    exact h h' tk fun c o ec => hk' c o (old c o ec)
end
section
variable {α : Type} [DecidableEq α] [DatumOrd α] {X : Cx} {K : Frag}
def rMin2T (α : Type) [DecidableEq α] [DatumOrd α] (K : Frag) : List V → Hp → VK → Prop := fun vs H Q => ∃ (u v : V) (x y : α), vs = [u, v] ∧ HasD K H u x ∧ HasD K H v y ∧ Q (if DatumOrd.lt y x = true then v else u) H
theorem call_min2T (hc : X.calm = true) (hu : X.A.units + 1 + Datum.depth α < cLine) (hK : X.K = K := by rfl) : CallR X (.builtin "min") (rMin2T α K) := by
  subst hK
  intro pins s σ H xs us Q I r h
  obtain ⟨u, v, x, y, rfl, hx, hy, q⟩ := h
  obtain ⟨a, b, rfl, r1, r2⟩ := vals2 r
  refine min_two_datum (I.ok.hd hc) (Dp.reads I _ _ _ hx r1) (Dp.reads I _ _ _ hy r2) hu fun h' tk k => ⟨_, H, I.kept k, ?_, q⟩
  by_cases c : DatumOrd.lt y x = true
  · rw [if_pos c, if_pos c]
    exact r2
  · rw [if_neg c, if_neg c]
    exact r1
end
end Lk
/-! Reaches, in plain Lean: addresses, rests by the page, the greatest reach up to bounds. -/
namespace Lk
open PySem
namespace MP
/-- the address n parts behind part i, which stands at e -/
def behind (pg : Int) (qs : List Part) (ns : List Int) (i : Nat) (e : Int) : Nat → Int
  | 0 => e
  | n + 1 => low pg qs (i + n + 1) (behind pg qs ns i e n + sz ns (i + n))
/-- the address of part i -/
def adr (pg : Int) (qs : List Part) (ns : List Int) : Nat → Int
  | 0 => low pg qs 0 0
  | i + 1 => low pg qs (i + 1) (adr pg qs ns i + sz ns i)
def reach (pg : Int) (qs : List Part) (ns : List Int) (i j : Nat) : Int := adr pg qs ns j - adr pg qs ns i
/-- sizes of the first n parts, from the least up to bounds -/
structure RowIn (qs : List Part) (bs : List Int) (n : Nat) (ns : List Int) : Prop where
  len : ns.length = n
  lo : ∀ i, i < n → (pt qs i).lo ≤ sz ns i
  hi : ∀ i, i < n → sz ns i ≤ sz bs i
structure IsReach (pg : Int) (qs : List Part) (bs : List Int) (i j : Nat) (m : Int) : Prop where
  at_ : ∃ ns, RowIn qs bs qs.length ns ∧ reach pg qs ns i j = m
  le : ∀ ns, RowIn qs bs qs.length ns → reach pg qs ns i j ≤ m
section
variable {pg : Int} {qs : List Part} {ns ms bs : List Int} {m : Nat}
theorem adr_eq : ∀ i, adr pg qs ns i = low pg qs i (st (fE pg qs) ns i).1
  | 0 => rfl
  | i + 1 => by
    show low pg qs (i + 1) (adr pg qs ns i + sz ns i) = low pg qs (i + 1) ((out (fE pg qs) ns i).1 + sz ns i)
    rw [adr_eq i]
    rfl
theorem adr_behind (i : Nat) : ∀ n, adr pg qs ns (i + n) = behind pg qs ns i (adr pg qs ns i) n
  | 0 => rfl
  | n + 1 => by
    show low pg qs (i + n + 1) (adr pg qs ns (i + n) + sz ns (i + n)) = _
    rw [adr_behind i n]
    rfl
theorem adr_cong : ∀ i, (∀ j, j < i → sz ns j = sz ms j) → adr pg qs ns i = adr pg qs ms i
  | 0, _ => rfl
  | i + 1, h => by
    show low pg qs (i + 1) _ = low pg qs (i + 1) _
    rw [adr_cong i fun j hj => h j (by omega), h i (by omega)]
theorem behind_cong {i : Nat} {e : Int} : ∀ n, (∀ j, i ≤ j → j < i + n → sz ns j = sz ms j) → behind pg qs ns i e n = behind pg qs ms i e n
  | 0, _ => rfl
  | n + 1, h => by
    show low pg qs (i + n + 1) _ = low pg qs (i + n + 1) _
    rw [behind_cong n fun j h1 h2 => h j h1 (by omega), h (i + n) (by omega) (by omega)]
theorem lift_shift {e s k : Int} (hs : 0 < s) (h : s ∣ k) : lift (e + k) s 0 = lift e s 0 + k := by
  have : (0 - (e + k)).fmod s = (0 - e).fmod s := by
    rw [fmod_same hs]
    obtain ⟨c, rfl⟩ := h
    exact ⟨-c, by rw [Int.mul_neg]; omega⟩
  unfold lift
  rw [this]
  omega
theorem Good.step_dvd (g : Good pg qs ns m) {i : Nat} (hi : i < m) : MP.step pg qs i ∣ pg := by
  unfold MP.step
  split
  · exact Int.dvd_refl _
  · exact (g.q i hi).dv
theorem Good.low_shift (g : Good pg qs ns m) {i : Nat} (hi : i < m) {e k : Int} (h : pg ∣ k) : low pg qs i (e + k) = low pg qs i e + k :=
  lift_shift (g.step hi).1 (Int.dvd_trans (g.step_dvd hi) h)
theorem Good.behind_shift (g : Good pg qs ms m) {i : Nat} {e k : Int} (h : pg ∣ k) : ∀ n, i + n < m → behind pg qs ns i (e + k) n = behind pg qs ns i e n + k
  | 0, _ => rfl
  | n + 1, hn => by
    show low pg qs (i + n + 1) _ = low pg qs (i + n + 1) _ + k
    rw [Good.behind_shift g h n (by omega), ← g.low_shift (i := i + n + 1) (by omega) h]
    congr 1
    omega
theorem Good.behind_mono (g : Good pg qs ms m) {i : Nat} {e e' : Int} (he : e ≤ e') : ∀ n, i + n < m → (∀ j, i ≤ j → j < i + n → sz ns j ≤ sz bs j) → behind pg qs ns i e n ≤ behind pg qs bs i e' n
  | 0, _, _ => he
  | n + 1, hn, h => by
    have ih := Good.behind_mono g he n (by omega) fun j h1 h2 => h j h1 (by omega)
    have := h (i + n) (by omega) (by omega)
    exact g.low_mono (i := i + n + 1) (by omega) (by omega)
/-- a number is its rest and whole pages -/
theorem fmod_split (a : Int) (h : 0 < pg) : ∃ k, pg ∣ k ∧ a = a.fmod pg + k := by
  rw [Int.fmod_eq_emod_of_nonneg _ (by omega)]
  exact ⟨pg * (a / pg), Int.dvd_mul_right _ _, (Int.emod_add_mul_ediv a pg).symm⟩
theorem fmod_add {a k : Int} (hp : 0 < pg) (h : pg ∣ k) : (a + k).fmod pg = a.fmod pg := by
  rw [fmod_same hp]
  have e : a + k - a = k := by omega
  rw [e]
  exact h
theorem reach_behind {i j : Nat} (hij : i ≤ j) : reach pg qs ns i j = behind pg qs ns i (adr pg qs ns i) (j - i) - adr pg qs ns i := by
  have e : j = i + (j - i) := by omega
  unfold reach
  rw [← adr_behind i (j - i), ← e]
theorem Good.reach_rest (g : Good pg qs ms m) {i j : Nat} (hij : i ≤ j) (hj : j < m) : reach pg qs ns i j = behind pg qs ns i ((adr pg qs ns i).fmod pg) (j - i) - (adr pg qs ns i).fmod pg := by
  obtain ⟨k, hk, e⟩ := fmod_split (adr pg qs ns i) g.pos
  rw [reach_behind hij]
  generalize (adr pg qs ns i).fmod pg = r at *
  rw [e, g.behind_shift hk _ (by omega)]
  omega
theorem sz_app1 {xs ys : List Int} {i : Nat} (h : i < xs.length) : sz (xs ++ ys) i = sz xs i := by
  unfold sz
  rw [List.getD_eq_getElem?_getD, List.getD_eq_getElem?_getD, List.getElem?_append_left h]
theorem sz_app2 {xs ys : List Int} {i : Nat} (h : xs.length ≤ i) : sz (xs ++ ys) i = sz ys (i - xs.length) := by
  unfold sz
  rw [List.getD_eq_getElem?_getD, List.getD_eq_getElem?_getD, List.getElem?_append_right h]
theorem sz_drop {xs : List Int} {k i : Nat} : sz (xs.drop k) i = sz xs (k + i) := by
  unfold sz
  rw [List.getD_eq_getElem?_getD, List.getD_eq_getElem?_getD, List.getElem?_drop]
theorem sz_take {xs : List Int} {k i : Nat} (h : i < k) : sz (xs.take k) i = sz xs i := by
  unfold sz
  rw [List.getD_eq_getElem?_getD, List.getD_eq_getElem?_getD, List.getElem?_take_of_lt h]
theorem sz_snoc {xs : List Int} {s : Int} : sz (xs ++ [s]) xs.length = s := by
  rw [sz_app2 (Nat.le_refl _), Nat.sub_self]
  rfl
/-- the greatest reach up to bounds, by the rests -/
theorem Good.isReach (g : Good pg qs ms qs.length) {i j : Nat} (hij : i ≤ j) (hj : j < qs.length) (hb : RowIn qs bs qs.length bs) {R : List Int} (h1 : ∀ r ∈ R, ∃ row, RowIn qs bs i row ∧ (adr pg qs row i).fmod pg = r) (h2 : ∀ row, RowIn qs bs i row → (adr pg qs row i).fmod pg ∈ R)
    {v : Int} (hv : v ∈ R.map fun r => behind pg qs bs i r (j - i) - r) (hle : ∀ y ∈ R.map (fun r => behind pg qs bs i r (j - i) - r), y ≤ v) : IsReach pg qs bs i j v := by
  refine ⟨?_, fun ns hn => ?_⟩
  · obtain ⟨r, hr, rfl⟩ := List.mem_map.mp hv
    obtain ⟨row, ho, er⟩ := h1 r hr
    have hl := ho.len
    have ei : adr pg qs (row ++ bs.drop i) i = adr pg qs row i := adr_cong i fun k hk => sz_app1 (by omega)
    refine ⟨row ++ bs.drop i, ⟨?_, fun k hk => ?_, fun k hk => ?_⟩, ?_⟩
    · rw [List.length_append, List.length_drop, hl, hb.len]
      omega
    · by_cases c : k < i
      · rw [sz_app1 (by omega)]
        exact ho.lo k c
      · rw [sz_app2 (by omega), sz_drop, hl, show i + (k - i) = k by omega]
        exact hb.lo k hk
    · by_cases c : k < i
      · rw [sz_app1 (by omega)]
        exact ho.hi k c
      · rw [sz_app2 (by omega), sz_drop, hl, show i + (k - i) = k by omega]
        exact Int.le_refl _
    · rw [g.reach_rest hij hj, ei, er]
      congr 1
      refine behind_cong _ fun k k1 k2 => ?_
      rw [sz_app2 (by omega), sz_drop, hl, show i + (k - i) = k by omega]
  · have hrow : RowIn qs bs i (ns.take i) := by
      refine ⟨?_, fun k hk => ?_, fun k hk => ?_⟩
      · rw [List.length_take, hn.len]
        omega
      · rw [sz_take hk]
        exact hn.lo k (by omega)
      · rw [sz_take hk]
        exact hn.hi k (by omega)
    have ei : adr pg qs (ns.take i) i = adr pg qs ns i := adr_cong i fun k hk => sz_take hk
    have hm := h2 _ hrow
    rw [ei] at hm
    have := hle _ (List.mem_map.mpr ⟨_, hm, rfl⟩)
    rw [g.reach_rest hij hj]
    have hmono := g.behind_mono (ns := ns) (bs := bs) (i := i) (Int.le_refl ((adr pg qs ns i).fmod pg)) (j - i) (by omega) fun k k1 k2 => hn.hi k (by omega)
    omega
end
/-! ### stands: a sum and a row, in order -/
def lLe (xs ys : List Int) : Prop := W.listLt ys xs = false
def stLe (a b : Int × List Int) : Prop := a.1 < b.1 ∨ (a.1 = b.1 ∧ lLe a.2 b.2)
theorem lLe.refl : ∀ xs : List Int, lLe xs xs
  | [] => rfl
  | x :: xs => by
    show (if x = x then W.listLt xs xs else _) = false
    rw [if_pos rfl]
    exact lLe.refl xs
theorem lLe_cons {x y : Int} {xs ys : List Int} : lLe (x :: xs) (y :: ys) ↔ x < y ∨ (x = y ∧ lLe xs ys) := by
  show (if y = x then W.listLt ys xs else decide (y < x)) = false ↔ _
  by_cases h : y = x
  · rw [if_pos h]
    exact ⟨fun z => .inr ⟨h.symm, z⟩, fun z => by rcases z with z | z; omega; exact z.2⟩
  · rw [if_neg h, decide_eq_false_iff_not]
    exact ⟨fun z => .inl (by omega), fun z => by rcases z with z | z <;> omega⟩
theorem lLe.trans : ∀ {xs ys zs : List Int}, lLe xs ys → lLe ys zs → lLe xs zs
  | [], _, [], _, _ => rfl
  | [], _, _ :: _, _, _ => rfl
  | _ :: _, [], _, h, _ => nomatch h
  | _ :: _, _ :: _, [], _, h => nomatch h
  | x :: xs, y :: ys, z :: zs, h1, h2 => by
    rw [lLe_cons] at *
    rcases h1 with a | ⟨a, a2⟩ <;> rcases h2 with b | ⟨b, b2⟩
    · exact .inl (by omega)
    · exact .inl (by omega)
    · exact .inl (by omega)
    · exact .inr ⟨by omega, lLe.trans a2 b2⟩
theorem lLe.snoc {s : Int} : ∀ {xs ys : List Int}, xs.length = ys.length → lLe xs ys → lLe (xs ++ [s]) (ys ++ [s])
  | [], [], _, _ => lLe.refl _
  | [], _ :: _, h, _ => by cases h
  | _ :: _, [], h, _ => by cases h
  | x :: xs, y :: ys, h, h1 => by
    rw [lLe_cons] at h1
    show lLe (x :: (xs ++ [s])) (y :: (ys ++ [s]))
    rw [lLe_cons]
    exact h1.imp id fun z => ⟨z.1, lLe.snoc (by simpa using h) z.2⟩
theorem stLe.refl (a : Int × List Int) : stLe a a := .inr ⟨rfl, lLe.refl _⟩
theorem stLe.trans {a b c : Int × List Int} (h1 : stLe a b) (h2 : stLe b c) : stLe a c := by
  rcases h1 with h1 | ⟨h1, h3⟩ <;> rcases h2 with h2 | ⟨h2, h4⟩
  · exact .inl (by omega)
  · exact .inl (by omega)
  · exact .inl (by omega)
  · exact .inr ⟨by omega, h3.trans h4⟩
/-- what min takes -/
theorem stLe_min {a b : Int × List Int} : (W.DatumOrd.lt ((b.1, ⟨b.2⟩) : Int × W.Tup Int) (a.1, ⟨a.2⟩) = true → stLe b a) ∧ (¬ W.DatumOrd.lt ((b.1, ⟨b.2⟩) : Int × W.Tup Int) (a.1, ⟨a.2⟩) = true → stLe a b) := by
  have e : W.DatumOrd.lt ((b.1, ⟨b.2⟩) : Int × W.Tup Int) (a.1, ⟨a.2⟩) = if b.1 = a.1 then W.listLt b.2 a.2 else decide (b.1 < a.1) := rfl
  rw [e]
  by_cases h : b.1 = a.1
  · rw [if_pos h]
    refine ⟨fun z => ?_, fun z => .inr ⟨h.symm, Bool.eq_false_iff.mpr z⟩⟩
    refine .inr ⟨h, ?_⟩
    -- b.2 < a.2 gives not a.2 < b.2
    have : ∀ {xs ys : List Int}, W.listLt xs ys = true → W.listLt ys xs = false := by
      intro xs
      induction xs with
      | nil => intro ys; cases ys <;> intro z <;> first | rfl | cases z
      | cons x xs ih =>
        intro ys z
        cases ys with
        | nil => cases z
        | cons y ys =>
          have z' : (if x = y then W.listLt xs ys else decide (x < y)) = true := z
          show (if y = x then W.listLt ys xs else decide (y < x)) = false
          by_cases c : x = y
          · rw [if_pos c] at z'
            rw [if_pos c.symm]
            exact ih z'
          · rw [if_neg c] at z'
            rw [if_neg fun q => c q.symm]
            have := of_decide_eq_true z'
            exact decide_eq_false (by omega)
    exact this z
  · rw [if_neg h]
    refine ⟨fun z => .inl (of_decide_eq_true z), fun z => .inl ?_⟩
    have : ¬ b.1 < a.1 := fun q => z (decide_eq_true q)
    omega
/-! ### rests, step by step -/
section
variable {pg : Int} {qs : List Part} {ms bs : List Int} {m : Nat}
def goal (pg : Int) (qs : List Part) (n : Nat) (r s : Int) : Int := (low pg qs (n + 1) (r + s)).fmod pg
theorem Good.goal_at (g : Good pg qs ms m) {n : Nat} (hn : n + 1 < m) {row : List Int} {s : Int} (hl : row.length = n) : (adr pg qs (row ++ [s]) (n + 1)).fmod pg = goal pg qs n ((adr pg qs row n).fmod pg) s := by
  obtain ⟨k, hk, e⟩ := fmod_split (adr pg qs row n) g.pos
  have e1 : adr pg qs (row ++ [s]) (n + 1) = low pg qs (n + 1) (adr pg qs row n + s) := by
    show low pg qs (n + 1) (adr pg qs (row ++ [s]) n + sz (row ++ [s]) n) = _
    rw [adr_cong (ms := row) n fun j hj => sz_app1 (by omega)]
    subst hl
    rw [sz_snoc]
  unfold goal
  rw [e1]
  generalize (adr pg qs row n).fmod pg = r at *
  rw [e, show r + k + s = r + s + k by omega, g.low_shift hn hk, fmod_add g.pos hk]
theorem Good.goal_same (g : Good pg qs ms m) {n : Nat} (hn : n + 1 < m) {r s s' : Int} (h : pg ∣ s - s') : goal pg qs n r s = goal pg qs n r s' := by
  unfold goal
  rw [show r + s = r + s' + (s - s') by omega, g.low_shift hn h, fmod_add g.pos h]
theorem size_red {lo b s : Int} (hp : 0 < pg) (h1 : lo ≤ s) (h2 : s ≤ b) : ∃ s', lo ≤ s' ∧ s' ≤ b ∧ s' ≤ lo + pg - 1 ∧ s' ≤ s ∧ pg ∣ s - s' := by
  obtain ⟨k, hk, e⟩ := fmod_split (s - lo) hp
  have a1 : 0 ≤ (s - lo).fmod pg := by rw [Int.fmod_eq_emod_of_nonneg _ (by omega)]; exact Int.emod_nonneg _ (by omega)
  have a2 : (s - lo).fmod pg < pg := by rw [Int.fmod_eq_emod_of_nonneg _ (by omega)]; exact Int.emod_lt_of_pos _ hp
  have a3 : (s - lo).fmod pg ≤ s - lo := by
    rw [Int.fmod_eq_emod_of_nonneg _ (by omega)]
    have := Int.emod_add_mul_ediv (s - lo) pg
    have := Int.mul_nonneg (Int.le_of_lt hp) (Int.ediv_nonneg (a := s - lo) (b := pg) (by omega) (by omega))
    omega
  generalize (s - lo).fmod pg = x at *
  refine ⟨lo + x, by omega, by omega, by omega, by omega, ?_⟩
  rw [show s - (lo + x) = k by omega]
  exact hk
theorem Good.cov_step (g : Good pg qs ms m) {n : Nat} (hn : n + 1 < m) {E C : Int → Int × List Int → Prop} (hE : ∀ ns, RowIn qs bs n ns → ∃ x, E ((adr pg qs ns n).fmod pg) x ∧ stLe x (ns.sum, ns) ∧ x.2.length = n) (hC : ∀ k x y, C k x → stLe x y → C k y)
    (hd : ∀ r x s, E r x → (pt qs n).lo ≤ s → s ≤ sz bs n → s ≤ (pt qs n).lo + pg - 1 → C (goal pg qs n r s) (x.1 + s, x.2 ++ [s])) (ns : List Int) (h : RowIn qs bs (n + 1) ns) : C ((adr pg qs ns (n + 1)).fmod pg) (ns.sum, ns) := by
  have hl := h.len
  have ens : ns = ns.take n ++ [sz ns n] := by
    have e := take_snoc (l := ns) (i := n) (x := sz ns n) (by
      unfold sz
      rw [List.getD_eq_getElem?_getD, List.getElem?_eq_getElem (by omega)]
      rfl)
    rw [← e, List.take_of_length_le (by omega)]
  have hrow : RowIn qs bs n (ns.take n) := by
    refine ⟨by rw [List.length_take]; omega, fun k hk => ?_, fun k hk => ?_⟩
    · rw [sz_take hk]
      exact h.lo k (by omega)
    · rw [sz_take hk]
      exact h.hi k (by omega)
  obtain ⟨x, hx, hle, hxl⟩ := hE _ hrow
  obtain ⟨s', a1, a2, a3, a4, a5⟩ := size_red g.pos (h.lo n (by omega)) (h.hi n (by omega))
  have c := hd _ x s' hx a1 a2 a3
  rw [← g.goal_same hn a5] at c
  rw [ens, g.goal_at hn hrow.len]
  refine hC _ _ _ c ?_
  have hrl := hrow.len
  rw [List.sum_append, show ([sz ns n] : List Int).sum = sz ns n by simp]
  generalize ns.take n = row at *
  generalize sz ns n = s at *
  rcases hle with hle | ⟨hle, hle2⟩
  · exact .inl (by show x.1 + s' < row.sum + s; have : x.1 < row.sum := hle; omega)
  · have hle' : x.1 = row.sum := hle
    by_cases q : s' = s
    · subst q
      refine .inr ⟨by show x.1 + s' = row.sum + s'; omega, hle2.snoc (by show x.2.length = row.length; omega)⟩
    · exact .inl (by show x.1 + s' < row.sum + s; omega)
theorem RowIn.snoc {n : Nat} {row : List Int} {s : Int} (h : RowIn qs bs n row) (h1 : (pt qs n).lo ≤ s) (h2 : s ≤ sz bs n) : RowIn qs bs (n + 1) (row ++ [s]) := by
  have hl := h.len
  refine ⟨by rw [List.length_append, hl]; rfl, fun k hk => ?_, fun k hk => ?_⟩
  · by_cases c : k < n
    · rw [sz_app1 (by omega)]
      exact h.lo k c
    · have e : k = row.length := by omega
      rw [e, sz_snoc, hl]
      exact h1
  · by_cases c : k < n
    · rw [sz_app1 (by omega)]
      exact h.hi k c
    · have e : k = row.length := by omega
      rw [e, sz_snoc, hl]
      exact h2
theorem Good.adr0 (g : Good pg qs ms m) (hm : 0 < m) : adr pg qs [] 0 = 0 := by
  show lift 0 _ 0 = 0
  have h1 := lift_ge (p := 0) (r := 0) (g.step hm).1
  have h2 := lift_least (p := 0) (r := 0) (q := 0) (g.step hm).1 (Int.le_refl _) ⟨0, by omega⟩
  omega
theorem RowIn.nil : RowIn qs bs 0 [] := ⟨rfl, fun _ h => by omega, fun _ h => by omega⟩
end
/-- unlike numbers below n are at most n -/
theorem few_nodup : ∀ (n : Nat) (l : List Int), l.Nodup → (∀ x ∈ l, 0 ≤ x ∧ x < n) → l.length ≤ n
  | 0, l, _, h => by
    cases l with
    | nil => exact Nat.le_refl _
    | cons x l =>
      have := h x (List.mem_cons_self ..)
      omega
  | n + 1, l, hn, h => by
    have ih := few_nodup n (l.erase (n : Int)) (hn.erase _) fun x hx => by
      have h1 := h x (List.mem_of_mem_erase hx)
      have h2 : x ≠ (n : Int) := fun e => by
        subst e
        exact (List.Nodup.mem_erase_iff hn).mp hx |>.1 rfl
      omega
    have := List.length_erase (l := l) (a := (n : Int))
    split at this <;> omega
end MP
end Lk
/-! Dicts by their pairs; stands (a sum and a row) in memory. -/
namespace Lk
open PySem PySem.Spec PyProof.Rows L2 PySem.W
section
variable {κ : Type} [DecidableEq κ] {kvs : List (κ × V)} {k : κ} {v : V}
theorem mem_putK {p : κ × V} : p ∈ putK kvs k v ↔ p = (k, v) ∨ (p ∈ kvs ∧ p.1 ≠ k) := by
  unfold putK
  by_cases c : (kvs.any fun kv => decide (kv.1 = k)) = true
  · rw [if_pos c, List.mem_map]
    obtain ⟨q, hq, eq⟩ := List.any_eq_true.mp c
    have eq := of_decide_eq_true eq
    constructor
    · rintro ⟨z, hz, rfl⟩
      by_cases e : z.1 = k
      · rw [if_pos e, e]
        exact .inl rfl
      · rw [if_neg e]
        exact .inr ⟨hz, e⟩
    · rintro (rfl | ⟨h1, h2⟩)
      · exact ⟨q, hq, by rw [if_pos eq, eq]⟩
      · exact ⟨p, h1, by rw [if_neg h2]⟩
  · rw [if_neg c, List.mem_append, List.mem_singleton]
    constructor
    · rintro (h | h)
      · refine .inr ⟨h, fun e => c (List.any_eq_true.mpr ⟨p, h, decide_eq_true e⟩)⟩
      · exact .inl h
    · rintro (h | h)
      · exact .inr h
      · exact .inl h.1
theorem nodup_putK (h : (kvs.map (·.1)).Nodup) : ((putK kvs k v).map (·.1)).Nodup := by
  unfold putK
  by_cases c : (kvs.any fun kv => decide (kv.1 = k)) = true
  · rw [if_pos c, List.map_map]
    have e : kvs.map ((fun x : κ × V => x.1) ∘ fun kv => if kv.1 = k then (kv.1, v) else kv) = kvs.map (·.1) := List.map_congr_left fun z _ => by
      show (if z.1 = k then (z.1, v) else z).1 = z.1
      split <;> rfl
    rw [e]
    exact h
  · rw [if_neg c, List.map_append, List.nodup_append]
    refine ⟨h, by simp, fun a ha b hb e => c ?_⟩
    obtain ⟨z, hz, ez⟩ := List.mem_map.mp ha
    refine List.any_eq_true.mpr ⟨z, hz, decide_eq_true ?_⟩
    rw [ez, e]
    exact List.mem_singleton.mp hb
theorem val_mem (h : valV kvs k = some v) : (k, v) ∈ kvs := by
  unfold valV at h
  cases e : kvs.find? fun kv => decide (kv.1 = k) with
  | none => rw [e] at h; cases h
  | some p =>
    rw [e] at h
    have h0 : decide (p.1 = k) = true := List.find?_some (p := fun kv : κ × V => decide (kv.1 = k)) e
    have h1 := of_decide_eq_true h0
    have h2 := List.mem_of_find?_eq_some e
    cases p
    cases h
    subst h1
    exact h2
theorem mem_val : ∀ {kvs : List (κ × V)}, (kvs.map (·.1)).Nodup → (k, v) ∈ kvs → valV kvs k = some v
  | p :: r, hn, hm => by
    rw [List.map_cons, List.nodup_cons] at hn
    rcases List.mem_cons.mp hm with rfl | hm
    · exact valV_pos rfl
    · rw [valV_neg fun e => hn.1 (by rw [e]; exact List.mem_map.mpr ⟨_, hm, rfl⟩)]
      exact mem_val hn.2 hm
end
theorem hu_dp {α : Type} [DecidableEq α] [DatumOrd α] {k : Nat} {A : Around} (hr : Room k A) (h : Datum.depth α ≤ 50) : A.units + 1 + Datum.depth α < cLine := by
  have := hr.un
  omega
theorem hu_dp1 {α : Type} [DecidableEq α] [Datum α] {k : Nat} {A : Around} (hr : Room k A) (h : Datum.depth α ≤ 50) : A.units + Datum.depth α < cLine := by
  have := hr.un
  omega
/-- what stands as a tuple, stays -/
def TupsKeep (H H' : Hp) : Prop := ∀ a xs, H a = some (.tup xs) → H' a = some (.tup xs)
theorem TupsKeep.refl {H : Hp} : TupsKeep H H := fun _ _ h => h
theorem TupsKeep.trans {H H1 H2 : Hp} (a : TupsKeep H H1) (b : TupsKeep H1 H2) : TupsKeep H H2 := fun x xs h => b x xs (a x xs h)
theorem _root_.L2.Same.tups {H H' : Hp} (e : Same H H') : TupsKeep H H' := fun a xs h => e _ _ h
theorem TupsKeep.upd {H : Hp} {d : Addr} {o : HO} (h : ∀ xs, H d ≠ some (.tup xs)) : TupsKeep H (L2.upd H d o) := fun a xs e => by
  rw [upd_ne fun z => h xs (by rw [← z]; exact e)]
  exact e
def StandAt (H : Hp) (v : V) (x : Int × List Int) : Prop := ∃ a b, v = .ref a ∧ H a = some (.tup [.int x.1, .ref b]) ∧ H b = some (.tup (x.2.map V.int))
theorem StandAt.keep {H H' : Hp} {v : V} {x : Int × List Int} (h : StandAt H v x) (e : TupsKeep H H') : StandAt H' v x := by
  obtain ⟨a, b, h1, h2, h3⟩ := h
  exact ⟨a, b, h1, e _ _ h2, e _ _ h3⟩
theorem standAt_inj {H : Hp} {v : V} {y a : Int × List Int} (h : StandAt H v y) (h' : StandAt H v a) : y = a := by
  obtain ⟨p, q, p1, p2, p3⟩ := h
  obtain ⟨p', q', p1', p2', p3'⟩ := h'
  rw [p1] at p1'
  cases p1'
  rw [p2] at p2'
  have e1 := Option.some.inj p2'
  injection e1 with e1
  injection e1 with e1 e2
  injection e1 with e1
  injection e2 with e2
  injection e2 with e2
  subst e2
  rw [p3] at p3'
  have e3 := Option.some.inj p3'
  injection e3 with e3
  have e4 := (List.map_inj_right (f := V.int) (fun a b h => V.int.inj h)).mp e3
  exact Prod.ext e1 e4
theorem StandAt.has {K : Frag} {H : Hp} {v : V} {x : Int × List Int} (h : StandAt H v x) : HasD K H v ((x.1, ⟨x.2⟩) : Int × Tup Int) := by
  obtain ⟨a, b, rfl, h2, h3⟩ := h
  exact .tup (sqT_of h2) (.cons (.int _) (.cons (.tup (sqT_of h3) (dp_ints _)) .nil))
namespace MP
/-- a dict of rests: each entry is a stand that brings its rest -/
structure RV (pg : Int) (qs : List Part) (bs : List Int) (n : Nat) (H : Hp) (kvs : List (L2.Key × V)) : Prop where
  nd : (kvs.map (·.1)).Nodup
  ok : ∀ k v, (k, v) ∈ kvs → ∃ x : Int × List Int, StandAt H v x ∧ RowIn qs bs n x.2 ∧ x.1 = x.2.sum ∧ k = .inl ((adr pg qs x.2 n).fmod pg)
/-- a stand that is not above is there -/
def Cv (H : Hp) (kvs : List (L2.Key × V)) (r : Int) (x : Int × List Int) : Prop := ∃ v y, (Sum.inl r, v) ∈ kvs ∧ StandAt H v y ∧ stLe y x
structure RD (pg : Int) (qs : List Part) (bs : List Int) (n : Nat) (H : Hp) (kvs : List (L2.Key × V)) : Prop where
  v : RV pg qs bs n H kvs
  c : ∀ ns, RowIn qs bs n ns → Cv H kvs ((adr pg qs ns n).fmod pg) (ns.sum, ns)
section
variable {pg : Int} {qs : List Part} {bs : List Int} {n : Nat} {H H' : Hp} {kvs : List (L2.Key × V)}
theorem RV.keep (h : RV pg qs bs n H kvs) (e : TupsKeep H H') : RV pg qs bs n H' kvs := ⟨h.nd, fun k v hm => by
  obtain ⟨x, h1, h2⟩ := h.ok k v hm
  exact ⟨x, h1.keep e, h2⟩⟩
theorem Cv.keep {r : Int} {x : Int × List Int} (h : Cv H kvs r x) (e : TupsKeep H H') : Cv H' kvs r x := by
  obtain ⟨v, y, h1, h2, h3⟩ := h
  exact ⟨v, y, h1, h2.keep e, h3⟩
theorem RD.keep (h : RD pg qs bs n H kvs) (e : TupsKeep H H') : RD pg qs bs n H' kvs := ⟨h.v.keep e, fun ns hn => (h.c ns hn).keep e⟩
theorem Cv.mono {r : Int} {x y : Int × List Int} (h : Cv H kvs r x) (e : stLe x y) : Cv H kvs r y := by
  obtain ⟨v, z, h1, h2, h3⟩ := h
  exact ⟨v, z, h1, h2, h3.trans e⟩
theorem RV.few (h : RV pg qs bs n H kvs) (hp : 0 < pg) (h64 : pg ≤ 64) : kvs.length ≤ 64 := by
  have hk : ∀ k ∈ kvs.map (·.1), ∃ r : Int, k = Sum.inl r ∧ 0 ≤ r ∧ r < pg := fun k hk => by
    obtain ⟨⟨k, v⟩, hm, rfl⟩ := List.mem_map.mp hk
    obtain ⟨x, _, _, _, e⟩ := h.ok k v hm
    exact ⟨_, e, by rw [Int.fmod_eq_emod_of_nonneg _ (by omega)]; exact Int.emod_nonneg _ (by omega), by rw [Int.fmod_eq_emod_of_nonneg _ (by omega)]; exact Int.emod_lt_of_pos _ hp⟩
  have hn := h.nd
  have e : ∃ l : List Int, kvs.map (·.1) = l.map Sum.inl ∧ ∀ x ∈ l, 0 ≤ x ∧ x < pg := by
    clear hn h
    generalize kvs.map (·.1) = ks at hk
    induction ks with
    | nil => exact ⟨[], rfl, fun x hx => nomatch hx⟩
    | cons k ks ih =>
      obtain ⟨l, h1, h2⟩ := ih fun k hm => hk k (List.mem_cons_of_mem _ hm)
      obtain ⟨r, h3, h4⟩ := hk k (List.mem_cons_self ..)
      refine ⟨r :: l, by rw [List.map_cons, ← h1, h3], fun x hx => ?_⟩
      rcases List.mem_cons.mp hx with rfl | hx
      · exact h4
      · exact h2 x hx
  obtain ⟨l, e1, e2⟩ := e
  have hl : l.Nodup := by
    rw [e1] at hn
    exact (List.pairwise_map.mp hn).imp fun h e => h (by rw [e])
  have := few_nodup 64 l hl fun x hx => by
    have := e2 x hx
    omega
  have e3 := congrArg List.length e1
  rw [List.length_map, List.length_map] at e3
  omega
/-- later[goal] = min(stand, later.get(goal, stand)) -/
theorem RV.put {r : Int} {v : V} {x : Int × List Int} (h : RV pg qs bs n H kvs) (hv : StandAt H v x) (hx : RowIn qs bs n x.2) (hs : x.1 = x.2.sum) (hr : r = (adr pg qs x.2 n).fmod pg) : ∃ y : Int × List Int, StandAt H ((valV kvs (.inl r)).getD v) y ∧
    ∀ u, u = (if DatumOrd.lt ((y.1, ⟨y.2⟩) : Int × Tup Int) ((x.1, ⟨x.2⟩) : Int × Tup Int) = true then (valV kvs (.inl r)).getD v else v) → RV pg qs bs n H (putK kvs (.inl r) u) ∧ (∀ r' x', Cv H kvs r' x' → Cv H (putK kvs (.inl r) u) r' x') ∧ Cv H (putK kvs (.inl r) u) r x := by
  have key : ∃ y : Int × List Int, StandAt H ((valV kvs (.inl r)).getD v) y ∧ RowIn qs bs n y.2 ∧ y.1 = y.2.sum ∧ r = (adr pg qs y.2 n).fmod pg ∧ ∀ w, (Sum.inl r, w) ∈ kvs → w = (valV kvs (.inl r)).getD v := by
    cases e : valV kvs (.inl r) with
    | none =>
      refine ⟨x, hv, hx, hs, hr, fun w hw => ?_⟩
      rw [mem_val h.nd hw] at e
      cases e
    | some w =>
      obtain ⟨y, h1, h2, h3, h4⟩ := h.ok _ _ (val_mem e)
      exact ⟨y, h1, h2, h3, Sum.inl.inj h4, fun w' hw' => by rw [mem_val h.nd hw'] at e; exact Option.some.inj e⟩
  obtain ⟨y, y1, y2, y3, y4, y5⟩ := key
  refine ⟨y, y1, fun u hu => ?_⟩
  have mn := stLe_min (a := x) (b := y)
  have hz : ∃ z : Int × List Int, StandAt H u z ∧ RowIn qs bs n z.2 ∧ z.1 = z.2.sum ∧ r = (adr pg qs z.2 n).fmod pg ∧ stLe z x ∧ stLe z y := by
    subst hu
    by_cases c : DatumOrd.lt ((y.1, ⟨y.2⟩) : Int × Tup Int) ((x.1, ⟨x.2⟩) : Int × Tup Int) = true
    · rw [if_pos c]
      exact ⟨y, y1, y2, y3, y4, mn.1 c, stLe.refl _⟩
    · rw [if_neg c]
      exact ⟨x, hv, hx, hs, hr, stLe.refl _, mn.2 c⟩
  obtain ⟨z, z1, z2, z3, z4, z5, z6⟩ := hz
  refine ⟨⟨nodup_putK h.nd, fun k w hm => ?_⟩, fun r' x' hc => ?_, ⟨u, z, mem_putK.mpr (.inl rfl), z1, z5⟩⟩
  · rcases mem_putK.mp hm with e | ⟨hm, _⟩
    · cases e
      exact ⟨z, z1, z2, z3, by rw [z4]⟩
    · exact h.ok k w hm
  · obtain ⟨w, a, a1, a2, a3⟩ := hc
    by_cases e : r' = r
    · subst e
      refine ⟨u, z, mem_putK.mpr (.inl rfl), z1, z6.trans ?_⟩
      have ew := y5 w a1
      subst ew
      have : y = a := standAt_inj y1 a2
      rw [this]
      exact a3
    · exact ⟨w, a, mem_putK.mpr (.inr ⟨a1, fun q => e (Sum.inl.inj q)⟩), a2, a3⟩
end
end MP
end Lk
/-! Rows of ints as tuples: sorted, in; list(d.values()) of a dict with tuple keys. -/
namespace Lk
open PySem PySem.Spec PyProof.Rows L2 PySem.W
theorem tNil_k {σ : L2.St} {H : Hp} {Q : List V → Hp → Prop} (h : Q [] H) : tNil σ H Q := h
/-- a row as data -/
abbrev encR (ns : List Int) : PyData := Datum.toD (⟨ns⟩ : Tup Int)
section
variable {K : Frag} {H : Hp}
theorem dpAll_ints : ∀ {vs : List V} {ns : List Int}, DpAll K H vs (ns.map Datum.toD) → vs = ns.map V.int
  | _, [], .nil => rfl
  | _, n :: ns, .cons h t => by
    have h' : Dp K H _ (.int n) := h
    cases h'
    rw [dpAll_ints t]
    rfl
theorem dp_row {a : Addr} {ns : List Int} (h : SqT K H a (ns.map V.int)) : Dp K H (.ref a) (encR ns) := .tup h (dp_ints ns)
theorem row_dp {v : V} {ns : List Int} (h : Dp K H v (encR ns)) : ∃ a, v = .ref a ∧ SqT K H a (ns.map V.int) := by
  have h' : Dp K H v (.tuple (ns.map Datum.toD)) := h
  cases h' with
  | tup h1 h2 =>
    rw [dpAll_ints h2] at h1
    exact ⟨_, rfl, h1⟩
theorem dp_rows : ∀ {vs : List V} {rows : List (List Int)}, Paired (fun v r => Dp K H v (encR r)) vs rows → DpAll K H vs (rows.map encR)
  | _, _, .nil => .nil
  | _, _, .cons h t => .cons h (dp_rows t)
end
theorem encR_le {a b : List Int} : dataLe false encR a b = true ↔ MP.lLe a b := by
  rw [dataLe_eq]
  show (!dataLt (encR b) (encR a)) = true ↔ _
  rw [show dataLt (encR b) (encR a) = listLt b a from DatumOrd.lt_eq (⟨b⟩ : Tup Int) ⟨a⟩]
  unfold MP.lLe
  cases listLt b a <;> simp
theorem sort_rows {rows : List (List Int)} (h : rows.Pairwise MP.lLe) : rows.mergeSort (dataLe false encR) = rows :=
  List.mergeSort_of_pairwise (h.imp fun z => encR_le.mpr z)
/-- sorted of rows that stand in order -/
theorem sorted_rowsIn {K : Frag} {H : Hp} {a : Addr} {xs : List V} {rows : List (List Int)} {Q : VK} (hs : SqL K H a xs) (hp : Paired (fun x r => Dp K H x (encR r)) xs rows) (hn : ∀ r ∈ rows, r ≠ []) (ho : rows.Pairwise MP.lLe)
    (q : ∀ (ys : List V) (p : Addr), Paired (fun x r => Dp K H x (encR r)) ys rows → H p = none → Q (.ref p) (upd H p (.lst ys))) : rSortedD K encR [.ref a] H Q := by
  refine ⟨a, xs, rows, rfl, hs, hp, ?_, .inl fun d hd => ?_, fun b hb => ?_, fun ys p hy np => ?_⟩
  · intro d hd d' hd'
    obtain ⟨b, _, rfl⟩ := List.mem_map.mp hd
    obtain ⟨b', _, rfl⟩ := List.mem_map.mp hd'
    exact DatumOrd.alike (⟨b⟩ : Tup Int) ⟨b'⟩
  · obtain ⟨b, hb, rfl⟩ := List.mem_map.mp hd
    cases b with
    | nil => exact absurd rfl (hn _ hb)
    | cons x r => exact ⟨_, _, rfl⟩
  · have := Datum.depth_le (⟨b⟩ : Tup Int)
    have e : Datum.depth (Tup Int) = 1 := rfl
    rw [e] at this
    exact Nat.le_trans this (by decide)
  · rw [sort_rows ho] at hy
    exact q ys p (paired_mono (fun _ _ z => z.1) hy) np
section
variable {α : Type} [DecidableEq α] [Datum α] {X : Cx} {K : Frag}
/-- x in a list of data of one type -/
def rInT (α : Type) [DecidableEq α] [Datum α] (K : Frag) : R2 := fun u v H Q => ∃ (x : α) (l : Addr) (vs : List V) (xs : List α), v = .ref l ∧ HasD K H u x ∧ SqL K H l vs ∧ Paired (HasD K H) vs xs ∧ Q (.bl (decide (x ∈ xs))) H
theorem op_inT (hu : X.A.units + 1 + Datum.depth α < cLine) (hK : X.K = K := by rfl) : OpR X (compareOp .In) (rInT α K) := by
  subst hK
  intro pins s σ H u v a b Q I ru rv h
  obtain ⟨x, l, vs, xs, rfl, hx, hl, hp, q⟩ := h
  cases rv
  obtain ⟨its, rvs, pl, hz⟩ := I.list hl
  have ha : HoldAll s.heap its xs := by
    have : ∀ {vs : List V} {us : List Value} {xs : List α}, Vals vs us → Paired (HasD X.K H) vs xs → HoldAll s.heap us xs := by
      intro vs us xs r p
      induction p generalizing us with
      | nil =>
        cases r
        exact ⟨[], .nil⟩
      | cons h t ih =>
        cases r with
        | cons r1 r2 =>
          obtain ⟨as, e1⟩ := Dp.reads I _ _ _ h r1
          obtain ⟨bs, e2⟩ := ih r2
          exact ⟨_, .cons e1 e2⟩
    exact this rvs hp
  exact in_list_datum pl.isList (by simpa using ha) (Dp.reads I _ _ _ hx ru) hu ⟨.bl _, H, I, rfl, q⟩
end
theorem paired_of_at {α β : Type} {R : α → β → Prop} : ∀ {xs : List α} {ys : List β}, xs.length = ys.length → (∀ (i : Nat) x y, xs[i]? = some x → ys[i]? = some y → R x y) → Paired R xs ys
  | [], [], _, _ => .nil
  | [], _ :: _, h, _ => by cases h
  | _ :: _, [], h, _ => by cases h
  | x :: xs, y :: ys, h, f => .cons (f 0 x y rfl rfl) (paired_of_at (by simpa using h) fun i a b h1 h2 => f (i + 1) a b h1 h2)
/-! list(d.values()) of a dict whose keys are tuples -/
def tListValsT (te : TE) : TE := fun σ H Q => te σ H fun x H1 => ∃ (d : Addr) (kvs : List (List L2.Key × V)), x = .ref d ∧ H1 d = some (.dT kvs) ∧ ∀ p, H1 p = none → Q (.ref p) (upd H1 p (.lst (kvs.map (·.2))))
theorem pe_listValsT {X : Cx} {e : Expr} {te : TE} {p apos cpos pos : Pos} (hc : X.calm = true) (he : PE X e te) (hg : Gl X "list") (hm : X.mg "list" = none) (hv : bootBuiltins "list" = some (.type "list")) (hbase : attributeBase e "values" X.env (eval e X.env) = eval e X.env := by rfl) (hline : (apos.endLine == cpos.line) = true := by rfl)
    (hs : starEach [.Call (.Attribute e "values" apos) [] [] cpos] X.env = (false, eval (.Call (.Attribute e "values" apos) [] [] cpos) X.env) :: starEach [] X.env := by rfl) :
    PE X (.Call (.Name "list" p) [.Call (.Attribute e "values" apos) [] [] cpos] [] pos) (tListValsT te) := by
  refine ⟨fun pins s σ H Q I hq => ?_⟩
  refine wpAny_Call_Name_kw (ld_blt I hg hm hv ?_)
  refine PyProof.Rows.callWith_type1 ?_ hs rfl
  rw [hs]
  show wpAny _ _ (spliced ((false, eval (.Call (.Attribute e "values" apos) [] [] cpos) X.env) :: backTo pos (starEach [] X.env))) _ _ s
  refine Calls.spliced_cons ?_
  refine wpAny_Call_method (T := "dict") (id := "dict.values") hbase rfl hline F.plainAttrs_dict F.slot_dict_values F.type_dict_values (thn (he.run pins s σ H _ I hq) fun u s1 ⟨x, H1, I1, rx, d, kvs, ex, hd, q⟩ => ?_)
  subst ex
  obtain rfl : u = Value.ref d := rx
  obtain ⟨ty, nd, hsm⟩ := isD_at I1 (.inr ⟨kvs, .inl hd⟩)
  obtain ⟨hz, _, xs, rel, o, es, ep, ho, hx, hdt, hes, _⟩ := I1.hok d _ hd
  have hraw : s1.heap.DictRaw d es ep := ⟨o, ho, hx, hdt⟩
  have lk : kvs.length = xs.length := Paired.length rel
  have lx : es.size = xs.length := size_of_entries hes
  have I2 : Inv X pins σ H1 { s1 with heap := s1.heap.push { cls := .type "dict_values", data := .fields #[.ref d] } } := I1.kept (t' := s1.toks) fun b ob q => Heap.get?_push_of_some _ q
  refine ⟨ty, nd, ?_⟩
  show wpAny _ _ (callWith cpos (.builtin "dict.values") [.ref d] [] []) _ X.xe s1
  refine method_meetsIn F.slot_dict_values F.entry_dict_values rfl (PySem.evalArgs_none ⟨rfl, ty, F.args_dict_values_1 _, _, meets_dict_values_raw d hsm, ⟨es, ep, hraw⟩, ?_⟩)
  refine Calls.spliced_nil ?_
  refine kdl_call (KdlSrc.rawValues (r := s1.heap.objs.size) (d := d) (es := es) (ep := ep)) (I1.ok.hd hc) ⟨⟨_, Heap.get?_push_size _ rfl, rfl, rfl⟩, hraw.push _⟩ (by omega) fun h' tk acc c hk hS hacc => ?_
  have hvals : Vals (kvs.map (·.2)) acc.toList := by
    have hl : acc.size = xs.length := by rw [hacc.1]; exact lx
    refine paired_of_at (by rw [List.length_map]; have := Array.length_toList (xs := acc); omega) fun i x u ex eu => ?_
    obtain ⟨⟨k, v⟩, ekv, rfl⟩ := map_at ex
    obtain ⟨b, hb, _, _, e3⟩ := L2.paired_get rel ekv
    obtain ⟨hi, ev⟩ := hacc.2 i u (by rw [← Array.getElem?_toList]; exact eu)
    have qe := entry_at hes i
    rw [hb] at qe
    rw [Array.getElem?_eq_getElem hi] at qe
    have qe := Option.some.inj qe
    rw [ev, qe]
    exact e3
  refine ⟨.ref _, _, I2.laid (t' := tk) hk (Nat.le_refl _) (show ObjOk X.prog X.w _ _ _ (.lst (kvs.map (·.2))) from ⟨by rw [List.length_map]; exact hz, acc.toList, c, hvals, by rw [Array.toArray_toList]; exact hS⟩), rfl, q _ (I2.hok.fresh (Nat.le_refl _))⟩
end Lk
/-! All rows of ints between two rows; rows that hold; the greatest of them. -/
namespace Lk
open PySem
def withinB (xs ys : List Int) : Bool := ((xs.zip ys).map fun p => decide (p.1 ≤ p.2)).all id
namespace MP
def rowStep (rows : List (List Int)) (lo hi : Int) : List (List Int) := rows.flatMap fun r => (List.range (hi + 1 - lo).toNat).map fun k => r ++ [lo + ((k : Nat) : Int)]
def rowsN (ls hs : List Int) : Nat → List (List Int)
  | 0 => [[]]
  | i + 1 => rowStep (rowsN ls hs i) (sz ls i) (sz hs i)
theorem rowStep_app (a b : List (List Int)) (lo hi : Int) : rowStep (a ++ b) lo hi = rowStep a lo hi ++ rowStep b lo hi := by
  unfold rowStep
  rw [List.flatMap_append]
theorem rowStep_one (r : List Int) (lo hi : Int) : rowStep [r] lo hi = (List.range (hi + 1 - lo).toNat).map fun k => r ++ [lo + ((k : Nat) : Int)] := by
  unfold rowStep
  rw [List.flatMap_cons, List.flatMap_nil, List.append_nil]
theorem rowsN_len {ls hs : List Int} : ∀ (i : Nat) (r : List Int), r ∈ rowsN ls hs i → r.length = i
  | 0, r, h => by
    cases List.mem_singleton.mp h
    rfl
  | i + 1, r, h => by
    obtain ⟨r0, h0, h1⟩ := List.mem_flatMap.mp h
    obtain ⟨k, _, rfl⟩ := List.mem_map.mp h1
    rw [List.length_append, rowsN_len i r0 h0]
    rfl
theorem list_snoc {ns : List Int} {n : Nat} (h : ns.length = n + 1) : ns = ns.take n ++ [sz ns n] := by
  have e := take_snoc (l := ns) (i := n) (x := sz ns n) (by
    unfold sz
    rw [List.getD_eq_getElem?_getD, List.getElem?_eq_getElem (by omega)]
    rfl)
  rw [← e, List.take_of_length_le (by omega)]
theorem ext_sz {xs ys : List Int} {n : Nat} (h1 : xs.length = n) (h2 : ys.length = n) (h : ∀ k, k < n → sz xs k = sz ys k) : xs = ys := by
  refine List.ext_getElem? fun k => ?_
  by_cases c : k < n
  · have := h k c
    unfold sz at this
    rw [List.getD_eq_getElem?_getD, List.getD_eq_getElem?_getD, List.getElem?_eq_getElem (by omega), List.getElem?_eq_getElem (by omega)] at this
    rw [List.getElem?_eq_getElem (by omega), List.getElem?_eq_getElem (by omega)]
    exact congrArg some this
  · rw [List.getElem?_eq_none (by omega), List.getElem?_eq_none (by omega)]
theorem mem_rowsN {ls hs : List Int} : ∀ {n : Nat} {r : List Int}, r ∈ rowsN ls hs n ↔ r.length = n ∧ ∀ k, k < n → sz ls k ≤ sz r k ∧ sz r k ≤ sz hs k
  | 0, r => by
    refine ⟨fun h => ?_, fun h => ?_⟩
    · cases List.mem_singleton.mp h
      exact ⟨rfl, fun k hk => by omega⟩
    · rw [List.eq_nil_of_length_eq_zero h.1]
      exact List.mem_singleton.mpr rfl
  | n + 1, r => by
    refine ⟨fun h => ?_, fun h => ?_⟩
    · refine ⟨rowsN_len _ _ h, ?_⟩
      obtain ⟨r0, h0, h1⟩ := List.mem_flatMap.mp h
      obtain ⟨j, hj, rfl⟩ := List.mem_map.mp h1
      obtain ⟨l0, b0⟩ := mem_rowsN.mp h0
      have hj := List.mem_range.mp hj
      intro k hk
      by_cases c : k < n
      · rw [sz_app1 (by omega)]
        exact b0 k c
      · have e : k = r0.length := by omega
        rw [e, sz_snoc, l0]
        omega
    · obtain ⟨hl, hb⟩ := h
      refine List.mem_flatMap.mpr ⟨r.take n, mem_rowsN.mpr ⟨by rw [List.length_take]; omega, fun k hk => ?_⟩, List.mem_map.mpr ⟨(sz r n - sz ls n).toNat, List.mem_range.mpr ?_, ?_⟩⟩
      · rw [sz_take hk]
        exact hb k (by omega)
      · have := hb n (by omega)
        omega
      · have := hb n (by omega)
        rw [show sz ls n + (((sz r n - sz ls n).toNat : Nat) : Int) = sz r n by omega]
        exact (list_snoc hl).symm
/-! in order -/
def lLt (xs ys : List Int) : Prop := W.listLt xs ys = true
theorem lLt_cons {x y : Int} {xs ys : List Int} : lLt (x :: xs) (y :: ys) ↔ x < y ∨ (x = y ∧ lLt xs ys) := by
  show (if x = y then W.listLt xs ys else decide (x < y)) = true ↔ _
  by_cases h : x = y
  · rw [if_pos h]
    exact ⟨fun z => .inr ⟨h, z⟩, fun z => by rcases z with z | z; omega; exact z.2⟩
  · rw [if_neg h, decide_eq_true_eq]
    exact ⟨fun z => .inl z, fun z => by rcases z with z | z <;> omega⟩
theorem lLt.irrefl : ∀ {xs : List Int}, ¬ lLt xs xs
  | [], h => nomatch h
  | x :: xs, h => by
    rcases lLt_cons.mp h with z | z
    · omega
    · exact lLt.irrefl z.2
theorem lLt.asymm : ∀ {xs ys : List Int}, lLt xs ys → ¬ lLt ys xs
  | [], [], h, _ => nomatch h
  | [], _ :: _, _, h => nomatch h
  | _ :: _, [], h, _ => nomatch h
  | x :: xs, y :: ys, h, g => by
    rcases lLt_cons.mp h with z | z <;> rcases lLt_cons.mp g with w | w
    · omega
    · omega
    · omega
    · exact lLt.asymm z.2 w.2
theorem lLt.le {xs ys : List Int} (h : lLt xs ys) : lLe xs ys := by
  unfold lLe
  cases e : W.listLt ys xs with
  | false => rfl
  | true => exact absurd e h.asymm
theorem lLt.app {us vs : List Int} : ∀ {xs ys : List Int}, xs.length = ys.length → lLt xs ys → lLt (xs ++ us) (ys ++ vs)
  | [], [], _, h => nomatch h
  | [], _ :: _, h, _ => by cases h
  | _ :: _, [], h, _ => by cases h
  | x :: xs, y :: ys, h, g => by
    refine lLt_cons.mpr ?_
    rcases lLt_cons.mp g with z | z
    · exact .inl z
    · exact .inr ⟨z.1, lLt.app (by simpa using h) z.2⟩
theorem lLt.app2 {us vs : List Int} (h : lLt us vs) : ∀ {xs : List Int}, lLt (xs ++ us) (xs ++ vs)
  | [] => h
  | x :: xs => lLt_cons.mpr (.inr ⟨rfl, lLt.app2 h⟩)
theorem rowsN_order {ls hs : List Int} : ∀ n, (rowsN ls hs n).Pairwise lLt
  | 0 => List.pairwise_singleton _ _
  | n + 1 => by
    have ih := rowsN_order (ls := ls) (hs := hs) n
    have hl := rowsN_len (ls := ls) (hs := hs) n
    show (rowStep (rowsN ls hs n) (sz ls n) (sz hs n)).Pairwise lLt
    generalize rowsN ls hs n = rows at ih hl
    induction rows with
    | nil => exact List.Pairwise.nil
    | cons r rows ih2 =>
      rw [show r :: rows = [r] ++ rows from rfl, rowStep_app, rowStep_one]
      rw [List.pairwise_append]
      rw [List.pairwise_cons] at ih
      refine ⟨?_, ih2 ih.2 fun x hx => hl x (List.mem_cons_of_mem _ hx), fun a ha b hb => ?_⟩
      · rw [List.pairwise_map]
        refine List.pairwise_lt_range.imp fun {a b} h => ?_
        exact lLt.app2 (lLt_cons.mpr (.inl (by omega)))
      · obtain ⟨k, _, rfl⟩ := List.mem_map.mp ha
        obtain ⟨r2, h2, h3⟩ := List.mem_flatMap.mp hb
        obtain ⟨k2, _, rfl⟩ := List.mem_map.mp h3
        refine lLt.app ?_ (ih.1 r2 h2)
        rw [hl r (List.mem_cons_self ..), hl r2 (List.mem_cons_of_mem _ h2)]
theorem order_eq {as bs : List (List Int)} (ha : as.Pairwise lLt) (hb : bs.Pairwise lLt) (h : ∀ x, x ∈ as ↔ x ∈ bs) : as = bs := by
  have na : as.Nodup := List.Pairwise.imp (S := fun a b => a ≠ b) (fun {a b} (z : lLt a b) (e : a = b) => lLt.irrefl (xs := b) (by rw [e] at z; exact z)) ha
  have nb : bs.Nodup := List.Pairwise.imp (S := fun a b => a ≠ b) (fun {a b} (z : lLt a b) (e : a = b) => lLt.irrefl (xs := b) (by rw [e] at z; exact z)) hb
  exact List.Perm.eq_of_pairwise (le := lLt) (fun a b _ _ h1 h2 => absurd h2 h1.asymm) ha hb ((List.perm_ext_iff_of_nodup na nb).mpr h)
/-! within -/
theorem withinB_iff : ∀ {n : Nat} {xs ys : List Int}, xs.length = n → ys.length = n → (withinB xs ys = true ↔ ∀ k, k < n → sz xs k ≤ sz ys k)
  | 0, xs, ys, h1, h2 => by
    rw [List.eq_nil_of_length_eq_zero h1, List.eq_nil_of_length_eq_zero h2]
    exact ⟨fun _ k hk => by omega, fun _ => rfl⟩
  | n + 1, [], _, h, _ => by cases h
  | n + 1, _ :: _, [], _, h => by cases h
  | n + 1, x :: xs, y :: ys, h1, h2 => by
    have ih := withinB_iff (n := n) (xs := xs) (ys := ys) (by simpa using h1) (by simpa using h2)
    have e : withinB (x :: xs) (y :: ys) = (decide (x ≤ y) && withinB xs ys) := rfl
    rw [e, Bool.and_eq_true, decide_eq_true_eq, ih]
    refine ⟨fun ⟨a, b⟩ k hk => ?_, fun h => ⟨h 0 (by omega), fun k hk => h (k + 1) (by omega)⟩⟩
    cases k with
    | zero => exact a
    | succ k => exact b k (by omega)
def holdB (rows : List (List Int)) (rch : List Int → Int) (far : Int) (b : List Int) : Bool := ((rows.filter fun r => withinB r b).map fun r => decide (rch r ≤ far)).all id
def maxB (rows : List (List Int)) (b : List Int) : Bool := !((rows.map fun o => decide (b ≠ o) && withinB b o).any id)
theorem holdB_iff {rows : List (List Int)} {rch : List Int → Int} {far : Int} {b : List Int} : holdB rows rch far b = true ↔ ∀ r ∈ rows, withinB r b = true → rch r ≤ far := by
  unfold holdB
  rw [List.all_eq_true]
  refine ⟨fun h r hr hw => ?_, fun h x hx => ?_⟩
  · have := h _ (List.mem_map.mpr ⟨r, List.mem_filter.mpr ⟨hr, hw⟩, rfl⟩)
    exact of_decide_eq_true this
  · obtain ⟨r, hr, rfl⟩ := List.mem_map.mp hx
    obtain ⟨h1, h2⟩ := List.mem_filter.mp hr
    exact decide_eq_true (h r h1 h2)
theorem maxB_iff {rows : List (List Int)} {b : List Int} : maxB rows b = true ↔ ∀ o ∈ rows, withinB b o = true → b = o := by
  unfold maxB
  rw [Bool.not_eq_true', List.any_eq_false]
  refine ⟨fun h o ho hw => ?_, fun h x hx => ?_⟩
  · have := h _ (List.mem_map.mpr ⟨o, ho, rfl⟩)
    rw [hw] at this
    simpa using this
  · obtain ⟨o, ho, rfl⟩ := List.mem_map.mp hx
    by_cases c : withinB b o = true
    · have := h o ho c
      subst this
      simp
    · simp [c]
section
variable {ls hs : List Int} {n j : Nat} {rch : List Int → Int} {far : Int}
/-- b with the greatest numbers from j on -/
def top (hs : List Int) (j : Nat) (b : List Int) : List Int := b.take j ++ hs.drop j
theorem sz_mix {b c : List Int} {j k : Nat} (h : j ≤ b.length) : sz (b.take j ++ c.drop j) k = if k < j then sz b k else sz c k := by
  have hl : (b.take j).length = j := by rw [List.length_take]; omega
  by_cases c : k < j
  · rw [if_pos c, sz_app1 (by omega), sz_take c]
  · rw [if_neg c, sz_app2 (by omega), sz_drop, hl, show j + (k - j) = k by omega]
theorem len_mix {b c : List Int} {j n : Nat} (h1 : b.length = n) (h2 : c.length = n) (hj : j ≤ n) : (b.take j ++ c.drop j).length = n := by
  rw [List.length_append, List.length_take, List.length_drop]
  omega
structure Rch (ls hs : List Int) (n j : Nat) (rch : List Int → Int) : Prop where
  ll : ls.length = n
  lh : hs.length = n
  le : ∀ k, k < n → sz ls k ≤ sz hs k
  jn : j ≤ n
  dep : ∀ r r', r.length = n → r'.length = n → (∀ k, k < j → sz r k = sz r' k) → rch r = rch r'
theorem Rch.top_mem (R : Rch ls hs n j rch) {b : List Int} (h : b ∈ rowsN ls hs n) : top hs j b ∈ rowsN ls hs n := by
  obtain ⟨h1, h2⟩ := mem_rowsN.mp h
  refine mem_rowsN.mpr ⟨len_mix h1 R.lh R.jn, fun k hk => ?_⟩
  unfold top
  rw [sz_mix (by rw [h1]; exact R.jn)]
  split
  · exact h2 k hk
  · exact ⟨R.le k hk, Int.le_refl _⟩
theorem Rch.top_hold (R : Rch ls hs n j rch) {b : List Int} (hb : b ∈ rowsN ls hs n) (h : holdB (rowsN ls hs n) rch far b = true) : holdB (rowsN ls hs n) rch far (top hs j b) = true := by
  rw [holdB_iff] at *
  intro r hr hw
  obtain ⟨b1, b2⟩ := mem_rowsN.mp hb
  obtain ⟨r1, r2⟩ := mem_rowsN.mp hr
  have hj := R.jn
  have hw := (withinB_iff (n := n) (ys := b.take j ++ hs.drop j) r1 (len_mix b1 R.lh hj)).mp hw
  have e : rch r = rch (r.take j ++ b.drop j) := R.dep _ _ r1 (len_mix r1 b1 hj) fun k hk => by
    rw [sz_mix (by omega), if_pos hk]
  rw [e]
  refine h _ (mem_rowsN.mpr ⟨len_mix r1 b1 hj, fun k hk => ?_⟩) ((withinB_iff (n := n) (len_mix r1 b1 hj) b1).mpr fun k hk => ?_)
  · rw [sz_mix (by omega)]
    split
    · exact r2 k hk
    · exact b2 k hk
  · rw [sz_mix (by omega)]
    split
    · rename_i c
      have := hw k hk
      rw [sz_mix (by omega), if_pos c] at this
      exact this
    · exact Int.le_refl _
/-- the greatest that hold, with the greatest numbers from j on, are the greatest of all that hold -/
theorem Rch.greatest (R : Rch ls hs n j rch) (rows' : List (List Int)) (h' : ∀ b, b ∈ rows' ↔ b ∈ rowsN ls hs n ∧ top hs j b = b) (ho : rows'.Pairwise lLt) :
    (rows'.filter (holdB (rowsN ls hs n) rch far)).filter (maxB (rows'.filter (holdB (rowsN ls hs n) rch far))) = ((rowsN ls hs n).filter (holdB (rowsN ls hs n) rch far)).filter (maxB ((rowsN ls hs n).filter (holdB (rowsN ls hs n) rch far))) := by
  refine order_eq ((ho.filter _).filter _) (((rowsN_order n).filter _).filter _) fun b => ?_
  have hj := R.jn
  have wt : ∀ {b}, b ∈ rowsN ls hs n → withinB b (top hs j b) = true := fun {b} hb => by
    obtain ⟨b1, b2⟩ := mem_rowsN.mp hb
    refine (withinB_iff (n := n) b1 (len_mix b1 R.lh hj)).mpr fun k hk => ?_
    rw [sz_mix (by omega)]
    split
    · exact Int.le_refl _
    · exact (b2 k hk).2
  have tt : ∀ {b : List Int}, b.length = n → top hs j (top hs j b) = top hs j b := fun {b} hb => by
    refine ext_sz (len_mix (len_mix hb R.lh hj) R.lh hj) (len_mix hb R.lh hj) fun k hk => ?_
    unfold top
    rw [sz_mix (by rw [len_mix hb R.lh hj]; exact hj), sz_mix (by omega)]
    split <;> rfl
  rw [List.mem_filter, List.mem_filter, List.mem_filter, List.mem_filter, maxB_iff, maxB_iff, h' b]
  constructor
  · rintro ⟨⟨⟨hb, ht⟩, hh⟩, hm⟩
    refine ⟨⟨hb, hh⟩, fun o ho hw => ?_⟩
    obtain ⟨ho, hoh⟩ := List.mem_filter.mp ho
    obtain ⟨b1, b2⟩ := mem_rowsN.mp hb
    obtain ⟨o1, o2⟩ := mem_rowsN.mp ho
    have hw' := (withinB_iff (n := n) b1 o1).mp hw
    have hb' : ∀ k, k < n → ¬ k < j → sz b k = sz hs k := fun k hk c => by
      have e : sz (top hs j b) k = sz hs k := by
        unfold top
        rw [sz_mix (by omega), if_neg c]
      rw [← e, ht]
    have := hm (top hs j o) (List.mem_filter.mpr ⟨(h' _).mpr ⟨R.top_mem ho, tt o1⟩, R.top_hold ho hoh⟩) ((withinB_iff (n := n) b1 (len_mix o1 R.lh hj)).mpr fun k hk => by
      rw [sz_mix (by omega)]
      split
      · exact hw' k hk
      · rename_i c
        rw [hb' k hk c]
        exact Int.le_refl _)
    refine ext_sz b1 o1 fun k hk => ?_
    by_cases c : k < j
    · rw [this]
      unfold top
      rw [sz_mix (by omega), if_pos c]
    · have h1 := hb' k hk c
      have h2 := hw' k hk
      have h3 := (o2 k hk).2
      omega
  · rintro ⟨⟨hb, hh⟩, hm⟩
    have e := hm (top hs j b) (List.mem_filter.mpr ⟨R.top_mem hb, R.top_hold hb hh⟩) (wt hb)
    refine ⟨⟨⟨hb, e.symm⟩, hh⟩, fun o ho hw => ?_⟩
    obtain ⟨ho, hoh⟩ := List.mem_filter.mp ho
    exact hm o (List.mem_filter.mpr ⟨((h' o).mp ho).1, hoh⟩) hw
theorem within_trans {a b c : List Int} {n : Nat} (h1 : a.length = n) (h2 : b.length = n) (h3 : c.length = n) (x : withinB a b = true) (y : withinB b c = true) : withinB a c = true := by
  rw [withinB_iff (n := n)] at * <;> try assumption
  intro k hk
  have := x k hk
  have := y k hk
  omega
theorem sum_within : ∀ {n : Nat} {a b : List Int}, a.length = n → b.length = n → withinB a b = true → a ≠ b → a.sum < b.sum
  | 0, a, b, h1, h2, _, h => absurd (by rw [List.eq_nil_of_length_eq_zero h1, List.eq_nil_of_length_eq_zero h2]) h
  | n + 1, [], _, h, _, _, _ => by cases h
  | n + 1, _ :: _, [], _, h, _, _ => by cases h
  | n + 1, x :: a, y :: b, h1, h2, hw, hne => by
    have e : withinB (x :: a) (y :: b) = (decide (x ≤ y) && withinB a b) := rfl
    rw [e, Bool.and_eq_true, decide_eq_true_eq] at hw
    rw [List.sum_cons, List.sum_cons]
    by_cases c : a = b
    · subst c
      have : x ≠ y := fun q => hne (by rw [q])
      omega
    · have := sum_within (n := n) (by simpa using h1) (by simpa using h2) hw.2 c
      omega
/-- whatever holds is within one of the greatest -/
theorem below_greatest {Hd : List (List Int)} {n : Nat} (hl : ∀ b ∈ Hd, b.length = n) {M : Int} (hM : ∀ b ∈ Hd, b.sum ≤ M) : ∀ (m : Nat) (b : List Int), b ∈ Hd → (M - b.sum).toNat ≤ m → ∃ o ∈ Hd.filter (maxB Hd), withinB b o = true
  | m, b, hb, hm => by
    have wself : withinB b b = true := (withinB_iff (n := n) (hl b hb) (hl b hb)).mpr fun k _ => Int.le_refl _
    by_cases c : maxB Hd b = true
    · exact ⟨b, List.mem_filter.mpr ⟨hb, c⟩, wself⟩
    · rw [maxB_iff] at c
      have : ∃ o ∈ Hd, withinB b o = true ∧ b ≠ o := by
        refine Classical.byContradiction fun z => c fun o ho hw => ?_
        exact Classical.byContradiction fun q => z ⟨o, ho, hw, q⟩
      obtain ⟨o, ho, hw, hne⟩ := this
      have hs := sum_within (hl b hb) (hl o ho) hw hne
      have h1 := hM b hb
      have h2 := hM o ho
      cases m with
      | zero => omega
      | succ m =>
        obtain ⟨o2, h3, h4⟩ := below_greatest hl hM m o ho (by omega)
        exact ⟨o2, h3, within_trans (hl b hb) (hl o ho) (hl o2 (List.mem_filter.mp h3).1) hw h4⟩
theorem exists_max : ∀ (l : List (List Int)), ∃ M : Int, ∀ b ∈ l, b.sum ≤ M
  | [] => ⟨0, fun b hb => nomatch hb⟩
  | x :: l => by
    obtain ⟨M, h⟩ := exists_max l
    refine ⟨max x.sum M, fun b hb => ?_⟩
    rcases List.mem_cons.mp hb with rfl | hb
    · exact Int.le_max_left _ _
    · exact Int.le_trans (h b hb) (Int.le_max_right _ _)
/-- a row holds just if it is within one of the greatest -/
theorem hold_within {b : List Int} (hb : b ∈ rowsN ls hs n) : holdB (rowsN ls hs n) rch far b = ((((rowsN ls hs n).filter (holdB (rowsN ls hs n) rch far)).filter (maxB ((rowsN ls hs n).filter (holdB (rowsN ls hs n) rch far)))).map fun o => withinB b o).any id := by
  have hl : ∀ b ∈ (rowsN ls hs n).filter (holdB (rowsN ls hs n) rch far), b.length = n := fun b hb => rowsN_len n b (List.mem_filter.mp hb).1
  rw [Bool.eq_iff_iff, List.any_eq_true]
  refine ⟨fun h => ?_, fun ⟨x, hx, h⟩ => ?_⟩
  · obtain ⟨M, hM⟩ := exists_max ((rowsN ls hs n).filter (holdB (rowsN ls hs n) rch far))
    obtain ⟨o, ho, hw⟩ := below_greatest hl hM _ b (List.mem_filter.mpr ⟨hb, h⟩) (Nat.le_refl _)
    exact ⟨true, List.mem_map.mpr ⟨o, ho, hw⟩, rfl⟩
  · obtain ⟨o, ho, rfl⟩ := List.mem_map.mp hx
    obtain ⟨ho, _⟩ := List.mem_filter.mp ho
    obtain ⟨ho1, ho2⟩ := List.mem_filter.mp ho
    rw [holdB_iff] at *
    intro r hr hw
    exact ho2 r hr (within_trans (rowsN_len n r hr) (rowsN_len n b hb) (rowsN_len n o ho1) hw h)
end
end MP
end Lk
namespace Lk
open PySem PySem.Spec PyProof.Rows L2
def topS (i : Nat) : Stmt := PySem.Challenge.pw_linklines_k70_whole_bounds.main.body.getD i (.Pass ⟨0, 0, 0, 0⟩)
abbrev s_is_integer : Stmt := topS 2
theorem sc_is_integer : FnScope ["thing"] ["thing"] (defScope s_is_integer) := ⟨rfl, rfl, rfl, by decide +kernel, rfl, by decide +kernel, by decide +kernel⟩
abbrev s_is_natural : Stmt := topS 3
theorem sc_is_natural : FnScope ["thing"] ["thing"] (defScope s_is_natural) := ⟨rfl, rfl, rfl, by decide +kernel, rfl, by decide +kernel, by decide +kernel⟩
abbrev s_is_list : Stmt := topS 4
theorem sc_is_list : FnScope ["thing"] ["thing"] (defScope s_is_list) := ⟨rfl, rfl, rfl, by decide +kernel, rfl, by decide +kernel, by decide +kernel⟩
abbrev s_is_word : Stmt := topS 5
theorem sc_is_word : FnScope ["thing", "sign"] ["thing"] (defScope s_is_word) := ⟨rfl, rfl, rfl, by decide +kernel, rfl, by decide +kernel, by decide +kernel⟩
abbrev s_is_part : Stmt := topS 18
theorem sc_is_part : FnScope ["thing", "page", "met", "word", "rights", "align", "least", "most", "zeros"] ["thing", "page", "met"] (defScope s_is_part) := ⟨rfl, rfl, rfl, by decide +kernel, rfl, by decide +kernel, by decide +kernel⟩
abbrev s_checked_sizes : Stmt := topS 20
theorem sc_checked_sizes : FnScope ["plan", "sizes", "parts", "index", "size"] ["plan", "sizes"] (defScope s_checked_sizes) := ⟨rfl, rfl, rfl, by decide +kernel, rfl, by decide +kernel, by decide +kernel⟩
abbrev s_lifted : Stmt := topS 21
theorem sc_lifted : FnScope ["place", "step", "rest"] ["place", "step", "rest"] (defScope s_lifted) := ⟨rfl, rfl, rfl, by decide +kernel, rfl, by decide +kernel, by decide +kernel⟩
abbrev s_lowest : Stmt := topS 22
theorem sc_lowest : FnScope ["plan", "number", "end", "parts"] ["plan", "number", "end"] (defScope s_lowest) := ⟨rfl, rfl, rfl, by decide +kernel, rfl, by decide +kernel, by decide +kernel⟩
abbrev s_number_of : Stmt := topS 24
theorem sc_number_of : FnScope ["plan", "word", "number", "part"] ["plan", "word"] (defScope s_number_of) := ⟨rfl, rfl, rfl, by decide +kernel, rfl, by decide +kernel, by decide +kernel⟩
abbrev s_checked_two : Stmt := topS 25
theorem sc_checked_two : FnScope ["plan", "one", "other", "first", "second"] ["plan", "one", "other"] (defScope s_checked_two) := ⟨rfl, rfl, rfl, by decide +kernel, rfl, by decide +kernel, by decide +kernel⟩
abbrev s_checked_far : Stmt := topS 26
theorem sc_checked_far : FnScope ["far"] ["far"] (defScope s_checked_far) := ⟨rfl, rfl, rfl, by decide +kernel, rfl, by decide +kernel, by decide +kernel⟩
abbrev s_leasts : Stmt := topS 27
theorem sc_leasts : FnScope ["plan", "part"] ["plan"] (defScope s_leasts) := ⟨rfl, rfl, rfl, by decide +kernel, rfl, by decide +kernel, by decide +kernel⟩
abbrev s_mosts : Stmt := topS 28
theorem sc_mosts : FnScope ["plan", "part"] ["plan"] (defScope s_mosts) := ⟨rfl, rfl, rfl, by decide +kernel, rfl, by decide +kernel, by decide +kernel⟩
abbrev s_rests_at : Stmt := topS 29
theorem sc_rests_at : FnScope ["plan", "number", "bounds", "found", "place", "low", "later", "rest", "total", "row", "size", "goal", "stand"] ["plan", "number", "bounds"] (defScope s_rests_at) := ⟨rfl, rfl, rfl, by decide +kernel, rfl, by decide +kernel, by decide +kernel⟩
abbrev s_address_behind : Stmt := topS 30
theorem sc_address_behind : FnScope ["plan", "first", "second", "start", "sizes", "address", "place"] ["plan", "first", "second", "start", "sizes"] (defScope s_address_behind) := ⟨rfl, rfl, rfl, by decide +kernel, rfl, by decide +kernel, by decide +kernel⟩
abbrev s_reach_at_most : Stmt := topS 31
theorem sc_reach_at_most : FnScope ["plan", "first", "second", "bounds", "rests", "rest"] ["plan", "first", "second", "bounds"] (defScope s_reach_at_most) := ⟨rfl, rfl, rfl, by decide +kernel, rfl, by decide +kernel, by decide +kernel⟩
abbrev s_bounds_hold : Stmt := topS 32
theorem sc_bounds_hold : FnScope ["plan", "bounds", "one", "other", "far", "right", "first", "second"] ["plan", "bounds", "one", "other", "far"] (defScope s_bounds_hold) := ⟨rfl, rfl, rfl, by decide +kernel, rfl, by decide +kernel, by decide +kernel⟩
abbrev s_rows_between : Stmt := topS 33
theorem sc_rows_between : FnScope ["low", "high", "found", "least", "most", "longer", "row", "number"] ["low", "high"] (defScope s_rows_between) := ⟨rfl, rfl, rfl, by decide +kernel, rfl, by decide +kernel, by decide +kernel⟩
abbrev s_is_within : Stmt := topS 34
theorem sc_is_within : FnScope ["one", "other", "number", "most"] ["one", "other"] (defScope s_is_within) := ⟨rfl, rfl, rfl, by decide +kernel, rfl, by decide +kernel, by decide +kernel⟩
abbrev s_greatest_rows : Stmt := topS 35
theorem sc_greatest_rows : FnScope ["rows", "row", "other"] ["rows"] (defScope s_greatest_rows) := ⟨rfl, rfl, rfl, by decide +kernel, rfl, by decide +kernel, by decide +kernel⟩
abbrev s_greatest_bounds : Stmt := topS 36
theorem sc_greatest_bounds : FnScope ["plan", "one", "other", "far", "first", "second", "distance", "behind", "rows", "row"] ["plan", "one", "other", "far"] (defScope s_greatest_bounds) := ⟨rfl, rfl, rfl, by decide +kernel, rfl, by decide +kernel, by decide +kernel⟩
abbrev s_law_source : Stmt := topS 38
theorem sc_law_source : FnScope ["_law_script", "_law_turn", "_law_cell", "_law_seed", "_law_other"] ["_law_script", "_law_turn"] (defScope s_law_source) := ⟨rfl, rfl, rfl, by decide +kernel, rfl, by decide +kernel, by decide +kernel⟩
abbrev s_law_draw : Stmt := topS 39
theorem sc_law_draw : FnScope ["_law_source_here", "_law_many", "_law_found", "_law_mixed_here"] ["_law_source_here", "_law_many"] (defScope s_law_draw) := ⟨rfl, rfl, rfl, by decide +kernel, rfl, by decide +kernel, by decide +kernel⟩
abbrev s_law_pick : Stmt := topS 40
theorem sc_law_pick : FnScope ["_law_source_here", "_law_things"] ["_law_source_here", "_law_things"] (defScope s_law_pick) := ⟨rfl, rfl, rfl, by decide +kernel, rfl, by decide +kernel, by decide +kernel⟩
abbrev s_law_mixed : Stmt := topS 41
theorem sc_law_mixed : FnScope ["_law_source_here", "_law_things", "_law_left", "_law_found"] ["_law_source_here", "_law_things"] (defScope s_law_mixed) := ⟨rfl, rfl, rfl, by decide +kernel, rfl, by decide +kernel, by decide +kernel⟩
abbrev s_law_loose : Stmt := topS 42
theorem sc_law_loose : FnScope ["_law_source_here", "_law_thing", "_law_found", "_law_part"] ["_law_source_here", "_law_thing"] (defScope s_law_loose) := ⟨rfl, rfl, rfl, by decide +kernel, rfl, by decide +kernel, by decide +kernel⟩
abbrev s_law_same : Stmt := topS 43
theorem sc_law_same : FnScope ["_law_found", "_law_due", "_law_x", "_law_y"] ["_law_found", "_law_due"] (defScope s_law_same) := ⟨rfl, rfl, rfl, by decide +kernel, rfl, by decide +kernel, by decide +kernel⟩
abbrev s_law_parts : Stmt := topS 44
theorem sc_law_parts : FnScope ["_law_source_here", "_law_page", "_law_many", "_law_spread", "_law_words", "_law_found", "_law_rights", "_law_word", "_law_least", "_law_zeros", "_law_align", "_law_one", "_law_more"] ["_law_source_here", "_law_page", "_law_many", "_law_spread"] (defScope s_law_parts) := ⟨rfl, rfl, rfl, by decide +kernel, rfl, by decide +kernel, by decide +kernel⟩
abbrev s_law_lowest : Stmt := topS 45
theorem sc_law_lowest : FnScope ["_law_page", "_law_parts_here", "_law_k", "_law_end", "_law_is_border", "_law_place"] ["_law_page", "_law_parts_here", "_law_k", "_law_end"] (defScope s_law_lowest) := ⟨rfl, rfl, rfl, by decide +kernel, rfl, by decide +kernel, by decide +kernel⟩
abbrev s_law_addresses : Stmt := topS 46
theorem sc_law_addresses : FnScope ["_law_page", "_law_parts_here", "_law_sizes", "_law_found", "_law_end", "_law_k", "_law_size"] ["_law_page", "_law_parts_here", "_law_sizes"] (defScope s_law_addresses) := ⟨rfl, rfl, rfl, by decide +kernel, rfl, by decide +kernel, by decide +kernel⟩
abbrev s_law_rows : Stmt := topS 47
theorem sc_law_rows : FnScope ["_law_low", "_law_high", "_law_found", "_law_least", "_law_most", "_law_longer", "_law_row", "_law_number"] ["_law_low", "_law_high"] (defScope s_law_rows) := ⟨rfl, rfl, rfl, by decide +kernel, rfl, by decide +kernel, by decide +kernel⟩
abbrev s_law_all_sizes : Stmt := topS 48
theorem sc_law_all_sizes : FnScope ["_law_parts_here", "_law_part"] ["_law_parts_here"] (defScope s_law_all_sizes) := ⟨rfl, rfl, rfl, by decide +kernel, rfl, by decide +kernel, by decide +kernel⟩
abbrev s_law_few : Stmt := topS 49
theorem sc_law_few : FnScope ["_law_source_here", "_law_most", "_law_page", "_law_many", "_law_found", "_law_whole", "_law_free", "_law_part", "_law_wide", "_law_is_kept"] ["_law_source_here", "_law_most"] (defScope s_law_few) := ⟨rfl, rfl, rfl, by decide +kernel, rfl, by decide +kernel, by decide +kernel⟩
abbrev s_law_is_below : Stmt := topS 50
theorem sc_law_is_below : FnScope ["_law_one", "_law_other", "_law_x", "_law_y"] ["_law_one", "_law_other"] (defScope s_law_is_below) := ⟨rfl, rfl, rfl, by decide +kernel, rfl, by decide +kernel, by decide +kernel⟩
abbrev s_law_reach : Stmt := topS 51
theorem sc_law_reach : FnScope ["_law_page", "_law_parts_here", "_law_first", "_law_second", "_law_sizes", "_law_places"] ["_law_page", "_law_parts_here", "_law_first", "_law_second", "_law_sizes"] (defScope s_law_reach) := ⟨rfl, rfl, rfl, by decide +kernel, rfl, by decide +kernel, by decide +kernel⟩
abbrev s_law : Stmt := topS 52
theorem sc_law : FnScope ["_law_script", "_law_turn", "_law_source_here", "_law_page", "_law_parts_here", "_law_more", "_law_second", "_law_first", "_law_plan", "_law_rows_here", "_law_one", "_law_other", "_law_known", "_law_sizes", "_law_some", "_law_far", "_law_holding", "_law_bounds", "_law_due", "_law_wide", "_law_k", "_law_told"] ["_law_script"] (defScope s_law) := ⟨rfl, rfl, rfl, by decide +kernel, rfl, by decide +kernel, by decide +kernel⟩
abbrev s_BadPage : Stmt := inClass (topS 8) 0
theorem sc_BadPage : FnScope ["self", "thing"] ["self", "thing"] (defScope s_BadPage) := ⟨rfl, rfl, rfl, by decide +kernel, rfl, by decide +kernel, by decide +kernel⟩
abbrev s_BadPart : Stmt := inClass (topS 9) 0
theorem sc_BadPart : FnScope ["self", "index"] ["self", "index"] (defScope s_BadPart) := ⟨rfl, rfl, rfl, by decide +kernel, rfl, by decide +kernel, by decide +kernel⟩
abbrev s_BadSizes : Stmt := inClass (topS 10) 0
theorem sc_BadSizes : FnScope ["self", "index"] ["self", "index"] (defScope s_BadSizes) := ⟨rfl, rfl, rfl, by decide +kernel, rfl, by decide +kernel, by decide +kernel⟩
abbrev s_NoPart : Stmt := inClass (topS 11) 0
theorem sc_NoPart : FnScope ["self", "word"] ["self", "word"] (defScope s_NoPart) := ⟨rfl, rfl, rfl, by decide +kernel, rfl, by decide +kernel, by decide +kernel⟩
abbrev s_NotBehind : Stmt := inClass (topS 12) 0
theorem sc_NotBehind : FnScope ["self", "one", "other"] ["self", "one", "other"] (defScope s_NotBehind) := ⟨rfl, rfl, rfl, by decide +kernel, rfl, by decide +kernel, by decide +kernel⟩
abbrev s_BadFar : Stmt := inClass (topS 13) 0
theorem sc_BadFar : FnScope ["self", "far"] ["self", "far"] (defScope s_BadFar) := ⟨rfl, rfl, rfl, by decide +kernel, rfl, by decide +kernel, by decide +kernel⟩
abbrev s_Plan___init__ : Stmt := inClass (topS 19) 0
theorem sc_Plan___init__ : FnScope ["self", "page", "parts", "met", "ahead", "index", "part"] ["self", "page", "parts"] (defScope s_Plan___init__) := ⟨rfl, rfl, rfl, by decide +kernel, rfl, by decide +kernel, by decide +kernel⟩
abbrev s_Plan_page : Stmt := inClass (topS 19) 1
theorem sc_Plan_page : FnScope ["self"] ["self"] (defScope s_Plan_page) := ⟨rfl, rfl, rfl, by decide +kernel, rfl, by decide +kernel, by decide +kernel⟩
abbrev s_Plan_parts : Stmt := inClass (topS 19) 2
theorem sc_Plan_parts : FnScope ["self"] ["self"] (defScope s_Plan_parts) := ⟨rfl, rfl, rfl, by decide +kernel, rfl, by decide +kernel, by decide +kernel⟩
abbrev s_Plan___eq__ : Stmt := inClass (topS 19) 3
theorem sc_Plan___eq__ : FnScope ["self", "other"] ["self", "other"] (defScope s_Plan___eq__) := ⟨rfl, rfl, rfl, by decide +kernel, rfl, by decide +kernel, by decide +kernel⟩
/-- what is known of an own error class at C with its __init__ at fI -/
structure ErrC (K : PySem.W.Frag) (C fI : Addr) (f : Str) : Prop where
  oex : OexC K C
  xf : XfC K C
  no : PySem.W.findIn K (.ref C) f = some none
  iC : PySem.W.findIn K (.ref C) "__init__" = some (some (.ref fI))
  tI : PySem.W.typeIn K (.ref fI) = some (.type "function")
  te : PySem.W.exmOne K (.ref C) (.ref C) = some true
structure Txt (K : PySem.W.Frag) (mg : Str → Option Value) (ad : Nat → Addr) (ai : Nat → Addr) (fd : Nat → FuncData) : Prop where
  F_is_integer : Fun K "is_integer" "is_integer" s_is_integer (ad 2) (fd 2)
  g_is_integer : mg "is_integer" = some (.ref (ad 2))
  b_is_integer : Binds K (fd 2) ["thing"] []
  F_is_natural : Fun K "is_natural" "is_natural" s_is_natural (ad 3) (fd 3)
  g_is_natural : mg "is_natural" = some (.ref (ad 3))
  b_is_natural : Binds K (fd 3) ["thing"] []
  F_is_list : Fun K "is_list" "is_list" s_is_list (ad 4) (fd 4)
  g_is_list : mg "is_list" = some (.ref (ad 4))
  b_is_list : Binds K (fd 4) ["thing"] []
  F_is_word : Fun K "is_word" "is_word" s_is_word (ad 5) (fd 5)
  g_is_word : mg "is_word" = some (.ref (ad 5))
  b_is_word : Binds K (fd 5) ["thing"] []
  F_is_part : Fun K "is_part" "is_part" s_is_part (ad 18) (fd 18)
  g_is_part : mg "is_part" = some (.ref (ad 18))
  b_is_part : Binds K (fd 18) ["thing", "page", "met"] []
  F_checked_sizes : Fun K "checked_sizes" "checked_sizes" s_checked_sizes (ad 20) (fd 20)
  g_checked_sizes : mg "checked_sizes" = some (.ref (ad 20))
  b_checked_sizes : Binds K (fd 20) ["plan", "sizes"] []
  F_lifted : Fun K "lifted" "lifted" s_lifted (ad 21) (fd 21)
  g_lifted : mg "lifted" = some (.ref (ad 21))
  b_lifted : Binds K (fd 21) ["place", "step", "rest"] []
  F_lowest : Fun K "lowest" "lowest" s_lowest (ad 22) (fd 22)
  g_lowest : mg "lowest" = some (.ref (ad 22))
  b_lowest : Binds K (fd 22) ["plan", "number", "end"] []
  F_number_of : Fun K "number_of" "number_of" s_number_of (ad 24) (fd 24)
  g_number_of : mg "number_of" = some (.ref (ad 24))
  b_number_of : Binds K (fd 24) ["plan", "word"] []
  F_checked_two : Fun K "checked_two" "checked_two" s_checked_two (ad 25) (fd 25)
  g_checked_two : mg "checked_two" = some (.ref (ad 25))
  b_checked_two : Binds K (fd 25) ["plan", "one", "other"] []
  F_checked_far : Fun K "checked_far" "checked_far" s_checked_far (ad 26) (fd 26)
  g_checked_far : mg "checked_far" = some (.ref (ad 26))
  b_checked_far : Binds K (fd 26) ["far"] []
  F_leasts : Fun K "leasts" "leasts" s_leasts (ad 27) (fd 27)
  g_leasts : mg "leasts" = some (.ref (ad 27))
  b_leasts : Binds K (fd 27) ["plan"] []
  F_mosts : Fun K "mosts" "mosts" s_mosts (ad 28) (fd 28)
  g_mosts : mg "mosts" = some (.ref (ad 28))
  b_mosts : Binds K (fd 28) ["plan"] []
  F_rests_at : Fun K "rests_at" "rests_at" s_rests_at (ad 29) (fd 29)
  g_rests_at : mg "rests_at" = some (.ref (ad 29))
  b_rests_at : Binds K (fd 29) ["plan", "number", "bounds"] []
  F_address_behind : Fun K "address_behind" "address_behind" s_address_behind (ad 30) (fd 30)
  g_address_behind : mg "address_behind" = some (.ref (ad 30))
  b_address_behind : Binds K (fd 30) ["plan", "first", "second", "start", "sizes"] []
  F_reach_at_most : Fun K "reach_at_most" "reach_at_most" s_reach_at_most (ad 31) (fd 31)
  g_reach_at_most : mg "reach_at_most" = some (.ref (ad 31))
  b_reach_at_most : Binds K (fd 31) ["plan", "first", "second", "bounds"] []
  F_bounds_hold : Fun K "bounds_hold" "bounds_hold" s_bounds_hold (ad 32) (fd 32)
  g_bounds_hold : mg "bounds_hold" = some (.ref (ad 32))
  b_bounds_hold : Binds K (fd 32) ["plan", "bounds", "one", "other", "far"] []
  F_rows_between : Fun K "rows_between" "rows_between" s_rows_between (ad 33) (fd 33)
  g_rows_between : mg "rows_between" = some (.ref (ad 33))
  b_rows_between : Binds K (fd 33) ["low", "high"] []
  F_is_within : Fun K "is_within" "is_within" s_is_within (ad 34) (fd 34)
  g_is_within : mg "is_within" = some (.ref (ad 34))
  b_is_within : Binds K (fd 34) ["one", "other"] []
  F_greatest_rows : Fun K "greatest_rows" "greatest_rows" s_greatest_rows (ad 35) (fd 35)
  g_greatest_rows : mg "greatest_rows" = some (.ref (ad 35))
  b_greatest_rows : Binds K (fd 35) ["rows"] []
  F_greatest_bounds : Fun K "greatest_bounds" "greatest_bounds" s_greatest_bounds (ad 36) (fd 36)
  g_greatest_bounds : mg "greatest_bounds" = some (.ref (ad 36))
  b_greatest_bounds : Binds K (fd 36) ["plan", "one", "other", "far"] []
  F_law_source : Fun K "_law_source" "_law_source" s_law_source (ad 38) (fd 38)
  g_law_source : mg "_law_source" = some (.ref (ad 38))
  b_law_source : Binds K (fd 38) ["_law_script", "_law_turn"] []
  F_law_draw : Fun K "_law_draw" "_law_draw" s_law_draw (ad 39) (fd 39)
  g_law_draw : mg "_law_draw" = some (.ref (ad 39))
  b_law_draw : Binds K (fd 39) ["_law_source_here", "_law_many"] []
  F_law_pick : Fun K "_law_pick" "_law_pick" s_law_pick (ad 40) (fd 40)
  g_law_pick : mg "_law_pick" = some (.ref (ad 40))
  b_law_pick : Binds K (fd 40) ["_law_source_here", "_law_things"] []
  F_law_mixed : Fun K "_law_mixed" "_law_mixed" s_law_mixed (ad 41) (fd 41)
  g_law_mixed : mg "_law_mixed" = some (.ref (ad 41))
  b_law_mixed : Binds K (fd 41) ["_law_source_here", "_law_things"] []
  F_law_loose : Fun K "_law_loose" "_law_loose" s_law_loose (ad 42) (fd 42)
  g_law_loose : mg "_law_loose" = some (.ref (ad 42))
  b_law_loose : Binds K (fd 42) ["_law_source_here", "_law_thing"] []
  F_law_same : Fun K "_law_same" "_law_same" s_law_same (ad 43) (fd 43)
  g_law_same : mg "_law_same" = some (.ref (ad 43))
  b_law_same : Binds K (fd 43) ["_law_found", "_law_due"] []
  F_law_parts : Fun K "_law_parts" "_law_parts" s_law_parts (ad 44) (fd 44)
  g_law_parts : mg "_law_parts" = some (.ref (ad 44))
  b_law_parts : Binds K (fd 44) ["_law_source_here", "_law_page", "_law_many", "_law_spread"] []
  F_law_lowest : Fun K "_law_lowest" "_law_lowest" s_law_lowest (ad 45) (fd 45)
  g_law_lowest : mg "_law_lowest" = some (.ref (ad 45))
  b_law_lowest : Binds K (fd 45) ["_law_page", "_law_parts_here", "_law_k", "_law_end"] []
  F_law_addresses : Fun K "_law_addresses" "_law_addresses" s_law_addresses (ad 46) (fd 46)
  g_law_addresses : mg "_law_addresses" = some (.ref (ad 46))
  b_law_addresses : Binds K (fd 46) ["_law_page", "_law_parts_here", "_law_sizes"] []
  F_law_rows : Fun K "_law_rows" "_law_rows" s_law_rows (ad 47) (fd 47)
  g_law_rows : mg "_law_rows" = some (.ref (ad 47))
  b_law_rows : Binds K (fd 47) ["_law_low", "_law_high"] []
  F_law_all_sizes : Fun K "_law_all_sizes" "_law_all_sizes" s_law_all_sizes (ad 48) (fd 48)
  g_law_all_sizes : mg "_law_all_sizes" = some (.ref (ad 48))
  b_law_all_sizes : Binds K (fd 48) ["_law_parts_here"] []
  F_law_few : Fun K "_law_few" "_law_few" s_law_few (ad 49) (fd 49)
  g_law_few : mg "_law_few" = some (.ref (ad 49))
  b_law_few : Binds K (fd 49) ["_law_source_here", "_law_most"] []
  F_law_is_below : Fun K "_law_is_below" "_law_is_below" s_law_is_below (ad 50) (fd 50)
  g_law_is_below : mg "_law_is_below" = some (.ref (ad 50))
  b_law_is_below : Binds K (fd 50) ["_law_one", "_law_other"] []
  F_law_reach : Fun K "_law_reach" "_law_reach" s_law_reach (ad 51) (fd 51)
  g_law_reach : mg "_law_reach" = some (.ref (ad 51))
  b_law_reach : Binds K (fd 51) ["_law_page", "_law_parts_here", "_law_first", "_law_second", "_law_sizes"] []
  F_law : Fun K "law" "law" s_law (ad 52) (fd 52)
  g_law : mg "law" = some (.ref (ad 52))
  b_law : Binds K (fd 52) ["_law_script"] []
  F_BadPage : Fun K "__init__" "BadPage.__init__" s_BadPage (ai 8) (fd 8)
  g_BadPage : mg "BadPage" = some (.ref (ad 8))
  b_BadPage : Binds K (fd 8) ["self", "thing"] []
  e_BadPage : ErrC K (ad 8) (ai 8) "thing"
  F_BadPart : Fun K "__init__" "BadPart.__init__" s_BadPart (ai 9) (fd 9)
  g_BadPart : mg "BadPart" = some (.ref (ad 9))
  b_BadPart : Binds K (fd 9) ["self", "index"] []
  e_BadPart : ErrC K (ad 9) (ai 9) "index"
  F_BadSizes : Fun K "__init__" "BadSizes.__init__" s_BadSizes (ai 10) (fd 10)
  g_BadSizes : mg "BadSizes" = some (.ref (ad 10))
  b_BadSizes : Binds K (fd 10) ["self", "index"] []
  e_BadSizes : ErrC K (ad 10) (ai 10) "index"
  F_NoPart : Fun K "__init__" "NoPart.__init__" s_NoPart (ai 11) (fd 11)
  g_NoPart : mg "NoPart" = some (.ref (ad 11))
  b_NoPart : Binds K (fd 11) ["self", "word"] []
  e_NoPart : ErrC K (ad 11) (ai 11) "word"
  F_NotBehind : Fun K "__init__" "NotBehind.__init__" s_NotBehind (ai 12) (fd 12)
  g_NotBehind : mg "NotBehind" = some (.ref (ad 12))
  b_NotBehind : Binds K (fd 12) ["self", "one", "other"] []
  e_NotBehind : ErrC K (ad 12) (ai 12) "one"
  F_BadFar : Fun K "__init__" "BadFar.__init__" s_BadFar (ai 13) (fd 13)
  g_BadFar : mg "BadFar" = some (.ref (ad 13))
  b_BadFar : Binds K (fd 13) ["self", "far"] []
  e_BadFar : ErrC K (ad 13) (ai 13) "far"
  n_all : mg "all" = none
  n_any : mg "any" = none
  n_bool : mg "bool" = none
  n_dict : mg "dict" = none
  n_enumerate : mg "enumerate" = none
  n_int : mg "int" = none
  n_isinstance : mg "isinstance" = none
  n_len : mg "len" = none
  n_list : mg "list" = none
  n_max : mg "max" = none
  n_min : mg "min" = none
  n_range : mg "range" = none
  n_sorted : mg "sorted" = none
  n_str : mg "str" = none
  n_sum : mg "sum" = none
  n_tuple : mg "tuple" = none
  n_zip : mg "zip" = none
  g_LETTERS : ∃ t, mg "LETTERS" = some (.str "abcdefghijklmnopqrstuvwxyz" t)
  g_RIGHTS : mg "RIGHTS" = some (.ref (ad 14))
  q_RIGHTS : ∀ H : Hp, SqT K H (ad 14) [.str "r", .str "rw", .str "rx"]
  g_ALIGNS : mg "ALIGNS" = some (.ref (ad 15))
  q_ALIGNS : ∀ H : Hp, SqT K H (ad 15) [.int 1, .int 2, .int 4, .int 8, .int 16, .int 32, .int 64]
  g_PAGES : mg "PAGES" = some (.ref (ad 17))
  q_PAGES : ∀ H : Hp, SqT K H (ad 17) [.int 8, .int 16, .int 32, .int 64]
  g_Plan : mg "Plan" = some (.ref (ad 19))
  cl_Plan : Cls K (ad 19)
  no_Plan_kept_page : NoAttr K (ad 19) "kept_page"
  no_Plan_kept_parts : NoAttr K (ad 19) "kept_parts"
  F_Plan___init__ : Fun K "__init__" "Plan.__init__" s_Plan___init__ (ai 1380) (fd 1380)
  b_Plan___init__ : Binds K (fd 1380) ["self", "page", "parts"] []
  m_Plan___init__ : Meth K (ad 19) "__init__" (ai 1380)
  F_Plan_page : Fun K "page" "Plan.page" s_Plan_page (ai 1381) (fd 1381)
  b_Plan_page : Binds K (fd 1381) ["self"] []
  m_Plan_page : Meth K (ad 19) "page" (ai 1381)
  F_Plan_parts : Fun K "parts" "Plan.parts" s_Plan_parts (ai 1382) (fd 1382)
  b_Plan_parts : Binds K (fd 1382) ["self"] []
  m_Plan_parts : Meth K (ad 19) "parts" (ai 1382)
  F_Plan___eq__ : Fun K "__eq__" "Plan.__eq__" s_Plan___eq__ (ai 1383) (fd 1383)
  b_Plan___eq__ : Binds K (fd 1383) ["self", "other"] []
  m_Plan___eq__ : Meth K (ad 19) "__eq__" (ai 1383)
  mk_Plan : Mk K (ad 19) (ai 1380)
end Lk
namespace Lk
open PySem PySem.Spec PyProof.Rows L2 RZ
section
variable {P : Program} {w : World} {K : PySem.W.Frag} {mg : Str → Option Value} {base : Heap} {ad ai : Nat → Addr} {fd : Nat → FuncData}
/-! ### is_integer, is_natural, is_list, is_pair, is_word -/
def sp_is_integer (K : PySem.W.Frag) : Sp := fun vs H Q _ => ∃ v t, vs = [v] ∧ HasTy K H v t ∧ Q (.bl (decide (t = .int))) H
theorem ok_is_integer (T : Txt K mg ad ai fd) : FnOk P w K mg base CX0 1 (ad 2) (fd 2) ["thing"] (sp_is_integer K) := by
  refine T.F_is_integer.ok sc_is_integer (fun vs H Q E h => ?_) (fun cdv A outer s H vs Q E hr h => ?_)
  · obtain ⟨v, t, rfl, _⟩ := h
    rfl
  · obtain ⟨v, t, rfl, ht, q⟩ := h
    refine ⟨_, (pss_one (ps_ret (pe_and (pe_callB (call_isinst (K := K)) (by rfl) T.n_isinstance (by decide +kernel) (pa_cons (pv 0) (pa_cons (pe_bltn (v := .ty "int") (by rfl) T.n_int (by decide +kernel) rfl) pa_nil))) (pe_one (pe_not (pe_callB (call_isinst (K := K)) (by rfl) T.n_isinstance (by decide +kernel) (pa_cons (pv 0) (pa_cons (pe_bltn (v := .ty "bool") (by rfl) T.n_bool (by decide +kernel) rfl) pa_nil)))))))), ?_⟩
    refine ⟨v, rfl, v, .ty "int", _, _, _, rfl, .ty "int", ht, kit_tg t .int (by decide), _, rfl, ?_⟩
    cases t
    case int => exact ⟨v, rfl, v, .ty "bool", _, _, _, rfl, .ty "bool", ht, kit_tg .int .bl (by decide), _, rfl, q⟩
    case bl => exact ⟨v, rfl, v, .ty "bool", _, _, _, rfl, .ty "bool", ht, kit_tg .bl .bl (by decide), _, rfl, q⟩
    all_goals exact q
/-- not an int, or one below 0; an int from 0 on -/
def sp_is_natural (K : PySem.W.Frag) : Sp := fun vs H Q _ => ∃ v, vs = [v] ∧ ((∃ t, HasTy K H v t ∧ t ≠ .int ∧ Q (.bl false) H) ∨ ∃ i, v = .int i ∧ Q (.bl (decide (0 ≤ i))) H)
theorem ok_is_natural (T : Txt K mg ad ai fd) : FnOk P w K mg base CX0 2 (ad 3) (fd 3) ["thing"] (sp_is_natural K) := by
  have G_is_integer : FnOk P w K mg base CX0 1 (ad 2) (fd 2) ["thing"] (sp_is_integer K) := ok_is_integer T
  refine T.F_is_natural.ok sc_is_natural (fun vs H Q E h => ?_) (fun cdv A outer s H vs Q E hr h => ?_)
  · obtain ⟨v, rfl, _⟩ := h
    rfl
  · obtain ⟨v, rfl, h⟩ := h
    refine ⟨_, (pss_one (ps_ret (pe_and (pe_call G_is_integer (hr.mono (by decide)) (by rfl) T.g_is_integer T.F_is_integer.kp T.b_is_integer .nil pass0 (pa_cons (pv 0) pa_nil)) (pe_one (pe_cmpR op_ge (pv 0) pe_int (nomark _)))))), ?_⟩
    rcases h with ⟨t, ht, hn, q⟩ | ⟨i, rfl, q⟩
    · refine ⟨v, rfl, v, t, rfl, ht, _, rfl, ?_⟩
      rw [decide_eq_false hn]
      exact q
    · exact ⟨_, rfl, _, .int, rfl, hasTy_int, _, rfl, _, rfl, i, 0, rfl, rfl, q⟩
def sp_is_list (K : PySem.W.Frag) : Sp := fun vs H Q _ => ∃ v t, vs = [v] ∧ HasTy K H v t ∧ ∀ H', Same H H' → Q (.bl t.seq) H'
theorem ok_is_list (T : Txt K mg ad ai fd) : FnOk P w K mg base CX0 1 (ad 4) (fd 4) ["thing"] (sp_is_list K) := by
  refine T.F_is_list.ok sc_is_list (fun vs H Q E h => ?_) (fun cdv A outer s H vs Q E hr h => ?_)
  · obtain ⟨v, t, rfl, _⟩ := h
    rfl
  · obtain ⟨v, t, rfl, ht, q⟩ := h
    refine ⟨_, (pss_one (ps_ret (pe_callB (call_isinstT (K := K)) (by rfl) T.n_isinstance (by decide +kernel) (pa_cons (pv 0) (pa_cons (pe_tup (pa_cons (pe_bltn (v := .ty "list") (by rfl) T.n_list (by decide +kernel) rfl) (pa_cons (pe_bltn (v := .ty "tuple") (by rfl) T.n_tuple (by decide +kernel) rfl) pa_nil))) pa_nil))))), ?_⟩
    refine ⟨v, rfl, by show 2 ≤ sizeLine; decide, fun p hp => ?_⟩
    have sm : Same H (upd H p (.tup [.ty "list", .ty "tuple"])) := same_new hp
    refine ⟨v, p, _, _, [.type "list", .type "tuple"], t.seq, rfl, upd_same, .cons (.ty "list") (.cons (.ty "tuple") .nil), sm.ty ht, ?_, q _ sm⟩
    cases t
    all_goals exact kitAny_cons (kit_tg _ .lst (by decide)) (fun _ => kitAny_cons (kit_tg _ .tup (by decide)) (fun _ => by first | rfl | contradiction) (fun z => by first | rfl | cases z)) (fun z => by first | rfl | cases z)
theorem is_list_yes {H : Hp} {a : Addr} {xs : List V} {Q : VK} {E : XK} (h : Sq K H a xs) (q : ∀ H', Same H H' → Q (.bl true) H') : sp_is_list K [.ref a] H Q E := by
  obtain ⟨t, ht, e⟩ := h.tys
  refine ⟨_, t, rfl, ht, ?_⟩
  rw [e]
  exact q
/-- a list or tuple of two -/
def sp_is_pair (K : PySem.W.Frag) : Sp := fun vs H Q _ => ∃ v, vs = [v] ∧ ((∃ t, HasTy K H v t ∧ t.seq = false ∧ ∀ H', Same H H' → Q (.bl false) H') ∨ ∃ a xs, v = .ref a ∧ Sq K H a xs ∧ ∀ H', Same H H' → Q (.bl (decide (xs.length = 2))) H')
/-- one to eight letters -/
def letB (c : Nat) : Bool := !(Builtin.Str.occurrences "abcdefghijklmnopqrstuvwxyz" ⟨#[c]⟩ 0 (Str.length "abcdefghijklmnopqrstuvwxyz") 1).isEmpty
def WordOk (z : Str) : Prop := 1 ≤ z.length ∧ z.length ≤ 8 ∧ ∀ c ∈ z.cps.toList, letB c = true
def sp_is_word : Sp := fun vs H Q _ => ∃ z, vs = [.str z] ∧ WordOk z ∧ ∀ H', Same H H' → Q (.bl true) H'
theorem ok_is_word (T : Txt K mg ad ai fd) : FnOk P w K mg base CX0 1 (ad 5) (fd 5) ["thing"] (sp_is_word) := by
  refine T.F_is_word.ok sc_is_word (fun vs H Q E h => ?_) (fun cdv A outer s H vs Q E hr h => ?_)
  · obtain ⟨z, rfl, _⟩ := h
    rfl
  · obtain ⟨z, rfl, ⟨l1, l2, hc⟩, q⟩ := h
    refine ⟨_, (pss_one (ps_ret (pe_and (pe_callB (call_isinst (K := K)) (by rfl) T.n_isinstance (by decide +kernel) (pa_cons (pv 0) (pa_cons (pe_bltn (v := .ty "str") (by rfl) T.n_str (by decide +kernel) rfl) pa_nil))) (pe_and (pe_chain op_le op_le pe_int (pe_callB call_len_str (by rfl) T.n_len (by decide +kernel) (pa_cons (pv 0) pa_nil)) pe_int) (pe_one (pe_callB (call_all (K := K) rfl) (by rfl) T.n_all (by decide +kernel) (pa_cons (pe_lc (own := [("sign", 1)]) rfl sc_is_word.nd (pi_str (pv 0)) (blkOk_by (N := ["thing", "sign"]) (sc := defScope s_is_word) (by decide +kernel)) (fun _ _ _ _ _ => (pg_name (i := 1) sc_is_word.nd rfl (.inl rfl))) (fun _ _ _ _ _ => pts_nil) (fun _ _ _ _ _ => (pe_cmpR op_in_str (pv 1) (pe_glob (v := .str _) (by rfl) T.g_LETTERS.choose_spec ⟨_, rfl⟩) rfl))) pa_nil))))))), ?_⟩
    refine ⟨_, rfl, _, .ty "str", _, _, _, rfl, .ty "str", hasTy_str, kit_tg .str .str (by decide), _, rfl, ?_⟩
    refine ⟨_, rfl, _, rfl, by rw [sizeLine_eq]; omega, _, _, rfl, rfl, _, rfl, ?_⟩
    rw [decide_eq_true (by omega : (1 : Int) ≤ (z.length : Int))]
    refine ⟨_, _, rfl, rfl, _, rfl, ?_⟩
    rw [decide_eq_true (by omega : (z.length : Int) ≤ 8)]
    refine ⟨_, rfl, _, rfl, fun D hD => ?_⟩
    refine lc_it walk_str (PvV H ((z.cps.toList.map fun _ => true).map V.bl) D) (vals0 hD) (fun _ _ _ _ => trivial) ?_ ?_
    · rintro i x H1 H2 hi pv ⟨rfl, c, ec, rfl⟩
      refine ⟨rfl, ?_⟩
      refine ⟨_, rfl, _, _, rfl, rfl, ?_⟩
      have ec2 : z.cps.toList[i]? = some c := by rw [Array.getElem?_toList]; exact ec
      have e : letB c = true := hc c (List.mem_of_getElem? ec2)
      show ∃ acc, H2 D = some (.lst acc) ∧ acc.length < sizeLine ∧ PvV H _ D (i + 1) (upd H2 D (.lst (acc ++ [.bl (letB c)])))
      rw [e]
      exact vals_step pv hD (Same.refl _) (at_map (at_map ec2)) (by rw [List.length_map, List.length_map, Array.length_toList]; have : z.length = z.cps.size := rfl; omega)
    · intro H1 pv
      obtain ⟨s1, hd1⟩ := valsE pv (by rw [List.length_map, List.length_map, Array.length_toList])
      refine ⟨D, _, rfl, sqL_of hd1, ?_⟩
      have e : (z.cps.toList.map fun _ => true).all id = true := by simp
      rw [e]
      exact q _ s1
end
end Lk
namespace Lk
open PySem PySem.Spec PyProof.Rows L2 RZ
section
variable {P : Program} {w : World} {K : PySem.W.Frag} {mg : Str → Option Value} {base : Heap} {ad ai : Nat → Addr} {fd : Nat → FuncData}
/-! ### the draws -/
def sp_draw : Sp := fun vs H Q _ => ∃ p m n, vs = [.ref p, .int m] ∧ Pool H p n ∧ n ≤ 1000000 ∧ 1 ≤ m ∧ m ≤ 1000000 ∧ ∀ r o, 0 ≤ r → r < m → Pool (upd H p o) p (n + 1) → Q (.int r) (upd H p o)
theorem ok_draw (T : Txt K mg ad ai fd) : FnOk P w K mg base CX0 1 (ad 39) (fd 39) ["_law_source_here", "_law_many"] (sp_draw) := by
  refine T.F_law_draw.ok sc_law_draw (fun vs H Q E h => ?_) (fun cdv A outer s H vs Q E hr h => ?_)
  · obtain ⟨p, m, n, rfl, _⟩ := h
    rfl
  · obtain ⟨p, m, n, rfl, ⟨a, b, c, hp, ha, hb, hb2, hc, hc2⟩, hn, hm, hm2, q⟩ := h
    refine ⟨_, (pss_cons (ps_if (pt_cmpR op_gt (pe_ix (ix_seq (K := K)) (pv 0) pe_int (fun _ _ => rfl)) pe_int (nomark _)) (pss_cons (ps_set (i := 2) sc_law_draw.nd rfl (.inl rfl) (pe_op op_modN (pe_callTy call_int1 (by rfl) T.n_int (by decide +kernel) (pa_cons (pe_ix (ix_seq (K := K)) (pv 0) pe_int (fun _ _ => rfl)) pa_nil)) (pv 1)))
          (pss_cons (ps_asg (pe_op op_fdivN (pe_ix (ix_seq (K := K)) (pv 0) pe_int (fun _ _ => rfl)) (pv 1)) (pg_sub (pv 0) pe_int set_list))
          (pss_one (ps_ret (pv 2))))) pss_nil)
      (pss_cons (ps_asg (pe_op op_add (pe_ix (ix_seq (K := K)) (pv 0) pe_int (fun _ _ => rfl)) pe_int) (pg_sub (pv 0) pe_int set_list))
      (pss_cons (ps_set (i := 3) sc_law_draw.nd rfl (.inl rfl) (pe_op op_modN (pe_op op_pow (pe_callTy call_int1 (by rfl) T.n_int (by decide +kernel) (pa_cons (pe_op op_add (pe_ix (ix_seq (K := K)) (pv 0) pe_int (fun _ _ => rfl)) (pe_op op_mul pe_int (pe_ix (ix_seq (K := K)) (pv 0) pe_int (fun _ _ => rfl)))) pa_nil)) pe_int) pe_int))
      (pss_one (ps_ret (pe_op op_modN (pe_op op_fdivN (pe_op op_modN (pe_callTy call_int1 (by rfl) T.n_int (by decide +kernel) (pa_cons (pe_op op_mul (pe_op op_add (pv 3) (pe_ix (ix_seq (K := K)) (pv 0) pe_int (fun _ _ => rfl))) pe_int) pa_nil)) pe_int) pe_int) (pv 1))))))), ?_⟩
    refine ⟨_, rfl, ixS (j := 0) (sq_lst hp) rfl ?_⟩
    refine ⟨_, _, rfl, rfl, _, rfl, ?_⟩
    by_cases c0 : 0 < a
    · rw [decide_eq_true c0]
      refine ⟨_, rfl, ixS (j := 0) (sq_lst hp) rfl ?_⟩
      refine .inl ⟨_, rfl, ?_⟩
      refine ⟨_, rfl, _, _, rfl, rfl, (by omega : m ≠ 0), ?_⟩
      refine ⟨_, rfl, ixS (j := 0) (sq_lst hp) rfl ?_⟩
      refine ⟨_, rfl, _, _, rfl, rfl, ⟨by omega, by omega⟩, ?_⟩
      refine ⟨_, rfl, p, _, _, 0, rfl, rfl, hp, rfl, ?_⟩
      refine ⟨_, rfl, q _ _ (fmod_lo (by omega)) (fmod_hi (by omega)) ?_⟩
      exact ⟨_, b, c, upd_same, fdiv_lo ha (by omega), hb, hb2, hc, by omega⟩
    · rw [decide_eq_false c0]
      refine ⟨_, rfl, ixS (j := 2) (sq_lst hp) rfl ?_⟩
      refine ⟨_, _, rfl, rfl, ?_⟩
      refine ⟨_, rfl, p, _, _, 2, rfl, rfl, hp, rfl, ?_⟩
      have hp2 : upd H p (.lst [.int a, .int b, .int (c + 1)]) p = some (.lst [.int a, .int b, .int (c + 1)]) := upd_same
      have hq := fun r h1 h2 => q r (.lst [.int a, .int b, .int (c + 1)]) h1 h2 ⟨a, b, c + 1, upd_same, ha, hb, hb2, by omega, by omega⟩
      refine ⟨_, rfl, ixS (j := 1) (sq_lst hp2) rfl ?_⟩
      refine ⟨_, rfl, ixS (j := 2) (sq_lst hp2) rfl ?_⟩
      refine ⟨_, _, rfl, rfl, .inl ⟨by decide, by decide⟩, ?_⟩
      refine ⟨_, _, rfl, rfl, ?_⟩
      refine .inl ⟨_, rfl, ?_⟩
      refine ⟨_, _, rfl, rfl, ⟨by decide, by decide, ?_⟩, ?_⟩
      · omega
      refine ⟨_, _, rfl, rfl, (by decide : (2147483647 : Int) ≠ 0), ?_⟩
      refine ⟨_, rfl, _, rfl, ixS (j := 2) (sq_lst hp2) rfl ?_⟩
      refine ⟨_, _, rfl, rfl, _, _, rfl, rfl, .inr ⟨by decide, by decide⟩, ?_⟩
      refine .inl ⟨_, rfl, ?_⟩
      refine ⟨_, _, rfl, rfl, (by decide : (2147483629 : Int) ≠ 0), ?_⟩
      refine ⟨_, _, rfl, rfl, ⟨by decide, by decide⟩, ?_⟩
      refine ⟨_, rfl, _, _, rfl, rfl, (by omega : m ≠ 0), ?_⟩
      exact hq _ (fmod_lo (by omega)) (fmod_hi (by omega))
def sp_source (K : PySem.W.Frag) : Sp := fun vs H Q _ => ∃ (a : Addr) (ns : List Int) (k : Int), vs = [.ref a, .int k] ∧ SqL K H a (ns.map V.int) ∧ 0 ≤ k ∧ k ≤ 100 ∧ ∀ H' p, Same H H' → H p = none → Pool H' p 0 → Q (.ref p) H'
/-- what follows a value of ints, whatever it is -/
theorem te_int {t : TE} {σ : L2.St} {H : Hp} {Q : VK} (h : ∀ Qr : VK, (∀ (c : Int) (H1 : Hp), Same H H1 → Qr (.int c) H1) → t σ H Qr) (k : ∀ (c : Int) (H1 : Hp), Same H H1 → Q (.int c) H1) : t σ H Q := h Q k
theorem Pool.mk0 {H : Hp} {p : Addr} {x y : Int} (h : H p = some (.lst [.int x, .int y, .int 0])) (hx : 0 ≤ x) (h1 : 0 ≤ y) (h2 : y < 2147483647) : Pool H p 0 := ⟨x, y, 0, h, hx, h1, h2, by omega, by omega⟩
theorem ok_source (T : Txt K mg ad ai fd) : FnOk P w K mg base CX0 1 (ad 38) (fd 38) ["_law_script", "_law_turn"] (sp_source K) := by
  refine T.F_law_source.ok sc_law_source (fun vs H Q E h => ?_) (fun cdv A outer s H vs Q E hr h => ?_)
  · obtain ⟨a, ns, k, rfl, _⟩ := h
    rfl
  · obtain ⟨a, ns, k, rfl, hs, hk, hk2, q⟩ := h
    refine ⟨_, (pss_cons (ps_set (i := 2) sc_law_source.nd rfl (.inl rfl) (pe_ifExp (pt_cmpR op_lt (pv 1) (pe_callB (call_len (K := K)) (by rfl) T.n_len (by decide +kernel) (pa_cons (pv 0) pa_nil)) (nomark _)) (pe_ix (ix_seq (K := K)) (pv 0) (pv 1) (fun _ _ => rfl)) (pe_op op_add (pe_op op_add (pe_op op_modN (pe_callTy call_int1 (by rfl) T.n_int (by decide +kernel) (pa_cons (pe_callB (call_sum (K := K) rfl) (by rfl) T.n_sum (by decide +kernel) (pa_cons (pe_slice (sl_lst (K := K)) (pv 0) po_none (po_some pe_int)) pa_nil)) pa_nil)) pe_int) (pe_op op_mul pe_int (pv 1))) pe_int)))
      (pss_cons (ps_set (i := 3) sc_law_source.nd rfl (.inl rfl) (pe_op op_add (pe_op op_mul pe_int (pv 1)) pe_int))
      (pss_cons (ps_for PassesOwn.never rfl (pi_seq (K := K) (pv 0)) (pg_name (i := 4) sc_law_source.nd rfl (.inl rfl))
          (pss_one (ps_set (i := 3) sc_law_source.nd rfl (.inl rfl) (pe_op op_modN (pe_callTy call_int1 (by rfl) T.n_int (by decide +kernel) (pa_cons (pe_op op_add (pe_op op_mul (pv 3) pe_int) (pv 4)) pa_nil)) pe_int))))
      (pss_one (ps_ret (pe_lst (pa_cons (pe_ifExp (pt_cmpR op_ge (pv 2) (pe_op op_pow pe_int pe_int) (nomark _)) (pe_op op_fdivN (pv 2) pe_int) pe_int) (pa_cons (pe_op op_modN (pe_callTy call_int1 (by rfl) T.n_int (by decide +kernel) (pa_cons (pe_op op_add (pv 3) (pe_op op_mul pe_int (pv 2))) pa_nil)) pe_int) (pa_cons pe_int pa_nil))))))))), ?_⟩
    refine te_int (t := tIf _ _ _) (fun Qr hq => ?_) (fun cell H1 s1 => ?_)
    · refine ⟨_, rfl, _, rfl, _, _, rfl, .inl hs, _, _, rfl, rfl, _, rfl, ?_⟩
      refine ite2 (fun c => ?_) (fun c => ?_)
      · have hlt : k < ((ns.map V.int).length : Int) := of_decide_eq_true c
        rw [List.length_map] at hlt
        have hkn : k.toNat < ns.length := by omega
        have ek : k = ((k.toNat : Nat) : Int) := (Int.toNat_of_nonneg hk).symm
        refine ⟨_, rfl, _, rfl, ?_⟩
        show rIxS K (.ref a) (.int k) _ _
        rw [ek]
        refine ixS (j := k.toNat) (.inl hs) (by rw [List.getElem?_map, List.getElem?_eq_getElem hkn]; rfl) ?_
        exact hq _ _ (Same.refl _)
      · refine ⟨_, rfl, _, rfl, _, _, rfl, hs, fun c nc => ?_⟩
        obtain ⟨ms, em⟩ := cutV_map ns none (some 1)
        rw [em]
        refine ⟨_, ms, rfl, sqL_of upd_same, ?_⟩
        refine .inl ⟨_, rfl, ?_⟩
        refine ⟨_, _, rfl, rfl, (by decide : (1000003 : Int) ≠ 0), ?_⟩
        refine ⟨_, rfl, _, _, rfl, rfl, .inl ⟨by decide, by decide⟩, ?_⟩
        refine ⟨_, _, rfl, rfl, ?_⟩
        refine ⟨_, _, rfl, rfl, ?_⟩
        exact hq _ _ (same_new nc)
    refine ⟨_, rfl, _, _, rfl, rfl, .inl ⟨by decide, by decide⟩, ?_⟩
    refine ⟨_, _, rfl, rfl, ?_⟩
    refine ⟨_, rfl, for_seq (K := K) (.inl (s1.seq hs)) (fun i σ H' => (∃ b y, σ = [some (.ref a), some (.int k), some (.int cell), some (.int b), y] ∧ 0 ≤ b ∧ b < 2147483647) ∧ H' = H1) ⟨⟨_, _, rfl, by omega, by omega⟩, rfl⟩ (fun i σ H' h => by rw [h.2]; exact KeepsAt.refl) ?_ ?_⟩
    · rintro i x σ H' hx ⟨⟨b, y, rfl, b0, b1⟩, rfl⟩
      obtain ⟨z, hz, rfl⟩ := map_at hx
      refine ⟨_, rfl, _, _, rfl, rfl, .inl ⟨by omega, by omega⟩, ?_⟩
      refine ⟨_, rfl, _, _, rfl, rfl, ?_⟩
      refine .inl ⟨_, rfl, ?_⟩
      refine ⟨_, _, rfl, rfl, (by decide : (2147483629 : Int) ≠ 0), ?_⟩
      have h1 := fmod_lo (a := b * 41 + z) (b := 2147483629) (by omega)
      have h2 := fmod_hi (a := b * 41 + z) (b := 2147483629) (by omega)
      exact ⟨⟨_, _, rfl, h1, by omega⟩, rfl⟩
    · rintro σ H' ⟨⟨b, y, rfl, b0, b1⟩, rfl⟩
      have fin : ∀ z : Int, 0 ≤ z → ∀ b : Int, 0 ≤ b → b < 2147483629 → [V.int z, V.int b, V.int 0].length ≤ sizeLine ∧ ∀ p, H' p = none → Q (.ref p) (upd H' p (.lst [V.int z, V.int b, V.int 0])) := by
        intro z hz b hb hb2
        refine ⟨by show 3 ≤ sizeLine; decide, fun p np => ?_⟩
        exact q _ p (s1.new np) (s1.free np) (Pool.mk0 upd_same hz hb (by omega))
      refine ⟨_, rfl, _, _, rfl, rfl, ⟨by decide, by decide, by decide⟩, _, _, rfl, rfl, _, rfl, ?_⟩
      refine ite2 (fun c => ?_) (fun c => ?_)
      · have c1 := of_decide_eq_true c
        refine ⟨_, rfl, _, _, rfl, rfl, ⟨by decide, by decide⟩, ?_⟩
        refine ⟨_, rfl, _, rfl, _, _, rfl, rfl, .inl ⟨by decide, by decide⟩, _, _, rfl, rfl, .inl ⟨_, rfl, _, _, rfl, rfl, (by decide : (2147483629 : Int) ≠ 0), ?_⟩⟩
        refine fin _ (fdiv_lo ?_ (by omega)) _ (fmod_lo (by omega)) (fmod_hi (by omega))
        exact Int.le_trans (by decide) c1
      · refine ⟨_, rfl, _, rfl, _, _, rfl, rfl, .inl ⟨by decide, by decide⟩, _, _, rfl, rfl, .inl ⟨_, rfl, _, _, rfl, rfl, (by decide : (2147483629 : Int) ≠ 0), ?_⟩⟩
        exact fin _ (Int.le_refl 0) _ (fmod_lo (by omega)) (fmod_hi (by omega))
/-- one of the things -/
def sp_pick (K : PySem.W.Frag) : Sp := fun vs H Q _ => ∃ p a xs n, vs = [.ref p, .ref a] ∧ Pool H p n ∧ n ≤ 1000000 ∧ Sq K H a xs ∧ a ≠ p ∧ 1 ≤ xs.length ∧ xs.length ≤ 1000 ∧ ∀ x o, x ∈ xs → Pool (upd H p o) p (n + 1) → Q x (upd H p o)
theorem ok_pick (T : Txt K mg ad ai fd) : FnOk P w K mg base CX0 2 (ad 40) (fd 40) ["_law_source_here", "_law_things"] (sp_pick K) := by
  have G_law_draw : FnOk P w K mg base CX0 1 (ad 39) (fd 39) ["_law_source_here", "_law_many"] (sp_draw) := ok_draw T
  refine T.F_law_pick.ok sc_law_pick (fun vs H Q E h => ?_) (fun cdv A outer s H vs Q E hr h => ?_)
  · obtain ⟨p, a, xs, n, rfl, _⟩ := h
    rfl
  · obtain ⟨p, a, xs, n, rfl, hp, hn, hs, hne, h1, h2, q⟩ := h
    refine ⟨_, (pss_one (ps_ret (pe_ix (ix_seq (K := K)) (pv 1) (pe_call G_law_draw (hr.mono (by decide)) (by rfl) T.g_law_draw T.F_law_draw.kp T.b_law_draw .nil pass0 (pa_cons (pv 0) (pa_cons (pe_callB (call_len (K := K)) (by rfl) T.n_len (by decide +kernel) (pa_cons (pv 1) pa_nil)) pa_nil))) (fun _ _ => rfl)))), ?_⟩
    refine ⟨_, rfl, _, rfl, _, rfl, _, _, rfl, hs, ?_⟩
    refine ⟨p, _, n, rfl, hp, hn, by omega, by omega, fun r o r0 r1 hp2 => ?_⟩
    have er : r = ((r.toNat : Nat) : Int) := (Int.toNat_of_nonneg r0).symm
    have hlt : r.toNat < xs.length := by omega
    rw [er]
    refine ixS (j := r.toNat) (KeepsAt.sq (SameBut.at_.keeps hne) hs) (List.getElem?_eq_getElem hlt) ?_
    exact q _ o (List.getElem_mem hlt) hp2
/-- the things in any order -/
def sp_mixed (K : PySem.W.Frag) : Sp := fun vs H Q _ => ∃ p a xs n, vs = [.ref p, .ref a] ∧ Pool H p n ∧ Sq K H a xs ∧ xs.length ≤ 1000 ∧ n + xs.length ≤ 1000000 ∧ ∀ H' l ys, SameBut p H H' → Pool H' p (n + xs.length) → H l = none → ys.Perm xs → H' l = some (.lst ys) → Q (.ref l) H'
theorem ok_mixed (T : Txt K mg ad ai fd) : FnOk P w K mg base CX0 2 (ad 41) (fd 41) ["_law_source_here", "_law_things"] (sp_mixed K) := by
  have G_law_draw : FnOk P w K mg base CX0 1 (ad 39) (fd 39) ["_law_source_here", "_law_many"] (sp_draw) := ok_draw T
  refine T.F_law_mixed.ok sc_law_mixed (fun vs H Q E h => ?_) (fun cdv A outer s H vs Q E hr h => ?_)
  · obtain ⟨p, a, xs, n, rfl, _⟩ := h
    rfl
  · obtain ⟨p, a, xs, n, rfl, hp, hs, hl, hn, q⟩ := h
    refine ⟨_, (pss_cons (ps_par (i := 2) (j := 3) (by rfl) sc_law_mixed.nd rfl rfl (by decide) rfl rfl (pa_cons (pe_callTy (call_list (K := K)) (by rfl) T.n_list (by decide +kernel) (pa_cons (pv 1) pa_nil)) (pa_cons (pe_lst pa_nil) pa_nil)) (by rfl))
      (pss_cons (ps_while PassesOwn.never (pt_cmpR (op_neNil (K := K) (hu_of hr)) (pv 2) (pe_lst pa_nil) (nomark _))
          (pss_one (ps_expr (pe_bmK (K := K) PySem.F.plainAttrs_list PySem.F.slot_list_append PySem.F.type_list_append mt_append (pv 3) (pa_cons (pe_bmK (K := K) PySem.F.plainAttrs_list PySem.F.slot_list_pop PySem.F.type_list_pop mt_popAt (pv 2) (pa_cons (pe_call G_law_draw (hr.mono (by decide)) (by rfl) T.g_law_draw T.F_law_draw.kp T.b_law_draw .nil pass0 (pa_cons (pv 0) (pa_cons (pe_callB (call_len (K := K)) (by rfl) T.n_len (by decide +kernel) (pa_cons (pv 2) pa_nil)) pa_nil))) pa_nil)) pa_nil)))))
      (pss_one (ps_ret (pv 3))))), ?_⟩
    refine ⟨_, rfl, a, xs, rfl, hs, fun l nl => ?_⟩
    have s1 : Same H (upd H l (.lst xs)) := same_new nl
    have hl1 : upd H l (.lst xs) l = some (.lst xs) := upd_same
    dsimp only [tNil]
    generalize upd H l (.lst xs) = H1 at s1 hl1 ⊢
    refine ⟨by show 0 ≤ sizeLine; decide, fun D nD => ?_⟩
    have s2 : Same H1 (upd H1 D (.lst [])) := same_new nD
    have hD2 : upd H1 D (.lst []) D = some (.lst []) := upd_same
    dsimp only [tNil]
    generalize upd H1 D (.lst []) = H2 at s2 hD2 ⊢
    obtain ⟨ps0, hps0⟩ := hp.at_
    have lp : l ≠ p := fun e => by
      rw [e, hps0] at nl
      cases nl
    have nDH : H D = none := s1.free nD
    have Dp : D ≠ p := fun e => by
      rw [e, hps0] at nDH
      cases nDH
    have Dl : D ≠ l := fun e => by
      rw [e, hl1] at nD
      cases nD
    have s12 := s1.trans s2
    refine ⟨_, _, rfl, ?_⟩
    refine ⟨fun m σ H' => σ = [some (.ref p), some (.ref a), some (.ref l), some (.ref D)] ∧ ∃ acc rem, m = rem.length ∧ SameBut p H H' ∧ Pool H' p (n + acc.length) ∧ H' D = some (.lst acc) ∧ H' l = some (.lst rem) ∧ (acc ++ rem).Perm xs, ⟨_, rfl, [], xs, rfl, s12.but, hp.keeps s12.keeps, hD2, s2 _ _ hl1, .refl _⟩, ?_⟩
    rintro m σ H3 ⟨rfl, acc, rem, rfl, sb, hp3, hd3, hl3, pm⟩
    have hlen : acc.length + rem.length = xs.length := by
      have := pm.length_eq
      rw [List.length_append] at this
      exact this
    refine ⟨_, rfl, by show 0 ≤ sizeLine; decide, fun e ne => ?_⟩
    have s4 : Same H3 (upd H3 e (.lst [])) := same_new ne
    have he4 : upd H3 e (.lst []) e = some (.lst []) := upd_same
    dsimp only [tNil]
    generalize upd H3 e (.lst []) = H4 at s4 he4 ⊢
    refine ⟨_, _, _, rfl, rfl, sqL_of (s4 _ _ hl3), sqL_of he4, _, rfl, ?_⟩
    cases rem with
    | nil =>
      rw [List.append_nil] at pm
      refine ⟨_, rfl, ?_⟩
      refine q H4 D acc (sb.trans s4.but) ?_ nDH pm (s4 _ _ hd3)
      rw [← hlen]
      exact hp3.keeps s4.keeps
    | cons y0 rem0 =>
      generalize hrem : y0 :: rem0 = rem at *
      have hr1 : 1 ≤ rem.length := by rw [← hrem]; simp
      have hemp : (!rem.isEmpty) = true := by rw [← hrem]; rfl
      rw [hemp]
      refine ⟨fun σ H' => σ = [some (.ref p), some (.ref a), some (.ref l), some (.ref D)] ∧ ∃ acc' rem', rem'.length < rem.length ∧ SameBut p H H' ∧ Pool H' p (n + acc'.length) ∧ H' D = some (.lst acc') ∧ H' l = some (.lst rem') ∧ (acc' ++ rem').Perm xs, ?_, ?_⟩
      · rintro σ H' ⟨e1, acc', rem', h1, h2⟩
        exact ⟨_, h1, e1, acc', rem', rfl, h2⟩
      refine ⟨_, rfl, .inl ⟨rfl, _, sqL_of (s4 _ _ hd3)⟩, _, rfl, .inl ⟨rfl, _, sqL_of (s4 _ _ hl3)⟩, _, rfl, _, rfl, l, rem, rfl, .inl (sqL_of (s4 _ _ hl3)), ?_⟩
      refine ⟨p, _, n + acc.length, rfl, hp3.keeps s4.keeps, by omega, by omega, by omega, fun r o r0 r1 hp5 => ?_⟩
      have hlt : r.toNat < rem.length := by omega
      have hl5 : upd H4 p o l = some (.lst rem) := by rw [upd_ne lp]; exact s4 _ _ hl3
      have hd5 : upd H4 p o D = some (.lst acc) := by rw [upd_ne Dp]; exact s4 _ _ hd3
      have sb5 : SameBut p H (upd H4 p o) := (sb.trans s4.but).trans SameBut.at_
      generalize upd H4 p o = H5 at hp5 hl5 hd5 sb5 ⊢
      refine ⟨l, rem, r, r.toNat, rem[r.toNat], rfl, rfl, hl5, by omega, by omega, ?_, List.getElem?_eq_getElem hlt, ?_⟩
      · exact seqIndex_of r0 (by omega)
      have hd6 : upd H5 l (.lst (rem.eraseIdx r.toNat)) D = some (.lst acc) := by rw [upd_ne Dl]; exact hd5
      refine ⟨D, _, _, rfl, rfl, hd6, by rw [sizeLine_eq]; omega, rfl, acc ++ [rem[r.toNat]], rem.eraseIdx r.toNat, ?_, ?_, ?_, upd_same, ?_, ?_⟩
      · rw [List.length_eraseIdx_of_lt hlt]
        omega
      · exact SameBut.mut (sb5.mut nl) nDH
      · have e1 : n + (acc ++ [rem[r.toNat]]).length = n + acc.length + 1 := by rw [List.length_append]; rfl
        rw [e1]
        refine hp5.keeps fun u hu => ?_
        rw [upd_ne (Ne.symm Dp), upd_ne (Ne.symm lp)]
        exact hu
      · rw [upd_ne (Ne.symm Dl), upd_same]
      · rw [List.append_assoc]
        exact ((erase_perm hlt).append_left acc).trans pm
end
end Lk
namespace Lk
open PySem PySem.Spec PyProof.Rows L2 RZ
section
variable {K : PySem.W.Frag}
/-! ### data that fits into a depth -/
def Fits : Nat → PyData → Prop
  | _, .none => True
  | _, .bool _ => True
  | _, .int _ => True
  | _, .str _ => True
  | n + 1, .list ds => ds.length ≤ 1000 ∧ ∀ d ∈ ds, Fits n d
  | n + 1, .tuple ds => ds.length ≤ 1000 ∧ ∀ d ∈ ds, Fits n d
  | _, _ => False
theorem dpAll_paired {H : Hp} : ∀ {vs : List V} {ds : List PyData}, DpAll K H vs ds → Paired (Dp K H) vs ds
  | _, _, .nil => .nil
  | _, _, .cons h t => .cons h (dpAll_paired t)
theorem paired_dpAll {H : Hp} : ∀ {vs : List V} {ds : List PyData}, Paired (Dp K H) vs ds → DpAll K H vs ds
  | _, _, .nil => .nil
  | _, _, .cons h t => .cons h (paired_dpAll t)
theorem isiT_seq {H : Hp} {v : V} {t : Tg} {p : Addr} {Q : VK} (h : HasTy K H v t) (hp : H p = some (.tup [.ty "list", .ty "tuple"])) (q : Q (.bl t.seq) H) : rIsiT K [v, .ref p] H Q := by
  refine ⟨v, p, _, _, [.type "list", .type "tuple"], t.seq, rfl, hp, .cons (.ty "list") (.cons (.ty "tuple") .nil), h, ?_, q⟩
  cases t
  all_goals exact kitAny_cons (kit_tg _ .lst (by decide)) (fun _ => kitAny_cons (kit_tg _ .tup (by decide)) (fun _ => by first | rfl | contradiction) (fun z => by first | rfl | cases z)) (fun z => by first | rfl | cases z)
/-- isinstance(x, (int, list, tuple, dict)) of None or a text -/
theorem isiT_four {H : Hp} {v : V} {t : Tg} {p : Addr} {Q : VK} (h : HasTy K H v t) (ht : t = .non ∨ t = .str) (hp : H p = some (.tup [.ty "int", .ty "list", .ty "tuple", .ty "dict"])) (q : Q (.bl false) H) : rIsiT K [v, .ref p] H Q := by
  refine ⟨v, p, _, _, [.type "int", .type "list", .type "tuple", .type "dict"], false, rfl, hp, .cons (.ty "int") (.cons (.ty "list") (.cons (.ty "tuple") (.cons (.ty "dict") .nil))), h, ?_, q⟩
  rcases ht with rfl | rfl
  all_goals exact kitAny_cons (kit_tg _ .int (by decide)) (fun _ => kitAny_cons (kit_tg _ .lst (by decide)) (fun _ => kitAny_cons (kit_tg _ .tup (by decide)) (fun _ => kitAny_cons (kit_tg _ .dct (by decide)) (fun _ => rfl) (fun z => by cases z)) (fun z => by cases z)) (fun z => by cases z)) (fun z => by cases z)
end
section
variable {P : Program} {w : World} {K : PySem.W.Frag} {mg : Str → Option Value} {base : Heap} {ad ai : Nat → Addr} {fd : Nat → FuncData}
/-! ### _law_same of two values with the same data -/
def sp_same (K : PySem.W.Frag) (n : Nat) : Sp := fun vs H Q _ => ∃ v u d, vs = [v, u] ∧ Dp K H v d ∧ Dp K H u d ∧ Fits n d ∧ ∀ H', Same H H' → Q (.bl true) H'
/-- two values without items -/
inductive Flat2 : V → Prop
  | non : Flat2 .non
  | bl (b : Bool) : Flat2 (.bl b)
  | int (i : Int) : Flat2 (.int i)
  | str (z : Str) : Flat2 (.str z)
theorem ok_same0 (T : Txt K mg ad ai fd) : FnOk P w K mg base CX0 1 (ad 43) (fd 43) ["_law_found", "_law_due"] (fun vs H Q _ => ∃ v, vs = [v, v] ∧ Flat2 v ∧ ∀ H', Same H H' → Q (.bl true) H') := by
  refine T.F_law_same.ok sc_law_same (fun vs H Q E h => ?_) (fun cdv A outer s H vs Q E hr h => ?_)
  · obtain ⟨v, rfl, _⟩ := h
    rfl
  · obtain ⟨v, rfl, hv, q⟩ := h
    refine ⟨_, (pss_cons (ps_if (pt_val (pe_callB (call_isinstT (K := K)) (by rfl) T.n_isinstance (by decide +kernel) (pa_cons (pv 1) (pa_cons (pe_tup (pa_cons (pe_bltn (v := .ty "list") (by rfl) T.n_list (by decide +kernel) rfl) (pa_cons (pe_bltn (v := .ty "tuple") (by rfl) T.n_tuple (by decide +kernel) rfl) pa_nil))) pa_nil)))) (pss_cons ps_never
          (pss_one ps_never)) pss_nil)
      (pss_cons (ps_if (pt_val (pe_callB (call_isinst (K := K)) (by rfl) T.n_isinstance (by decide +kernel) (pa_cons (pv 1) (pa_cons (pe_bltn (v := .ty "dict") (by rfl) T.n_dict (by decide +kernel) rfl) pa_nil)))) (pss_one ps_never) pss_nil)
      (pss_cons (ps_if (pt_val (pe_callB (call_isinst (K := K)) (by rfl) T.n_isinstance (by decide +kernel) (pa_cons (pv 1) (pa_cons (pe_bltn (v := .ty "int") (by rfl) T.n_int (by decide +kernel) rfl) pa_nil)))) (pss_one (ps_ret (pe_and (pe_callB (call_isinst (K := K)) (by rfl) T.n_isinstance (by decide +kernel) (pa_cons (pv 0) (pa_cons (pe_bltn (v := .ty "int") (by rfl) T.n_int (by decide +kernel) rfl) pa_nil))) (pe_and (pe_cmpR op_eq (pe_callB (call_isinst (K := K)) (by rfl) T.n_isinstance (by decide +kernel) (pa_cons (pv 0) (pa_cons (pe_bltn (v := .ty "bool") (by rfl) T.n_bool (by decide +kernel) rfl) pa_nil))) (pe_callB (call_isinst (K := K)) (by rfl) T.n_isinstance (by decide +kernel) (pa_cons (pv 1) (pa_cons (pe_bltn (v := .ty "bool") (by rfl) T.n_bool (by decide +kernel) rfl) pa_nil))) (nomark _)) (pe_one (pe_cmpR op_eq (pv 0) (pv 1) (nomark _))))))) pss_nil)
      (pss_one (ps_ret (pe_and (pe_not (pe_callB (call_isinstT (K := K)) (by rfl) T.n_isinstance (by decide +kernel) (pa_cons (pv 0) (pa_cons (pe_tup (pa_cons (pe_bltn (v := .ty "int") (by rfl) T.n_int (by decide +kernel) rfl) (pa_cons (pe_bltn (v := .ty "list") (by rfl) T.n_list (by decide +kernel) rfl) (pa_cons (pe_bltn (v := .ty "tuple") (by rfl) T.n_tuple (by decide +kernel) rfl) (pa_cons (pe_bltn (v := .ty "dict") (by rfl) T.n_dict (by decide +kernel) rfl) pa_nil))))) pa_nil)))) (pe_one (pe_cmpR op_eq (pv 0) (pv 1) (nomark _))))))))), ?_⟩
    refine ⟨_, rfl, by show 2 ≤ sizeLine; decide, fun p hp => ?_⟩
    have sm : Same H (upd H p (.tup [.ty "list", .ty "tuple"])) := same_new hp
    have hp1 : upd H p (.tup [.ty "list", .ty "tuple"]) p = some (.tup [.ty "list", .ty "tuple"]) := upd_same
    dsimp only [tNil]
    generalize upd H p (.tup [.ty "list", .ty "tuple"]) = H1 at sm hp1 ⊢
    cases hv with
    | non =>
      refine isiT_seq hasTy_non hp1 ⟨_, rfl, ?_⟩
      refine ⟨_, rfl, _, _, _, _, _, rfl, .ty _, hasTy_non, kit_tg .non .dct (by decide), _, rfl, ?_⟩
      refine ⟨_, rfl, _, _, _, _, _, rfl, .ty _, hasTy_non, kit_tg .non .int (by decide), _, rfl, ?_⟩
      refine ⟨_, rfl, by show 4 ≤ sizeLine; decide, fun p2 np2 => ?_⟩
      have sm2 : Same H1 (upd H1 p2 (.tup [.ty "int", .ty "list", .ty "tuple", .ty "dict"])) := same_new np2
      have hp2 : upd H1 p2 (.tup [.ty "int", .ty "list", .ty "tuple", .ty "dict"]) p2 = some (.tup [.ty "int", .ty "list", .ty "tuple", .ty "dict"]) := upd_same
      dsimp only [tNil]
      generalize upd H1 p2 (.tup [.ty "int", .ty "list", .ty "tuple", .ty "dict"]) = H2 at sm2 hp2 ⊢
      refine isiT_four hasTy_non (.inl rfl) hp2 ⟨_, rfl, _, rfl, ?_⟩
      exact ⟨_, rfl, _, rfl, rfl, q _ (sm.trans sm2)⟩
    | str z =>
      refine isiT_seq hasTy_str hp1 ⟨_, rfl, ?_⟩
      refine ⟨_, rfl, _, _, _, _, _, rfl, .ty _, hasTy_str, kit_tg .str .dct (by decide), _, rfl, ?_⟩
      refine ⟨_, rfl, _, _, _, _, _, rfl, .ty _, hasTy_str, kit_tg .str .int (by decide), _, rfl, ?_⟩
      refine ⟨_, rfl, by show 4 ≤ sizeLine; decide, fun p2 np2 => ?_⟩
      have sm2 : Same H1 (upd H1 p2 (.tup [.ty "int", .ty "list", .ty "tuple", .ty "dict"])) := same_new np2
      have hp2 : upd H1 p2 (.tup [.ty "int", .ty "list", .ty "tuple", .ty "dict"]) p2 = some (.tup [.ty "int", .ty "list", .ty "tuple", .ty "dict"]) := upd_same
      dsimp only [tNil]
      generalize upd H1 p2 (.tup [.ty "int", .ty "list", .ty "tuple", .ty "dict"]) = H2 at sm2 hp2 ⊢
      refine isiT_four hasTy_str (.inr rfl) hp2 ⟨_, rfl, _, rfl, ?_⟩
      refine ⟨_, rfl, _, rfl, rfl, ?_⟩
      rw [decide_eq_true rfl]
      exact q _ (sm.trans sm2)
    | int i =>
      refine isiT_seq hasTy_int hp1 ⟨_, rfl, ?_⟩
      refine ⟨_, rfl, _, _, _, _, _, rfl, .ty _, hasTy_int, kit_tg .int .dct (by decide), _, rfl, ?_⟩
      refine ⟨_, rfl, _, _, _, _, _, rfl, .ty _, hasTy_int, kit_tg .int .int (by decide), _, rfl, ?_⟩
      refine ⟨_, rfl, _, _, _, _, _, rfl, .ty _, hasTy_int, kit_tg .int .int (by decide), _, rfl, ?_⟩
      refine ⟨_, rfl, _, _, _, _, _, rfl, .ty _, hasTy_int, kit_tg .int .bl (by decide), _, rfl, _, _, _, _, _, rfl, .ty _, hasTy_int, kit_tg .int .bl (by decide), rfl, _, rfl, ?_⟩
      refine ⟨_, rfl, _, rfl, rfl, ?_⟩
      rw [decide_eq_true rfl]
      exact q _ sm
    | bl b =>
      refine isiT_seq hasTy_bl hp1 ⟨_, rfl, ?_⟩
      refine ⟨_, rfl, _, _, _, _, _, rfl, .ty _, hasTy_bl, kit_tg .bl .dct (by decide), _, rfl, ?_⟩
      refine ⟨_, rfl, _, _, _, _, _, rfl, .ty _, hasTy_bl, kit_tg .bl .int (by decide), _, rfl, ?_⟩
      refine ⟨_, rfl, _, _, _, _, _, rfl, .ty _, hasTy_bl, kit_tg .bl .int (by decide), _, rfl, ?_⟩
      refine ⟨_, rfl, _, _, _, _, _, rfl, .ty _, hasTy_bl, kit_tg .bl .bl (by decide), _, rfl, _, _, _, _, _, rfl, .ty _, hasTy_bl, kit_tg .bl .bl (by decide), rfl, _, rfl, ?_⟩
      refine ⟨_, rfl, _, rfl, rfl, ?_⟩
      rw [decide_eq_true rfl]
      exact q _ sm
theorem dp_flat {H : Hp} {v u : V} {d : PyData} (h : Dp K H v d) (h2 : Dp K H u d) : (v = u ∧ Flat2 v) ∨ ∃ a b xs ys ds, v = .ref a ∧ u = .ref b ∧ Sq2 K H a b xs ys ∧ DpAll K H xs ds ∧ DpAll K H ys ds ∧ (d = .list ds ∨ d = .tuple ds) := by
  cases h with
  | non => cases h2; exact .inl ⟨rfl, .non⟩
  | bl b => cases h2; exact .inl ⟨rfl, .bl b⟩
  | int i => cases h2; exact .inl ⟨rfl, .int i⟩
  | str z => cases h2; exact .inl ⟨rfl, .str z⟩
  | lst h t => cases h2 with | lst h2 t2 => exact .inr ⟨_, _, _, _, _, rfl, rfl, .inl ⟨h, h2⟩, t, t2, .inl rfl⟩
  | tup h t => cases h2 with | tup h2 t2 => exact .inr ⟨_, _, _, _, _, rfl, rfl, .inr ⟨h, h2⟩, t, t2, .inr rfl⟩
theorem _root_.L2.FnOk.or {CX : CXT} {k : Nat} {f : Addr} {fd : FuncData} {ps : List Str} {sp sp' : Sp} (F : FnOk P w K mg base CX k f fd ps sp) (F' : FnOk P w K mg base CX k f fd ps sp') : FnOk P w K mg base CX k f fd ps (fun vs H Q E => sp vs H Q E ∨ sp' vs H Q E) :=
  ⟨fun vs H Q E q => q.elim (F.len vs H Q E) (F'.len vs H Q E), fun A outer s H args us vs Q E hr he hb hv hs => hs.elim (F.run A outer s H args us vs Q E hr he hb hv) (F'.run A outer s H args us vs Q E hr he hb hv)⟩
/-- two lists, or two tuples, of the same data -/
def sp_sameS (K : PySem.W.Frag) (n : Nat) : Sp := fun vs H Q _ => ∃ a b xs ys ds, vs = [.ref a, .ref b] ∧ Sq2 K H a b xs ys ∧ DpAll K H xs ds ∧ DpAll K H ys ds ∧ ds.length ≤ 1000 ∧ (∀ d ∈ ds, Fits n d) ∧ ∀ H', Same H H' → Q (.bl true) H'
theorem Sq2.ty {H : Hp} {a b : Addr} {xs ys : List V} (h : Sq2 K H a b xs ys) : ∃ t, t.seq = true ∧ HasTy K H (.ref a) t ∧ HasTy K H (.ref b) t := by
  rcases h with ⟨h1, h2⟩ | ⟨h1, h2⟩
  · exact ⟨.lst, rfl, hasTy_lst h1, hasTy_lst h2⟩
  · exact ⟨.tup, rfl, hasTy_tup h1, hasTy_tup h2⟩
theorem Sq2.fst {H : Hp} {a b : Addr} {xs ys : List V} (h : Sq2 K H a b xs ys) : Sq K H a xs := h.imp (·.1) (·.1)
theorem Sq2.snd {H : Hp} {a b : Addr} {xs ys : List V} (h : Sq2 K H a b xs ys) : Sq K H b ys := h.imp (·.2) (·.2)
theorem ok_sameS (T : Txt K mg ad ai fd) (n : Nat) (G_law_same : FnOk P w K mg base CX0 (n + 1) (ad 43) (fd 43) ["_law_found", "_law_due"] (sp_same K n)) : FnOk P w K mg base CX0 (n + 2) (ad 43) (fd 43) ["_law_found", "_law_due"] (sp_sameS K n) := by
  refine T.F_law_same.ok sc_law_same (fun vs H Q E h => ?_) (fun cdv A outer s H vs Q E hr h => ?_)
  · obtain ⟨a, b, xs, ys, ds, rfl, _⟩ := h
    rfl
  · obtain ⟨a, b, xs, ys, ds, rfl, h2, hx, hy, hl, hf, q⟩ := h
    refine ⟨_, (pss_cons (ps_if (pt_val (pe_callB (call_isinstT (K := K)) (by rfl) T.n_isinstance (by decide +kernel) (pa_cons (pv 1) (pa_cons (pe_tup (pa_cons (pe_bltn (v := .ty "list") (by rfl) T.n_list (by decide +kernel) rfl) (pa_cons (pe_bltn (v := .ty "tuple") (by rfl) T.n_tuple (by decide +kernel) rfl) pa_nil))) pa_nil)))) (pss_cons (ps_if (PW.pt (pw_or (pt_cmpR op_ne (pe_callB (call_isinst (K := K)) (by rfl) T.n_isinstance (by decide +kernel) (pa_cons (pv 0) (pa_cons (pe_bltn (v := .ty "list") (by rfl) T.n_list (by decide +kernel) rfl) pa_nil))) (pe_callB (call_isinst (K := K)) (by rfl) T.n_isinstance (by decide +kernel) (pa_cons (pv 1) (pa_cons (pe_bltn (v := .ty "list") (by rfl) T.n_list (by decide +kernel) rfl) pa_nil))) (nomark _)) (pw_or1 (pt_cmpR op_ne (pe_callB (call_isinst (K := K)) (by rfl) T.n_isinstance (by decide +kernel) (pa_cons (pv 0) (pa_cons (pe_bltn (v := .ty "tuple") (by rfl) T.n_tuple (by decide +kernel) rfl) pa_nil))) (pe_callB (call_isinst (K := K)) (by rfl) T.n_isinstance (by decide +kernel) (pa_cons (pv 1) (pa_cons (pe_bltn (v := .ty "tuple") (by rfl) T.n_tuple (by decide +kernel) rfl) pa_nil))) (nomark _))))) (pss_one (ps_ret pe_bl)) pss_nil)
          (pss_one (ps_ret (pe_and (pe_cmpR op_eq (pe_callB (call_len (K := K)) (by rfl) T.n_len (by decide +kernel) (pa_cons (pv 0) pa_nil)) (pe_callB (call_len (K := K)) (by rfl) T.n_len (by decide +kernel) (pa_cons (pv 1) pa_nil)) (nomark _)) (pe_one (pe_callB (call_all (K := K) rfl) (by rfl) T.n_all (by decide +kernel) (pa_cons (pe_lc (own := [("_law_x", 2), ("_law_y", 3)]) rfl sc_law_same.nd (pi_zipA (by rfl) T.n_zip (pa_cons (pv 0) (pa_cons (pv 1) pa_nil))) (blkOk_by (N := ["_law_found", "_law_due", "_law_x", "_law_y"]) (sc := defScope s_law_same) (by decide +kernel)) (fun _ _ _ _ _ => (pg_tp (K := K) (n := 2) rfl (pgs_cons (pg_name (i := 2) sc_law_same.nd rfl (.inl rfl)) (pgs_cons (pg_name (i := 3) sc_law_same.nd rfl (.inl rfl)) pgs_nil)))) (fun _ _ _ _ _ => pts_nil) (fun _ _ _ _ _ => (pe_call G_law_same hr (by rfl) T.g_law_same T.F_law_same.kp T.b_law_same .nil pass0 (pa_cons (pv 2) (pa_cons (pv 3) pa_nil))))) pa_nil))))))) pss_nil)
      (pss_cons (ps_if (pt_val (pe_callB (call_isinst (K := K)) (by rfl) T.n_isinstance (by decide +kernel) (pa_cons (pv 1) (pa_cons (pe_bltn (v := .ty "dict") (by rfl) T.n_dict (by decide +kernel) rfl) pa_nil)))) (pss_one ps_never) pss_nil)
      (pss_cons (ps_if (pt_val (pe_callB (call_isinst (K := K)) (by rfl) T.n_isinstance (by decide +kernel) (pa_cons (pv 1) (pa_cons (pe_bltn (v := .ty "int") (by rfl) T.n_int (by decide +kernel) rfl) pa_nil)))) (pss_one ps_never) pss_nil)
      (pss_one ps_never)))), ?_⟩
    refine ⟨_, rfl, by show 2 ≤ sizeLine; decide, fun p hp => ?_⟩
    have sm : Same H (upd H p (.tup [.ty "list", .ty "tuple"])) := same_new hp
    have hp1 : upd H p (.tup [.ty "list", .ty "tuple"]) p = some (.tup [.ty "list", .ty "tuple"]) := upd_same
    dsimp only [tNil]
    generalize upd H p (.tup [.ty "list", .ty "tuple"]) = H1 at sm hp1 ⊢
    have h21 := sm.sq2 h2
    obtain ⟨t, ht, ta, tb⟩ := h21.ty
    refine isiT_seq tb hp1 ⟨_, rfl, ?_⟩
    rw [ht]
    refine ⟨_, rfl, _, _, _, _, _, rfl, .ty _, ta, kit_tg t .lst (by decide), _, rfl, _, _, _, _, _, rfl, .ty _, tb, kit_tg t .lst (by decide), rfl, _, rfl, ?_⟩
    rw [decide_eq_true rfl]
    refine ⟨_, rfl, _, _, _, _, _, rfl, .ty _, ta, kit_tg t .tup (by decide), _, rfl, _, _, _, _, _, rfl, .ty _, tb, kit_tg t .tup (by decide), rfl, _, rfl, ?_⟩
    rw [decide_eq_true rfl]
    have lx := paired_len (dpAll_paired hx)
    have ly := paired_len (dpAll_paired hy)
    refine ⟨_, rfl, _, _, rfl, h21.fst, _, rfl, _, _, rfl, h21.snd, rfl, _, rfl, ?_⟩
    rw [lx, ly, decide_eq_true rfl]
    refine ⟨_, rfl, _, rfl, lc_zip (K := K) (n := ds.length) (by omega) h21 (PvV H1 ((ds.map fun _ => true).map V.bl)) (fun D hD => vals0 hD) (fun D i H' hD pv => ⟨pv.1.keeps, pv.1.keeps⟩) ?_ ?_⟩
    · intro D i x y H2 t2 hD ex ey pv nt
      obtain ⟨d, ed, hd1⟩ := paired_get (dpAll_paired hx) ex
      obtain ⟨d', ed', hd2⟩ := paired_get (dpAll_paired hy) ey
      have e : d = d' := Option.some.inj (ed.symm.trans ed')
      subst e
      have s3 := (sm.trans pv.1).trans (same_new (o := .tup [x, y]) nt)
      refine ⟨t2, _, rfl, sqT_of upd_same, rfl, _, _, rfl, _, _, rfl, rfl, ?_⟩
      refine ⟨rfl, ?_⟩
      refine ⟨_, rfl, _, rfl, x, y, d, rfl, dp_same s3 hd1, dp_same s3 hd2, hf d (List.mem_of_getElem? ed), fun H4 s4 => ?_⟩
      exact vals_step pv hD ((same_new nt).trans s4) (at_map (at_map ed)) (by rw [List.length_map, List.length_map]; omega)
    · intro D H2 hD pv
      obtain ⟨s2, hd2⟩ := valsE pv (by rw [List.length_map, List.length_map])
      refine ⟨D, _, rfl, sqL_of hd2, ?_⟩
      have e : (ds.map fun _ => true).all id = true := by simp
      rw [e]
      exact q _ (sm.trans s2)
theorem ok_same (T : Txt K mg ad ai fd) : ∀ n, FnOk P w K mg base CX0 (n + 1) (ad 43) (fd 43) ["_law_found", "_law_due"] (sp_same K n)
  | 0 => by
    refine (ok_same0 (P := P) (w := w) (base := base) T).imp fun vs H Q E h => ?_
    obtain ⟨v, u, d, rfl, h1, h2, hf, q⟩ := h
    rcases dp_flat h1 h2 with ⟨rfl, hv⟩ | ⟨a, b, xs, ys, ds, _, _, _, _, _, z⟩
    · exact ⟨v, rfl, hv, q⟩
    · rcases z with rfl | rfl <;> exact hf.elim
  | n + 1 => by
    refine (((ok_same0 (P := P) (w := w) (base := base) T).mono (by omega)).or (ok_sameS T n (ok_same T n))).imp fun vs H Q E h => ?_
    obtain ⟨v, u, d, rfl, h1, h2, hf, q⟩ := h
    rcases dp_flat h1 h2 with ⟨rfl, hv⟩ | ⟨a, b, xs, ys, ds, rfl, rfl, h3, h4, h5, z⟩
    · exact .inl ⟨v, rfl, hv, q⟩
    · refine .inr ⟨a, b, xs, ys, ds, rfl, h3, h4, h5, ?_, ?_, q⟩
      · rcases z with rfl | rfl <;> exact hf.1
      · rcases z with rfl | rfl <;> exact hf.2
/-! ### _law_loose of a list of plain values -/
theorem ok_loose0 (T : Txt K mg ad ai fd) : FnOk P w K mg base CX0 1 (ad 42) (fd 42) ["_law_source_here", "_law_thing"] (fun vs H Q _ => ∃ u v, vs = [u, v] ∧ Flat2 v ∧ ∀ H', Same H H' → Q v H') := by
  refine T.F_law_loose.ok sc_law_loose (fun vs H Q E h => ?_) (fun cdv A outer s H vs Q E hr h => ?_)
  · obtain ⟨u, v, rfl, _⟩ := h
    rfl
  · obtain ⟨u, v, rfl, hv, q⟩ := h
    refine ⟨_, (pss_cons (ps_if (pt_val (pe_callB (call_isinstT (K := K)) (by rfl) T.n_isinstance (by decide +kernel) (pa_cons (pv 1) (pa_cons (pe_tup (pa_cons (pe_bltn (v := .ty "list") (by rfl) T.n_list (by decide +kernel) rfl) (pa_cons (pe_bltn (v := .ty "tuple") (by rfl) T.n_tuple (by decide +kernel) rfl) pa_nil))) pa_nil)))) (pss_cons ps_never
          (pss_one ps_never)) pss_nil)
      (pss_one (ps_ret (pv 1)))), ?_⟩
    refine ⟨_, rfl, by show 2 ≤ sizeLine; decide, fun p hp => ?_⟩
    have sm : Same H (upd H p (.tup [.ty "list", .ty "tuple"])) := same_new hp
    have hp1 : upd H p (.tup [.ty "list", .ty "tuple"]) p = some (.tup [.ty "list", .ty "tuple"]) := upd_same
    dsimp only [tNil]
    generalize upd H p (.tup [.ty "list", .ty "tuple"]) = H1 at sm hp1 ⊢
    have fin : ∀ t : Tg, HasTy K H1 v t → t.seq = false → rIsiT K [v, .ref p] H1 (fun x H' => ∃ k, x = .bl k ∧ k = false ∧ H' = H1) := fun t ht e => isiT_seq ht hp1 ⟨_, rfl, e, rfl⟩
    cases hv with
    | non => exact isiT_seq hasTy_non hp1 ⟨_, rfl, _, rfl, q _ sm⟩
    | bl b => exact isiT_seq hasTy_bl hp1 ⟨_, rfl, _, rfl, q _ sm⟩
    | int i => exact isiT_seq hasTy_int hp1 ⟨_, rfl, _, rfl, q _ sm⟩
    | str z => exact isiT_seq hasTy_str hp1 ⟨_, rfl, _, rfl, q _ sm⟩
def sp_loose (K : PySem.W.Frag) : Sp := fun vs H Q _ => ∃ p a xs n, vs = [.ref p, .ref a] ∧ Pool H p n ∧ n ≤ 1000000 ∧ Sq K H a xs ∧ a ≠ p ∧ xs.length ≤ 1000 ∧ (∀ x ∈ xs, Flat2 x) ∧ ∀ H' l, SameBut p H H' → Pool H' p (n + 1) → H l = none → (H' l = some (.lst xs) ∨ H' l = some (.tup xs)) → Q (.ref l) H'
theorem ok_loose (T : Txt K mg ad ai fd) : FnOk P w K mg base CX0 2 (ad 42) (fd 42) ["_law_source_here", "_law_thing"] (sp_loose K) := by
  have G_law_draw : FnOk P w K mg base CX0 1 (ad 39) (fd 39) ["_law_source_here", "_law_many"] (sp_draw) := ok_draw T
  have G_law_loose : FnOk P w K mg base CX0 1 (ad 42) (fd 42) ["_law_source_here", "_law_thing"] (fun vs H Q _ => ∃ u v, vs = [u, v] ∧ Flat2 v ∧ ∀ H', Same H H' → Q v H') := ok_loose0 T
  refine T.F_law_loose.ok sc_law_loose (fun vs H Q E h => ?_) (fun cdv A outer s H vs Q E hr h => ?_)
  · obtain ⟨p, a, xs, n, rfl, _⟩ := h
    rfl
  · obtain ⟨p, a, xs, n, rfl, hp, hn, hs, hne, hl, hfl, q⟩ := h
    refine ⟨_, (pss_cons (ps_if (pt_val (pe_callB (call_isinstT (K := K)) (by rfl) T.n_isinstance (by decide +kernel) (pa_cons (pv 1) (pa_cons (pe_tup (pa_cons (pe_bltn (v := .ty "list") (by rfl) T.n_list (by decide +kernel) rfl) (pa_cons (pe_bltn (v := .ty "tuple") (by rfl) T.n_tuple (by decide +kernel) rfl) pa_nil))) pa_nil)))) (pss_cons (ps_setLc (i := 2) (own := [("_law_part", 3)]) rfl sc_law_loose.nd rfl rfl (sw_true rfl rfl rfl (by decide +kernel)) (pi_seq (K := K) (pv 1)) (blkOk_by (N := ["_law_source_here", "_law_thing", "_law_found", "_law_part"]) (sc := defScope s_law_loose) (by decide +kernel)) (fun _ _ _ _ _ => (pg_name (i := 3) sc_law_loose.nd rfl (.inl rfl))) (fun _ _ _ _ _ => pts_nil) (fun _ _ _ _ _ => (pe_call G_law_loose (hr.mono (by decide)) (by rfl) T.g_law_loose T.F_law_loose.kp T.b_law_loose .nil pass0 (pa_cons (pv 0) (pa_cons (pv 3) pa_nil)))))
          (pss_one (ps_ret (pe_ifExp (pt_cmpR op_eq (pe_call G_law_draw (hr.mono (by decide)) (by rfl) T.g_law_draw T.F_law_draw.kp T.b_law_draw .nil pass0 (pa_cons (pv 0) (pa_cons pe_int pa_nil))) pe_int (nomark _)) (pv 2) (pe_callTy (call_tuple (K := K)) (by rfl) T.n_tuple (by decide +kernel) (pa_cons (pv 2) pa_nil)))))) pss_nil)
      (pss_one ps_never)), ?_⟩
    refine ⟨_, rfl, by show 2 ≤ sizeLine; decide, fun t0 ht0 => ?_⟩
    have sm : Same H (upd H t0 (.tup [.ty "list", .ty "tuple"])) := same_new ht0
    have hp1 : upd H t0 (.tup [.ty "list", .ty "tuple"]) t0 = some (.tup [.ty "list", .ty "tuple"]) := upd_same
    dsimp only [tNil]
    generalize upd H t0 (.tup [.ty "list", .ty "tuple"]) = H1 at sm hp1 ⊢
    have hs1 := sm.sq hs
    obtain ⟨t, ht, e⟩ := hs1.tys
    refine isiT_seq ht hp1 ⟨_, rfl, ?_⟩
    rw [e]
    refine ⟨_, rfl, lc_seq (K := K) hs1 (PvV H1 xs) (fun D hD => vals0 hD) (fun D i H' hD pv => pv.1.keeps) ?_ ?_⟩
    · intro D i x H2 hD ex pv
      refine ⟨rfl, ?_⟩
      refine ⟨_, rfl, _, rfl, _, _, rfl, hfl x (List.mem_of_getElem? ex), fun H4 s4 => ?_⟩
      exact vals_step pv hD s4 ex (by omega)
    · intro D H2 hD pv
      obtain ⟨s2, hd2⟩ := valsE pv rfl
      have s12 := sm.trans s2
      obtain ⟨ps0, hps0⟩ := hp.at_
      have nDH : H D = none := sm.free hD
      have Dp : D ≠ p := fun e => by
        rw [e, hps0] at nDH
        cases nDH
      refine ⟨_, rfl, ?_⟩
      refine ⟨p, 2, n, rfl, hp.keeps s12.keeps, hn, by omega, by omega, fun r o r0 r1 hp3 => ?_⟩
      have hd3 : upd H2 p o D = some (.lst xs) := by rw [upd_ne Dp]; exact hd2
      have sb3 : SameBut p H (upd H2 p o) := s12.but.trans SameBut.at_
      generalize upd H2 p o = H3 at hp3 hd3 sb3 ⊢
      refine ⟨rfl, _, rfl, ?_⟩
      refine ite2 (fun c => ?_) (fun c => ?_)
      · exact ⟨_, rfl, q H3 D sb3 hp3 nDH (.inl hd3)⟩
      · refine ⟨_, rfl, D, xs, rfl, .inl ⟨sqL_of hd3, fun l nl => ?_⟩⟩
        refine q _ l (sb3.new nl) (hp3.keeps (same_new nl).keeps) ?_ (.inr upd_same)
        obtain ⟨ps3, hps3⟩ := hp3.at_
        exact sb3.free hps3 nl
end
end Lk
namespace Lk
open PySem PySem.Spec PyProof.Rows L2 RZ
/-! ### parts and plans in memory -/
abbrev objQ (q : Part) : HO := .tup [.str q.w, .str q.r, .int q.al, .int q.lo, .int q.hi, .bl q.z]
abbrev IsQ (H : Hp) (a : Addr) (q : Part) : Prop := H a = some (objQ q)
structure PartOk (pg : Int) (q : Part) : Prop where
  w : WordOk q.w
  r : inV (.str q.r) [.str "r", .str "rw", .str "rx"] = true
  al : inV (.int q.al) [.int 1, .int 2, .int 4, .int 8, .int 16, .int 32, .int 64] = true
  le : q.al ≤ pg
  lo : 0 ≤ q.lo
  hi : q.lo ≤ q.hi
structure PlanOk (pg : Int) (qs : List Part) : Prop where
  pgs : inV (.int pg) [.int 8, .int 16, .int 32, .int 64] = true
  one : 1 ≤ qs.length
  few : qs.length ≤ 100
  q : ∀ q ∈ qs, PartOk pg q
  nd : (qs.map Part.w).Nodup
  adj : ∀ i p q, qs[i]? = some p → qs[i + 1]? = some q → ¬ (p.z = true ∧ q.z = false ∧ p.r = q.r)
/-- the parts of a plan -/
def PartsAt (H : Hp) (t : Addr) (qs : List Part) : Prop := ∃ as : List Addr, H t = some (.tup (as.map V.ref)) ∧ Paired (IsQ H) as qs
def PlanAt (C : Addr) (H : Hp) (pl : Addr) (pg : Int) (qs : List Part) : Prop := ∃ dx t, H pl = some (.ins C dx [("kept_page", .int pg), ("kept_parts", .ref t)]) ∧ PartsAt H t qs
theorem PartsAt.same {H H' : Hp} {t : Addr} {qs : List Part} (e : Same H H') (h : PartsAt H t qs) : PartsAt H' t qs := by
  obtain ⟨as, h1, h2⟩ := h
  exact ⟨as, e _ _ h1, paired_mono (fun a q z => e _ _ z) h2⟩
theorem PlanAt.same {C : Addr} {H H' : Hp} {pl : Addr} {pg : Int} {qs : List Part} (e : Same H H') (h : PlanAt C H pl pg qs) : PlanAt C H' pl pg qs := by
  obtain ⟨dx, t, h1, h2⟩ := h
  exact ⟨dx, t, e _ _ h1, h2.same e⟩
theorem paired_sb {H H' : Hp} {p : Addr} {xs : List V} (e : SameBut p H H') (hp : H p = some (.lst xs)) : ∀ {as : List Addr} {qs : List Part}, Paired (IsQ H) as qs → Paired (IsQ H') as qs
  | _, _, .nil => .nil
  | _, _, .cons h t => .cons (e _ _ (ne_of h hp (by intro z; cases z)) h) (paired_sb e hp t)
theorem PlanAt.sb {C : Addr} {H H' : Hp} {pl p : Addr} {pg : Int} {qs : List Part} {xs : List V} (e : SameBut p H H') (hp : H p = some (.lst xs)) (h : PlanAt C H pl pg qs) : PlanAt C H' pl pg qs := by
  obtain ⟨dx, t, h1, as, h2, h3⟩ := h
  exact ⟨dx, t, e _ _ (ne_of h1 hp (by intro z; cases z)) h1, as, e _ _ (ne_of h2 hp (by intro z; cases z)) h2, paired_sb e hp h3⟩
theorem inV_strs {z : Str} : ∀ {ws : List Str}, z ∉ ws → inV (.str z) (ws.map V.str) = false
  | [], _ => rfl
  | w :: ws, h => by
    have h1 : w ≠ z := fun e => h (by rw [e]; exact List.mem_cons_self ..)
    have h2 := inV_strs (z := z) (ws := ws) fun e => h (List.mem_cons_of_mem _ e)
    show (eqV (.str w) (.str z) || inV (.str z) (ws.map V.str)) = false
    rw [h2]
    rw [Bool.or_false]
    exact beq_false_of_ne h1
theorem flat_strs : ∀ (ws : List Str), (ws.map V.str).all flatV = true
  | [] => rfl
  | _ :: ws => flat_strs ws
section
variable {P : Program} {w : World} {K : PySem.W.Frag} {mg : Str → Option Value} {base : Heap} {ad ai : Nat → Addr} {fd : Nat → FuncData}
def sp_is_part : Sp := fun vs H Q _ => ∃ (a : Addr) (pg : Int) (m : Addr) (ws : List Str) (q : Part), vs = [.ref a, .int pg, .ref m] ∧ IsQ H a q ∧ H m = some (.lst (ws.map V.str)) ∧ q.w ∉ ws ∧ PartOk pg q ∧ ∀ H', Same H H' → Q (.bl true) H'
theorem ok_is_part (T : Txt K mg ad ai fd) : FnOk P w K mg base CX0 3 (ad 18) (fd 18) ["thing", "page", "met"] (sp_is_part) := by
  have G_is_list : FnOk P w K mg base CX0 1 (ad 4) (fd 4) ["thing"] (sp_is_list K) := ok_is_list T
  have G_is_word : FnOk P w K mg base CX0 1 (ad 5) (fd 5) ["thing"] (sp_is_word) := ok_is_word T
  have G_is_integer : FnOk P w K mg base CX0 1 (ad 2) (fd 2) ["thing"] (sp_is_integer K) := ok_is_integer T
  have G_is_natural : FnOk P w K mg base CX0 2 (ad 3) (fd 3) ["thing"] (sp_is_natural K) := ok_is_natural T
  refine T.F_is_part.ok sc_is_part (fun vs H Q E h => ?_) (fun cdv A outer s H vs Q E hr h => ?_)
  · obtain ⟨a, pg, m, ws, q, rfl, _⟩ := h
    rfl
  · obtain ⟨a, pg, m, ws, q, rfl, ha, hm, hw, ok, k⟩ := h
    refine ⟨_, (pss_cons (ps_if (PW.pt (pw_or (pt_not (pt_val (pe_call G_is_list (hr.mono (by decide)) (by rfl) T.g_is_list T.F_is_list.kp T.b_is_list .nil pass0 (pa_cons (pv 0) pa_nil)))) (pw_or (pt_cmpR op_ne (pe_callB (call_len (K := K)) (by rfl) T.n_len (by decide +kernel) (pa_cons (pv 0) pa_nil)) pe_int (nomark _)) (pw_or (pt_not (pt_val (pe_call G_is_word (hr.mono (by decide)) (by rfl) T.g_is_word T.F_is_word.kp T.b_is_word .nil pass0 (pa_cons (pe_ix (ix_seq (K := K)) (pv 0) pe_int (fun _ _ => rfl)) pa_nil)))) (pw_or1 (pt_cmpR (op_inS (K := K)) (pe_ix (ix_seq (K := K)) (pv 0) pe_int (fun _ _ => rfl)) (pv 2) rfl)))))) (pss_one (ps_ret pe_bl)) pss_nil)
      (pss_cons (ps_asg (pv 0) (pg_tp (K := K) (n := 6) rfl (pgs_cons (pg_name (i := 3) sc_is_part.nd rfl (.inl rfl)) (pgs_cons (pg_name (i := 4) sc_is_part.nd rfl (.inl rfl)) (pgs_cons (pg_name (i := 5) sc_is_part.nd rfl (.inl rfl)) (pgs_cons (pg_name (i := 6) sc_is_part.nd rfl (.inl rfl)) (pgs_cons (pg_name (i := 7) sc_is_part.nd rfl (.inl rfl)) (pgs_cons (pg_name (i := 8) sc_is_part.nd rfl (.inl rfl)) pgs_nil))))))))
      (pss_cons (ps_if (PW.pt (pw_or (pt_not (pt_val (pe_callB (call_isinst (K := K)) (by rfl) T.n_isinstance (by decide +kernel) (pa_cons (pv 4) (pa_cons (pe_bltn (v := .ty "str") (by rfl) T.n_str (by decide +kernel) rfl) pa_nil))))) (pw_or (pt_cmpR op_notIn_seq (pv 4) (pe_fun (by rfl) T.g_RIGHTS) rfl) (pw_or1 (pt_not (pt_val (pe_callB (call_isinst (K := K)) (by rfl) T.n_isinstance (by decide +kernel) (pa_cons (pv 8) (pa_cons (pe_bltn (v := .ty "bool") (by rfl) T.n_bool (by decide +kernel) rfl) pa_nil))))))))) (pss_one (ps_ret pe_bl)) pss_nil)
      (pss_cons (ps_if (PW.pt (pw_or (pt_not (pt_val (pe_call G_is_integer (hr.mono (by decide)) (by rfl) T.g_is_integer T.F_is_integer.kp T.b_is_integer .nil pass0 (pa_cons (pv 5) pa_nil)))) (pw_or (pt_cmpR op_notIn_seq (pv 5) (pe_fun (by rfl) T.g_ALIGNS) rfl) (pw_or1 (pt_cmpR op_gt (pv 5) (pv 1) (nomark _)))))) (pss_one (ps_ret pe_bl)) pss_nil)
      (pss_one (ps_ret (pe_and (pe_call G_is_natural (hr.mono (by decide)) (by rfl) T.g_is_natural T.F_is_natural.kp T.b_is_natural .nil pass0 (pa_cons (pv 6) pa_nil)) (pe_and (pe_call G_is_natural (hr.mono (by decide)) (by rfl) T.g_is_natural T.F_is_natural.kp T.b_is_natural .nil pass0 (pa_cons (pv 7) pa_nil)) (pe_one (pe_cmpR op_le (pv 6) (pv 7) (nomark _))))))))))), ?_⟩
    refine ⟨_, rfl, _, .tup, rfl, hasTy_tup (sqT_of ha), fun H1 s1 => ⟨_, rfl, ?_⟩⟩
    refine ⟨_, rfl, _, _, rfl, .inr (sqT_of (s1 _ _ ha)), rfl, _, rfl, ?_⟩
    refine ⟨_, rfl, ixS (j := 0) (sq_tup (s1 _ _ ha)) rfl ?_⟩
    refine ⟨_, rfl, ok.w, fun H2 s2 => ⟨_, rfl, ?_⟩⟩
    have s12 := s1.trans s2
    refine ⟨_, rfl, ixS (j := 0) (sq_tup (s12 _ _ ha)) rfl ?_⟩
    refine ⟨_, rfl, _, _, rfl, .inl (sqL_of (s12 _ _ hm)), rfl, flat_strs ws, _, rfl, ?_⟩
    rw [inV_strs hw]
    refine ⟨_, rfl, a, _, rfl, sqT_of (s12 _ _ ha), rfl, _, _, rfl, _, _, rfl, _, _, rfl, _, _, rfl, _, _, rfl, _, _, rfl, rfl, ?_⟩
    -- rights, zeros
    refine ⟨_, rfl, _, _, _, _, _, rfl, .ty _, hasTy_str, kit_tg .str .str (by decide), _, rfl, ?_⟩
    refine ⟨_, rfl, _, _, rfl, .inr (T.q_RIGHTS _), rfl, rfl, _, rfl, ?_⟩
    rw [ok.r]
    refine ⟨_, rfl, _, _, _, _, _, rfl, .ty _, hasTy_bl, kit_tg .bl .bl (by decide), _, rfl, ?_⟩
    -- align
    refine ⟨_, rfl, _, .int, rfl, hasTy_int, _, rfl, ?_⟩
    refine ⟨_, rfl, _, _, rfl, .inr (T.q_ALIGNS _), rfl, rfl, _, rfl, ?_⟩
    rw [ok.al]
    refine ⟨_, rfl, _, rfl, _, _, rfl, rfl, _, rfl, ?_⟩
    rw [decide_eq_false (Int.not_lt.mpr ok.le)]
    -- least, most
    refine ⟨_, rfl, _, rfl, .inr ⟨_, rfl, _, rfl, ?_⟩⟩
    rw [decide_eq_true ok.lo]
    refine ⟨_, rfl, _, rfl, .inr ⟨_, rfl, _, rfl, ?_⟩⟩
    rw [decide_eq_true (Int.le_trans ok.lo ok.hi)]
    refine ⟨_, rfl, _, rfl, _, _, rfl, rfl, ?_⟩
    dsimp only
    rw [decide_eq_true ok.hi]
    exact k _ s12
/-! ### lifted, lowest -/
def sp_lifted : Sp := fun vs H Q _ => ∃ p s r, vs = [.int p, .int s, .int r] ∧ 0 < s ∧ Q (.int (MP.lift p s r)) H
theorem ok_lifted (T : Txt K mg ad ai fd) : FnOk P w K mg base CX0 1 (ad 21) (fd 21) ["place", "step", "rest"] (sp_lifted) := by
  refine T.F_lifted.ok sc_lifted (fun vs H Q E h => ?_) (fun cdv A outer s H vs Q E hr h => ?_)
  · obtain ⟨p, s, r, rfl, _⟩ := h
    rfl
  · obtain ⟨p, s, r, rfl, hs, q⟩ := h
    refine ⟨_, (pss_one (ps_ret (pe_op op_add (pv 0) (pe_op op_modN (pe_op op_sub (pv 2) (pv 0)) (pv 1))))), ?_⟩
    exact ⟨_, rfl, _, rfl, _, rfl, _, _, rfl, rfl, _, rfl, _, _, rfl, rfl, (by omega : s ≠ 0), _, _, rfl, rfl, q⟩
theorem pt_of {qs : List Part} {i : Nat} {q : Part} (h : qs[i]? = some q) : MP.pt qs i = q := by
  unfold MP.pt
  rw [List.getD_eq_getElem?_getD, h]
  rfl
theorem sz_of {ns : List Int} {i : Nat} {n : Int} (h : ns[i]? = some n) : MP.sz ns i = n := by
  unfold MP.sz
  rw [List.getD_eq_getElem?_getD, h]
  rfl
theorem pt_at {qs : List Part} {i : Nat} (h : i < qs.length) : qs[i]? = some (MP.pt qs i) := by
  rw [List.getElem?_eq_getElem h, ← pt_of (List.getElem?_eq_getElem h)]
theorem sz_at {ns : List Int} {i : Nat} (h : i < ns.length) : ns[i]? = some (MP.sz ns i) := by
  rw [List.getElem?_eq_getElem h, ← sz_of (List.getElem?_eq_getElem h)]
theorem paired_at {α β : Type} {R : α → β → Prop} : ∀ {xs : List α} {ys : List β} {i : Nat} {y : β}, Paired R xs ys → ys[i]? = some y → ∃ x, xs[i]? = some x ∧ R x y
  | _, _, 0, _, .cons h _, e => ⟨_, rfl, by cases e; exact h⟩
  | _, _, i + 1, _, .cons _ t, e => paired_at (i := i) t e
  | _, _, _, _, .nil, e => by simp at e
/-- parts[i] -/
theorem PartsAt.get {H : Hp} {t : Addr} {qs : List Part} {i : Nat} (h : PartsAt H t qs) (hi : i < qs.length) : ∃ a xs, H t = some (.tup xs) ∧ xs[i]? = some (.ref a) ∧ IsQ H a (MP.pt qs i) := by
  obtain ⟨as, h1, h2⟩ := h
  obtain ⟨a, ea, ha⟩ := paired_at h2 (pt_at hi)
  exact ⟨a, _, h1, at_map ea, ha⟩
theorem al_pos {q : Part} {pg : Int} (h : PartOk pg q) : 0 < q.al := by
  have := h.al
  rcases Int.lt_or_le 0 q.al with c | c
  · exact c
  · exfalso
    simp [inV, eqV] at this
    omega
theorem pg_pos {qs : List Part} {pg : Int} (h : PlanOk pg qs) : 0 < pg := by
  have := h.pgs
  rcases Int.lt_or_le 0 pg with c | c
  · exact c
  · exfalso
    simp [inV, eqV] at this
    omega
def sp_lowest (C : Addr) : Sp := fun vs H Q _ => ∃ pl pg qs i e, vs = [.ref pl, .int (i : Nat), .int e] ∧ PlanAt C H pl pg qs ∧ PlanOk pg qs ∧ i < qs.length ∧ Q (.int (MP.low pg qs i e)) H
theorem ok_lowest (T : Txt K mg ad ai fd) : FnOk P w K mg base CX0 2 (ad 22) (fd 22) ["plan", "number", "end"] (sp_lowest (ad 19)) := by
  have G_lifted : FnOk P w K mg base CX0 1 (ad 21) (fd 21) ["place", "step", "rest"] (sp_lifted) := ok_lifted T
  refine T.F_lowest.ok sc_lowest (fun vs H Q E h => ?_) (fun cdv A outer s H vs Q E hr h => ?_)
  · obtain ⟨pl, pg, qs, i, e, rfl, _⟩ := h
    rfl
  · obtain ⟨pl, pg, qs, i, e, rfl, ⟨dx, t, hpl, hpt⟩, ok, hi, q⟩ := h
    refine ⟨_, (pss_cons (ps_set (i := 3) sc_lowest.nd rfl (.inl rfl) (pe_fld (pv 0) rfl))
      (pss_cons (ps_if (PW.pt (pw_and (pt_cmpR op_gt (pv 1) pe_int (nomark _)) (pw_and1 (pt_cmpR op_ne (pe_ix (ix_seq (K := K)) (pe_ix (ix_seq (K := K)) (pv 3) (pv 1) (fun _ _ => rfl)) pe_int (fun _ _ => rfl)) (pe_ix (ix_seq (K := K)) (pe_ix (ix_seq (K := K)) (pv 3) (pe_op op_sub (pv 1) pe_int) (fun _ _ => rfl)) pe_int (fun _ _ => rfl)) (nomark _))))) (pss_one (ps_ret (pe_call G_lifted (hr.mono (by decide)) (by rfl) T.g_lifted T.F_lifted.kp T.b_lifted .nil pass0 (pa_cons (pv 2) (pa_cons (pe_fld (pv 0) rfl) (pa_cons pe_int pa_nil)))))) pss_nil)
      (pss_one (ps_ret (pe_call G_lifted (hr.mono (by decide)) (by rfl) T.g_lifted T.F_lifted.kp T.b_lifted .nil pass0 (pa_cons (pv 2) (pa_cons (pe_ix (ix_seq (K := K)) (pe_ix (ix_seq (K := K)) (pv 3) (pv 1) (fun _ _ => rfl)) pe_int (fun _ _ => rfl)) (pa_cons pe_int pa_nil)))))))), ?_⟩
    refine ⟨_, rfl, pl, _, dx, _, _, rfl, hpl, T.cl_Plan, T.no_Plan_kept_parts, rfl, ?_⟩
    obtain ⟨a, xs, h1, h2, h3⟩ := hpt.get hi
    have okq : PartOk pg (MP.pt qs i) := ok.q _ (List.mem_of_getElem? (pt_at hi))
    refine ⟨_, rfl, _, _, rfl, rfl, _, rfl, ?_⟩
    have low1 : MP.bord qs i = true → MP.low pg qs i e = MP.lift e pg 0 := fun z => by
      unfold MP.low MP.step
      rw [if_pos z]
    have low0 : MP.bord qs i = false → MP.low pg qs i e = MP.lift e (MP.pt qs i).al 0 := fun z => by
      unfold MP.low MP.step
      rw [z]
      rfl
    by_cases c : 0 < i
    · rw [decide_eq_true (by omega : (0 : Int) < (i : Int))]
      obtain ⟨i0, rfl⟩ : ∃ i0, i = i0 + 1 := ⟨i - 1, by omega⟩
      obtain ⟨a', xs', h1', h2', h3'⟩ := hpt.get (i := i0) (by omega)
      have ei : ((i0 + 1 : Nat) : Int) - 1 = (i0 : Nat) := by omega
      refine ⟨_, rfl, _, rfl, ixS (j := i0 + 1) (sq_tup h1) h2 (ixS (j := 1) (sq_tup h3) rfl ?_)⟩
      refine ⟨_, rfl, _, rfl, _, _, rfl, rfl, ?_⟩
      dsimp only
      rw [ei]
      refine ixS (j := i0) (sq_tup h1') h2' (ixS (j := 1) (sq_tup h3') rfl ⟨rfl, _, rfl, ?_⟩)
      have eb : MP.bord qs (i0 + 1) = !decide (V.str (MP.pt qs (i0 + 1)).r = V.str (MP.pt qs i0).r) := by
        unfold MP.bord
        rw [decide_eq_true c, Bool.true_and]
        show (!decide ((MP.pt qs (i0 + 1)).r = (MP.pt qs i0).r)) = _
        by_cases z : (MP.pt qs (i0 + 1)).r = (MP.pt qs i0).r
        · rw [z, decide_eq_true rfl, decide_eq_true rfl]
        · rw [decide_eq_false z, decide_eq_false fun y => z (V.str.inj y)]
      rw [← eb]
      refine ite2 (fun z => ?_) (fun z => ?_)
      · refine ⟨_, rfl, _, rfl, pl, _, dx, _, _, rfl, hpl, T.cl_Plan, T.no_Plan_kept_page, rfl, ?_⟩
        refine ⟨_, _, _, rfl, pg_pos ok, ?_⟩
        rw [← low1 z]
        exact q
      · refine ⟨_, rfl, _, rfl, _, rfl, ixS (j := i0 + 1) (sq_tup h1) h2 (ixS (j := 2) (sq_tup h3) rfl ?_)⟩
        refine ⟨_, _, _, rfl, al_pos okq, ?_⟩
        rw [← low0 (Bool.eq_false_iff.mpr z)]
        exact q
    · rw [decide_eq_false (by omega : ¬ (0 : Int) < (i : Int))]
      refine ⟨_, rfl, _, rfl, _, rfl, ixS (j := i) (sq_tup h1) h2 (ixS (j := 2) (sq_tup h3) rfl ?_)⟩
      refine ⟨_, _, _, rfl, al_pos okq, ?_⟩
      have z : MP.bord qs i = false := by
        unfold MP.bord
        rw [decide_eq_false c]
        rfl
      rw [← low0 z]
      exact q
end
end Lk
namespace Lk
open PySem PySem.Spec PyProof.Rows L2 RZ
section
variable {P : Program} {w : World} {K : PySem.W.Frag} {mg : Str → Option Value} {base : Heap} {ad ai : Nat → Addr} {fd : Nat → FuncData}
/-! ### a plan is made -/
def sp_plan (C : Addr) : Sp := fun vs H Q _ => ∃ (x : Addr) (pg : Int) (l dx : Addr) (as : List Addr) (qs : List Part), vs = [.ref x, .int pg, .ref l] ∧ H x = some (.ins C dx []) ∧ H l = some (.lst (as.map V.ref)) ∧ Paired (IsQ H) as qs ∧ PlanOk pg qs ∧ ∀ H', SameBut x H H' → PlanAt C H' x pg qs → Q .non H'
theorem paired_same {H H' : Hp} {as : List Addr} {qs : List Part} (e : Same H H') (h : Paired (IsQ H) as qs) : Paired (IsQ H') as qs := paired_mono (fun a q z => e _ _ z) h
theorem nodup_at {ws : List Str} {i : Nat} {z : Str} (h : ws.Nodup) (e : ws[i]? = some z) : z ∉ ws.take i := by
  intro hm
  obtain ⟨j, hj, ej⟩ := List.getElem_of_mem hm
  rw [List.length_take] at hj
  have h1 : ws[j]? = some z := by
    rw [List.getElem?_eq_getElem (by omega), ← ej, List.getElem_take]
  have hi := (List.getElem?_eq_some_iff.mp e).1
  have := (List.getElem?_inj (by omega) h).mp (h1.trans e.symm)
  omega
/-- what the name ahead holds -/
def aheadV (as : List Addr) (i : Nat) : V := if i = 0 then .non else (as.map V.ref).getD (i - 1) .non
theorem aheadV_succ {as : List Addr} {i : Nat} {a : Addr} (h : as[i]? = some a) : aheadV as (i + 1) = .ref a := by
  unfold aheadV
  rw [if_neg (by omega)]
  show (as.map V.ref).getD i .non = _
  rw [List.getD_eq_getElem?_getD, at_map h]
  rfl
theorem ok_plan (T : Txt K mg ad ai fd) : FnOk P w K mg base CX0 4 (ai 1380) (fd 1380) ["self", "page", "parts"] (sp_plan (ad 19)) := by
  have G_is_list : FnOk P w K mg base CX0 1 (ad 4) (fd 4) ["thing"] (sp_is_list K) := ok_is_list T
  have G_is_integer : FnOk P w K mg base CX0 1 (ad 2) (fd 2) ["thing"] (sp_is_integer K) := ok_is_integer T
  have G_is_part : FnOk P w K mg base CX0 3 (ad 18) (fd 18) ["thing", "page", "met"] (sp_is_part) := ok_is_part T
  refine T.F_Plan___init__.ok sc_Plan___init__ (fun vs H Q E h => ?_) (fun cdv A outer s H vs Q E hr h => ?_)
  · obtain ⟨x, pg, l, dx, as, qs, rfl, _⟩ := h
    rfl
  · obtain ⟨x, pg, l, dx, as, qs, rfl, hx, hl, hpr, ok, k⟩ := h
    refine ⟨_, (pss_cons (ps_if (PW.pt (pw_or (pt_not (pt_val (pe_call G_is_integer (hr.mono (by decide)) (by rfl) T.g_is_integer T.F_is_integer.kp T.b_is_integer .nil pass0 (pa_cons (pv 1) pa_nil)))) (pw_or1 (pt_cmpR op_notIn_seq (pv 1) (pe_fun (by rfl) T.g_PAGES) rfl)))) (pss_one ps_never) pss_nil)
      (pss_cons (ps_if (PW.pt (pw_or (pt_not (pt_val (pe_call G_is_list (hr.mono (by decide)) (by rfl) T.g_is_list T.F_is_list.kp T.b_is_list .nil pass0 (pa_cons (pv 2) pa_nil)))) (pw_or1 (pt_cmpR op_eq (pe_callB (call_len (K := K)) (by rfl) T.n_len (by decide +kernel) (pa_cons (pv 2) pa_nil)) pe_int (nomark _))))) (pss_one ps_never) pss_nil)
      (pss_cons (ps_par (i := 3) (j := 4) (by rfl) sc_Plan___init__.nd rfl rfl (by decide) rfl rfl (pa_cons (pe_lst pa_nil) (pa_cons pe_non pa_nil)) (by rfl))
      (pss_cons (ps_for PassesOwn.never rfl (pi_enumS (K := K) (by rfl) T.n_enumerate (pa_cons (pv 2) pa_nil)) (pg_tp (K := K) (n := 2) rfl (pgs_cons (pg_name (i := 5) sc_Plan___init__.nd rfl (.inl rfl)) (pgs_cons (pg_name (i := 6) sc_Plan___init__.nd rfl (.inl rfl)) pgs_nil)))
          (pss_cons (ps_if (pt_not (pt_val (pe_call G_is_part (hr.mono (by decide)) (by rfl) T.g_is_part T.F_is_part.kp T.b_is_part .nil pass0 (pa_cons (pv 6) (pa_cons (pv 1) (pa_cons (pv 3) pa_nil)))))) (pss_one ps_never) pss_nil)
          (pss_cons (ps_if (PW.pt (pw_and (pt_cmpR op_notN (pv 4) pe_non (nomark _)) (pw_and (pt_val (pe_ix (ix_seq (K := K)) (pv 4) pe_int (fun _ _ => rfl))) (pw_and (pt_not (pt_val (pe_ix (ix_seq (K := K)) (pv 6) pe_int (fun _ _ => rfl)))) (pw_and1 (pt_cmpR op_eq (pe_ix (ix_seq (K := K)) (pv 4) pe_int (fun _ _ => rfl)) (pe_ix (ix_seq (K := K)) (pv 6) pe_int (fun _ _ => rfl)) (nomark _))))))) (pss_one ps_never) pss_nil)
          (pss_cons (ps_expr (pe_bmK (K := K) PySem.F.plainAttrs_list PySem.F.slot_list_append PySem.F.type_list_append mt_append (pv 3) (pa_cons (pe_ix (ix_seq (K := K)) (pv 6) pe_int (fun _ _ => rfl)) pa_nil)))
          (pss_one (ps_set (i := 4) sc_Plan___init__.nd rfl (.inl rfl) (pv 6)))))))
      (pss_cons (ps_fld (pv 0) (pv 1) rfl)
      (pss_one (ps_fld (pv 0) (pe_callTy (call_tuple (K := K)) (by rfl) T.n_tuple (by decide +kernel) (pa_cons (pe_lc (own := [("part", 6)]) rfl sc_Plan___init__.nd (pi_seq (K := K) (pv 2)) (blkOk_by (N := ["self", "page", "parts", "met", "ahead", "index", "part"]) (sc := defScope s_Plan___init__) (by decide +kernel)) (fun _ _ _ _ _ => (pg_name (i := 6) sc_Plan___init__.nd rfl (.inl rfl))) (fun _ _ _ _ _ => pts_nil) (fun _ _ _ _ _ => (pe_callTy (call_tuple (K := K)) (by rfl) T.n_tuple (by decide +kernel) (pa_cons (pv 6) pa_nil)))) pa_nil)) rfl))))))), ?_⟩
    have hlen : as.length = qs.length := paired_len hpr
    refine ⟨_, rfl, _, .int, rfl, hasTy_int, _, rfl, ?_⟩
    refine ⟨_, rfl, _, _, rfl, .inr (T.q_PAGES _), rfl, rfl, _, rfl, ?_⟩
    rw [ok.pgs]
    refine ⟨_, rfl, _, .lst, rfl, hasTy_lst (sqL_of hl), fun H1 s1 => ⟨_, rfl, ?_⟩⟩
    refine ⟨_, rfl, _, _, rfl, .inl (sqL_of (s1 _ _ hl)), rfl, _, rfl, ?_⟩
    have n0 : (as.map V.ref).length ≠ 0 := by
      rw [List.length_map, hlen]
      have := ok.one
      omega
    rw [decide_eq_false (fun z => n0 (by have := V.int.inj z; omega))]
    refine ⟨by show 0 ≤ sizeLine; decide, fun m nm => ?_⟩
    have s2 : Same H1 (upd H1 m (.lst [])) := same_new nm
    have hm2 : upd H1 m (.lst []) m = some (.lst []) := upd_same
    dsimp only [tNil]
    generalize upd H1 m (.lst []) = H2 at s2 hm2 ⊢
    have s12 := s1.trans s2
    have nmH : H m = none := s1.free nm
    have mx : m ≠ x := fun e => by rw [e, hx] at nmH; cases nmH
    have ml : m ≠ l := fun e => by rw [e, hl] at nmH; cases nmH
    refine ⟨_, _, rfl, ?_⟩
    refine ⟨_, rfl, for_enum (K := K) (sq_lst (s12 _ _ hl)) (fun i σ H' => (∃ y5 y6, σ = [some (.ref x), some (.int pg), some (.ref l), some (.ref m), some (aheadV as i), y5, y6]) ∧ Same H H' ∧ H' m = some (.lst (((qs.map Part.w).take i).map V.str))) ⟨⟨none, none, rfl⟩, s12, hm2⟩ (fun i σ H' h => ?_) ?_ ?_⟩
    · intro o ho
      rw [s12 _ _ hl] at ho
      cases ho
      exact h.2.1 _ _ hl
    · rintro i v σ H3 t ev ⟨⟨y5, y6, rfl⟩, s3, hm3⟩ nt
      obtain ⟨a, ea, rfl⟩ := map_at ev
      obtain ⟨q, eq, hq⟩ := paired_get hpr ea
      have st : Same H3 (upd H3 t (.tup [.int (i : Nat), .ref a])) := same_new nt
      refine ⟨t, _, rfl, sqT_of upd_same, rfl, _, _, rfl, _, _, rfl, rfl, ?_⟩
      generalize upd H3 t (.tup [.int (i : Nat), .ref a]) = H4 at st ⊢
      have s4 := s3.trans st
      have hm4 := st _ _ hm3
      have okq := ok.q q (List.mem_of_getElem? eq)
      have ew : (qs.map Part.w)[i]? = some q.w := at_map eq
      refine ⟨_, rfl, _, rfl, _, rfl, a, pg, m, _, q, rfl, s4 _ _ hq, hm4, nodup_at ok.nd ew, okq, fun H5 s5 => ⟨_, rfl, ?_⟩⟩
      have s45 := s4.trans s5
      have hm5 := s5 _ _ hm4
      have hq5 := s45 _ _ hq
      have app : (((qs.map Part.w).take i).map V.str).length < sizeLine ∧ Same H (upd H5 m (.lst (((qs.map Part.w).take i).map V.str ++ [.str q.w]))) ∧ (upd H5 m (.lst (((qs.map Part.w).take i).map V.str ++ [.str q.w]))) m = some (.lst (((qs.map Part.w).take (i + 1)).map V.str)) := by
        refine ⟨?_, s45.mut nmH, ?_⟩
        · rw [List.length_map, List.length_take, List.length_map, sizeLine_eq]
          have := ok.few
          omega
        · rw [upd_same, take_snoc ew, List.map_append]
          rfl
      by_cases c : i = 0
      · subst c
        refine ⟨_, rfl, rfl, _, rfl, ?_⟩
        refine ⟨_, rfl, .inl ⟨rfl, _, sqL_of hm5⟩, _, rfl, ixS (j := 0) (sq_tup hq5) rfl ⟨m, _, _, rfl, rfl, hm5, app.1, ?_⟩⟩
        exact ⟨_, rfl, ⟨_, _, by rw [aheadV_succ ea]; rfl⟩, app.2⟩
      · obtain ⟨i0, rfl⟩ : ∃ i0, i = i0 + 1 := ⟨i - 1, by omega⟩
        have hi := (List.getElem?_eq_some_iff.mp ea).1
        obtain ⟨a0, ea0⟩ : ∃ a0, as[i0]? = some a0 := ⟨_, List.getElem?_eq_getElem (by omega)⟩
        obtain ⟨q0, eq0, hq0⟩ := paired_get hpr ea0
        have hq05 := s45 _ _ hq0
        have adj := ok.adj i0 q0 q eq0 eq
        rw [aheadV_succ ea0]
        refine ⟨_, rfl, rfl, _, rfl, ?_⟩
        refine ⟨_, rfl, ixS (j := 5) (sq_tup hq05) rfl ⟨_, rfl, ?_⟩⟩
        by_cases z0 : q0.z = true
        · rw [z0]
          refine ⟨_, rfl, ixS (j := 5) (sq_tup hq5) rfl ⟨_, rfl, ?_⟩⟩
          by_cases z1 : q.z = true
          · rw [z1]
            refine ⟨_, rfl, .inl ⟨rfl, _, sqL_of hm5⟩, _, rfl, ixS (j := 0) (sq_tup hq5) rfl ⟨m, _, _, rfl, rfl, hm5, app.1, ?_⟩⟩
            exact ⟨_, rfl, ⟨_, _, by rw [aheadV_succ ea]; rfl⟩, app.2⟩
          · rw [Bool.eq_false_iff.mpr z1]
            refine ⟨_, rfl, ixS (j := 1) (sq_tup hq05) rfl ⟨_, rfl, ixS (j := 1) (sq_tup hq5) rfl ⟨rfl, _, rfl, ?_⟩⟩⟩
            have nr : ¬ V.str q0.r = V.str q.r := fun y => adj ⟨z0, Bool.eq_false_iff.mpr z1, V.str.inj y⟩
            rw [decide_eq_false nr]
            refine ⟨_, rfl, .inl ⟨rfl, _, sqL_of hm5⟩, _, rfl, ixS (j := 0) (sq_tup hq5) rfl ⟨m, _, _, rfl, rfl, hm5, app.1, ?_⟩⟩
            exact ⟨_, rfl, ⟨_, _, by rw [aheadV_succ ea]; rfl⟩, app.2⟩
        · rw [Bool.eq_false_iff.mpr z0]
          refine ⟨_, rfl, .inl ⟨rfl, _, sqL_of hm5⟩, _, rfl, ixS (j := 0) (sq_tup hq5) rfl ⟨m, _, _, rfl, rfl, hm5, app.1, ?_⟩⟩
          exact ⟨_, rfl, ⟨_, _, by rw [aheadV_succ ea]; rfl⟩, app.2⟩
    · rintro σ H3 ⟨⟨y5, y6, rfl⟩, s3, hm3⟩
      refine ⟨_, rfl, _, rfl, x, _, dx, _, rfl, s3 _ _ hx, T.cl_Plan, T.no_Plan_kept_page, by show 0 < 1000; decide, ?_⟩
      have sb4 : SameBut x H (upd H3 x (.ins (ad 19) dx (putF "kept_page" (.int pg) []))) := s3.but.trans SameBut.at_
      have hx4 : upd H3 x (.ins (ad 19) dx (putF "kept_page" (.int pg) [])) x = some (.ins (ad 19) dx [("kept_page", .int pg)]) := upd_same
      generalize upd H3 x (.ins (ad 19) dx (putF "kept_page" (.int pg) [])) = H4 at sb4 hx4 ⊢
      have lx : l ≠ x := ne_of hl hx (by intro z; cases z)
      have hl4 := sb4 _ _ lx hl
      have hpr4 : Paired (IsQ H4) as qs := paired_mono (fun a q z => sb4 _ _ (ne_of z hx (by intro z; cases z)) z) hpr
      refine ⟨_, rfl, lc_seq (K := K) (sq_lst hl4) (PvV H4 (as.map V.ref)) (fun D hD => vals0 hD) (fun D i H' hD pv => pv.1.keeps) ?_ ?_⟩
      · intro D i v H5 hD ev pv
        obtain ⟨a, ea, rfl⟩ := map_at ev
        obtain ⟨q, eq, hq⟩ := paired_get hpr4 ea
        refine ⟨rfl, ?_⟩
        refine ⟨_, rfl, a, _, rfl, .inr ⟨sqT_of (pv.1 _ _ hq), ?_⟩⟩
        exact vals_step pv hD (Same.refl _) ev (by rw [List.length_map]; have := ok.few; omega)
      · intro D H5 hD pv
        obtain ⟨s5, hd5⟩ := valsE pv rfl
        refine ⟨D, _, rfl, .inl ⟨sqL_of hd5, fun t nt => ?_⟩⟩
        have s6 : Same H5 (upd H5 t (.tup (as.map V.ref))) := same_new nt
        have ht6 : upd H5 t (.tup (as.map V.ref)) t = some (.tup (as.map V.ref)) := upd_same
        dsimp only
        generalize upd H5 t (.tup (as.map V.ref)) = H6 at s6 ht6 ⊢
        have s46 := s5.trans s6
        have tx : t ≠ x := ne_of ht6 (s46 _ _ hx4) (by intro z; cases z)
        refine ⟨_, rfl, x, _, dx, _, rfl, s46 _ _ hx4, T.cl_Plan, T.no_Plan_kept_parts, by show 1 < 1000; decide, ?_⟩
        refine k _ ((sb4.trans s46.but).trans SameBut.at_) ⟨dx, t, upd_same, as, ?_, ?_⟩
        · rw [upd_ne tx]
          exact ht6
        · refine paired_mono (fun a q z => ?_) hpr4
          have z6 := s46 _ _ z
          show upd H6 x _ a = _
          rw [upd_ne (ne_of z6 (s46 _ _ hx4) (by intro z; cases z))]
          exact z6
end
end Lk
namespace Lk
open PySem PySem.Spec PyProof.Rows L2 RZ
section
variable {P : Program} {w : World} {K : PySem.W.Frag} {mg : Str → Option Value} {base : Heap} {ad ai : Nat → Addr} {fd : Nat → FuncData}
structure SizesOk (qs : List Part) (ns : List Int) : Prop where
  len : ns.length = qs.length
  at_ : ∀ i, i < qs.length → (MP.pt qs i).lo ≤ MP.sz ns i ∧ MP.sz ns i ≤ (MP.pt qs i).hi
theorem ints_at {ns : List Int} {i : Nat} (h : i < ns.length) : (ns.map V.int)[i]? = some (.int (MP.sz ns i)) := at_map (sz_at h)
/-! ### checked_sizes -/
def sp_sizes (K : PySem.W.Frag) (C : Addr) : Sp := fun vs H Q _ => ∃ (pl s : Addr) (pg : Int) (qs : List Part) (ns : List Int), vs = [.ref pl, .ref s] ∧ PlanAt C H pl pg qs ∧ PlanOk pg qs ∧ Sq K H s (ns.map V.int) ∧ SizesOk qs ns ∧ ∀ H' l, Same H H' → H l = none → H' l = some (.lst (ns.map V.int)) → Q (.ref l) H'
theorem ok_sizes (T : Txt K mg ad ai fd) : FnOk P w K mg base CX0 2 (ad 20) (fd 20) ["plan", "sizes"] (sp_sizes K (ad 19)) := by
  have G_is_list : FnOk P w K mg base CX0 1 (ad 4) (fd 4) ["thing"] (sp_is_list K) := ok_is_list T
  have G_is_integer : FnOk P w K mg base CX0 1 (ad 2) (fd 2) ["thing"] (sp_is_integer K) := ok_is_integer T
  refine T.F_checked_sizes.ok sc_checked_sizes (fun vs H Q E h => ?_) (fun cdv A outer s H vs Q E hr h => ?_)
  · obtain ⟨pl, s, pg, qs, ns, rfl, _⟩ := h
    rfl
  · obtain ⟨pl, sa, pg, qs, ns, rfl, hpl, ok, hs, sok, k⟩ := h
    refine ⟨_, (pss_cons (ps_if (pt_not (pt_val (pe_call G_is_list (hr.mono (by decide)) (by rfl) T.g_is_list T.F_is_list.kp T.b_is_list .nil pass0 (pa_cons (pv 1) pa_nil)))) (pss_one ps_never) pss_nil)
      (pss_cons (ps_set (i := 2) sc_checked_sizes.nd rfl (.inl rfl) (pe_fld (pv 0) rfl))
      (pss_cons (ps_for PassesOwn.never rfl (pi_enumS (K := K) (by rfl) T.n_enumerate (pa_cons (pv 1) pa_nil)) (pg_tp (K := K) (n := 2) rfl (pgs_cons (pg_name (i := 3) sc_checked_sizes.nd rfl (.inl rfl)) (pgs_cons (pg_name (i := 4) sc_checked_sizes.nd rfl (.inl rfl)) pgs_nil)))
          (pss_one (ps_if (PW.pt (pw_or (pt_cmpR op_ge (pv 3) (pe_callB (call_len (K := K)) (by rfl) T.n_len (by decide +kernel) (pa_cons (pv 2) pa_nil)) (nomark _)) (pw_or (pt_not (pt_val (pe_call G_is_integer (hr.mono (by decide)) (by rfl) T.g_is_integer T.F_is_integer.kp T.b_is_integer .nil pass0 (pa_cons (pv 4) pa_nil)))) (pw_or1 (pt_not (pt_chain op_le op_le (pe_ix (ix_seq (K := K)) (pe_ix (ix_seq (K := K)) (pv 2) (pv 3) (fun _ _ => rfl)) pe_int (fun _ _ => rfl)) (pv 4) (pe_ix (ix_seq (K := K)) (pe_ix (ix_seq (K := K)) (pv 2) (pv 3) (fun _ _ => rfl)) pe_int (fun _ _ => rfl)))))))) (pss_one ps_never) pss_nil)))
      (pss_cons (ps_if (pt_cmpR op_lt (pe_callB (call_len (K := K)) (by rfl) T.n_len (by decide +kernel) (pa_cons (pv 1) pa_nil)) (pe_callB (call_len (K := K)) (by rfl) T.n_len (by decide +kernel) (pa_cons (pv 2) pa_nil)) (nomark _)) (pss_one ps_never) pss_nil)
      (pss_one (ps_ret (pe_callTy (call_list (K := K)) (by rfl) T.n_list (by decide +kernel) (pa_cons (pv 1) pa_nil)))))))), ?_⟩
    obtain ⟨ty, hty, e⟩ := hs.tys
    refine ⟨_, rfl, _, ty, rfl, hty, fun H1 s1 => ⟨_, rfl, ?_⟩⟩
    rw [e]
    obtain ⟨dx, t, h1, h2⟩ := hpl.same s1
    refine ⟨_, rfl, pl, _, dx, _, _, rfl, h1, T.cl_Plan, T.no_Plan_kept_parts, rfl, ?_⟩
    refine ⟨_, rfl, for_enum (K := K) (s1.sq hs) (fun i σ H' => (∃ y3 y4, σ = [some (.ref pl), some (.ref sa), some (.ref t), y3, y4]) ∧ Same H1 H') ⟨⟨none, none, rfl⟩, Same.refl _⟩ (fun i σ H' h => h.2.keeps) ?_ ?_⟩
    · rintro i v σ H3 tt ev ⟨⟨y3, y4, rfl⟩, s3⟩ nt
      obtain ⟨n, en, rfl⟩ := map_at ev
      have hi := (List.getElem?_eq_some_iff.mp en).1
      have hiq : i < qs.length := by rw [← sok.len]; exact hi
      have s4 := s3.new (o := .tup [.int (i : Nat), .int n]) nt
      refine ⟨tt, _, rfl, sqT_of upd_same, rfl, _, _, rfl, _, _, rfl, rfl, ?_⟩
      generalize upd H3 tt (.tup [.int (i : Nat), .int n]) = H4 at s4 ⊢
      have hpt4 := h2.same s4
      obtain ⟨as, ht4, hpr4⟩ := h2.same s4
      have el := paired_len hpr4
      obtain ⟨a, xs, g1, g2, g3⟩ := hpt4.get hiq
      refine ⟨_, rfl, _, rfl, _, _, rfl, .inr (sqT_of ht4), _, _, rfl, rfl, _, rfl, ?_⟩
      rw [decide_eq_false (by rw [List.length_map, el]; omega)]
      refine ⟨_, rfl, _, .int, rfl, hasTy_int, _, rfl, ?_⟩
      obtain ⟨b1, b2⟩ := sok.at_ i hiq
      rw [sz_of en] at b1 b2
      refine ⟨_, rfl, _, rfl, ixS (j := i) (sq_tup g1) g2 (ixS (j := 3) (sq_tup g3) rfl ⟨_, rfl, _, _, rfl, rfl, _, rfl, ?_⟩)⟩
      rw [decide_eq_true b1]
      refine ⟨_, rfl, _, rfl, ixS (j := i) (sq_tup g1) g2 (ixS (j := 4) (sq_tup g3) rfl ⟨_, _, rfl, rfl, _, rfl, ?_⟩)⟩
      dsimp only
      rw [decide_eq_true b2]
      exact ⟨⟨_, _, rfl⟩, s4⟩
    · rintro σ H3 ⟨⟨y3, y4, rfl⟩, s3⟩
      obtain ⟨as, ht3, hpr3⟩ := h2.same s3
      have el := paired_len hpr3
      refine ⟨_, rfl, _, _, rfl, (s1.trans s3).sq hs, _, rfl, _, _, rfl, .inr (sqT_of ht3), _, _, rfl, rfl, _, rfl, ?_⟩
      rw [decide_eq_false (by rw [List.length_map, List.length_map, el, sok.len]; omega)]
      refine ⟨_, rfl, sa, _, rfl, (s1.trans s3).sq hs, fun l nl => ?_⟩
      exact k _ l ((s1.trans s3).new nl) ((s1.trans s3).free nl) upd_same
/-! ### layouts in memory -/
def offV : Option Int → V
  | none => .non
  | some o => .int o
abbrev objL (x : Int × Option Int) : HO := .tup [.int x.1, offV x.2]
def LayAt (H : Hp) (l : Addr) (L : List (Int × Option Int)) : Prop := ∃ as : List Addr, H l = some (.lst (as.map V.ref)) ∧ Paired (fun a x => H a = some (objL x)) as L
theorem LayAt.same {H H' : Hp} {l : Addr} {L : List (Int × Option Int)} (e : Same H H') (h : LayAt H l L) : LayAt H' l L := by
  obtain ⟨as, h1, h2⟩ := h
  exact ⟨as, e _ _ h1, paired_mono (fun a x z => e _ _ z) h2⟩
theorem GrowO.lay {H1 H' : Hp} {D : Addr} {L : List (Int × Option Int)} (g : GrowO objL H1 D L H') : LayAt H' D L := by
  obtain ⟨_, as, h1, h2, _⟩ := g
  exact ⟨as, h1, h2⟩
theorem lay_len {f : MP.Way} {ns : List Int} {m : Nat} : (MP.lay f ns m).length = m := by
  unfold MP.lay
  rw [List.length_map, List.length_range]
theorem lay_succ {f : MP.Way} {ns : List Int} {i : Nat} : MP.lay f ns (i + 1) = MP.lay f ns i ++ [MP.out f ns i] := by
  unfold MP.lay
  rw [List.range_succ, List.map_append]
  rfl
theorem lay_at {f : MP.Way} {ns : List Int} {i m : Nat} (h : i < m) : (MP.lay f ns m)[i]? = some (MP.out f ns i) := range_take_at h
/-- what is promised of a function that lays out by f -/
def sp_lay (K : PySem.W.Frag) (C : Addr) (f : Int → List Part → MP.Way) : Sp := fun vs H Q _ => ∃ (pl s : Addr) (pg : Int) (qs : List Part) (ns : List Int), vs = [.ref pl, .ref s] ∧ PlanAt C H pl pg qs ∧ PlanOk pg qs ∧ Sq K H s (ns.map V.int) ∧ SizesOk qs ns ∧ ∀ H' l, Same H H' → H l = none → LayAt H' l (MP.lay (f pg qs) ns qs.length) → Q (.ref l) H'
theorem GrowO.same {β : Type} {obj : β → HO} {H Ha Hb : Hp} {D : Addr} {L : List β} (g : GrowO obj H D L Ha) (e : Same Ha Hb) : GrowO obj H D L Hb := by
  obtain ⟨a1, as, a2, a3, a4⟩ := g
  exact ⟨a1.trans e, as, e _ _ a2, paired_mono (fun a x z => e _ _ z) a3, a4⟩
theorem GrowO.at_ {β : Type} {obj : β → HO} {H Ha : Hp} {D : Addr} {L : List β} (g : GrowO obj H D L Ha) : ∃ xs, Ha D = some (.lst xs) := by
  obtain ⟨a1, as, a2, a3, a4⟩ := g
  exact ⟨_, a2⟩
/-- found.append((address, offset)) -/
theorem lay_step {f : MP.Way} {ns : List Int} {i : Nat} {H H4 : Hp} {D : Addr} {a : Int} {o : Option Int} (nD : H D = none) (g : GrowO objL H D (MP.lay f ns i) H4) (hi : i ≤ 100) (eo : MP.out f ns i = (a, o)) (t : Addr) (nt : H4 t = none) :
    ∃ acc, (upd H4 t (.tup [.int a, offV o])) D = some (.lst acc) ∧ acc.length < sizeLine ∧ GrowO objL H D (MP.lay f ns (i + 1)) (upd (upd H4 t (.tup [.int a, offV o])) D (.lst (acc ++ [.ref t]))) := by
  have := growO_step (obj := objL) (q := (a, o)) g nD (Same.refl _) (by rw [lay_len]; omega) t nt
  rw [lay_succ, eo]
  exact this
end
end Lk
namespace Lk
open PySem PySem.Spec PyProof.Rows L2 RZ
/-- what follows a known value -/
theorem te_val {t : TE} {σ : L2.St} {H : Hp} {Q : VK} (v : V) (h : ∀ Qr : VK, Qr v H → t σ H Qr) (k : Q v H) : t σ H Q := h Q k
theorem ne_true {a b : Int} (h : a ≠ b) : (!decide (V.int a = V.int b)) = true := by
  rw [decide_eq_false fun z => h (V.int.inj z)]
  rfl
theorem ne_false {a b : Int} (h : a = b) : (!decide (V.int a = V.int b)) = false := by
  rw [h, decide_eq_true rfl]
  rfl
def PartsL (H : Hp) (l : Addr) (qs : List Part) : Prop := ∃ as : List Addr, H l = some (.lst (as.map V.ref)) ∧ Paired (IsQ H) as qs
theorem PartsL.same {H H' : Hp} {t : Addr} {qs : List Part} (e : Same H H') (h : PartsL H t qs) : PartsL H' t qs := by
  obtain ⟨as, h1, h2⟩ := h
  exact ⟨as, e _ _ h1, paired_mono (fun a q z => e _ _ z) h2⟩
theorem PartsL.get {H : Hp} {t : Addr} {qs : List Part} {i : Nat} (h : PartsL H t qs) (hi : i < qs.length) : ∃ a xs, H t = some (.lst xs) ∧ xs[i]? = some (.ref a) ∧ IsQ H a (MP.pt qs i) := by
  obtain ⟨as, h1, h2⟩ := h
  obtain ⟨a, ea, ha⟩ := paired_at h2 (pt_at hi)
  exact ⟨a, _, h1, at_map ea, ha⟩
/-- what the law knows of its parts -/
structure PartsOk (pg : Int) (qs : List Part) : Prop where
  pos : 0 < pg
  al : ∀ i, i < qs.length → 0 < (MP.pt qs i).al
  few : qs.length ≤ 100
section
variable {P : Program} {w : World} {K : PySem.W.Frag} {mg : Str → Option Value} {base : Heap} {ad ai : Nat → Addr} {fd : Nat → FuncData}
def sp_llow : Sp := fun vs H Q _ => ∃ (pg : Int) (l : Addr) (i : Nat) (e : Int) (qs : List Part), vs = [.int pg, .ref l, .int (i : Nat), .int e] ∧ PartsL H l qs ∧ PartsOk pg qs ∧ i < qs.length ∧ Q (.int (MP.low pg qs i e)) H
theorem ok_llow (T : Txt K mg ad ai fd) : FnOk P w K mg base CX0 1 (ad 45) (fd 45) ["_law_page", "_law_parts_here", "_law_k", "_law_end"] (sp_llow) := by
  refine T.F_law_lowest.ok sc_law_lowest (fun vs H Q E h => ?_) (fun cdv A outer s H vs Q E hr h => ?_)
  · obtain ⟨pg, l, i, e, qs, rfl, _⟩ := h
    rfl
  · obtain ⟨pg, l, i, e, qs, rfl, hpl, ok, hi, q⟩ := h
    refine ⟨_, (pss_cons (ps_set (i := 4) sc_law_lowest.nd rfl (.inl rfl) (pe_and (pe_cmpR op_gt (pv 2) pe_int (nomark _)) (pe_one (pe_cmpR op_ne (pe_ix (ix_seq (K := K)) (pe_ix (ix_seq (K := K)) (pv 1) (pv 2) (fun _ _ => rfl)) pe_int (fun _ _ => rfl)) (pe_ix (ix_seq (K := K)) (pe_ix (ix_seq (K := K)) (pv 1) (pe_op op_sub (pv 2) pe_int) (fun _ _ => rfl)) pe_int (fun _ _ => rfl)) (nomark _)))))
      (pss_cons (ps_set (i := 5) sc_law_lowest.nd rfl (.inl rfl) (pv 3))
      (pss_cons (ps_while PassesOwn.never (pt_cmpR op_ne (pe_op op_modN (pv 5) (pe_ifExp (pt_val (pv 4)) (pv 0) (pe_ix (ix_seq (K := K)) (pe_ix (ix_seq (K := K)) (pv 1) (pv 2) (fun _ _ => rfl)) pe_int (fun _ _ => rfl)))) pe_int (nomark _))
          (pss_one (ps_set (i := 5) sc_law_lowest.nd rfl (.inl rfl) (pe_op op_add (pv 5) pe_int))))
      (pss_one (ps_ret (pv 5)))))), ?_⟩
    obtain ⟨a, xs, h1, h2, h3⟩ := hpl.get hi
    refine te_val (t := tAndV _ _) (.bl (MP.bord qs i)) (fun Qr hq => ?_) ?_
    · refine ⟨_, rfl, _, _, rfl, rfl, _, rfl, ?_⟩
      by_cases c : 0 < i
      · rw [decide_eq_true (by omega : (0 : Int) < (i : Int))]
        obtain ⟨i0, rfl⟩ : ∃ i0, i = i0 + 1 := ⟨i - 1, by omega⟩
        obtain ⟨a', xs', h1', h2', h3'⟩ := hpl.get (i := i0) (by omega)
        have ei : ((i0 + 1 : Nat) : Int) - 1 = (i0 : Nat) := by omega
        refine ⟨_, rfl, _, rfl, ixS (j := i0 + 1) (sq_lst h1) h2 (ixS (j := 1) (sq_tup h3) rfl ?_)⟩
        refine ⟨_, rfl, _, rfl, _, _, rfl, rfl, ?_⟩
        dsimp only
        rw [ei]
        refine ixS (j := i0) (sq_lst h1') h2' (ixS (j := 1) (sq_tup h3') rfl ⟨rfl, ?_⟩)
        have eb : MP.bord qs (i0 + 1) = !decide (V.str (MP.pt qs (i0 + 1)).r = V.str (MP.pt qs i0).r) := by
          unfold MP.bord
          rw [decide_eq_true c, Bool.true_and]
          show (!decide ((MP.pt qs (i0 + 1)).r = (MP.pt qs i0).r)) = _
          by_cases z : (MP.pt qs (i0 + 1)).r = (MP.pt qs i0).r
          · rw [z, decide_eq_true rfl, decide_eq_true rfl]
          · rw [decide_eq_false z, decide_eq_false fun y => z (V.str.inj y)]
        rw [← eb]
        exact hq
      · rw [decide_eq_false (by omega : ¬ (0 : Int) < (i : Int))]
        have z : MP.bord qs i = false := by
          unfold MP.bord
          rw [decide_eq_false c]
          rfl
        rw [z] at hq
        exact hq
    refine ⟨_, rfl, ?_⟩
    have hst : 0 < MP.step pg qs i := by
      unfold MP.step
      split
      · exact ok.pos
      · exact ok.al i hi
    have hge : e ≤ MP.low pg qs i e := MP.lift_ge hst
    refine ⟨fun m σ H' => H' = H ∧ ∃ p, σ = [some (.int pg), some (.ref l), some (.int (i : Nat)), some (.int e), some (.bl (MP.bord qs i)), some (.int p)] ∧ e ≤ p ∧ p ≤ MP.low pg qs i e ∧ m = (MP.low pg qs i e - p).toNat, ⟨_, rfl, e, rfl, Int.le_refl _, hge, rfl⟩, ?_⟩
    rintro m σ H' ⟨rfl, p, rfl, p1, p2, rfl⟩
    refine ⟨_, rfl, ?_⟩
    refine te_val (t := tIf _ _ _) (.int (MP.step pg qs i)) (fun Qr hq => ?_) ?_
    · refine ⟨_, rfl, _, rfl, ?_⟩
      unfold MP.step at hq
      refine ite2 (fun c => ?_) (fun c => ?_)
      · rw [if_pos c] at hq
        exact ⟨_, rfl, hq⟩
      · rw [if_neg c] at hq
        exact ⟨_, rfl, _, rfl, ixS (j := i) (sq_lst h1) h2 (ixS (j := 2) (sq_tup h3) rfl hq)⟩
    refine ⟨_, _, rfl, rfl, (by omega : MP.step pg qs i ≠ 0), rfl, _, rfl, ?_⟩
    have hz := MP.lift_at (r := 0) hst p1 p2
    rw [Int.sub_zero, ← MP.fmod_zero hst] at hz
    by_cases c : p = MP.low pg qs i e
    · rw [ne_false (hz.mpr c)]
      refine ⟨_, rfl, ?_⟩
      rw [c]
      exact q
    · rw [ne_true fun z => c (hz.mp z)]
      refine ⟨fun σ' H'' => H'' = H' ∧ σ' = [some (.int pg), some (.ref l), some (.int (i : Nat)), some (.int e), some (.bl (MP.bord qs i)), some (.int (p + 1))], ?_, ?_⟩
      · rintro σ' H'' ⟨rfl, rfl⟩
        exact ⟨_, by omega, rfl, p + 1, rfl, by omega, by omega, rfl⟩
      · exact ⟨_, rfl, _, _, rfl, rfl, rfl, rfl⟩
def sp_lrest : Sp := fun vs H Q _ => ∃ pg st pl : Int, vs = [.int pg, .int st, .int pl] ∧ 0 < pg ∧ Q (.int (MP.lift st pg pl)) H
def addrs (pg : Int) (qs : List Part) (ns : List Int) (m : Nat) : List Int := (MP.lay (MP.fE pg qs) ns m).map (·.1)
theorem addrs_len {pg : Int} {qs : List Part} {ns : List Int} {m : Nat} : (addrs pg qs ns m).length = m := by
  unfold addrs
  rw [List.length_map, lay_len]
theorem addrs_succ {pg : Int} {qs : List Part} {ns : List Int} {i : Nat} : addrs pg qs ns (i + 1) = addrs pg qs ns i ++ [MP.low pg qs i (MP.st (MP.fE pg qs) ns i).1] := by
  unfold addrs
  rw [lay_succ, List.map_append]
  rfl
theorem addrs_at {pg : Int} {qs : List Part} {ns : List Int} {i m : Nat} (h : i < m) : (addrs pg qs ns m)[i]? = some (MP.low pg qs i (MP.st (MP.fE pg qs) ns i).1) := at_map (lay_at h)
def TrkI (H : Hp) (s : Addr) (ns : List Int) : Prop := H s = some (.lst (ns.map V.int)) ∨ H s = some (.tup (ns.map V.int))
theorem TrkI.same {H H' : Hp} {s : Addr} {ns : List Int} (e : Same H H') (h : TrkI H s ns) : TrkI H' s ns := h.imp (fun z => e _ _ z) fun z => e _ _ z
theorem TrkI.sq {H : Hp} {s : Addr} {ns : List Int} (h : TrkI H s ns) : Sq K H s (ns.map V.int) := h.imp sqL_of sqT_of
def sp_laddr : Sp := fun vs H Q _ => ∃ (pg : Int) (l s : Addr) (qs : List Part) (ns : List Int), vs = [.int pg, .ref l, .ref s] ∧ PartsL H l qs ∧ PartsOk pg qs ∧ TrkI H s ns ∧ ns.length = qs.length ∧ ∀ H' r, Same H H' → H r = none → H' r = some (.lst ((addrs pg qs ns qs.length).map V.int)) → Q (.ref r) H'
theorem ok_laddr (T : Txt K mg ad ai fd) : FnOk P w K mg base CX0 2 (ad 46) (fd 46) ["_law_page", "_law_parts_here", "_law_sizes"] (sp_laddr) := by
  have G_law_lowest : FnOk P w K mg base CX0 1 (ad 45) (fd 45) ["_law_page", "_law_parts_here", "_law_k", "_law_end"] (sp_llow) := ok_llow T
  refine T.F_law_addresses.ok sc_law_addresses (fun vs H Q E h => ?_) (fun cdv A outer s H vs Q E hr h => ?_)
  · obtain ⟨pg, l, s, qs, ns, rfl, _⟩ := h
    rfl
  · obtain ⟨pg, l, sa, qs, ns, rfl, hpl, ok, hs, hn, k⟩ := h
    refine ⟨_, (pss_cons (ps_par (i := 3) (j := 4) (by rfl) sc_law_addresses.nd rfl rfl (by decide) rfl rfl (pa_cons (pe_lst pa_nil) (pa_cons pe_int pa_nil)) (by rfl))
      (pss_cons (ps_for PassesOwn.never rfl (pi_enumS (K := K) (by rfl) T.n_enumerate (pa_cons (pv 2) pa_nil)) (pg_tp (K := K) (n := 2) rfl (pgs_cons (pg_name (i := 5) sc_law_addresses.nd rfl (.inl rfl)) (pgs_cons (pg_name (i := 6) sc_law_addresses.nd rfl (.inl rfl)) pgs_nil)))
          (pss_cons (ps_expr (pe_bmK (K := K) PySem.F.plainAttrs_list PySem.F.slot_list_append PySem.F.type_list_append mt_append (pv 3) (pa_cons (pe_call G_law_lowest (hr.mono (by decide)) (by rfl) T.g_law_lowest T.F_law_lowest.kp T.b_law_lowest .nil pass0 (pa_cons (pv 0) (pa_cons (pv 1) (pa_cons (pv 5) (pa_cons (pv 4) pa_nil))))) pa_nil)))
          (pss_one (ps_set (i := 4) sc_law_addresses.nd rfl (.inl rfl) (pe_op op_add (pe_ix (ix_seq (K := K)) (pv 3) (pe_un un_neg pe_int) (fun _ _ => rfl)) (pv 6))))))
      (pss_one (ps_ret (pv 3))))), ?_⟩
    refine ⟨by show 0 ≤ sizeLine; decide, fun D nD => ?_⟩
    have s1 : Same H (upd H D (.lst [])) := same_new nD
    have hD1 : upd H D (.lst []) D = some (.lst []) := upd_same
    dsimp only [tNil]
    generalize upd H D (.lst []) = H1 at s1 hD1 ⊢
    refine ⟨_, _, rfl, ?_⟩
    refine ⟨_, rfl, for_enum (K := K) (hs.same s1).sq (fun i σ H' => (∃ y5 y6, σ = [some (.int pg), some (.ref l), some (.ref sa), some (.ref D), some (.int (MP.st (MP.fE pg qs) ns i).1), y5, y6]) ∧ Same H H' ∧ H' D = some (.lst ((addrs pg qs ns i).map V.int))) ⟨⟨_, _, rfl⟩, s1, hD1⟩ (fun i σ H' h => ?_) ?_ ?_⟩
    · rcases hs with hs | hs <;>
      · intro o ho
        rw [s1 _ _ hs] at ho
        cases ho
        exact h.2.1 _ _ hs
    · rintro i v σ H3 tt ev ⟨⟨y5, y6, rfl⟩, s3, hD3⟩ nt
      obtain ⟨n, en, rfl⟩ := map_at ev
      have hin := (List.getElem?_eq_some_iff.mp en).1
      have hiq : i < qs.length := by omega
      have en' := sz_of en
      subst en'
      have s4 : Same H3 (upd H3 tt (.tup [.int (i : Nat), V.int (MP.sz ns i)])) := same_new nt
      refine ⟨tt, _, rfl, sqT_of upd_same, rfl, _, _, rfl, _, _, rfl, rfl, ?_⟩
      generalize upd H3 tt (.tup [.int (i : Nat), V.int (MP.sz ns i)]) = H4 at s4 ⊢
      have s04 := s3.trans s4
      have hD4 := s4 _ _ hD3
      refine ⟨_, rfl, .inl ⟨rfl, _, sqL_of hD4⟩, _, rfl, _, rfl, _, rfl, _, rfl, pg, l, i, _, qs, rfl, hpl.same s04, ok, hiq, ?_⟩
      have hl : ((addrs pg qs ns i).map V.int).length < sizeLine := by
        rw [List.length_map, addrs_len, sizeLine_eq]
        have := ok.few
        omega
      refine ⟨D, _, _, rfl, rfl, hD4, hl, ?_⟩
      have hD5 : upd H4 D (.lst ((addrs pg qs ns i).map V.int ++ [.int (MP.low pg qs i (MP.st (MP.fE pg qs) ns i).1)])) D = some (.lst ((addrs pg qs ns i).map V.int ++ [.int (MP.low pg qs i (MP.st (MP.fE pg qs) ns i).1)])) := upd_same
      have s5 : Same H (upd H4 D (.lst ((addrs pg qs ns i).map V.int ++ [.int (MP.low pg qs i (MP.st (MP.fE pg qs) ns i).1)]))) := s04.mut nD
      generalize upd H4 D (.lst ((addrs pg qs ns i).map V.int ++ [.int (MP.low pg qs i (MP.st (MP.fE pg qs) ns i).1)])) = H5 at hD5 s5 ⊢
      refine ⟨_, rfl, _, rfl, .inl ⟨D, _, _, _, rfl, rfl, sqL_of hD5, atI_last _ _, _, rfl, _, _, rfl, rfl, ?_⟩⟩
      exact ⟨⟨_, _, rfl⟩, s5, by rw [addrs_succ, List.map_append]; exact hD5⟩
    · rintro σ H3 ⟨⟨y5, y6, rfl⟩, s3, hD3⟩
      rw [List.length_map, hn] at hD3
      exact ⟨_, rfl, k H3 D s3 nD hD3⟩
/-- what is promised of the law's own layouts -/
def sp_llay (f : Int → List Part → MP.Way) : Sp := fun vs H Q _ => ∃ (pg : Int) (l s : Addr) (qs : List Part) (ns : List Int), vs = [.int pg, .ref l, .ref s] ∧ PartsL H l qs ∧ PartsOk pg qs ∧ H s = some (.lst (ns.map V.int)) ∧ ns.length = qs.length ∧ ∀ H' r, Same H H' → H r = none → LayAt H' r (MP.lay (f pg qs) ns qs.length) → Q (.ref r) H'
end
end Lk
namespace Lk
open PySem PySem.Spec PyProof.Rows L2 RZ
/-- a value known by what holds of it -/
theorem te_any {t : TE} {σ : L2.St} {H : Hp} {Q : VK} (R : V → Hp → Prop) (h : ∀ Qr : VK, (∀ v H1, R v H1 → Qr v H1) → t σ H Qr) (k : ∀ v H1, R v H1 → Q v H1) : t σ H Q := h Q k
/-- a statement known by what holds behind it -/
theorem ts_any {t : TS} {D : Ends} {σ : L2.St} {H : Hp} (R : L2.St → Hp → Prop) (h : ∀ N : L2.St → Hp → Prop, (∀ σ1 H1, R σ1 H1 → N σ1 H1) → t { D with nx := N } σ H) (k : ∀ σ1 H1, R σ1 H1 → D.nx σ1 H1) : t D σ H := h D.nx k
/-! ### a list that grows while the pool at p changes -/
def GrowP {β : Type} (p : Addr) (obj : β → HO) (H1 : Hp) (D : Addr) (qs : List β) (H' : Hp) : Prop := SameBut p H1 H' ∧ ∃ as : List Addr, H' D = some (.lst (as.map V.ref)) ∧ Paired (fun a q => H' a = some (obj q)) as qs ∧ ∀ b ∈ as, b ≠ D ∧ b ≠ p ∧ H1 b = none
section
variable {β : Type} {p : Addr} {obj : β → HO} {H1 H' H2 : Hp} {D : Addr} {qs : List β}
theorem growP0 (hD : H1 D = none) : GrowP p obj H1 D [] (upd H1 D (.lst [])) := ⟨(same_new hD).but, [], upd_same, .nil, (fun b hb => nomatch hb)⟩
theorem GrowP.same (g : GrowP p obj H1 D qs H') (e : Same H' H2) : GrowP p obj H1 D qs H2 := by
  obtain ⟨a1, as, a2, a3, a4⟩ := g
  exact ⟨a1.trans e.but, as, e _ _ a2, paired_mono (fun a x z => e _ _ z) a3, a4⟩
theorem GrowP.pool (g : GrowP p obj H1 D qs H') (pD : D ≠ p) (e : SameBut p H' H2) : GrowP p obj H1 D qs H2 := by
  obtain ⟨a1, as, a2, a3, a4⟩ := g
  exact ⟨a1.trans e, as, e _ _ pD a2, paired_mem a3 fun a x ha z => e _ _ (a4 a ha).2.1 z, a4⟩
theorem GrowP.at_ (g : GrowP p obj H1 D qs H') : ∃ as : List Addr, H' D = some (.lst (as.map V.ref)) ∧ Paired (fun a q => H' a = some (obj q)) as qs := by
  obtain ⟨a1, as, a2, a3, a4⟩ := g
  exact ⟨as, a2, a3⟩
theorem GrowP.step {q : β} {u : HO} (g : GrowP p obj H1 D qs H2) (hp : H1 p = some u) (hD : H1 D = none) (hl : qs.length < 100000) (t : Addr) (nt : H2 t = none) (hp2 : ∃ o, H2 p = some o) :
    ∃ acc, (upd H2 t (obj q)) D = some (.lst acc) ∧ acc.length < sizeLine ∧ GrowP p obj H1 D (qs ++ [q]) (upd (upd H2 t (obj q)) D (.lst (acc ++ [.ref t]))) := by
  obtain ⟨s3, as, hd2, hpr, hne⟩ := g
  have ntD : D ≠ t := ne_of_none hd2 nt
  have tp : t ≠ p := fun z => by
    obtain ⟨o, ho⟩ := hp2
    rw [z, ho] at nt
    cases nt
  refine ⟨as.map V.ref, ?_, ?_, ?_⟩
  · rw [upd_ne ntD]
    exact hd2
  · rw [List.length_map, paired_len hpr, sizeLine_eq]
    omega
  · refine ⟨fun b' o' n0 e' => ?_, as ++ [t], ?_, ?_, ?_⟩
    · have n1 : b' ≠ D := ne_of_none e' hD
      have e2 := s3 _ _ n0 e'
      have n2 : b' ≠ t := ne_of_none e2 nt
      rw [upd_ne n1, upd_ne n2]
      exact e2
    · rw [upd_same, List.map_append]
      rfl
    · refine paired_snoc ?_ (paired_mem hpr fun c x hc hcq => ?_)
      · show (upd (upd H2 t (obj q)) D _) t = _
        rw [upd_ne (Ne.symm ntD), upd_same]
      · show (upd (upd H2 t (obj q)) D _) c = _
        rw [upd_ne (hne c hc).1, upd_ne (ne_of_none hcq nt)]
        exact hcq
    · intro c hc
      rcases List.mem_append.mp hc with hc | hc
      · exact hne c hc
      · cases List.mem_singleton.mp hc
        refine ⟨Ne.symm ntD, tp, ?_⟩
        cases z : H1 t with
        | none => rfl
        | some o =>
          rw [s3 t o tp z] at nt
          cases nt
end
section
variable {K : PySem.W.Frag}
/-- pick of a written list -/
theorem pick_lit {p a : Addr} {k : Nat} {xs : List V} {H1 : Hp} {Q : VK} {E : XK} (hp : Pool H1 p k) (hk : k ≤ 1000000) (na : H1 a = none) (h1 : 1 ≤ xs.length) (h2 : xs.length ≤ 1000) (q : ∀ x H2, x ∈ xs → Pool H2 p (k + 1) → SameBut p H1 H2 → Q x H2) : sp_pick K [.ref p, .ref a] (upd H1 a (.lst xs)) Q E := by
  obtain ⟨u, hu⟩ := hp.at_
  have ap : a ≠ p := fun z => by rw [z, hu] at na; cases na
  exact ⟨p, a, xs, k, rfl, hp.keeps (same_new na).keeps, hk, sq_lst upd_same, ap, h1, h2, fun x o hx hp2 => q x _ hx hp2 ((same_new na).but.trans SameBut.at_)⟩
theorem draw_of {p : Addr} {k : Nat} {m : Int} {H1 : Hp} {Q : VK} {E : XK} (hp : Pool H1 p k) (hk : k ≤ 1000000) (h1 : 1 ≤ m) (h2 : m ≤ 1000000) (q : ∀ r H2, 0 ≤ r → r < m → Pool H2 p (k + 1) → SameBut p H1 H2 → Q (.int r) H2) : sp_draw [.ref p, .int m] H1 Q E :=
  ⟨p, m, k, rfl, hp, hk, h1, h2, fun r o r0 r1 hp2 => q r _ r0 r1 hp2 SameBut.at_⟩
theorem cut_take {xs : List V} {m : Int} (h0 : 0 ≤ m) (h1 : m ≤ xs.length) : cutV xs none (some m) = xs.take m.toNat := by
  obtain ⟨k, rfl⟩ : ∃ k : Nat, m = k := ⟨m.toNat, by omega⟩
  unfold cutV
  rw [HT.sIx_nat, HT.sIx_none]
  show List.take (min k xs.length - 0) xs = xs.take k
  rw [Nat.sub_zero, Nat.min_eq_left (by omega)]
end
def W8 : List Str := ["a", "bss", "cc", "data", "e", "f", "g", "h"]
theorem W8_ok : ∀ z ∈ W8, WordOk z := by
  intro z hz
  unfold W8 at hz
  simp only [List.mem_cons, List.not_mem_nil, or_false] at hz
  rcases hz with rfl | rfl | rfl | rfl | rfl | rfl | rfl | rfl <;> exact ⟨by decide, by decide, by decide +kernel⟩
theorem W8_nd : W8.Nodup := by decide
/-- how many sizes in all -/
def widQ (qs : List Part) : Int := qs.foldl (fun a q => a * (q.hi - q.lo + 1)) 1
theorem widQ_snoc {qs : List Part} {q : Part} : widQ (qs ++ [q]) = widQ qs * (q.hi - q.lo + 1) := by
  unfold widQ
  rw [List.foldl_append]
  rfl
/-- what the drawn parts keep -/
structure Drawn (pg : Int) (qs : List Part) : Prop where
  lo : ∀ q ∈ qs, q.lo ≤ 1000 ∧ q.w ∈ W8
  q : ∀ q ∈ qs, PartOk pg q ∧ q.hi ≤ q.lo + 1000
  adj : ∀ i p q, qs[i]? = some p → qs[i + 1]? = some q → ¬ (p.z = true ∧ q.z = false ∧ p.r = q.r)
theorem Drawn.nil {pg : Int} : Drawn pg [] := ⟨fun q hq => (by cases hq), fun q hq => (by cases hq), fun i p q h => (by simp at h)⟩
theorem Drawn.snoc {pg : Int} {qs : List Part} {q : Part} (d : Drawn pg qs) (h : PartOk pg q ∧ q.hi ≤ q.lo + 1000) (ha : ∀ p, qs.getLast? = some p → ¬ (p.z = true ∧ q.z = false ∧ p.r = q.r)) (hl : q.lo ≤ 1000 ∧ q.w ∈ W8) : Drawn pg (qs ++ [q]) := by
  refine ⟨fun x hx => ?_, fun x hx => ?_, fun i x y ex ey => ?_⟩
  · rcases List.mem_append.mp hx with hx | hx
    · exact d.lo x hx
    · cases List.mem_singleton.mp hx
      exact hl
  · rcases List.mem_append.mp hx with hx | hx
    · exact d.q x hx
    · cases List.mem_singleton.mp hx
      exact h
  · have hi := (List.getElem?_eq_some_iff.mp ey).1
    rw [List.length_append, List.length_singleton] at hi
    by_cases c : i + 1 < qs.length
    · rw [List.getElem?_append_left (by omega)] at ex
      rw [List.getElem?_append_left c] at ey
      exact d.adj i x y ex ey
    · have e : i + 1 = qs.length := by omega
      rw [List.getElem?_append_right (by omega), e, Nat.sub_self] at ey
      cases ey
      rw [List.getElem?_append_left (by omega)] at ex
      refine ha x ?_
      rw [List.getLast?_eq_getElem?, ← ex]
      congr 1
      omega
theorem Drawn.plan {pg : Int} {qs : List Part} (d : Drawn pg qs) (hp : inV (.int pg) [.int 8, .int 16, .int 32, .int 64] = true) (h1 : 1 ≤ qs.length) (h2 : qs.length ≤ 100) (hn : (qs.map Part.w).Nodup) : PlanOk pg qs := ⟨hp, h1, h2, fun q hq => (d.q q hq).1, hn, d.adj⟩
end Lk
namespace Lk
open PySem PySem.Spec PyProof.Rows L2 RZ
section
variable {P : Program} {w : World} {K : PySem.W.Frag} {mg : Str → Option Value} {base : Heap} {ad ai : Nat → Addr} {fd : Nat → FuncData}
/-- the law's drawn parts -/
def sp_parts : Sp := fun vs H Q _ => ∃ (p : Addr) (pg m sp : Int) (n : Nat), vs = [.ref p, .int pg, .int m, .int sp] ∧ Pool H p n ∧ n ≤ 100000 ∧ 8 ≤ pg ∧ pg ≤ 64 ∧ 1 ≤ m ∧ m ≤ 8 ∧ 0 ≤ sp ∧ sp ≤ 1000 ∧
  ∀ H' l qs, Pool H' p (n + 200) → GrowP p objQ H l qs H' → H l = none → (qs.length : Int) = m → (qs.map Part.w).Nodup → Drawn pg qs → Q (.ref l) H'
/-- the heap within the loop -/
def JP (p : Addr) (H : Hp) (D c : Addr) (ws : List Str) (qs : List Part) (k : Nat) (H' : Hp) : Prop := GrowP p objQ H D qs H' ∧ Pool H' p k ∧ H' c = some (.lst (ws.map V.str)) ∧ c ≠ p ∧ D ≠ p ∧ c ≠ D
theorem JP.same {p : Addr} {H : Hp} {D c : Addr} {ws : List Str} {qs : List Part} {k : Nat} {H1 H2 : Hp} (j : JP p H D c ws qs k H1) (e : Same H1 H2) : JP p H D c ws qs k H2 := ⟨j.1.same e, j.2.1.keeps e.keeps, e _ _ j.2.2.1, j.2.2.2⟩
theorem JP.pool {p : Addr} {H : Hp} {D c : Addr} {ws : List Str} {qs : List Part} {k k' : Nat} {H1 H2 : Hp} (j : JP p H D c ws qs k H1) (e : SameBut p H1 H2) (h : Pool H2 p k') : JP p H D c ws qs k' H2 := ⟨j.1.pool j.2.2.2.2.1 e, h, e _ _ j.2.2.2.1 j.2.2.1, j.2.2.2⟩
def backS : V → Str
  | .str z => z
  | _ => "a"
theorem perm_strs {ys : List V} {ws : List Str} (h : ys.Perm (ws.map V.str)) : ∃ ys' : List Str, ys = ys'.map V.str ∧ ys'.Perm ws := by
  refine ⟨ys.map backS, ?_, ?_⟩
  · rw [List.map_map]
    have e : ys.map id = ys.map (V.str ∘ backS) := List.map_congr_left fun x hx => by
      obtain ⟨z, _, rfl⟩ := List.mem_map.mp (h.mem_iff.mp hx)
      rfl
    rw [List.map_id] at e
    exact e
  · have := h.map backS
    rw [List.map_map] at this
    have e : ws.map (backS ∘ V.str) = ws := List.map_id'' (fun x => rfl) ws
    rw [e] at this
    exact this
theorem filt1 {p : Int → Bool} {v : Int} (h : p v = true) : [v].filter p = [v] := by
  rw [List.filter_cons, if_pos h]
  rfl
theorem filt0 {p : Int → Bool} {v : Int} (h : ¬ p v = true) : [v].filter p = [] := by
  rw [List.filter_cons, if_neg h]
  rfl
def R3 : List V := [.str "rx", .str "r", .str "rw"]
theorem R3_ok {v : V} (h : v ∈ R3) : ∃ z, v = .str z ∧ inV (.str z) [.str "r", .str "rw", .str "rx"] = true := by
  unfold R3 at h
  simp only [List.mem_cons, List.not_mem_nil, or_false] at h
  rcases h with rfl | rfl | rfl
  · exact ⟨_, rfl, by decide +kernel⟩
  · exact ⟨_, rfl, by decide +kernel⟩
  · exact ⟨_, rfl, by decide +kernel⟩
theorem ok_parts (T : Txt K mg ad ai fd) : FnOk P w K mg base CX0 3 (ad 44) (fd 44) ["_law_source_here", "_law_page", "_law_many", "_law_spread"] (sp_parts) := by
  have G_law_mixed : FnOk P w K mg base CX0 2 (ad 41) (fd 41) ["_law_source_here", "_law_things"] (sp_mixed K) := ok_mixed T
  have G_law_pick : FnOk P w K mg base CX0 2 (ad 40) (fd 40) ["_law_source_here", "_law_things"] (sp_pick K) := ok_pick T
  have G_law_draw : FnOk P w K mg base CX0 1 (ad 39) (fd 39) ["_law_source_here", "_law_many"] (sp_draw) := ok_draw T
  refine T.F_law_parts.ok sc_law_parts (fun vs H Q E h => ?_) (fun cdv A outer s H vs Q E hr h => ?_)
  · obtain ⟨p, pg, m, sp, n, rfl, _⟩ := h
    rfl
  · obtain ⟨p, pg, m, sp, n, rfl, hp, hn, g8, g64, m1, m8, sp0, sp1, k⟩ := h
    refine ⟨_, (pss_cons (ps_par (i := 4) (j := 5) (by rfl) sc_law_parts.nd rfl rfl (by decide) rfl rfl (pa_cons (pe_slice (sl_lst (K := K)) (pe_call G_law_mixed (hr.mono (by decide)) (by rfl) T.g_law_mixed T.F_law_mixed.kp T.b_law_mixed .nil pass0 (pa_cons (pv 0) (pa_cons (pe_lst (pa_cons pe_str (pa_cons pe_str (pa_cons pe_str (pa_cons pe_str (pa_cons pe_str (pa_cons pe_str (pa_cons pe_str (pa_cons pe_str pa_nil))))))))) pa_nil))) po_none (po_some (pv 2))) (pa_cons (pe_lst pa_nil) pa_nil)) (by rfl))
      (pss_cons (ps_set (i := 6) sc_law_parts.nd rfl (.inl rfl) (pe_call G_law_pick (hr.mono (by decide)) (by rfl) T.g_law_pick T.F_law_pick.kp T.b_law_pick .nil pass0 (pa_cons (pv 0) (pa_cons (pe_lst (pa_cons pe_str (pa_cons pe_str (pa_cons pe_str pa_nil)))) pa_nil))))
      (pss_cons (ps_for PassesOwn.never rfl (pi_seq (K := K) (pv 4)) (pg_name (i := 7) sc_law_parts.nd rfl (.inl rfl))
          (pss_cons (ps_if (pt_cmpR op_eq (pe_call G_law_draw (hr.mono (by decide)) (by rfl) T.g_law_draw T.F_law_draw.kp T.b_law_draw .nil pass0 (pa_cons (pv 0) (pa_cons pe_int pa_nil))) pe_int (nomark _)) (pss_one (ps_set (i := 6) sc_law_parts.nd rfl (.inl rfl) (pe_call G_law_pick (hr.mono (by decide)) (by rfl) T.g_law_pick T.F_law_pick.kp T.b_law_pick .nil pass0 (pa_cons (pv 0) (pa_cons (pe_lst (pa_cons pe_str (pa_cons pe_str (pa_cons pe_str pa_nil)))) pa_nil))))) pss_nil)
          (pss_cons (ps_set (i := 8) sc_law_parts.nd rfl (.inl rfl) (pe_call G_law_pick (hr.mono (by decide)) (by rfl) T.g_law_pick T.F_law_pick.kp T.b_law_pick .nil pass0 (pa_cons (pv 0) (pa_cons (pe_lst (pa_cons pe_int (pa_cons pe_int (pa_cons pe_int (pa_cons pe_int (pa_cons pe_int (pa_cons pe_int (pa_cons (pv 1) (pa_cons (pe_op op_add (pv 1) pe_int) pa_nil))))))))) pa_nil))))
          (pss_cons (ps_set (i := 9) sc_law_parts.nd rfl (.inl rfl) (pe_or (pe_cmpR op_eq (pe_call G_law_draw (hr.mono (by decide)) (by rfl) T.g_law_draw T.F_law_draw.kp T.b_law_draw .nil pass0 (pa_cons (pv 0) (pa_cons pe_int pa_nil))) pe_int (nomark _)) (pe_one (pe_and (pe_cmpR (op_neNil (K := K) (hu_of hr)) (pv 5) (pe_lst pa_nil) (nomark _)) (pe_and (pe_ix (ix_seq (K := K)) (pe_ix (ix_seq (K := K)) (pv 5) (pe_un un_neg pe_int) (fun _ _ => rfl)) pe_int (fun _ _ => rfl)) (pe_one (pe_cmpR op_eq (pe_ix (ix_seq (K := K)) (pe_ix (ix_seq (K := K)) (pv 5) (pe_un un_neg pe_int) (fun _ _ => rfl)) pe_int (fun _ _ => rfl)) (pv 6) (nomark _))))))))
          (pss_cons (ps_set (i := 10) sc_law_parts.nd rfl (.inl rfl) (pe_ix (ix_seq (K := K)) (pe_lc (own := [("_law_one", 11)]) rfl sc_law_parts.nd (pi_seq (K := K) (pe_op op_cat (pe_lst (pa_cons (pe_call G_law_pick (hr.mono (by decide)) (by rfl) T.g_law_pick T.F_law_pick.kp T.b_law_pick .nil pass0 (pa_cons (pv 0) (pa_cons (pe_lst (pa_cons pe_int (pa_cons pe_int (pa_cons pe_int (pa_cons pe_int (pa_cons pe_int (pa_cons pe_int pa_nil))))))) pa_nil))) pa_nil)) (pe_lst (pa_cons pe_int pa_nil)))) (blkOk_by (N := ["_law_source_here", "_law_page", "_law_many", "_law_spread", "_law_words", "_law_found", "_law_rights", "_law_word", "_law_least", "_law_zeros", "_law_align", "_law_one", "_law_more"]) (sc := defScope s_law_parts) (by decide +kernel)) (fun _ _ _ _ _ => (pg_name (i := 11) sc_law_parts.nd rfl (.inl rfl))) (fun _ _ _ _ _ => (pts_one (pt_cmpR op_le (pv 11) (pv 1) (nomark _)))) (fun _ _ _ _ _ => (pv 11))) pe_int (fun _ _ => rfl)))
          (pss_cons (ps_set (i := 12) sc_law_parts.nd rfl (.inl rfl) (pe_call G_law_pick (hr.mono (by decide)) (by rfl) T.g_law_pick T.F_law_pick.kp T.b_law_pick .nil pass0 (pa_cons (pv 0) (pa_cons (pe_lst (pa_cons pe_int (pa_cons pe_int (pa_cons pe_int (pa_cons (pv 3) (pa_cons (pe_call G_law_draw (hr.mono (by decide)) (by rfl) T.g_law_draw T.F_law_draw.kp T.b_law_draw .nil pass0 (pa_cons (pv 0) (pa_cons (pe_op op_add (pv 3) pe_int) pa_nil))) pa_nil)))))) pa_nil))))
          (pss_one (ps_expr (pe_bmK (K := K) PySem.F.plainAttrs_list PySem.F.slot_list_append PySem.F.type_list_append mt_append (pv 5) (pa_cons (pe_tup (pa_cons (pv 7) (pa_cons (pv 6) (pa_cons (pv 10) (pa_cons (pv 8) (pa_cons (pe_op op_add (pv 8) (pv 12)) (pa_cons (pv 9) pa_nil))))))) pa_nil))))))))))
      (pss_one (ps_ret (pv 5)))))), ?_⟩
    obtain ⟨u, hu⟩ := hp.at_
    refine ⟨_, rfl, by show 8 ≤ sizeLine; decide, fun wl nwl => ?_⟩
    have swl : Same H (upd H wl (.lst (W8.map V.str))) := same_new nwl
    refine ⟨p, wl, W8.map V.str, n, rfl, hp.keeps swl.keeps, sq_lst upd_same, by decide, by show n + 8 ≤ 1000000; omega, fun H2 ml ys sb2 hp2 nml pm hml => ?_⟩
    have sbH2 : SameBut p H H2 := swl.but.trans sb2
    obtain ⟨ys', rfl, pm'⟩ : ∃ ys' : List Str, ys = ys'.map V.str ∧ ys'.Perm W8 := by
      exact perm_strs pm
    refine ⟨_, rfl, _, rfl, _, _, rfl, sqL_of hml, fun c nc => ?_⟩
    have hlen8 : ys'.length = 8 := pm'.length_eq
    rw [cut_take (by omega) (by rw [List.length_map, hlen8]; omega), ← List.map_take]
    generalize hws : ys'.take m.toNat = ws
    have wsl : (ws.length : Int) = m := by
      rw [← hws, List.length_take, hlen8]
      omega
    have wsn : ws.Nodup := by
      rw [← hws]
      exact (pm'.nodup_iff.mpr W8_nd).sublist (List.take_sublist _ _)
    have ws8 : ∀ z ∈ ws, z ∈ W8 := fun z hz => pm'.mem_iff.mp (by rw [← hws] at hz; exact List.mem_of_mem_take hz)
    have wsk : ∀ z ∈ ws, WordOk z := fun z hz => W8_ok z (ws8 z hz)
    obtain ⟨u2, hu2⟩ := hp2.at_
    have cp : c ≠ p := fun z => by rw [z, hu2] at nc; cases nc
    have s3 : Same H2 (upd H2 c (.lst (ws.map V.str))) := same_new nc
    have hc3 : upd H2 c (.lst (ws.map V.str)) c = some (.lst (ws.map V.str)) := upd_same
    generalize upd H2 c (.lst (ws.map V.str)) = H3 at s3 hc3 ⊢
    refine ⟨by show 0 ≤ sizeLine; decide, fun D nD => ?_⟩
    have nDp : D ≠ p := fun z => by rw [z, s3 _ _ hu2] at nD; cases nD
    have cD : c ≠ D := fun z => by rw [← z, hc3] at nD; cases nD
    have nDH : H D = none := by
      cases z : H D with
      | none => rfl
      | some o =>
        rw [s3 _ _ (sbH2 _ _ nDp z)] at nD
        cases nD
    have j4 : JP p H D c ws [] (n + 8) (upd H3 D (.lst [])) := by
      refine ⟨⟨(sbH2.trans s3.but).trans (same_new nD).but, [], upd_same, .nil, fun b hb => by cases hb⟩, ?_, ?_, cp, nDp, cD⟩
      · exact (hp2.keeps s3.keeps).keeps (same_new nD).keeps
      · rw [upd_ne cD]
        exact hc3
    try dsimp only [tNil]
    generalize upd H3 D (.lst []) = H4 at j4 ⊢
    refine ⟨_, _, rfl, ?_⟩
    refine ⟨_, rfl, by show 3 ≤ sizeLine; decide, fun r3 nr3 => ?_⟩
    try dsimp only [tNil]
    refine pick_lit j4.2.1 (by omega) nr3 (by decide) (by decide) fun rv H5 hrv hp5 sb5 => ?_
    have j5 := j4.pool sb5 hp5
    obtain ⟨rz0, rfl, hrz0⟩ := R3_ok hrv
    refine ⟨_, rfl, ?_⟩
    refine for_seq (K := K) (sq_lst j5.2.2.1) (fun i σ H' => (∃ rz y7 y8 y9 y10 y11 y12, σ = [some (.ref p), some (.int pg), some (.int m), some (.int sp), some (.ref c), some (.ref D), some (.str rz), y7, y8, y9, y10, y11, y12] ∧ inV (.str rz) [.str "r", .str "rw", .str "rx"] = true) ∧ ∃ qs, JP p H D c ws qs (n + 9 + 10 * i) H' ∧ qs.map Part.w = ws.take i ∧ Drawn pg qs) ⟨⟨rz0, _, _, _, _, _, _, rfl, hrz0⟩, [], j5, rfl, Drawn.nil⟩ (fun i σ H' h o ho => ?_) ?_ ?_
    · obtain ⟨qs, j, _⟩ := h.2
      rw [j5.2.2.1] at ho
      cases ho
      exact j.2.2.1
    · rintro i v σ H6 ev ⟨⟨rz, y7, y8, y9, y10, y11, y12, rfl, hrz⟩, qs, j6, ew, dr⟩
      obtain ⟨wd, ewd, rfl⟩ := map_at ev
      have hi8 : i < 8 := by
        have := (List.getElem?_eq_some_iff.mp ewd).1
        omega
      -- rights
      refine ts_any (t := tIfS _ _ _) (fun σ1 H1 => ∃ rz', inV (.str rz') [.str "r", .str "rw", .str "rx"] = true ∧ σ1 = [some (.ref p), some (.int pg), some (.int m), some (.int sp), some (.ref c), some (.ref D), some (.str rz'), some (.str wd), y8, y9, y10, y11, y12] ∧ JP p H D c ws qs (n + 11 + 10 * i) H1) (fun N hN => ?_) ?_
      · refine ⟨_, rfl, ?_⟩
        try dsimp only [tCons, tC, tNil]
        refine draw_of j6.2.1 (by omega) (by decide) (by decide) fun r H7 r0 r1 hp7 sb7 => ?_
        have j7 := j6.pool sb7 hp7
        refine ⟨rfl, _, rfl, ?_⟩
        refine ite2 (fun cc => ?_) (fun cc => ?_)
        · refine ⟨_, rfl, by show 3 ≤ sizeLine; decide, fun a na => ?_⟩
          try dsimp only [tNil]
          refine pick_lit j7.2.1 (by omega) na (by decide) (by decide) fun x H8 hx hp8 sb8 => ?_
          obtain ⟨z, rfl, hz⟩ := R3_ok hx
          exact hN _ _ ⟨z, hz, rfl, j7.pool sb8 (hp8.mono (by omega))⟩
        · exact hN _ _ ⟨rz, hrz, rfl, j7.pool (k' := n + 11 + 10 * i) SameBut.refl (hp7.mono (by omega))⟩
      rintro σ1 H7 ⟨rz', hrz', rfl, j7⟩
      -- least
      refine ⟨_, rfl, _, rfl, _, rfl, _, _, rfl, rfl, by show 8 ≤ sizeLine; decide, fun a na => ?_⟩
      try dsimp only [tNil]
      refine pick_lit j7.2.1 (by omega) na (by show 1 ≤ 8; decide) (by show 8 ≤ 1000; decide) fun lv H8 hlv hp8 sb8 => ?_
      obtain ⟨lo, rfl, lo0, lo1⟩ : ∃ lo : Int, lv = .int lo ∧ 0 ≤ lo ∧ lo ≤ 65 := by
        simp only [List.mem_cons, List.not_mem_nil, or_false] at hlv
        rcases hlv with rfl | rfl | rfl | rfl | rfl | rfl | rfl | rfl <;> exact ⟨_, rfl, by omega, by omega⟩
      have j8 := j7.pool sb8 hp8
      -- zeros
      refine te_any (t := tOrV _ _) (fun v H1 => ∃ b, v = .bl b ∧ (∀ q0, qs.getLast? = some q0 → ¬ (q0.z = true ∧ b = false ∧ q0.r = rz')) ∧ JP p H D c ws qs (n + 13 + 10 * i) H1) (fun Qr hq => ?_) ?_
      · refine ⟨_, rfl, ?_⟩
        try dsimp only [tCons, tC, tNil]
        refine draw_of j8.2.1 (by omega) (by decide) (by decide) fun r H9 r0 r1 hp9 sb9 => ?_
        have j9 : JP p H D c ws qs (n + 13 + 10 * i) H9 := j8.pool sb9 (hp9.mono (by omega))
        refine ⟨rfl, _, rfl, ?_⟩
        refine ite2 (fun cc => ?_) (fun cc => ?_)
        · exact hq _ _ ⟨true, rfl, fun q0 _ z => Bool.noConfusion z.2.1, j9⟩
        · refine ⟨_, rfl, by show 0 ≤ sizeLine; decide, fun e ne => ?_⟩
          have j10 := j9.same (same_new (o := .lst []) ne)
          have he : upd H9 e (.lst []) e = some (.lst []) := upd_same
          try dsimp only [tNil]
          generalize upd H9 e (.lst []) = H10 at j10 he ⊢
          obtain ⟨as, hD, hpr⟩ := j10.1.at_
          refine ⟨_, _, _, rfl, rfl, sqL_of hD, sqL_of he, _, rfl, ?_⟩
          rcases List.eq_nil_or_concat qs with rfl | ⟨qs0, q0, rfl⟩
          · have ea : as = [] := List.eq_nil_of_length_eq_zero (paired_len hpr)
            subst ea
            exact hq _ _ ⟨false, rfl, fun q0 z => (by cases z), j10⟩
          · obtain ⟨as0, a0, rfl⟩ : ∃ as0 a0, as = as0 ++ [a0] := by
              rcases List.eq_nil_or_concat as with rfl | ⟨x, y, e⟩
              · have := paired_len hpr
                simp at this
              · exact ⟨x, y, by rw [e, List.concat_eq_append]⟩
            have hl2 := paired_len hpr
            rw [List.concat_eq_append] at hpr hl2
            obtain ⟨q', eq', hq'⟩ := paired_get (i := as0.length) (x := a0) hpr (by rw [List.getElem?_append_right (by omega), Nat.sub_self]; rfl)
            have l0 : as0.length = qs0.length := by
              rw [List.length_append, List.length_append] at hl2
              simpa using hl2
            rw [l0, List.getElem?_append_right (by omega), Nat.sub_self] at eq'
            cases eq'
            have hD' : H10 D = some (.lst (as0.map V.ref ++ [.ref a0])) := by rw [hD, List.map_append]; rfl
            have hem : (!((as0 ++ [a0]).map V.ref).isEmpty) = true := by
              rw [List.map_append]
              cases as0 <;> rfl
            rw [hem]
            have hlast : ∀ qq, (qs0.concat q0).getLast? = some qq → qq = q0 := fun qq z => by
              rw [List.concat_eq_append, List.getLast?_append] at z
              exact (Option.some.inj z).symm
            refine ⟨_, rfl, _, rfl, .inl ⟨D, _, _, _, rfl, rfl, sqL_of hD', atI_last _ _, ixS (j := 5) (sq_tup hq') rfl ⟨_, rfl, ?_⟩⟩⟩
            by_cases z0 : q0.z = true
            · rw [z0]
              refine ⟨_, rfl, _, rfl, .inl ⟨D, _, _, _, rfl, rfl, sqL_of hD', atI_last _ _, ixS (j := 1) (sq_tup hq') rfl ⟨_, rfl, rfl, ?_⟩⟩⟩
              refine hq _ _ ⟨_, rfl, fun qq z y => ?_, j10⟩
              cases hlast qq z
              exact of_decide_eq_false y.2.1 (by rw [y.2.2])
            · rw [Bool.eq_false_iff.mpr z0]
              refine hq _ _ ⟨false, rfl, fun qq z y => ?_, j10⟩
              cases hlast qq z
              exact z0 y.1
      rintro zv H9 ⟨zb, rfl, hzb, j9⟩
      -- align
      dsimp only [gName]
      refine te_any (t := tOp _ _ _) (fun v H1 => ∃ al : Int, v = .int al ∧ inV (.int al) [.int 1, .int 2, .int 4, .int 8, .int 16, .int 32, .int 64] = true ∧ al ≤ pg ∧ JP p H D c ws qs (n + 14 + 10 * i) H1) (fun Qr hq => ?_) ?_
      · refine ⟨_, rfl, by show 6 ≤ sizeLine; decide, fun a na => ?_⟩
        try dsimp only [tNil]
        refine pick_lit j9.2.1 (by omega) na (by show 1 ≤ 6; decide) (by show 6 ≤ 1000; decide) fun av H10 hav hp10 sb10 => ?_
        obtain ⟨al, rfl, hal⟩ : ∃ al : Int, av = .int al ∧ inV (.int al) [.int 1, .int 2, .int 4, .int 8, .int 16, .int 32, .int 64] = true := by
          simp only [List.mem_cons, List.not_mem_nil, or_false] at hav
          rcases hav with rfl | rfl | rfl | rfl | rfl | rfl <;> exact ⟨_, rfl, by decide +kernel⟩
        have j10 : JP p H D c ws qs (n + 14 + 10 * i) H10 := j9.pool sb10 (hp10.mono (by omega))
        refine ⟨by show 1 ≤ sizeLine; decide, fun b1 nb1 => ?_⟩
        have j11 := j10.same (same_new (o := .lst [.int al]) nb1)
        have hb1 : upd H10 b1 (.lst [.int al]) b1 = some (.lst [.int al]) := upd_same
        try dsimp only [tNil]
        generalize upd H10 b1 (.lst [.int al]) = H11 at j11 hb1 ⊢
        refine ⟨by show 1 ≤ sizeLine; decide, fun b2 nb2 => ?_⟩
        have j12 := j11.same (same_new (o := .lst [.int 1]) nb2)
        have hb2 : upd H11 b2 (.lst [.int 1]) b2 = some (.lst [.int 1]) := upd_same
        have hb12 := same_new (o := .lst [.int 1]) nb2 _ _ hb1
        try dsimp only [tNil]
        generalize upd H11 b2 (.lst [.int 1]) = H12 at j12 hb2 hb12 ⊢
        refine ⟨b1, b2, _, _, rfl, rfl, hb12, hb2, by show 2 ≤ sizeLine; decide, fun b3 nb3 => ?_⟩
        have j13 := j12.same (same_new (o := .lst [.int al, .int 1]) nb3)
        have hb3 : upd H12 b3 (.lst [.int al, .int 1]) b3 = some (.lst [.int al, .int 1]) := upd_same
        dsimp only [List.cons_append, List.nil_append]
        generalize upd H12 b3 (.lst [.int al, .int 1]) = H13 at j13 hb3 ⊢
        refine lc_seq (K := K) (sq_lst hb3) (fun Dd i2 H' => Same H13 H' ∧ H' Dd = some (.lst (((([al, 1] : List Int).take i2).filter (fun v => decide (v ≤ pg))).map V.int))) (fun Dd hDd => ⟨same_new hDd, upd_same⟩) (fun Dd i2 H' _ pv => pv.1.keeps) ?_ ?_
        · intro Dd i2 x H14 hDd ex pv
          obtain ⟨v, ev2, rfl⟩ : ∃ v : Int, ([al, 1] : List Int)[i2]? = some v ∧ x = .int v := map_at (f := V.int) (l := [al, 1]) ex
          have hi2 : i2 < 2 := (List.getElem?_eq_some_iff.mp ev2).1
          refine ⟨rfl, ?_⟩
          refine ⟨_, rfl, _, rfl, _, _, rfl, rfl, _, rfl, ?_⟩
          rw [take_snoc ev2, List.filter_append, List.map_append]
          refine ite2 (fun cc => ?_) (fun cc => ?_)
          · refine ⟨_, rfl, _, pv.2, ?_, (pv.1.mut hDd), ?_⟩
            · rw [List.length_map, sizeLine_eq]
              have := List.length_filter_le (fun v => decide (v ≤ pg)) (([al, 1] : List Int).take i2)
              rw [List.length_take] at this
              have : min i2 ([al, 1] : List Int).length ≤ 2 := by omega
              omega
            · rw [upd_same, filt1 (p := fun v => decide (v ≤ pg)) cc]
              rfl
          · refine ⟨pv.1, ?_⟩
            rw [filt0 (p := fun v => decide (v ≤ pg)) cc, List.map_nil, List.append_nil]
            exact pv.2
        · intro Dd H14 hDd pv
          obtain ⟨s14, hd14⟩ := pv
          have j14 := j13.same s14
          by_cases cc : al ≤ pg
          · refine ixS (j := 0) (sq_lst hd14) (v := .int al) ?_ (hq _ _ ⟨al, rfl, hal, cc, j14⟩)
            show ((([al, 1] : List Int).filter (fun v => decide (v ≤ pg))).map V.int)[0]? = _
            rw [List.filter_cons_of_pos (by simpa using cc)]
            rfl
          · refine ixS (j := 0) (sq_lst hd14) (v := .int 1) ?_ (hq _ _ ⟨1, rfl, by decide +kernel, by omega, j14⟩)
            show ((([al, 1] : List Int).filter (fun v => decide (v ≤ pg))).map V.int)[0]? = _
            rw [List.filter_cons_of_neg (by simpa using cc), List.filter_cons_of_pos (by simp; omega)]
            rfl
      rintro alv H10 ⟨al, rfl, hal, hle, j10⟩
      -- more
      refine ⟨_, rfl, _, rfl, _, rfl, _, rfl, _, _, rfl, rfl, ?_⟩
      try dsimp only [tCons, tC, tNil]
      refine draw_of j10.2.1 (by omega) (by omega) (by omega) fun r H11 r0 r1 hp11 sb11 => ?_
      have j11 := j10.pool sb11 hp11
      refine ⟨by show 5 ≤ sizeLine; decide, fun a na => ?_⟩
      try dsimp only [tNil]
      refine pick_lit j11.2.1 (by omega) na (by show 1 ≤ 5; decide) (by show 5 ≤ 1000; decide) fun mv H12 hmv hp12 sb12 => ?_
      obtain ⟨mo, rfl, mo0, mo1⟩ : ∃ mo : Int, mv = .int mo ∧ 0 ≤ mo ∧ mo ≤ 1000 := by
        simp only [List.mem_cons, List.not_mem_nil, or_false] at hmv
        rcases hmv with rfl | rfl | rfl | rfl | rfl <;> exact ⟨_, rfl, by omega, by omega⟩
      have j12 : JP p H D c ws qs (n + 9 + 10 * (i + 1)) H12 := j11.pool sb12 (hp12.mono (by omega))
      obtain ⟨as, hD, hpr⟩ := j12.1.at_
      refine ⟨_, rfl, .inl ⟨rfl, _, sqL_of hD⟩, _, rfl, _, rfl, _, rfl, _, rfl, _, rfl, _, rfl, _, _, rfl, rfl, _, rfl, by show 6 ≤ sizeLine; decide, fun t nt => ?_⟩
      have lq : qs.length = i := by
        have := congrArg List.length ew
        rw [List.length_map, List.length_take] at this
        have := (List.getElem?_eq_some_iff.mp ewd).1
        omega
      obtain ⟨u12, hu12⟩ := j12.2.1.at_
      obtain ⟨acc, f1, f2, f3⟩ := j12.1.step (q := ⟨wd, rz', al, lo, lo + mo, zb⟩) hu nDH (by omega) t nt ⟨_, hu12⟩
      refine ⟨D, acc, _, rfl, rfl, f1, f2, ?_⟩
      refine ⟨⟨rz', _, _, _, _, _, _, rfl, hrz'⟩, _, ⟨f3, ?_, ?_, cp, nDp, cD⟩, ?_, ?_⟩
      · refine j12.2.1.keeps fun o ho => ?_
        rw [upd_ne (Ne.symm nDp), upd_ne (ne_of_none ho nt)]
        exact ho
      · rw [upd_ne cD, upd_ne (ne_of_none j12.2.2.1 nt)]
        exact j12.2.2.1
      · rw [List.map_append, ew, take_snoc ewd]
        rfl
      · exact dr.snoc ⟨⟨wsk wd (List.mem_of_getElem? ewd), hrz', hal, hle, lo0, by show lo ≤ lo + mo; omega⟩, by show lo + mo ≤ lo + 1000; omega⟩ hzb ⟨by show lo ≤ 1000; omega, ws8 wd (List.mem_of_getElem? ewd)⟩
    · rintro σ H6 ⟨⟨rz, y7, y8, y9, y10, y11, y12, rfl, hrz⟩, qs, j6, ew, dr⟩
      rw [List.length_map] at ew j6
      rw [List.take_length] at ew
      have lq : qs.length = ws.length := by rw [← ew, List.length_map]
      exact ⟨_, rfl, k H6 D qs (j6.2.1.mono (by omega)) j6.1 nDH (by omega) (by rw [ew]; exact wsn) dr⟩
end
end Lk
namespace Lk
open PySem PySem.Spec PyProof.Rows L2 RZ
section
variable {P : Program} {w : World} {K : PySem.W.Frag} {mg : Str → Option Value} {base : Heap} {ad ai : Nat → Addr} {fd : Nat → FuncData}
theorem PartsL.sb {H H' : Hp} {p l : Addr} {qs : List Part} {u : List V} (e : SameBut p H H') (hp : H p = some (.lst u)) (lp : l ≠ p) (h : PartsL H l qs) : PartsL H' l qs := by
  obtain ⟨as, h1, h2⟩ := h
  exact ⟨as, e _ _ lp h1, paired_sb e hp h2⟩
/-! ### sizes are drawn -/
def sp_ssizes : Sp := fun vs H Q _ => ∃ (p l : Addr) (qs : List Part) (n : Nat), vs = [.ref p, .ref l] ∧ Pool H p n ∧ n ≤ 100000 ∧ PartsL H l qs ∧ l ≠ p ∧ qs.length ≤ 100 ∧ (∀ q ∈ qs, q.lo ≤ q.hi ∧ q.hi ≤ q.lo + 1000) ∧ ∀ H' s ns, SameBut p H H' → Pool H' p (n + 100) → H s = none → H' s = some (.lst (ns.map V.int)) → SizesOk qs ns → Q (.ref s) H'
/-! ### few sizes -/
structure Cut (q' q : Part) : Prop where
  w : q'.w = q.w
  r : q'.r = q.r
  al : q'.al = q.al
  lo : q'.lo = q.lo
  z : q'.z = q.z
  h1 : q'.lo ≤ q'.hi
  h2 : q'.hi ≤ q.hi
theorem cut_map : ∀ {qs' qs : List Part}, Paired Cut qs' qs → qs'.map Part.w = qs.map Part.w
  | _, _, .nil => rfl
  | _, _, .cons h t => by rw [List.map_cons, List.map_cons, h.w, cut_map t]
theorem cut_drawn {pg : Int} {qs' qs : List Part} (h : Paired Cut qs' qs) (d : Drawn pg qs) : Drawn pg qs' := by
  refine ⟨fun q' hq' => ?_, fun q' hq' => ?_, fun i p q ep eq z => ?_⟩
  · obtain ⟨i, hi⟩ := List.getElem?_of_mem hq'
    obtain ⟨q, eq, c⟩ := paired_get h hi
    rw [c.lo, c.w]
    exact d.lo q (List.mem_of_getElem? eq)
  · obtain ⟨i, hi⟩ := List.getElem?_of_mem hq'
    obtain ⟨q, eq, c⟩ := paired_get h hi
    obtain ⟨ok, b⟩ := d.q q (List.mem_of_getElem? eq)
    refine ⟨⟨by rw [c.w]; exact ok.w, by rw [c.r]; exact ok.r, by rw [c.al]; exact ok.al, by rw [c.al]; exact ok.le, by rw [c.lo]; exact ok.lo, c.h1⟩, ?_⟩
    have := c.h2
    rw [c.lo]
    omega
  · obtain ⟨p0, ep0, cp⟩ := paired_get h ep
    obtain ⟨q0, eq0, cq⟩ := paired_get h eq
    exact d.adj i p0 q0 ep0 eq0 (by rw [← cp.z, ← cq.z, ← cp.r, ← cq.r]; exact z)
theorem few_nx {H8 : Hp} {D : Addr} {qs : List Part} {x : Int} (h : ∃ as2 qs2, H8 D = some (.lst (as2.map V.ref)) ∧ Paired (IsQ H8) as2 qs2 ∧ Paired Cut qs2 qs ∧ widQ qs2 = x) : ∃ as2 qs2, H8 D = some (.lst (as2.map V.ref)) ∧ Paired (IsQ H8) as2 qs2 ∧ Paired Cut qs2 qs ∧ ∀ y, some (some (V.int x)) = some (some (V.int y)) → widQ qs2 = y := by
  obtain ⟨as2, qs2, h1, h2, h3, h4⟩ := h
  exact ⟨as2, qs2, h1, h2, h3, fun y e => by cases e; exact h4⟩
def sp_few : Sp := fun vs H Q _ => ∃ (p : Addr) (mo : Int) (n : Nat), vs = [.ref p, .int mo] ∧ Pool H p n ∧ n ≤ 90000 ∧ 1 ≤ mo ∧ mo ≤ 1000000 ∧
  ∀ H' t l pg qs, SameBut p H H' → Pool H' p (n + 300) → H t = none → H' t = some (.tup [.int pg, .ref l]) → H l = none → PartsL H' l qs → PlanOk pg qs → Drawn pg qs → widQ qs ≤ mo → Q (.ref t) H'
theorem ok_few (T : Txt K mg ad ai fd) : FnOk P w K mg base CX0 4 (ad 49) (fd 49) ["_law_source_here", "_law_most"] (sp_few) := by
  have G_law_parts : FnOk P w K mg base CX0 3 (ad 44) (fd 44) ["_law_source_here", "_law_page", "_law_many", "_law_spread"] (sp_parts) := ok_parts T
  have G_law_pick : FnOk P w K mg base CX0 2 (ad 40) (fd 40) ["_law_source_here", "_law_things"] (sp_pick K) := ok_pick T
  have G_law_draw : FnOk P w K mg base CX0 1 (ad 39) (fd 39) ["_law_source_here", "_law_many"] (sp_draw) := ok_draw T
  refine T.F_law_few.ok sc_law_few (fun vs H Q E h => ?_) (fun cdv A outer s H vs Q E hr h => ?_)
  · obtain ⟨p, mo, n, rfl, _⟩ := h
    rfl
  · obtain ⟨p, mo, n, rfl, hp, hn, mo1, mo2, k⟩ := h
    refine ⟨_, (pss_cons (ps_par (i := 2) (j := 3) (by rfl) sc_law_few.nd rfl rfl (by decide) rfl rfl (pa_cons (pe_call G_law_pick (hr.mono (by decide)) (by rfl) T.g_law_pick T.F_law_pick.kp T.b_law_pick .nil pass0 (pa_cons (pv 0) (pa_cons (pe_lst (pa_cons pe_int (pa_cons pe_int (pa_cons pe_int (pa_cons pe_int pa_nil))))) pa_nil))) (pa_cons (pe_op op_add pe_int (pe_call G_law_draw (hr.mono (by decide)) (by rfl) T.g_law_draw T.F_law_draw.kp T.b_law_draw .nil pass0 (pa_cons (pv 0) (pa_cons pe_int pa_nil)))) pa_nil)) (by rfl))
      (pss_cons (ps_par3 (i := 4) (j := 5) (l := 6) (by rfl) sc_law_few.nd rfl rfl rfl (by decide) (by decide) (by decide) rfl rfl rfl (pa_cons (pe_lst pa_nil) (pa_cons pe_int (pa_cons pe_int pa_nil))) (by rfl))
      (pss_cons (ps_for PassesOwn.never rfl (pi_seq (K := K) (pe_call G_law_parts (hr.mono (by decide)) (by rfl) T.g_law_parts T.F_law_parts.kp T.b_law_parts .nil pass0 (pa_cons (pv 0) (pa_cons (pv 2) (pa_cons (pv 3) (pa_cons (pe_call G_law_pick (hr.mono (by decide)) (by rfl) T.g_law_pick T.F_law_pick.kp T.b_law_pick .nil pass0 (pa_cons (pv 0) (pa_cons (pe_lst (pa_cons pe_int (pa_cons pe_int (pa_cons pe_int pa_nil)))) pa_nil))) pa_nil)))))) (pg_name (i := 7) sc_law_few.nd rfl (.inl rfl))
          (pss_cons (ps_set (i := 8) sc_law_few.nd rfl (.inl rfl) (pe_op op_add (pe_op op_sub (pe_ix (ix_seq (K := K)) (pv 7) pe_int (fun _ _ => rfl)) (pe_ix (ix_seq (K := K)) (pv 7) pe_int (fun _ _ => rfl))) pe_int))
          (pss_cons (ps_set (i := 9) sc_law_few.nd rfl (.inl rfl) (pe_and (pe_cmpR op_le (pe_op op_mul (pv 5) (pv 8)) (pv 1) (nomark _)) (pe_one (pe_or (pe_cmpR op_eq (pv 8) pe_int (nomark _)) (pe_one (pe_cmpR op_lt (pv 6) pe_int (nomark _)))))))
          (pss_cons (ps_expr (pe_bmK (K := K) PySem.F.plainAttrs_list PySem.F.slot_list_append PySem.F.type_list_append mt_append (pv 4) (pa_cons (pe_ifExp (pt_val (pv 9)) (pv 7) (pe_op op_catT (pe_slice sl_tup (pv 7) po_none (po_some pe_int)) (pe_tup (pa_cons (pe_ix (ix_seq (K := K)) (pv 7) pe_int (fun _ _ => rfl)) (pa_cons (pe_ix (ix_seq (K := K)) (pv 7) pe_int (fun _ _ => rfl)) pa_nil))))) pa_nil)))
          (pss_one (ps_par (i := 5) (j := 6) (by rfl) sc_law_few.nd rfl rfl (by decide) rfl rfl (pa_cons (pe_op op_mul (pv 5) (pe_ifExp (pt_val (pv 9)) (pv 8) pe_int)) (pa_cons (pe_op op_add (pv 6) (pe_callTy call_int1 (by rfl) T.n_int (by decide +kernel) (pa_cons (pe_and (pv 9) (pe_one (pe_cmpR op_gt (pv 8) pe_int (nomark _)))) pa_nil))) pa_nil)) (by rfl)))))))
      (pss_one (ps_ret (pe_tup (pa_cons (pv 2) (pa_cons (pv 4) pa_nil)))))))), ?_⟩
    obtain ⟨u, hu⟩ := hp.at_
    refine ⟨_, rfl, by show 4 ≤ sizeLine; decide, fun a na => ?_⟩
    try dsimp only [tNil]
    refine pick_lit hp (by omega) na (by show 1 ≤ 4; decide) (by show 4 ≤ 1000; decide) fun pv H1 hpv hp1 sb1 => ?_
    obtain ⟨pg, rfl, hpg, g8, g64⟩ : ∃ pg : Int, pv = .int pg ∧ inV (.int pg) [.int 8, .int 16, .int 32, .int 64] = true ∧ 8 ≤ pg ∧ pg ≤ 64 := by
      simp only [List.mem_cons, List.not_mem_nil, or_false] at hpv
      rcases hpv with rfl | rfl | rfl | rfl <;> exact ⟨_, rfl, by decide +kernel, by decide, by decide⟩
    refine ⟨_, rfl, ?_⟩
    try dsimp only [tCons, tC, tNil]
    refine draw_of hp1 (by omega) (by decide) (by decide) fun r H2 r0 r1 hp2 sb2 => ?_
    have sbH2 := sb1.trans sb2
    refine ⟨_, _, rfl, rfl, _, _, rfl, ?_⟩
    refine ⟨by show 0 ≤ sizeLine; decide, fun D nD => ?_⟩
    have sD : Same H2 (upd H2 D (.lst [])) := same_new nD
    have hD3 : upd H2 D (.lst []) D = some (.lst []) := upd_same
    try dsimp only [tNil]
    generalize upd H2 D (.lst []) = H3 at sD hD3 ⊢
    refine ⟨_, _, _, rfl, ?_⟩
    have hp3 := hp2.keeps sD.keeps
    obtain ⟨u3, hu3⟩ := hp3.at_
    obtain ⟨u2, hu2⟩ := hp2.at_
    have nDp : D ≠ p := fun z => by rw [z, hu2] at nD; cases nD
    have nDH : H D = none := by
      cases z : H D with
      | none => rfl
      | some o =>
        rw [sbH2 _ _ nDp z] at nD
        cases nD
    refine ⟨_, rfl, _, rfl, _, rfl, _, rfl, by show 3 ≤ sizeLine; decide, fun a3 na3 => ?_⟩
    show sp_pick K [V.ref p, V.ref a3] (upd H3 a3 (.lst [.int 2, .int 4, .int 9])) _ E0
    refine pick_lit hp3 (by omega) na3 (by show 1 ≤ 3; decide) (by show 3 ≤ 1000; decide) fun sv H4 hsv hp4 sb4 => ?_
    obtain ⟨sp, rfl, sp0, sp1⟩ : ∃ sp : Int, sv = .int sp ∧ 0 ≤ sp ∧ sp ≤ 9 := by
      simp only [List.mem_cons, List.not_mem_nil, or_false] at hsv
      rcases hsv with rfl | rfl | rfl <;> exact ⟨_, rfl, by decide, by decide⟩
    refine ⟨p, pg, 1 + r, sp, _, rfl, hp4, by omega, g8, g64, by omega, by omega, sp0, by omega, fun H5 l qs hp5 g5 nl lq nd dr => ?_⟩
    have hD4 := sb4 _ _ nDp hD3
    have hD5 := g5.1 _ _ nDp hD4
    obtain ⟨_, as, hl5, hpr5, hne5⟩ := id g5
    have el := paired_len hpr5
    have lD : l ≠ D := fun z => by rw [z, hD4] at nl; cases nl
    obtain ⟨u4, hu4⟩ := hp4.at_
    have lp : l ≠ p := fun z => by rw [z, hu4] at nl; cases nl
    have sbH5 : SameBut p H H5 := (sbH2.trans sD.but).trans (sb4.trans g5.1)
    have nlH : H l = none := by
      cases z : H l with
      | none => rfl
      | some o =>
        rw [sb4 _ _ lp (sD _ _ (sbH2 _ _ lp z))] at nl
        cases nl
    refine for_seq (K := K) (sq_lst hl5) (fun i σ H' => (∃ wh fr y7 y8 y9, σ = [some (.ref p), some (.int mo), some (.int pg), some (.int (1 + r)), some (.ref D), some (.int wh), some (.int fr), y7, y8, y9] ∧ 1 ≤ wh ∧ wh ≤ mo) ∧ SameBut D H5 H' ∧ ∃ as' qs', H' D = some (.lst (as'.map V.ref)) ∧ Paired (IsQ H') as' qs' ∧ Paired Cut qs' (qs.take i) ∧ ∀ wh, σ[5]? = some (some (.int wh)) → widQ qs' = wh) ⟨⟨1, 0, none, none, none, rfl, by omega, mo1⟩, SameBut.refl, [], [], hD5, .nil, .nil, fun wh e => by cases e; rfl⟩ (fun i σ H' h => h.2.1.keeps lD) ?_ ?_
    · rintro i v σ H6 ev ⟨⟨wh, fr, y7, y8, y9, rfl, wh1, wh2⟩, sb6, as', qs', hD6, hpr6, hcut, hwid⟩
      obtain ⟨a6, ea6, rfl⟩ := map_at ev
      obtain ⟨q, eq, hq5⟩ := paired_get hpr5 ea6
      obtain ⟨okq, hb⟩ := dr.q q (List.mem_of_getElem? eq)
      have hlh := okq.hi
      have a6D : a6 ≠ D := ne_of hq5 hD5 (by intro z; cases z)
      have hq6 : IsQ H6 a6 q := sb6 _ _ a6D hq5
      have hi : i < qs.length := (List.getElem?_eq_some_iff.mp eq).1
      have lens := paired_len hcut
      rw [List.length_take] at lens
      have lens2 := paired_len hpr6
      have h8 : qs.length ≤ 8 := by omega
      have lacc : (as'.map V.ref).length < sizeLine := by
        rw [List.length_map, lens2, sizeLine_eq]
        omega
      -- wide
      refine ⟨_, rfl, ixS (j := 4) (sq_tup hq6) rfl ⟨_, rfl, ixS (j := 3) (sq_tup hq6) rfl ⟨_, _, rfl, rfl, _, _, rfl, rfl, ?_⟩⟩⟩
      dsimp only [gName]
      -- is_kept
      refine te_any (t := tAndV _ _) (fun v H1 => ∃ b, v = .bl b ∧ H1 = H6 ∧ (b = true → wh * (q.hi - q.lo + 1) ≤ mo)) (fun Qr hq => ?_) ?_
      · refine ⟨_, rfl, _, rfl, _, _, rfl, rfl, .inl ⟨by omega, by omega⟩, _, rfl, _, _, rfl, rfl, _, rfl, ?_⟩
        refine ite2 (fun c => ?_) (fun c => ?_)
        · have c1 := of_decide_eq_true c
          refine ⟨_, rfl, rfl, _, rfl, ?_⟩
          refine ite2 (fun c2 => ?_) (fun c2 => ?_)
          · exact hq _ _ ⟨true, rfl, rfl, fun _ => c1⟩
          · exact ⟨_, rfl, _, _, rfl, rfl, hq _ _ ⟨_, rfl, rfl, fun _ => c1⟩⟩
        · exact hq _ _ ⟨false, rfl, rfl, fun z => Bool.noConfusion z⟩
      rintro kv H6' ⟨kb, rfl, rfl, hkb⟩
      dsimp only [gName]
      -- what is appended
      refine ⟨_, rfl, .inl ⟨rfl, _, sqL_of hD6⟩, ?_⟩
      refine te_any (t := tIf _ _ _) (fun v H1 => ∃ b7 q', v = .ref b7 ∧ SameBut D H5 H1 ∧ H1 D = some (.lst (as'.map V.ref)) ∧ Paired (IsQ H1) as' qs' ∧ IsQ H1 b7 q' ∧ Cut q' q ∧ q'.hi - q'.lo + 1 = (if kb = true then q.hi - q.lo + 1 else 1)) (fun Qr hq => ?_) ?_
      · refine ⟨_, rfl, _, rfl, ?_⟩
        refine ite2 (fun c => ?_) (fun c => ?_)
        · exact ⟨_, rfl, hq _ _ ⟨a6, q, rfl, sb6, hD6, hpr6, hq6, ⟨rfl, rfl, rfl, rfl, rfl, hlh, Int.le_refl _⟩, by rw [if_pos c]⟩⟩
        · refine ⟨_, rfl, _, rfl, a6, _, rfl, sqT_of hq6, (by show ¬ (HT.sIx 6 0 none = 0 ∧ HT.sIx 6 6 (some 4) = 6); decide), fun c1 nc1 => ?_⟩
          rw [cut_take (by decide) (by show (4 : Int) ≤ 6; decide)]
          have s7 := same_new (o := .tup [.str q.w, .str q.r, .int q.al, .int q.lo]) nc1
          have hc7 : upd H6' c1 (.tup [.str q.w, .str q.r, .int q.al, .int q.lo]) c1 = some (.tup [.str q.w, .str q.r, .int q.al, .int q.lo]) := upd_same
          show _
          dsimp only [List.take, Int.toNat]
          generalize upd H6' c1 (.tup [.str q.w, .str q.r, .int q.al, .int q.lo]) = H7 at s7 hc7 ⊢
          have hq7 := s7 _ _ hq6
          refine ⟨_, rfl, ixS (j := 3) (sq_tup hq7) rfl ⟨_, rfl, ixS (j := 5) (sq_tup hq7) rfl ⟨by show 2 ≤ sizeLine; decide, fun c2 nc2 => ?_⟩⟩⟩
          have s8 := same_new (o := .tup [.int q.lo, .bl q.z]) nc2
          have hc8 : upd H7 c2 (.tup [.int q.lo, .bl q.z]) c2 = some (.tup [.int q.lo, .bl q.z]) := upd_same
          try dsimp only [tNil]
          generalize upd H7 c2 (.tup [.int q.lo, .bl q.z]) = H8 at s8 hc8 ⊢
          refine ⟨c1, c2, _, _, rfl, rfl, sqT_of (s8 _ _ hc7), sqT_of hc8, (by intro z; cases z), by show 6 ≤ sizeLine; decide, (fun z => by cases z), fun _ c3 nc3 => ?_⟩
          have s9 := same_new (o := objQ ⟨q.w, q.r, q.al, q.lo, q.lo, q.z⟩) nc3
          have s69 := (s7.trans s8).trans s9
          exact hq _ _ ⟨c3, ⟨q.w, q.r, q.al, q.lo, q.lo, q.z⟩, rfl, sb6.trans s69.but, s69 _ _ hD6, paired_same s69 hpr6, upd_same, ⟨rfl, rfl, rfl, rfl, rfl, Int.le_refl _, hlh⟩, by rw [if_neg c]; show q.lo - q.lo + 1 = 1; omega⟩
      rintro bv H7 ⟨b7, q', rfl, sb7, hD7, hpr7, hb7, ct, hw7⟩
      refine ⟨D, _, _, rfl, rfl, hD7, lacc, ?_⟩
      have nx2 : SameBut D H5 (upd H7 D (.lst (as'.map V.ref ++ [.ref b7]))) ∧ ∃ as2 qs2, (upd H7 D (.lst (as'.map V.ref ++ [.ref b7]))) D = some (.lst (as2.map V.ref)) ∧ Paired (IsQ (upd H7 D (.lst (as'.map V.ref ++ [.ref b7])))) as2 qs2 ∧ Paired Cut qs2 (qs.take (i + 1)) ∧ widQ qs2 = wh * (if kb = true then q.hi - q.lo + 1 else 1) := by
        have mv : ∀ (b : Addr) (x : Part), IsQ H7 b x → IsQ (upd H7 D (.lst (as'.map V.ref ++ [.ref b7]))) b x := fun b x z => by
          show upd H7 D _ b = _
          rw [upd_ne (ne_of z hD7 (by intro z; cases z))]
          exact z
        refine ⟨sb7.trans SameBut.at_, as' ++ [b7], qs' ++ [q'], ?_, ?_, ?_, by rw [widQ_snoc, hwid wh rfl, hw7]⟩
        · rw [upd_same, List.map_append]
          rfl
        · exact paired_snoc (mv _ _ hb7) (paired_mono mv hpr7)
        · rw [take_snoc eq]
          exact paired_snoc ct hcut
      generalize upd H7 D (.lst (as'.map V.ref ++ [.ref b7])) = H8 at nx2 ⊢
      -- whole, free
      have hw : 1 ≤ q.hi - q.lo + 1 := by omega
      cases kb with
      | true =>
        have nx3 := few_nx nx2.2
        have := hkb rfl
        have hpos : 0 < wh * (q.hi - q.lo + 1) := Int.mul_pos (by omega) (by omega)
        refine ⟨_, rfl, _, rfl, _, rfl, _, rfl, _, _, rfl, rfl, .inl ⟨by omega, by omega⟩, ?_⟩
        refine ⟨_, rfl, _, rfl, _, rfl, _, rfl, _, _, rfl, rfl, .inr ⟨_, rfl, _, _, rfl, rfl, _, _, rfl, ?_⟩⟩
        exact ⟨⟨_, _, _, _, _, rfl, by omega, this⟩, nx2.1, nx3⟩
      | false =>
        have nx3 := few_nx nx2.2
        refine ⟨_, rfl, _, rfl, _, rfl, _, _, rfl, rfl, .inl ⟨by omega, by omega⟩, ?_⟩
        refine ⟨_, rfl, _, rfl, _, rfl, .inr ⟨_, rfl, _, _, rfl, rfl, _, _, rfl, ?_⟩⟩
        exact ⟨⟨_, _, _, _, _, rfl, by omega, by omega⟩, nx2.1, nx3⟩
    · rintro σ H6 ⟨⟨wh, fr, y7, y8, y9, rfl, wh1, wh2⟩, sb6, as', qs', hD6, hpr6, hcut, hwid⟩
      rw [List.length_map, el, List.take_length] at hcut
      have l2 := paired_len hcut
      refine ⟨_, rfl, _, rfl, by show 2 ≤ sizeLine; decide, fun t nt => ?_⟩
      have st := same_new (o := .tup [.int pg, .ref D]) nt
      have sb56 : SameBut p H H6 := fun b o nb hb => sb6 _ _ (fun z => by rw [z, nDH] at hb; cases hb) (sbH5 _ _ nb hb)
      have pD : p ≠ D := Ne.symm nDp
      have hp6 := hp5.keeps (sb6.keeps pD)
      have ntH : H t = none := by
        obtain ⟨u6, hu6⟩ := hp6.at_
        exact sb56.free hu6 nt
      have dr' := cut_drawn hcut dr
      refine k _ t D pg qs' (sb56.trans st.but) ((hp6.keeps st.keeps).mono (by omega)) ntH upd_same nDH ⟨as', st _ _ hD6, paired_same st hpr6⟩ ?_ dr' ?_
      exact dr'.plan hpg (by omega) (by omega) (by rw [cut_map hcut]; exact nd)
      rw [hwid wh rfl]
      exact wh2
end
end Lk
namespace Lk
open PySem PySem.Spec PyProof.Rows L2 RZ
section
variable {P : Program} {w : World} {K : PySem.W.Frag} {mg : Str → Option Value} {base : Heap} {ad ai : Nat → Addr} {fd : Nat → FuncData}
def sp_number (C : Addr) : Sp := fun vs H Q _ => ∃ (pl : Addr) (pg : Int) (qs : List Part) (i : Nat), vs = [.ref pl, .str (MP.pt qs i).w] ∧ PlanAt C H pl pg qs ∧ PlanOk pg qs ∧ i < qs.length ∧ ∀ H', Same H H' → Q (.int (i : Nat)) H'
theorem ok_number (T : Txt K mg ad ai fd) : FnOk P w K mg base CX0 2 (ad 24) (fd 24) ["plan", "word"] (sp_number (ad 19)) := by
  have G_is_word : FnOk P w K mg base CX0 1 (ad 5) (fd 5) ["thing"] (sp_is_word) := ok_is_word T
  refine T.F_number_of.ok sc_number_of (fun vs H Q E h => ?_) (fun cdv A outer s H vs Q E hr h => ?_)
  · obtain ⟨pl, pg, qs, i, rfl, _⟩ := h
    rfl
  · obtain ⟨pl, pg, qs, i, rfl, hpl, ok, hi, k⟩ := h
    refine ⟨_, (pss_cons (ps_for PassesOwn.never rfl (pi_enumS (K := K) (by rfl) T.n_enumerate (pa_cons (pe_fld (pv 0) rfl) pa_nil)) (pg_tp (K := K) (n := 2) rfl (pgs_cons (pg_name (i := 2) sc_number_of.nd rfl (.inl rfl)) (pgs_cons (pg_name (i := 3) sc_number_of.nd rfl (.inl rfl)) pgs_nil)))
          (pss_one (ps_if (PW.pt (pw_and (pt_val (pe_call G_is_word (hr.mono (by decide)) (by rfl) T.g_is_word T.F_is_word.kp T.b_is_word .nil pass0 (pa_cons (pv 1) pa_nil))) (pw_and1 (pt_cmpR op_eq (pe_ix (ix_seq (K := K)) (pv 3) pe_int (fun _ _ => rfl)) (pv 1) (nomark _))))) (pss_one (ps_ret (pv 2))) pss_nil)))
      (pss_one ps_never)), ?_⟩
    obtain ⟨dx, t, h1, as, ht, hpr⟩ := id hpl
    have el := paired_len hpr
    have okw : WordOk (MP.pt qs i).w := (ok.q _ (List.mem_of_getElem? (pt_at hi))).w
    refine ⟨_, rfl, pl, _, dx, _, _, rfl, h1, T.cl_Plan, T.no_Plan_kept_parts, rfl, ?_⟩
    refine for_enum (K := K) (sq_tup ht) (fun j σ H' => (∃ y2 y3, σ = [some (.ref pl), some (.str (MP.pt qs i).w), y2, y3]) ∧ Same H H' ∧ j ≤ i) ⟨⟨none, none, rfl⟩, Same.refl _, Nat.zero_le _⟩ (fun j σ H' h => h.2.1.keeps) ?_ ?_
    · rintro j v σ H3 tt ev ⟨⟨y2, y3, rfl⟩, s3, hj⟩ nt
      obtain ⟨a, ea, rfl⟩ := map_at ev
      obtain ⟨q, eq, hq⟩ := paired_get hpr ea
      have s4 := s3.new (o := .tup [.int (j : Nat), .ref a]) nt
      refine ⟨tt, _, rfl, sqT_of upd_same, rfl, _, _, rfl, _, _, rfl, rfl, ?_⟩
      generalize upd H3 tt (.tup [.int (j : Nat), .ref a]) = H4 at s4 ⊢
      refine ⟨_, rfl, _, rfl, okw, fun H5 s5 => ⟨_, rfl, ?_⟩⟩
      have s45 := s4.trans s5
      refine ⟨_, rfl, ixS (j := 0) (sq_tup (s45 _ _ hq)) rfl ⟨_, rfl, rfl, _, rfl, ?_⟩⟩
      refine ite2 (fun c => ?_) (fun c => ?_)
      · have ew : q.w = (MP.pt qs i).w := V.str.inj (of_decide_eq_true c)
        have hjq := (List.getElem?_eq_some_iff.mp eq).1
        have eji : j = i := by
          refine (List.getElem?_inj (l := qs.map Part.w) (by rw [List.length_map]; exact hjq) ok.nd).mp ?_
          rw [List.getElem?_map, List.getElem?_map, eq, pt_at hi]
          exact congrArg some ew
        subst eji
        exact ⟨_, rfl, k _ s45⟩
      · refine ⟨⟨_, _, rfl⟩, s45, ?_⟩
        by_cases e : j = i
        · subst e
          have : q = MP.pt qs j := (pt_of eq).symm
          subst this
          exact absurd (decide_eq_true rfl) c
        · omega
    · rintro σ H3 ⟨⟨y2, y3, rfl⟩, s3, hj⟩
      rw [List.length_map, el] at hj
      omega
def sp_two (C : Addr) : Sp := fun vs H Q _ => ∃ (pl : Addr) (pg : Int) (qs : List Part) (i j : Nat), vs = [.ref pl, .str (MP.pt qs i).w, .str (MP.pt qs j).w] ∧ PlanAt C H pl pg qs ∧ PlanOk pg qs ∧ i < j ∧ j < qs.length ∧ ∀ H' t, Same H H' → H' t = some (.tup [.int (i : Nat), .int (j : Nat)]) → Q (.ref t) H'
theorem ok_two (T : Txt K mg ad ai fd) : FnOk P w K mg base CX0 3 (ad 25) (fd 25) ["plan", "one", "other"] (sp_two (ad 19)) := by
  have G_number_of : FnOk P w K mg base CX0 2 (ad 24) (fd 24) ["plan", "word"] (sp_number (ad 19)) := ok_number T
  refine T.F_checked_two.ok sc_checked_two (fun vs H Q E h => ?_) (fun cdv A outer s H vs Q E hr h => ?_)
  · obtain ⟨pl, pg, qs, i, j, rfl, _⟩ := h
    rfl
  · obtain ⟨pl, pg, qs, i, j, rfl, hpl, ok, hij, hj, k⟩ := h
    refine ⟨_, (pss_cons (ps_par (i := 3) (j := 4) (by rfl) sc_checked_two.nd rfl rfl (by decide) rfl rfl (pa_cons (pe_call G_number_of (hr.mono (by decide)) (by rfl) T.g_number_of T.F_number_of.kp T.b_number_of .nil pass0 (pa_cons (pv 0) (pa_cons (pv 1) pa_nil))) (pa_cons (pe_call G_number_of (hr.mono (by decide)) (by rfl) T.g_number_of T.F_number_of.kp T.b_number_of .nil pass0 (pa_cons (pv 0) (pa_cons (pv 2) pa_nil))) pa_nil)) (by rfl))
      (pss_cons (ps_if (pt_cmpR op_le (pv 4) (pv 3) (nomark _)) (pss_one ps_never) pss_nil)
      (pss_one (ps_ret (pe_tup (pa_cons (pv 3) (pa_cons (pv 4) pa_nil))))))), ?_⟩
    refine ⟨_, rfl, _, rfl, pl, pg, qs, i, rfl, hpl, ok, by omega, fun H1 s1 => ?_⟩
    refine ⟨_, rfl, _, rfl, pl, pg, qs, j, rfl, hpl.same s1, ok, hj, fun H2 s2 => ?_⟩
    refine ⟨_, _, rfl, ?_⟩
    refine ⟨_, rfl, _, rfl, _, _, rfl, rfl, _, rfl, ?_⟩
    rw [decide_eq_false (by omega : ¬ (j : Int) ≤ (i : Int))]
    refine ⟨_, rfl, _, rfl, by show 2 ≤ sizeLine; decide, fun t nt => ?_⟩
    exact k _ t ((s1.trans s2).new nt) upd_same
def sp_far : Sp := fun vs H Q _ => ∃ z : Int, vs = [.int z] ∧ Q (.int z) H
theorem ok_far (T : Txt K mg ad ai fd) : FnOk P w K mg base CX0 2 (ad 26) (fd 26) ["far"] (sp_far) := by
  have G_is_integer : FnOk P w K mg base CX0 1 (ad 2) (fd 2) ["thing"] (sp_is_integer K) := ok_is_integer T
  refine T.F_checked_far.ok sc_checked_far (fun vs H Q E h => ?_) (fun cdv A outer s H vs Q E hr h => ?_)
  · obtain ⟨z, rfl, _⟩ := h
    rfl
  · obtain ⟨z, rfl, k⟩ := h
    refine ⟨_, (pss_cons (ps_if (pt_not (pt_val (pe_call G_is_integer (hr.mono (by decide)) (by rfl) T.g_is_integer T.F_is_integer.kp T.b_is_integer .nil pass0 (pa_cons (pv 0) pa_nil)))) (pss_one ps_never) pss_nil)
      (pss_one (ps_ret (pv 0)))), ?_⟩
    exact ⟨_, rfl, _, .int, rfl, hasTy_int, _, rfl, _, rfl, k⟩
def sp_col (C : Addr) (f : Part → Int) : Sp := fun vs H Q _ => ∃ (pl : Addr) (pg : Int) (qs : List Part), vs = [.ref pl] ∧ PlanAt C H pl pg qs ∧ PlanOk pg qs ∧ ∀ H' l, Same H H' → H l = none → H' l = some (.lst ((qs.map f).map V.int)) → Q (.ref l) H'
theorem ok_leasts (T : Txt K mg ad ai fd) : FnOk P w K mg base CX0 1 (ad 27) (fd 27) ["plan"] (sp_col (ad 19) Part.lo) := by
  refine T.F_leasts.ok sc_leasts (fun vs H Q E h => ?_) (fun cdv A outer s H vs Q E hr h => ?_)
  · obtain ⟨pl, pg, qs, rfl, _⟩ := h
    rfl
  · obtain ⟨pl, pg, qs, rfl, ⟨dx, t, h1, as, ht, hpr⟩, ok, k⟩ := h
    refine ⟨_, (pss_one (ps_ret (pe_lc (own := [("part", 1)]) rfl sc_leasts.nd (pi_seq (K := K) (pe_fld (pv 0) rfl)) (blkOk_by (N := ["plan", "part"]) (sc := defScope s_leasts) (by decide +kernel)) (fun _ _ _ _ _ => (pg_name (i := 1) sc_leasts.nd rfl (.inl rfl))) (fun _ _ _ _ _ => pts_nil) (fun _ _ _ _ _ => (pe_ix (ix_seq (K := K)) (pv 1) pe_int (fun _ _ => rfl)))))), ?_⟩
    refine ⟨_, rfl, pl, _, dx, _, _, rfl, h1, T.cl_Plan, T.no_Plan_kept_parts, rfl, ?_⟩
    refine lc_seq (K := K) (sq_tup ht) (PvV H ((qs.map Part.lo).map V.int)) (fun D hD => vals0 hD) (fun D i H' hD pv => pv.1.keeps) ?_ ?_
    · intro D i x H1 hD ex pv
      obtain ⟨a, ea, rfl⟩ := map_at ex
      obtain ⟨q, eq, hq⟩ := paired_get hpr ea
      refine ⟨rfl, ?_⟩
      refine ⟨_, rfl, ixS (j := 3) (sq_tup (pv.1 _ _ hq)) rfl ?_⟩
      exact vals_step pv hD (Same.refl _) (at_map (at_map eq)) (by rw [List.length_map, List.length_map]; have := ok.few; omega)
    · intro D H1 hD pv
      obtain ⟨s1, hd⟩ := valsE pv (by rw [List.length_map, List.length_map, List.length_map, paired_len hpr])
      exact k H1 D s1 hD hd
theorem ok_mosts (T : Txt K mg ad ai fd) : FnOk P w K mg base CX0 1 (ad 28) (fd 28) ["plan"] (sp_col (ad 19) Part.hi) := by
  refine T.F_mosts.ok sc_mosts (fun vs H Q E h => ?_) (fun cdv A outer s H vs Q E hr h => ?_)
  · obtain ⟨pl, pg, qs, rfl, _⟩ := h
    rfl
  · obtain ⟨pl, pg, qs, rfl, ⟨dx, t, h1, as, ht, hpr⟩, ok, k⟩ := h
    refine ⟨_, (pss_one (ps_ret (pe_lc (own := [("part", 1)]) rfl sc_mosts.nd (pi_seq (K := K) (pe_fld (pv 0) rfl)) (blkOk_by (N := ["plan", "part"]) (sc := defScope s_mosts) (by decide +kernel)) (fun _ _ _ _ _ => (pg_name (i := 1) sc_mosts.nd rfl (.inl rfl))) (fun _ _ _ _ _ => pts_nil) (fun _ _ _ _ _ => (pe_ix (ix_seq (K := K)) (pv 1) pe_int (fun _ _ => rfl)))))), ?_⟩
    refine ⟨_, rfl, pl, _, dx, _, _, rfl, h1, T.cl_Plan, T.no_Plan_kept_parts, rfl, ?_⟩
    refine lc_seq (K := K) (sq_tup ht) (PvV H ((qs.map Part.hi).map V.int)) (fun D hD => vals0 hD) (fun D i H' hD pv => pv.1.keeps) ?_ ?_
    · intro D i x H1 hD ex pv
      obtain ⟨a, ea, rfl⟩ := map_at ex
      obtain ⟨q, eq, hq⟩ := paired_get hpr ea
      refine ⟨rfl, ?_⟩
      refine ⟨_, rfl, ixS (j := 4) (sq_tup (pv.1 _ _ hq)) rfl ?_⟩
      exact vals_step pv hD (Same.refl _) (at_map (at_map eq)) (by rw [List.length_map, List.length_map]; have := ok.few; omega)
    · intro D H1 hD pv
      obtain ⟨s1, hd⟩ := valsE pv (by rw [List.length_map, List.length_map, List.length_map, paired_len hpr])
      exact k H1 D s1 hD hd
end
end Lk
namespace Lk
open PySem PySem.Spec PyProof.Rows L2 RZ StX
abbrev objT (ns : List Int) : HO := .tup (ns.map V.int)
def RowsAt (H : Hp) (l : Addr) (rows : List (List Int)) : Prop := ∃ as : List Addr, H l = some (.lst (as.map V.ref)) ∧ Paired (fun a ns => H a = some (objT ns)) as rows
theorem RowsAt.same {H H' : Hp} {l : Addr} {rows : List (List Int)} (e : Same H H') (h : RowsAt H l rows) : RowsAt H' l rows := by
  obtain ⟨as, h1, h2⟩ := h
  exact ⟨as, e _ _ h1, paired_mono (fun a x z => e _ _ z) h2⟩
section
variable {P : Program} {w : World} {K : PySem.W.Frag} {mg : Str → Option Value} {base : Heap} {ad ai : Nat → Addr} {fd : Nat → FuncData}
def sp_rows : Sp := fun vs H Q _ => ∃ (l h : Addr) (ls hs : List Int), vs = [.ref l, .ref h] ∧ H l = some (.lst (ls.map V.int)) ∧ H h = some (.lst (hs.map V.int)) ∧ ls.length = hs.length ∧ ls.length ≤ 1000 ∧ (∀ i, i < ls.length → 0 ≤ MP.sz ls i ∧ MP.sz ls i ≤ MP.sz hs i ∧ MP.sz hs i ≤ 1000000) ∧ (∀ i, i ≤ ls.length → (MP.rowsN ls hs i).length ≤ 100000) ∧ ∀ H' r, Same H H' → H r = none → RowsAt H' r (MP.rowsN ls hs ls.length) → Q (.ref r) H'
theorem ok_rows (T : Txt K mg ad ai fd) : FnOk P w K mg base CX0 1 (ad 33) (fd 33) ["low", "high"] (sp_rows) := by
  refine T.F_rows_between.ok sc_rows_between (fun vs H Q E h => ?_) (fun cdv A outer s H vs Q E hr h => ?_)
  · obtain ⟨l, h, ls, hs, rfl, _⟩ := h
    rfl
  · obtain ⟨l, h, ls, hs, rfl, hl, hh, el, h1000, hb, hlen, k⟩ := h
    refine ⟨_, (pss_cons (ps_set (i := 2) sc_rows_between.nd rfl (.inl rfl) (pe_lst (pa_cons (pe_tup pa_nil) pa_nil)))
      (pss_cons (ps_for PassesOwn.never rfl (pi_zipA (by rfl) T.n_zip (pa_cons (pv 0) (pa_cons (pv 1) pa_nil))) (pg_tp (K := K) (n := 2) rfl (pgs_cons (pg_name (i := 3) sc_rows_between.nd rfl (.inl rfl)) (pgs_cons (pg_name (i := 4) sc_rows_between.nd rfl (.inl rfl)) pgs_nil)))
          (pss_cons (ps_set (i := 5) sc_rows_between.nd rfl (.inl rfl) (pe_lst pa_nil))
          (pss_cons (ps_for PassesOwn.never rfl (pi_seq (K := K) (pv 2)) (pg_name (i := 6) sc_rows_between.nd rfl (.inr rfl))
              (pss_one (ps_expr (pe_bmK (K := K) PySem.F.plainAttrs_list PySem.F.slot_list_extend PySem.F.type_list_extend mt_extend (pv 5) (pa_cons (pe_lc (own := [("number", 7)]) rfl sc_rows_between.nd (pi_range2 (by rfl) T.n_range (pa_cons (pv 3) (pa_cons (pe_op op_add (pv 4) pe_int) pa_nil))) (blkOk_by (N := ["low", "high", "found", "least", "most", "longer", "row", "number"]) (sc := defScope s_rows_between) (by decide +kernel)) (fun _ _ _ _ _ => (pg_name (i := 7) sc_rows_between.nd rfl (.inl rfl))) (fun _ _ _ _ _ => pts_nil) (fun _ _ _ _ _ => (pe_tup (pa_starK (K := K) (pv 6) (pa_cons (pv 7) pa_nil))))) pa_nil)))))
          (pss_one (ps_set (i := 2) sc_rows_between.nd rfl (.inl rfl) (pv 5))))))
      (pss_one (ps_ret (pv 2))))), ?_⟩
    refine ⟨by show 0 ≤ sizeLine; decide, fun e ne => ?_⟩
    have se : Same H (upd H e (.tup [])) := same_new ne
    have he : upd H e (.tup []) e = some (.tup []) := upd_same
    generalize upd H e (.tup []) = H1 at se he ⊢
    refine ⟨by show 1 ≤ sizeLine; decide, fun F nF => ?_⟩
    have sF : Same H1 (upd H1 F (.lst [.ref e])) := same_new nF
    have hF : upd H1 F (.lst [.ref e]) F = some (.lst [.ref e]) := upd_same
    generalize upd H1 F (.lst [.ref e]) = H2 at sF hF ⊢
    have s02 := se.trans sF
    refine ⟨_, rfl, _, rfl, for_zip (K := K) (n := ls.length) (by rw [List.length_map, List.length_map, ← el, Nat.min_self]) (.inl ⟨sqL_of (s02 _ _ hl), sqL_of (s02 _ _ hh)⟩) (fun i σ H' => (∃ F y3 y4 y5 y6 y7, σ = [some (.ref l), some (.ref h), some (.ref F), y3, y4, y5, y6, y7] ∧ RowsAt H' F (MP.rowsN ls hs i) ∧ H F = none) ∧ Same H H') ⟨⟨F, none, none, none, none, none, rfl, ⟨[e], hF, .cons (sF _ _ he) .nil⟩, se.free nF⟩, s02⟩ (fun i σ H' hv => ⟨fun o ho => ?_, fun o ho => ?_⟩) ?_ ?_⟩
    · rw [s02 _ _ hl] at ho
      cases ho
      exact hv.2 _ _ hl
    · rw [s02 _ _ hh] at ho
      cases ho
      exact hv.2 _ _ hh
    · rintro i x y σ H3 tt ex ey ⟨⟨F, y3, y4, y5, y6, y7, rfl, hR, nF⟩, s3⟩ nt
      obtain ⟨lo, elo, rfl⟩ := map_at ex
      obtain ⟨hi, ehi, rfl⟩ := map_at ey
      have s4 := s3.new (o := .tup [.int lo, .int hi]) nt
      have hR4 := hR.same (same_new (o := .tup [.int lo, .int hi]) nt)
      refine ⟨tt, _, rfl, sqT_of upd_same, rfl, _, _, rfl, _, _, rfl, rfl, ?_⟩
      generalize upd H3 tt (.tup [.int lo, .int hi]) = H4 at s4 hR4 ⊢
      refine ⟨by show 0 ≤ sizeLine; decide, fun D nD => ?_⟩
      have g5 : GrowO objT H4 D [] (upd H4 D (.lst [])) := growO0 nD
      generalize upd H4 D (.lst []) = H5 at g5 ⊢
      obtain ⟨as, hF4, hpr⟩ := hR4
      have hi1 := (List.getElem?_eq_some_iff.mp elo).1
      obtain ⟨b0, b1, b2⟩ := hb i hi1
      rw [sz_of elo] at b0 b1
      rw [sz_of ehi] at b1 b2
      have eN : MP.rowsN ls hs (i + 1) = MP.rowStep (MP.rowsN ls hs i) lo hi := by
        show MP.rowStep _ (MP.sz ls i) (MP.sz hs i) = _
        rw [sz_of elo, sz_of ehi]
      have lN := hlen (i + 1) (by omega)
      rw [eN] at lN
      have hrl := MP.rowsN_len (ls := ls) (hs := hs) i
      generalize MP.rowsN ls hs i = rows at hpr eN lN hrl
      refine ⟨_, rfl, for_seq (K := K) (sq_lst (g5.1 _ _ hF4)) (fun j σ H' => (∃ y6 y7, σ = [some (.ref l), some (.ref h), some (.ref F), some (.int lo), some (.int hi), some (.ref D), y6, y7]) ∧ GrowO objT H4 D (MP.rowStep (rows.take j) lo hi) H') ⟨⟨_, _, rfl⟩, g5⟩ (fun j σ H' hv o ho => ?_) ?_ ?_⟩
      · rw [g5.1 _ _ hF4] at ho
        cases ho
        exact hv.2.1 _ _ hF4
      · rintro j v σ H6 ev ⟨⟨y6, y7, rfl⟩, g6⟩
        obtain ⟨a, ea, rfl⟩ := map_at ev
        obtain ⟨r, er, ha⟩ := paired_get hpr ea
        obtain ⟨xs6, hD6⟩ := g6.at_
        have ha6 := g6.1 _ _ ha
        have lstep : (MP.rowStep (rows.take j) lo hi).length + (MP.rowStep [r] lo hi).length ≤ 100000 := by
          rw [← List.length_append, ← MP.rowStep_app, ← take_snoc er]
          have e := List.take_append_drop (j + 1) rows
          rw [← e, MP.rowStep_app, List.length_append] at lN
          omega
        rw [MP.rowStep_one] at lstep
        refine ⟨_, rfl, .inl ⟨rfl, _, sqL_of hD6⟩, _, rfl, _, rfl, _, _, rfl, rfl, lo, hi + 1, rfl, ⟨by omega, by omega, by omega, by omega⟩, fun D2 hD2 => ?_⟩
        refine lc_range (lo := lo) (n := (hi + 1 - lo).toNat) (fun k H' => GrowO objT H6 D2 ((List.range k).map fun k => r ++ [lo + ((k : Nat) : Int)]) H') (growO0 hD2) ?_ ?_
        · intro k H7 hk g7
          have e : r.map V.int ++ [V.int (lo + ((k : Nat) : Int))] = (r ++ [lo + ((k : Nat) : Int)]).map V.int := by rw [List.map_append]; rfl
          refine ⟨rfl, ?_⟩
          refine ⟨_, rfl, a, _, rfl, .inl (sqT_of (g7.1 _ _ ha6)), _, rfl, ?_, fun t nt => ?_⟩
          · rw [List.length_append, List.length_map, hrl r (List.mem_of_getElem? er), sizeLine_eq]
            show i + 1 ≤ _
            omega
          · rw [List.range_succ, List.map_append]
            rw [e]
            exact growO_step g7 hD2 (Same.refl _) (by rw [List.length_map, List.length_range] at *; omega) t nt
        · intro H7 g7
          obtain ⟨xs, zs, e1, e2, e3, e4⟩ := growO_ext g6 nD g7 (by omega)
          refine ⟨D, D2, xs, zs, rfl, rfl, e1, e2, e3, ?_⟩
          refine ⟨⟨_, _, rfl⟩, ?_⟩
          rw [take_snoc er, MP.rowStep_app, MP.rowStep_one]
          exact e4
      · rintro σ H6 ⟨⟨y6, y7, rfl⟩, g6⟩
        rw [List.length_map, paired_len hpr, List.take_length] at g6
        obtain ⟨s46, as6, hD6, hpr6, _⟩ := g6
        refine ⟨_, rfl, ⟨D, _, _, _, _, _, rfl, ⟨as6, hD6, ?_⟩, s4.free nD⟩, s4.trans s46⟩
        rw [eN]
        exact hpr6
    · rintro σ H3 ⟨⟨F, y3, y4, y5, y6, y7, rfl, hR, nF⟩, s3⟩
      exact ⟨_, rfl, k H3 F s3 nF hR⟩
end
end Lk
namespace Lk
open PySem PySem.Spec PyProof.Rows L2 RZ StX
section
variable {P : Program} {w : World} {K : PySem.W.Frag} {mg : Str → Option Value} {base : Heap} {ad ai : Nat → Addr} {fd : Nat → FuncData}
def sp_within (K : PySem.W.Frag) : Sp := fun vs H Q _ => ∃ (a b : Addr) (xs ys : List Int), vs = [.ref a, .ref b] ∧ Sq2 K H a b (xs.map V.int) (ys.map V.int) ∧ xs.length ≤ 1000 ∧ ∀ H', Same H H' → Q (.bl (withinB xs ys)) H'
theorem zip_at {α β : Type} {xs : List α} {ys : List β} {i : Nat} {x : α} {y : β} (h1 : xs[i]? = some x) (h2 : ys[i]? = some y) : (xs.zip ys)[i]? = some (x, y) := by
  rw [List.getElem?_zip_eq_some]
  exact ⟨h1, h2⟩
theorem ok_within (T : Txt K mg ad ai fd) : FnOk P w K mg base CX0 1 (ad 34) (fd 34) ["one", "other"] (sp_within K) := by
  refine T.F_is_within.ok sc_is_within (fun vs H Q E h => ?_) (fun cdv A outer s H vs Q E hr h => ?_)
  · obtain ⟨a, b, xs, ys, rfl, _⟩ := h
    rfl
  · obtain ⟨a, b, xs, ys, rfl, h2, hl, k⟩ := h
    refine ⟨_, (pss_one (ps_ret (pe_callB (call_all (K := K) rfl) (by rfl) T.n_all (by decide +kernel) (pa_cons (pe_lc (own := [("number", 2), ("most", 3)]) rfl sc_is_within.nd (pi_zipA (by rfl) T.n_zip (pa_cons (pv 0) (pa_cons (pv 1) pa_nil))) (blkOk_by (N := ["one", "other", "number", "most"]) (sc := defScope s_is_within) (by decide +kernel)) (fun _ _ _ _ _ => (pg_tp (K := K) (n := 2) rfl (pgs_cons (pg_name (i := 2) sc_is_within.nd rfl (.inl rfl)) (pgs_cons (pg_name (i := 3) sc_is_within.nd rfl (.inl rfl)) pgs_nil)))) (fun _ _ _ _ _ => pts_nil) (fun _ _ _ _ _ => (pe_cmpR op_le (pv 2) (pv 3) (nomark _)))) pa_nil)))), ?_⟩
    refine ⟨_, rfl, _, rfl, lc_zip (K := K) (n := (xs.zip ys).length) (by rw [List.length_map, List.length_map, List.length_zip]) h2 (PvV H (((xs.zip ys).map fun p => decide (p.1 ≤ p.2)).map V.bl)) (fun D hD => vals0 hD) (fun D i H' _ pv => ⟨pv.1.keeps, pv.1.keeps⟩) ?_ ?_⟩
    · intro D i x y H2 t hD ex ey pv nt
      obtain ⟨m, em, rfl⟩ := map_at ex
      obtain ⟨n, en, rfl⟩ := map_at ey
      refine ⟨t, _, rfl, sqT_of upd_same, rfl, _, _, rfl, _, _, rfl, rfl, ?_⟩
      refine ⟨rfl, ?_⟩
      refine ⟨_, rfl, _, rfl, _, _, rfl, rfl, ?_⟩
      exact vals_step pv hD (same_new nt) (at_map (at_map (zip_at em en))) (by rw [List.length_map, List.length_map, List.length_zip]; omega)
    · intro D H2 hD pv
      obtain ⟨s2, hd⟩ := valsE pv (by rw [List.length_map, List.length_map])
      exact ⟨D, _, rfl, sqL_of hd, k _ s2⟩
theorem ok_below (T : Txt K mg ad ai fd) : FnOk P w K mg base CX0 1 (ad 50) (fd 50) ["_law_one", "_law_other"] (sp_within K) := by
  refine T.F_law_is_below.ok sc_law_is_below (fun vs H Q E h => ?_) (fun cdv A outer s H vs Q E hr h => ?_)
  · obtain ⟨a, b, xs, ys, rfl, _⟩ := h
    rfl
  · obtain ⟨a, b, xs, ys, rfl, h2, hl, k⟩ := h
    refine ⟨_, (pss_one (ps_ret (pe_callB (call_all (K := K) rfl) (by rfl) T.n_all (by decide +kernel) (pa_cons (pe_lc (own := [("_law_x", 2), ("_law_y", 3)]) rfl sc_law_is_below.nd (pi_zipA (by rfl) T.n_zip (pa_cons (pv 0) (pa_cons (pv 1) pa_nil))) (blkOk_by (N := ["_law_one", "_law_other", "_law_x", "_law_y"]) (sc := defScope s_law_is_below) (by decide +kernel)) (fun _ _ _ _ _ => (pg_tp (K := K) (n := 2) rfl (pgs_cons (pg_name (i := 2) sc_law_is_below.nd rfl (.inl rfl)) (pgs_cons (pg_name (i := 3) sc_law_is_below.nd rfl (.inl rfl)) pgs_nil)))) (fun _ _ _ _ _ => pts_nil) (fun _ _ _ _ _ => (pe_cmpR op_le (pv 2) (pv 3) (nomark _)))) pa_nil)))), ?_⟩
    refine ⟨_, rfl, _, rfl, lc_zip (K := K) (n := (xs.zip ys).length) (by rw [List.length_map, List.length_map, List.length_zip]) h2 (PvV H (((xs.zip ys).map fun p => decide (p.1 ≤ p.2)).map V.bl)) (fun D hD => vals0 hD) (fun D i H' _ pv => ⟨pv.1.keeps, pv.1.keeps⟩) ?_ ?_⟩
    · intro D i x y H2 t hD ex ey pv nt
      obtain ⟨m, em, rfl⟩ := map_at ex
      obtain ⟨n, en, rfl⟩ := map_at ey
      refine ⟨t, _, rfl, sqT_of upd_same, rfl, _, _, rfl, _, _, rfl, rfl, ?_⟩
      refine ⟨rfl, ?_⟩
      refine ⟨_, rfl, _, rfl, _, _, rfl, rfl, ?_⟩
      exact vals_step pv hD (same_new nt) (at_map (at_map (zip_at em en))) (by rw [List.length_map, List.length_map, List.length_zip]; omega)
    · intro D H2 hD pv
      obtain ⟨s2, hd⟩ := valsE pv (by rw [List.length_map, List.length_map])
      exact ⟨D, _, rfl, sqL_of hd, k _ s2⟩
def sp_abehind (K : PySem.W.Frag) (C : Addr) : Sp := fun vs H Q _ => ∃ (pl s : Addr) (pg e : Int) (qs : List Part) (ns : List Int) (i j : Nat), vs = [.ref pl, .int (i : Nat), .int (j : Nat), .int e, .ref s] ∧ PlanAt C H pl pg qs ∧ PlanOk pg qs ∧ Sq K H s (ns.map V.int) ∧ i ≤ j ∧ j < qs.length ∧ j ≤ ns.length ∧ Q (.int (MP.behind pg qs ns i e (j - i))) H
theorem ok_abehind (T : Txt K mg ad ai fd) : FnOk P w K mg base CX0 3 (ad 30) (fd 30) ["plan", "first", "second", "start", "sizes"] (sp_abehind K (ad 19)) := by
  have G_lowest : FnOk P w K mg base CX0 2 (ad 22) (fd 22) ["plan", "number", "end"] (sp_lowest (ad 19)) := ok_lowest T
  refine T.F_address_behind.ok sc_address_behind (fun vs H Q E h => ?_) (fun cdv A outer s H vs Q E hr h => ?_)
  · obtain ⟨pl, s, pg, e, qs, ns, i, j, rfl, _⟩ := h
    rfl
  · obtain ⟨pl, sa, pg, e, qs, ns, i, j, rfl, hpl, ok, hs, hij, hj, hjn, k⟩ := h
    refine ⟨_, (pss_cons (ps_set (i := 5) sc_address_behind.nd rfl (.inl rfl) (pv 3))
      (pss_cons (ps_for PassesOwn.never rfl (pi_range2 (by rfl) T.n_range (pa_cons (pv 1) (pa_cons (pv 2) pa_nil))) (pg_name (i := 6) sc_address_behind.nd rfl (.inl rfl))
          (pss_one (ps_set (i := 5) sc_address_behind.nd rfl (.inl rfl) (pe_call G_lowest (hr.mono (by decide)) (by rfl) T.g_lowest T.F_lowest.kp T.b_lowest .nil pass0 (pa_cons (pv 0) (pa_cons (pe_op op_add (pv 6) pe_int) (pa_cons (pe_op op_add (pv 5) (pe_ix (ix_seq (K := K)) (pv 4) (pv 6) (fun _ _ => rfl))) pa_nil)))))))
      (pss_one (ps_ret (pv 5))))), ?_⟩
    have h100 := ok.few
    refine ⟨_, rfl, ?_⟩
    refine ⟨_, rfl, _, rfl, _, _, rfl, ⟨by omega, by omega, by omega, by omega⟩, ?_⟩
    have en : ((j : Int) - (i : Int)).toNat = j - i := by omega
    refine for_range (lo := (i : Int)) (n := ((j : Int) - (i : Int)).toNat) (fun n σ H' => (∃ y6, σ = [some (.ref pl), some (.int (i : Nat)), some (.int (j : Nat)), some (.int e), some (.ref sa), some (.int (MP.behind pg qs ns i e n)), y6]) ∧ H' = H) ⟨⟨none, rfl⟩, rfl⟩ ?_ ?_
    · rintro n σ H' hn ⟨⟨y6, rfl⟩, rfl⟩
      rw [en] at hn
      have e1 : (i : Int) + ((n : Nat) : Int) + 1 = ((i + n + 1 : Nat) : Int) := by omega
      have e2 : (i : Int) + ((n : Nat) : Int) = ((i + n : Nat) : Int) := by omega
      have hin : i + n < ns.length := by omega
      refine ⟨_, rfl, _, rfl, _, _, rfl, rfl, _, rfl, _, rfl, _, rfl, ?_⟩
      show rIxS K (.ref sa) (.int ((i : Int) + ((n : Nat) : Int))) _ _
      rw [e2]
      refine ixS (j := i + n) hs (ints_at hin) ⟨_, _, rfl, rfl, ?_⟩
      refine ⟨pl, pg, qs, i + n + 1, _, ?_, hpl, ok, by omega, ⟨⟨_, rfl⟩, rfl⟩⟩
      rw [← e1, ← e2]
      rfl
    · rintro σ H' ⟨⟨y6, rfl⟩, rfl⟩
      rw [en]
      exact ⟨_, rfl, k⟩
end
end Lk
namespace Lk
open PySem PySem.Spec PyProof.Rows L2 RZ StX
section
variable {P : Program} {w : World} {K : PySem.W.Frag} {mg : Str → Option Value} {base : Heap} {ad ai : Nat → Addr} {fd : Nat → FuncData}
theorem ok_lrows (T : Txt K mg ad ai fd) : FnOk P w K mg base CX0 1 (ad 47) (fd 47) ["_law_low", "_law_high"] (sp_rows) := by
  refine T.F_law_rows.ok sc_law_rows (fun vs H Q E h => ?_) (fun cdv A outer s H vs Q E hr h => ?_)
  · obtain ⟨l, h, ls, hs, rfl, _⟩ := h
    rfl
  · obtain ⟨l, h, ls, hs, rfl, hl, hh, el, h1000, hb, hlen, k⟩ := h
    refine ⟨_, (pss_cons (ps_set (i := 2) sc_law_rows.nd rfl (.inl rfl) (pe_lst (pa_cons (pe_tup pa_nil) pa_nil)))
      (pss_cons (ps_for PassesOwn.never rfl (pi_zipA (by rfl) T.n_zip (pa_cons (pv 0) (pa_cons (pv 1) pa_nil))) (pg_tp (K := K) (n := 2) rfl (pgs_cons (pg_name (i := 3) sc_law_rows.nd rfl (.inl rfl)) (pgs_cons (pg_name (i := 4) sc_law_rows.nd rfl (.inl rfl)) pgs_nil)))
          (pss_cons (ps_set (i := 5) sc_law_rows.nd rfl (.inl rfl) (pe_lst pa_nil))
          (pss_cons (ps_for PassesOwn.never rfl (pi_seq (K := K) (pv 2)) (pg_name (i := 6) sc_law_rows.nd rfl (.inr rfl))
              (pss_one (ps_expr (pe_bmK (K := K) PySem.F.plainAttrs_list PySem.F.slot_list_extend PySem.F.type_list_extend mt_extend (pv 5) (pa_cons (pe_lc (own := [("_law_number", 7)]) rfl sc_law_rows.nd (pi_range2 (by rfl) T.n_range (pa_cons (pv 3) (pa_cons (pe_op op_add (pv 4) pe_int) pa_nil))) (blkOk_by (N := ["_law_low", "_law_high", "_law_found", "_law_least", "_law_most", "_law_longer", "_law_row", "_law_number"]) (sc := defScope s_law_rows) (by decide +kernel)) (fun _ _ _ _ _ => (pg_name (i := 7) sc_law_rows.nd rfl (.inl rfl))) (fun _ _ _ _ _ => pts_nil) (fun _ _ _ _ _ => (pe_op (op_catTA (K := K)) (pv 6) (pe_tup (pa_cons (pv 7) pa_nil))))) pa_nil)))))
          (pss_one (ps_set (i := 2) sc_law_rows.nd rfl (.inl rfl) (pv 5))))))
      (pss_one (ps_ret (pv 2))))), ?_⟩
    refine ⟨by show 0 ≤ sizeLine; decide, fun e ne => ?_⟩
    have se : Same H (upd H e (.tup [])) := same_new ne
    have he : upd H e (.tup []) e = some (.tup []) := upd_same
    generalize upd H e (.tup []) = H1 at se he ⊢
    refine ⟨by show 1 ≤ sizeLine; decide, fun F nF => ?_⟩
    have sF : Same H1 (upd H1 F (.lst [.ref e])) := same_new nF
    have hF : upd H1 F (.lst [.ref e]) F = some (.lst [.ref e]) := upd_same
    generalize upd H1 F (.lst [.ref e]) = H2 at sF hF ⊢
    have s02 := se.trans sF
    refine ⟨_, rfl, _, rfl, for_zip (K := K) (n := ls.length) (by rw [List.length_map, List.length_map, ← el, Nat.min_self]) (.inl ⟨sqL_of (s02 _ _ hl), sqL_of (s02 _ _ hh)⟩) (fun i σ H' => (∃ F y3 y4 y5 y6 y7, σ = [some (.ref l), some (.ref h), some (.ref F), y3, y4, y5, y6, y7] ∧ RowsAt H' F (MP.rowsN ls hs i) ∧ H F = none) ∧ Same H H') ⟨⟨F, none, none, none, none, none, rfl, ⟨[e], hF, .cons (sF _ _ he) .nil⟩, se.free nF⟩, s02⟩ (fun i σ H' hv => ⟨fun o ho => ?_, fun o ho => ?_⟩) ?_ ?_⟩
    · rw [s02 _ _ hl] at ho
      cases ho
      exact hv.2 _ _ hl
    · rw [s02 _ _ hh] at ho
      cases ho
      exact hv.2 _ _ hh
    · rintro i x y σ H3 tt ex ey ⟨⟨F, y3, y4, y5, y6, y7, rfl, hR, nF⟩, s3⟩ nt
      obtain ⟨lo, elo, rfl⟩ := map_at ex
      obtain ⟨hi, ehi, rfl⟩ := map_at ey
      have s4 := s3.new (o := .tup [.int lo, .int hi]) nt
      have hR4 := hR.same (same_new (o := .tup [.int lo, .int hi]) nt)
      refine ⟨tt, _, rfl, sqT_of upd_same, rfl, _, _, rfl, _, _, rfl, rfl, ?_⟩
      generalize upd H3 tt (.tup [.int lo, .int hi]) = H4 at s4 hR4 ⊢
      refine ⟨by show 0 ≤ sizeLine; decide, fun D nD => ?_⟩
      have g5 : GrowO objT H4 D [] (upd H4 D (.lst [])) := growO0 nD
      generalize upd H4 D (.lst []) = H5 at g5 ⊢
      obtain ⟨as, hF4, hpr⟩ := hR4
      have hi1 := (List.getElem?_eq_some_iff.mp elo).1
      obtain ⟨b0, b1, b2⟩ := hb i hi1
      rw [sz_of elo] at b0 b1
      rw [sz_of ehi] at b1 b2
      have eN : MP.rowsN ls hs (i + 1) = MP.rowStep (MP.rowsN ls hs i) lo hi := by
        show MP.rowStep _ (MP.sz ls i) (MP.sz hs i) = _
        rw [sz_of elo, sz_of ehi]
      have lN := hlen (i + 1) (by omega)
      rw [eN] at lN
      have hrl := MP.rowsN_len (ls := ls) (hs := hs) i
      generalize MP.rowsN ls hs i = rows at hpr eN lN hrl
      refine ⟨_, rfl, for_seq (K := K) (sq_lst (g5.1 _ _ hF4)) (fun j σ H' => (∃ y6 y7, σ = [some (.ref l), some (.ref h), some (.ref F), some (.int lo), some (.int hi), some (.ref D), y6, y7]) ∧ GrowO objT H4 D (MP.rowStep (rows.take j) lo hi) H') ⟨⟨_, _, rfl⟩, g5⟩ (fun j σ H' hv o ho => ?_) ?_ ?_⟩
      · rw [g5.1 _ _ hF4] at ho
        cases ho
        exact hv.2.1 _ _ hF4
      · rintro j v σ H6 ev ⟨⟨y6, y7, rfl⟩, g6⟩
        obtain ⟨a, ea, rfl⟩ := map_at ev
        obtain ⟨r, er, ha⟩ := paired_get hpr ea
        obtain ⟨xs6, hD6⟩ := g6.at_
        have ha6 := g6.1 _ _ ha
        have lstep : (MP.rowStep (rows.take j) lo hi).length + (MP.rowStep [r] lo hi).length ≤ 100000 := by
          rw [← List.length_append, ← MP.rowStep_app, ← take_snoc er]
          have e := List.take_append_drop (j + 1) rows
          rw [← e, MP.rowStep_app, List.length_append] at lN
          omega
        rw [MP.rowStep_one] at lstep
        refine ⟨_, rfl, .inl ⟨rfl, _, sqL_of hD6⟩, _, rfl, _, rfl, _, _, rfl, rfl, lo, hi + 1, rfl, ⟨by omega, by omega, by omega, by omega⟩, fun D2 hD2 => ?_⟩
        refine lc_range (lo := lo) (n := (hi + 1 - lo).toNat) (fun k H' => GrowO objT H6 D2 ((List.range k).map fun k => r ++ [lo + ((k : Nat) : Int)]) H') (growO0 hD2) ?_ ?_
        · intro k H7 hk g7
          have e : r.map V.int ++ [V.int (lo + ((k : Nat) : Int))] = (r ++ [lo + ((k : Nat) : Int)]).map V.int := by rw [List.map_append]; rfl
          refine ⟨rfl, ?_⟩
          refine ⟨_, rfl, _, rfl, by show 1 ≤ sizeLine; decide, fun t1 nt1 => ?_⟩
          have s8 := same_new (o := .tup [.int (lo + ((k : Nat) : Int))]) nt1
          have lk : ((List.range k).map fun k => r ++ [lo + ((k : Nat) : Int)]).length < 100000 := by
            rw [List.length_map, List.length_range] at *
            omega
          refine ⟨a, t1, _, _, rfl, rfl, sqT_of (s8 _ _ (g7.1 _ _ ha6)), sqT_of upd_same, ?_, fun hx => ?_, fun _ hy => ?_, fun hx _ t nt => ?_⟩
          · rw [List.length_map, hrl r (List.mem_of_getElem? er), sizeLine_eq]
            show i + 1 ≤ _
            omega
          · rw [List.range_succ, List.map_append]
            have er0 : r = [] := List.map_eq_nil_iff.mp hx
            subst er0
            exact growO_step (q := ([] : List Int) ++ [lo + ((k : Nat) : Int)]) g7 hD2 (Same.refl _) lk t1 nt1
          · cases hy
          · rw [List.range_succ, List.map_append]
            rw [e]
            exact growO_step g7 hD2 s8 lk t nt
        · intro H7 g7
          obtain ⟨xs, zs, e1, e2, e3, e4⟩ := growO_ext g6 nD g7 (by omega)
          refine ⟨D, D2, xs, zs, rfl, rfl, e1, e2, e3, ?_⟩
          refine ⟨⟨_, _, rfl⟩, ?_⟩
          rw [take_snoc er, MP.rowStep_app, MP.rowStep_one]
          exact e4
      · rintro σ H6 ⟨⟨y6, y7, rfl⟩, g6⟩
        rw [List.length_map, paired_len hpr, List.take_length] at g6
        obtain ⟨s46, as6, hD6, hpr6, _⟩ := g6
        refine ⟨_, rfl, ⟨D, _, _, _, _, _, rfl, ⟨as6, hD6, ?_⟩, s4.free nD⟩, s4.trans s46⟩
        rw [eN]
        exact hpr6
    · rintro σ H3 ⟨⟨F, y3, y4, y5, y6, y7, rfl, hR, nF⟩, s3⟩
      exact ⟨_, rfl, k H3 F s3 nF hR⟩
end
end Lk
namespace Lk
open PySem PySem.Spec PyProof.Rows L2 RZ StX
theorem good_plan {pg : Int} {qs : List Part} (ok : PlanOk pg qs) : MP.Good pg qs [] qs.length := by
  refine ⟨pg_pos ok, fun i hi => ?_, fun i => ?_⟩
  · have okq := ok.q _ (List.mem_of_getElem? (pt_at hi))
    refine ⟨al_pos okq, ?_⟩
    have h1 := okq.al
    have h2 := ok.pgs
    have h3 := okq.le
    simp [inV, eqV] at h1 h2
    rcases h1 with h1 | h1 | h1 | h1 | h1 | h1 | h1 <;> rcases h2 with h2 | h2 | h2 | h2 <;> first | omega | (rw [← h1, ← h2]; decide)
  · exact Int.le_refl 0
theorem pg_le {pg : Int} {qs : List Part} (ok : PlanOk pg qs) : pg ≤ 64 := by
  have h2 := ok.pgs
  simp [inV, eqV] at h2
  rcases h2 with h2 | h2 | h2 | h2 <;> omega
section
variable {P : Program} {w : World} {K : PySem.W.Frag} {mg : Str → Option Value} {base : Heap} {ad ai : Nat → Addr} {fd : Nat → FuncData}
def sp_rests (K : PySem.W.Frag) (C : Addr) : Sp := fun vs H Q _ => ∃ (pl s : Addr) (pg : Int) (qs : List Part) (bs : List Int) (n : Nat), vs = [.ref pl, .int (n : Nat), .ref s] ∧ PlanAt C H pl pg qs ∧ PlanOk pg qs ∧ Sq K H s (bs.map V.int) ∧ n < qs.length ∧ n ≤ bs.length ∧ (∀ i, i < n → (MP.pt qs i).lo ≤ MP.sz bs i ∧ (MP.pt qs i).lo ≤ 1000000) ∧
  ∀ H' F kvs, Same H H' → H F = none → H' F = some (.dK kvs) → MP.RD pg qs bs n H' kvs → Q (.ref F) H'
theorem ok_rests (T : Txt K mg ad ai fd) : FnOk P w K mg base CX0 3 (ad 29) (fd 29) ["plan", "number", "bounds"] (sp_rests K (ad 19)) := by
  have G_lowest : FnOk P w K mg base CX0 2 (ad 22) (fd 22) ["plan", "number", "end"] (sp_lowest (ad 19)) := ok_lowest T
  refine T.F_rests_at.ok sc_rests_at (fun vs H Q E h => ?_) (fun cdv A outer s H vs Q E hr h => ?_)
  · obtain ⟨pl, s, pg, qs, bs, n, rfl, _⟩ := h
    rfl
  · obtain ⟨pl, sa, pg, qs, bs, N, rfl, hpl, ok, hs, hN, hNb, hlo, k⟩ := h
    refine ⟨_, (pss_cons (ps_set (i := 3) sc_rests_at.nd rfl (.inl rfl) (pe_disp (pps_cons pe_int (pe_tup (pa_cons pe_int (pa_cons (pe_tup pa_nil) pa_nil))) pps_nil) (by rfl) (by rfl) (fun z => by cases z) (by decide)))
      (pss_cons (ps_for PassesOwn.never rfl (pi_range1 (by rfl) T.n_range (pa_cons (pv 1) pa_nil)) (pg_name (i := 4) sc_rests_at.nd rfl (.inl rfl))
          (pss_cons (ps_par (i := 5) (j := 6) (by rfl) sc_rests_at.nd rfl rfl (by decide) rfl rfl (pa_cons (pe_ix (ix_seq (K := K)) (pe_ix (ix_seq (K := K)) (pe_fld (pv 0) rfl) (pv 4) (fun _ _ => rfl)) pe_int (fun _ _ => rfl)) (pa_cons pe_dnewK pa_nil)) (by rfl))
          (pss_cons (ps_lock (ps_for PassesOwn.never rfl (pi_items (pv 3)) (pg_tp (K := K) (n := 2) rfl (pgs_cons (pg_name (i := 7) sc_rests_at.nd rfl (.inl rfl)) (pgs_cons (pg_tp (K := K) (n := 2) rfl (pgs_cons (pg_name (i := 8) sc_rests_at.nd rfl (.inl rfl)) (pgs_cons (pg_name (i := 9) sc_rests_at.nd rfl (.inl rfl)) pgs_nil))) pgs_nil)))
              (pss_one (ps_for PassesOwn.never rfl (pi_range2 (by rfl) T.n_range (pa_cons (pv 5) (pa_cons (pe_op op_add (pe_callB (call_min2 rfl) (by rfl) T.n_min (by decide +kernel) (pa_cons (pe_ix (ix_seq (K := K)) (pv 2) (pv 4) (fun _ _ => rfl)) (pa_cons (pe_op op_sub (pe_op op_add (pv 5) (pe_fld (pv 0) rfl)) pe_int) pa_nil))) pe_int) pa_nil))) (pg_name (i := 10) sc_rests_at.nd rfl (.inl rfl))
                (pss_cons (ps_par (i := 11) (j := 12) (by rfl) sc_rests_at.nd rfl rfl (by decide) rfl rfl (pa_cons (pe_op op_modN (pe_call G_lowest (hr.mono (by decide)) (by rfl) T.g_lowest T.F_lowest.kp T.b_lowest .nil pass0 (pa_cons (pv 0) (pa_cons (pe_op op_add (pv 4) pe_int) (pa_cons (pe_op op_add (pv 7) (pv 10)) pa_nil)))) (pe_fld (pv 0) rfl)) (pa_cons (pe_tup (pa_cons (pe_op op_add (pv 8) (pv 10)) (pa_cons (pe_tup (pa_starK (K := K) (pv 9) (pa_cons (pv 10) pa_nil))) pa_nil))) pa_nil)) (by rfl))
                (pss_one (ps_dput (hu_of hr) (pv 6) (pv 11) (pe_callB (call_min2T (α := Int × PySem.W.Tup Int) (K := K) rfl (hu_dp hr (by show 2 ≤ 50; decide))) (by rfl) T.n_min (by decide +kernel) (pa_cons (pv 12) (pa_cons (pe_dget2 (hu_of hr) (pv 6) (pv 11) (pv 12) ⟨rfl, rfl, rfl, rfl⟩) pa_nil))) rfl)))))))
          (pss_one (ps_set (i := 3) sc_rests_at.nd rfl (.inl rfl) (pv 6))))))
      (pss_one (ps_ret (pv 3))))), ?_⟩
    have g := good_plan ok
    have h64 := pg_le ok
    obtain ⟨dx, t, h1, hpt⟩ := id hpl
    -- {0: (0, ())}
    intro F nF
    refine ⟨by show 0 ≤ sizeLine; decide, fun e ne => ?_⟩
    refine ⟨by show 2 ≤ sizeLine; decide, fun t0 nt0 => ?_⟩
    have s3 : Same H (upd (upd (upd H F (.dK [])) e (.tup [])) t0 (.tup [.int 0, .ref e])) := ((same_new nF).new ne).new nt0
    have hF3 : (upd (upd (upd H F (.dK [])) e (.tup [])) t0 (.tup [.int 0, .ref e])) F = some (.dK []) := (same_new nt0) _ _ ((same_new ne) _ _ upd_same)
    have he3 : (upd (upd (upd H F (.dK [])) e (.tup [])) t0 (.tup [.int 0, .ref e])) e = some (.tup []) := (same_new nt0) _ _ upd_same
    have ht3 : (upd (upd (upd H F (.dK [])) e (.tup [])) t0 (.tup [.int 0, .ref e])) t0 = some (.tup [.int 0, .ref e]) := upd_same
    try dsimp only [tNil]
    generalize upd (upd (upd H F (.dK [])) e (.tup [])) t0 (.tup [.int 0, .ref e]) = H3 at s3 hF3 he3 ht3 ⊢
    refine ⟨hF3, [(Sum.inl 0, .ref t0)], rfl, by show 1 ≤ 15; decide, ?_⟩
    have s4 : Same H (upd H3 F (.dK (mergeK [] [(Sum.inl 0, .ref t0)]))) := s3.mut nF
    have hF4 : (upd H3 F (.dK (mergeK [] [(Sum.inl 0, .ref t0)]))) F = some (.dK [(Sum.inl 0, .ref t0)]) := upd_same
    have tk4 : TupsKeep H3 (upd H3 F (.dK (mergeK [] [(Sum.inl 0, .ref t0)]))) := TupsKeep.upd fun xs z => by rw [hF3] at z; cases z
    generalize upd H3 F (.dK (mergeK [] [(Sum.inl 0, .ref t0)])) = H4 at s4 hF4 tk4 ⊢
    have st0 : StandAt H4 (.ref t0) (0, []) := ⟨t0, e, rfl, tk4 _ _ ht3, tk4 _ _ he3⟩
    have a0 := g.adr0 (by have := ok.one; omega)
    have rd0 : MP.RD pg qs bs 0 H4 [(Sum.inl 0, .ref t0)] := by
      have e0 : (MP.adr pg qs [] 0).fmod pg = 0 := by
        rw [a0, Int.fmod_eq_emod_of_nonneg _ (by have := pg_pos ok; omega)]
        exact Int.zero_emod _
      refine ⟨⟨by simp, fun k v hm => ?_⟩, fun ns hn => ?_⟩
      · cases List.mem_singleton.mp hm
        exact ⟨(0, []), st0, MP.RowIn.nil, rfl, by rw [e0]⟩
      · have : ns = [] := List.eq_nil_of_length_eq_zero hn.len
        subst this
        rw [e0]
        exact ⟨_, (0, []), List.mem_singleton.mpr rfl, st0, MP.stLe.refl _⟩
    refine ⟨_, rfl, (N : Int), rfl, by omega, by have := ok.few; omega, ?_⟩
    refine for_range (lo := 0) (n := N) (fun n σ H' => (∃ F kvs y4 y5 y6 y7 y8 y9 y10 y11 y12, σ = [some (.ref pl), some (.int (N : Nat)), some (.ref sa), some (.ref F), y4, y5, y6, y7, y8, y9, y10, y11, y12] ∧ H F = none ∧ H' F = some (.dK kvs) ∧ MP.RD pg qs bs n H' kvs) ∧ Same H H') ⟨⟨F, _, _, _, _, _, _, _, _, _, _, rfl, nF, hF4, rd0⟩, s4⟩ ?_ ?_
    · rintro n σ H5 hn ⟨⟨F, kvs, y4, y5, y6, y7, y8, y9, y10, y11, y12, rfl, nF, hF, rd⟩, s5⟩
      clear hF4 hF3 he3 ht3 tk4 s3 s4 st0 rd0
      obtain ⟨a, xs, q1, q2, q3⟩ := (hpt.same s5).get (i := n) (by omega)
      have h15 := s5 _ _ h1
      refine ⟨_, rfl, pl, _, dx, _, _, rfl, h15, T.cl_Plan, T.no_Plan_kept_parts, rfl, _, rfl, ?_⟩
      show rIxS K (.ref t) (.int (0 + ((n : Nat) : Int))) _ _
      rw [Int.zero_add]
      refine ixS (j := n) (sq_tup q1) q2 (ixS (j := 3) (sq_tup q3) rfl ?_)
      intro L nL
      have s6 : Same H5 (upd H5 L (.dK [])) := same_new nL
      have hL6 : (upd H5 L (.dK [])) L = some (.dK []) := upd_same
      generalize upd H5 L (.dK []) = H6 at s6 hL6 ⊢
      have nLH : H L = none := s5.free nL
      have FL : F ≠ L := fun z => by rw [← z, hF] at nL; cases nL
      refine ⟨_, _, rfl, ?_⟩
      -- the walk of found, which is locked
      refine ⟨F, .dK kvs, s6 _ _ hF, trivial, fun od => ?_⟩
      have s7 : Same H (upd H6 F (.frz od (.dK kvs))) := (s5.trans s6).mut nF
      have hF7 : (upd H6 F (.frz od (.dK kvs))) F = some (.frz od (.dK kvs)) := upd_same
      have hL7 : (upd H6 F (.frz od (.dK kvs))) L = some (.dK []) := by rw [upd_ne (Ne.symm FL)]; exact hL6
      have tk7 : TupsKeep H5 (upd H6 F (.frz od (.dK kvs))) := s6.tups.trans (TupsKeep.upd fun xs z => by rw [s6 _ _ hF] at z; cases z)
      generalize upd H6 F (.frz od (.dK kvs)) = H7 at s7 hF7 hL7 tk7 ⊢
      have hlo0 := (ok.q _ (List.mem_of_getElem? (pt_at (show n < qs.length by omega)))).lo
      obtain ⟨hlo2, hlo1⟩ := hlo n hn
      have hpg := pg_pos ok
      have hb : bs[n]? = some (MP.sz bs n) := sz_at (by omega)
      generalize hLo : (MP.pt qs n).lo = lo at *
      refine ⟨_, rfl, F, od, kvs, rfl, hF7, for_it walk_items (fun j σ H' => (∃ y7 y8 y9 y10 y11 y12, σ = [some (.ref pl), some (.int (N : Nat)), some (.ref sa), some (.ref F), some (.int ((n : Nat) : Int)), some (.int lo), some (.ref L), y7, y8, y9, y10, y11, y12]) ∧ H' F = some (.frz od (.dK kvs)) ∧ Same H H' ∧ TupsKeep H5 H' ∧ ∃ lks, H' L = some (.dK lks) ∧ MP.RV pg qs bs (n + 1) H' lks ∧
        ∀ i, i < j → ∀ r v x s, kvs[i]? = some (Sum.inl r, v) → StandAt H5 v x → lo ≤ s → s ≤ MP.sz bs n → s ≤ lo + pg - 1 → MP.Cv H' lks (MP.goal pg qs n r s) (x.1 + s, x.2 ++ [s]))
        ⟨⟨_, _, _, _, _, _, rfl⟩, hF7, s7, tk7, [], hL7, ⟨by simp, fun k v hm => nomatch hm⟩, fun i hi => by omega⟩ (fun j σ H' _ h => h.2.1) ?_ ?_⟩
      · rintro j v σ H8 H9 hj ⟨⟨y7, y8, y9, y10, y11, y12, rfl⟩, hF8, s8, tk8, lks, hL8, rv8, cv8⟩ ⟨T0, xk, xv, rfl, nT0, rfl, e1, e2⟩
        obtain ⟨⟨kk, vv⟩, ekv⟩ : ∃ kv, kvs[j]? = some kv := ⟨_, List.getElem?_eq_getElem hj⟩
        have e1 : (kvs[j]?).map (fun kv => kV kv.1) = some xk := e1
        have e2 : (kvs[j]?).map Prod.snd = some xv := e2
        rw [ekv] at e1 e2
        cases e1
        cases e2
        obtain ⟨x, x1, x2, x3, x4⟩ := rd.v.ok kk vv (List.mem_of_getElem? ekv)
        subst x4
        have x1' := x1.keep tk8
        obtain ⟨ra, rb, rfl, ra1, rb1⟩ := id x1'
        have s9 : Same H8 (upd H8 T0 (.tup [kV (Sum.inl ((MP.adr pg qs x.2 n).fmod pg)), .ref ra])) := same_new nT0
        have hT9 : (upd H8 T0 (.tup [kV (Sum.inl ((MP.adr pg qs x.2 n).fmod pg)), .ref ra])) T0 = some (.tup [.int ((MP.adr pg qs x.2 n).fmod pg), .ref ra]) := upd_same
        generalize upd H8 T0 (.tup [kV (Sum.inl ((MP.adr pg qs x.2 n).fmod pg)), .ref ra]) = H9 at s9 hT9 ⊢
        refine ⟨T0, _, rfl, sqT_of hT9, rfl, _, _, rfl, _, _, rfl, ra, _, rfl, sqT_of (s9 _ _ ra1), rfl, _, _, rfl, _, _, rfl, rfl, rfl, ?_⟩
        have s09 := s8.trans s9
        have hF9 := s9 _ _ hF8
        have hL9 := s9 _ _ hL8
        have rv9 := rv8.keep s9.tups
        have tk9 := tk8.trans s9.tups
        generalize hR : (MP.adr pg qs x.2 n).fmod pg = R at *
        refine ⟨_, rfl, _, rfl, _, rfl, ixS (j := n) (s09.sq hs) (ints_at (by omega)) ⟨_, rfl, _, rfl, pl, _, dx, _, _, rfl, s09 _ _ h1, T.cl_Plan, T.no_Plan_kept_page, rfl, _, _, rfl, rfl, _, _, rfl, rfl, _, _, rfl, _, _, rfl, rfl, ?_⟩⟩
        have hM : ∃ M, (if lo + pg - 1 < MP.sz bs n then lo + pg - 1 else MP.sz bs n) = M ∧ M ≤ lo + pg - 1 ∧ M ≤ MP.sz bs n ∧ ∀ s, s ≤ MP.sz bs n → s ≤ lo + pg - 1 → s ≤ M := by
          refine ⟨_, rfl, ?_, ?_, fun s h1 h2 => ?_⟩ <;> split <;> omega
        obtain ⟨M, eM, M1, M2, M3⟩ := hM
        rw [eM]
        have cM : lo ≤ M := M3 lo hlo2 (by omega)
        refine ⟨lo, M + 1, rfl, ⟨by omega, by omega, by omega, by omega⟩, ?_⟩
        refine for_range (lo := lo) (n := (M + 1 - lo).toNat) (fun c σ H' => (∃ y10 y11 y12, σ = [some (.ref pl), some (.int (N : Nat)), some (.ref sa), some (.ref F), some (.int ((n : Nat) : Int)), some (.int lo), some (.ref L), some (.int R), some (.int x.1), some (.ref rb), y10, y11, y12]) ∧ H' F = some (.frz od (.dK kvs)) ∧ Same H H' ∧ TupsKeep H5 H' ∧ TupsKeep H9 H' ∧ ∃ lks, H' L = some (.dK lks) ∧ MP.RV pg qs bs (n + 1) H' lks ∧
          (∀ i, i < j → ∀ r v x s, kvs[i]? = some (Sum.inl r, v) → StandAt H5 v x → lo ≤ s → s ≤ MP.sz bs n → s ≤ lo + pg - 1 → MP.Cv H' lks (MP.goal pg qs n r s) (x.1 + s, x.2 ++ [s])) ∧ ∀ s, lo ≤ s → s < lo + ((c : Nat) : Int) → MP.Cv H' lks (MP.goal pg qs n R s) (x.1 + s, x.2 ++ [s]))
          ⟨⟨_, _, _, rfl⟩, hF9, s09, tk9, TupsKeep.refl, lks, hL9, rv9, fun i hi r v x s a1 a2 a3 a4 a5 => (cv8 i hi r v x s a1 a2 a3 a4 a5).keep s9.tups, fun s a1 a2 => by omega⟩ ?_ ?_
        · rintro c σ H10 hc ⟨⟨y10, y11, y12, rfl⟩, hF10, s10, tk10, tk10', lks, hL10, rv10, cv10, cv10'⟩
          have hrb := tk10' _ _ (s9 _ _ rb1)
          have hcM : lo + ((c : Nat) : Int) ≤ M := by omega
          generalize hsz : lo + ((c : Nat) : Int) = sv at *
          have e1 : ((n : Nat) : Int) + 1 = ((n + 1 : Nat) : Int) := by omega
          refine ⟨_, rfl, _, rfl, _, _, rfl, rfl, _, rfl, _, rfl, _, _, rfl, rfl, ?_⟩
          refine ⟨pl, pg, qs, n + 1, R + sv, (by rw [← e1]; rfl), hpl.same s10, ok, by omega, ?_⟩
          refine ⟨_, rfl, pl, _, dx, _, _, rfl, s10 _ _ h1, T.cl_Plan, T.no_Plan_kept_page, rfl, _, _, rfl, rfl, (by omega : pg ≠ 0), ?_⟩
          refine ⟨_, rfl, _, rfl, _, _, rfl, rfl, _, rfl, rb, _, rfl, .inl (sqT_of hrb), _, rfl, ?_, fun t1 nt1 => ?_⟩
          · rw [List.length_append, List.length_map, x2.len, sizeLine_eq]
            have := ok.few
            show n + 1 ≤ _
            omega
          have e2 : x.2.map V.int ++ [V.int sv] = (x.2 ++ [sv]).map V.int := by rw [List.map_append]; rfl
          refine ⟨by show 2 ≤ sizeLine; decide, fun t2 nt2 => ?_⟩
          have s12 : Same H10 (upd (upd H10 t1 (.tup (x.2.map V.int ++ [V.int sv]))) t2 (.tup [.int (x.1 + sv), .ref t1])) := (same_new nt1).new nt2
          have ht1 : (upd (upd H10 t1 (.tup (x.2.map V.int ++ [V.int sv]))) t2 (.tup [.int (x.1 + sv), .ref t1])) t1 = some (.tup ((x.2 ++ [sv]).map V.int)) := by
            rw [← e2]
            exact (same_new nt2) _ _ upd_same
          have ht2 : (upd (upd H10 t1 (.tup (x.2.map V.int ++ [V.int sv]))) t2 (.tup [.int (x.1 + sv), .ref t1])) t2 = some (.tup [.int (x.1 + sv), .ref t1]) := upd_same
          try dsimp only [tNil]
          generalize upd (upd H10 t1 (.tup (x.2.map V.int ++ [V.int sv]))) t2 (.tup [.int (x.1 + sv), .ref t1]) = H12 at s12 ht1 ht2 ⊢
          refine ⟨_, _, rfl, ?_⟩
          have st : StandAt H12 (.ref t2) (x.1 + sv, x.2 ++ [sv]) := ⟨t2, t1, rfl, ht2, ht1⟩
          have hL12 := s12 _ _ hL10
          have rin : MP.RowIn qs bs (n + 1) (x.2 ++ [sv]) := x2.snoc (by omega) (by omega)
          have hgoal : MP.goal pg qs n R sv = (MP.adr pg qs (x.2 ++ [sv]) (n + 1)).fmod pg := by
            rw [g.goal_at (by omega) x2.len, hR]
          obtain ⟨y, y1, yu⟩ := (rv10.keep s12.tups).put (r := MP.goal pg qs n R sv) st rin (by rw [List.sum_append, x3]; simp) hgoal
          have few := (rv10.keep s12.tups).few hpg h64
          refine ⟨_, rfl, _, rfl, L, rfl, .inl ⟨lks, .inl hL12⟩, _, rfl, _, rfl, _, DGet.k (k := Sum.inl (MP.goal pg qs n R sv)) hL12, ?_⟩
          refine ⟨_, _, (x.1 + sv, ⟨x.2 ++ [sv]⟩), (y.1, ⟨y.2⟩), rfl, st.has, y1.has, ?_⟩
          obtain ⟨u1, u2, u3⟩ := yu _ rfl
          refine ⟨_, rfl, _, rfl, L, _, rfl, DPut.k (k := Sum.inl (MP.goal pg qs n R sv)) hL12 (by rw [sizeLine_eq]; omega), ?_⟩
          generalize (if PySem.W.DatumOrd.lt ((y.1, ⟨y.2⟩) : Int × PySem.W.Tup Int) ((x.1 + sv, ⟨x.2 ++ [sv]⟩) : Int × PySem.W.Tup Int) = true then (valV lks (.inl (MP.goal pg qs n R sv))).getD (.ref t2) else .ref t2) = nv at u1 u2 u3 ⊢
          have tk13 : TupsKeep H12 (upd H12 L (.dK (putK lks (Sum.inl (MP.goal pg qs n R sv)) nv))) := TupsKeep.upd fun xs z => by rw [hL12] at z; cases z
          have hL13 : (upd H12 L (.dK (putK lks (Sum.inl (MP.goal pg qs n R sv)) nv))) L = some (.dK (putK lks (Sum.inl (MP.goal pg qs n R sv)) nv)) := upd_same
          have hF13 : (upd H12 L (.dK (putK lks (Sum.inl (MP.goal pg qs n R sv)) nv))) F = some (.frz od (.dK kvs)) := by rw [upd_ne FL]; exact s12 _ _ hF10
          have s13 : Same H (upd H12 L (.dK (putK lks (Sum.inl (MP.goal pg qs n R sv)) nv))) := (s10.trans s12).mut nLH
          generalize upd H12 L (.dK (putK lks (Sum.inl (MP.goal pg qs n R sv)) nv)) = H13 at tk13 hL13 hF13 s13 ⊢
          refine ⟨⟨_, _, _, rfl⟩, hF13, s13, (tk10.trans s12.tups).trans tk13, (tk10'.trans s12.tups).trans tk13, _, hL13, u1.keep tk13, fun i hi r v x s a1 a2 a3 a4 a5 => (u2 _ _ ((cv10 i hi r v x s a1 a2 a3 a4 a5).keep s12.tups)).keep tk13, fun s a1 a2 => ?_⟩
          by_cases q : s = sv
          · subst q
            exact u3.keep tk13
          · exact (u2 _ _ ((cv10' s a1 (by omega)).keep s12.tups)).keep tk13
        · rintro σ H10 ⟨⟨y10, y11, y12, rfl⟩, hF10, s10, tk10, tk10', lks, hL10, rv10, cv10, cv10'⟩
          refine ⟨⟨_, _, _, _, _, _, rfl⟩, hF10, s10, tk10, lks, hL10, rv10, fun i hi r v x' s a1 a2 a3 a4 a5 => ?_⟩
          by_cases q : i < j
          · exact cv10 i q r v x' s a1 a2 a3 a4 a5
          · have ei : i = j := by omega
            subst ei
            rw [ekv] at a1
            cases a1
            have : x' = x := standAt_inj a2 x1
            subst this
            refine cv10' s a3 ?_
            have := M3 s a4 a5
            omega
      · rintro σ H8 ⟨⟨y7, y8, y9, y10, y11, y12, rfl⟩, hF8, s8, tk8, lks, hL8, rv8, cv8⟩
        refine ⟨hF8, _, rfl, ?_⟩
        have tk9 : TupsKeep H8 (upd H8 F (.dK kvs)) := TupsKeep.upd fun xs z => by rw [hF8] at z; cases z
        have hL9 : (upd H8 F (.dK kvs)) L = some (.dK lks) := by rw [upd_ne (Ne.symm FL)]; exact hL8
        refine ⟨⟨L, lks, _, _, _, _, _, _, _, _, _, rfl, nLH, hL9, ⟨rv8.keep tk9, fun ns hns => ?_⟩⟩, s8.mut nF⟩
        refine MP.Cv.keep ?_ tk9
        refine g.cov_step (E := fun r x => ∃ (i : Nat) (v : V), kvs[i]? = some ((Sum.inl r, v) : L2.Key × V) ∧ StandAt H5 v x) (C := MP.Cv H8 lks) (by omega) (fun ns hns => ?_) (fun k x y h1 h2 => h1.mono h2) (fun r x s hE a1 a2 a3 => ?_) ns hns
        · obtain ⟨v, y, h1, h2, h3⟩ := rd.c ns hns
          obtain ⟨i, hi⟩ := List.getElem?_of_mem h1
          obtain ⟨z, z1, z2, _⟩ := rd.v.ok _ _ h1
          refine ⟨y, ⟨i, v, hi, h2⟩, h3, ?_⟩
          rw [standAt_inj h2 z1]
          exact z2.len
        · obtain ⟨i, v, h1, h2⟩ := hE
          rw [hLo] at a1 a3
          exact cv8 i (List.getElem?_eq_some_iff.mp h1).1 r v x s h1 h2 a1 a2 a3
    · rintro σ H5 ⟨⟨F, kvs, y4, y5, y6, y7, y8, y9, y10, y11, y12, rfl, nF, hF, rd⟩, s5⟩
      exact ⟨_, rfl, k H5 F kvs s5 nF hF rd⟩
end
end Lk
namespace Lk
open PySem PySem.Spec PyProof.Rows L2 RZ StX
section
variable {P : Program} {w : World} {K : PySem.W.Frag} {mg : Str → Option Value} {base : Heap} {ad ai : Nat → Addr} {fd : Nat → FuncData}
/-- bounds that are sizes -/
structure BoundOk (qs : List Part) (bs : List Int) : Prop where
  len : bs.length = qs.length
  lo : ∀ i, i < qs.length → (MP.pt qs i).lo ≤ MP.sz bs i
  hi : ∀ i, i < qs.length → MP.sz bs i ≤ (MP.pt qs i).hi
theorem BoundOk.row {qs : List Part} {bs : List Int} (h : BoundOk qs bs) : MP.RowIn qs bs qs.length bs := ⟨h.len, h.lo, fun _ _ => Int.le_refl _⟩
def SmallQ (qs : List Part) : Prop := ∀ i, i < qs.length → (MP.pt qs i).hi ≤ 1000000
def sp_reach (K : PySem.W.Frag) (C : Addr) : Sp := fun vs H Q _ => ∃ (pl s : Addr) (pg : Int) (qs : List Part) (bs : List Int) (i j : Nat), vs = [.ref pl, .int (i : Nat), .int (j : Nat), .ref s] ∧ PlanAt C H pl pg qs ∧ PlanOk pg qs ∧ SmallQ qs ∧ Sq K H s (bs.map V.int) ∧ BoundOk qs bs ∧ i ≤ j ∧ j < qs.length ∧
  ∀ H' m, Same H H' → MP.IsReach pg qs bs i j m → Q (.int m) H'
theorem ok_reach (T : Txt K mg ad ai fd) : FnOk P w K mg base CX0 4 (ad 31) (fd 31) ["plan", "first", "second", "bounds"] (sp_reach K (ad 19)) := by
  have G_rests_at : FnOk P w K mg base CX0 3 (ad 29) (fd 29) ["plan", "number", "bounds"] (sp_rests K (ad 19)) := ok_rests T
  have G_address_behind : FnOk P w K mg base CX0 3 (ad 30) (fd 30) ["plan", "first", "second", "start", "sizes"] (sp_abehind K (ad 19)) := ok_abehind T
  refine T.F_reach_at_most.ok sc_reach_at_most (fun vs H Q E h => ?_) (fun cdv A outer s H vs Q E hr h => ?_)
  · obtain ⟨pl, s, pg, qs, bs, i, j, rfl, _⟩ := h
    rfl
  · obtain ⟨pl, sa, pg, qs, bs, i, j, rfl, hpl, ok, sm, hs, hb, hij, hj, k⟩ := h
    refine ⟨_, (pss_cons (ps_set (i := 4) sc_reach_at_most.nd rfl (.inl rfl) (pe_call G_rests_at (hr.mono (by decide)) (by rfl) T.g_rests_at T.F_rests_at.kp T.b_rests_at .nil pass0 (pa_cons (pv 0) (pa_cons (pv 1) (pa_cons (pv 3) pa_nil)))))
      (pss_one (ps_ret (pe_callB (cr_max rfl) (by rfl) T.n_max (by decide +kernel) (pa_cons (pe_lock (pe_lc (own := [("rest", 5)]) rfl sc_reach_at_most.nd (pi_keys (pv 4)) (blkOk_by (N := ["plan", "first", "second", "bounds", "rests", "rest"]) (sc := defScope s_reach_at_most) (by decide +kernel)) (fun _ _ _ _ _ => (pg_name (i := 5) sc_reach_at_most.nd rfl (.inl rfl))) (fun _ _ _ _ _ => pts_nil) (fun _ _ _ _ _ => (pe_op op_sub (pe_call G_address_behind (hr.mono (by decide)) (by rfl) T.g_address_behind T.F_address_behind.kp T.b_address_behind .nil pass0 (pa_cons (pv 0) (pa_cons (pv 1) (pa_cons (pv 2) (pa_cons (pv 5) (pa_cons (pv 3) pa_nil)))))) (pv 5))))) pa_nil))))), ?_⟩
    have hlq : ∀ i, i < qs.length → (MP.pt qs i).lo ≤ 1000000 := fun i hi => by
      have := (ok.q _ (List.mem_of_getElem? (pt_at hi))).hi
      have := sm i hi
      omega
    refine ⟨_, rfl, _, rfl, _, rfl, pl, sa, pg, qs, bs, i, rfl, hpl, ok, hs, by omega, by rw [hb.len]; omega, fun a ha => ⟨hb.lo a (by omega), hlq a (by omega)⟩, fun H1 F kvs s1 nF hF rd => ?_⟩
    have few := rd.v.few (pg_pos ok) (pg_le ok)
    -- the keys
    obtain ⟨R, eR⟩ : ∃ R : List Int, kvs.map (·.1) = R.map Sum.inl := by
      have hk : ∀ k ∈ kvs.map (·.1), ∃ r : Int, k = Sum.inl r := fun k hk => by
        obtain ⟨⟨k, v⟩, hm, rfl⟩ := List.mem_map.mp hk
        obtain ⟨x, _, _, _, e⟩ := rd.v.ok k v hm
        exact ⟨_, e⟩
      generalize kvs.map (·.1) = ks at hk
      induction ks with
      | nil => exact ⟨[], rfl⟩
      | cons k ks ih =>
        obtain ⟨l, h1⟩ := ih fun k hm => hk k (List.mem_cons_of_mem _ hm)
        obtain ⟨r, h3⟩ := hk k (List.mem_cons_self ..)
        exact ⟨r :: l, by rw [List.map_cons, ← h1, h3]⟩
    have lR : R.length = kvs.length := by
      have := congrArg List.length eR
      rw [List.length_map, List.length_map] at this
      exact this.symm
    refine ⟨F, _, hF, trivial, fun od => ?_⟩
    have hF2 : (upd H1 F (.frz od (.dK kvs))) F = some (.frz od (.dK kvs)) := upd_same
    have s2 : Same H (upd H1 F (.frz od (.dK kvs))) := s1.mut nF
    have bk : ∀ H3, Same (upd H1 F (.frz od (.dK kvs))) H3 → Same H (upd H3 F (.dK kvs)) := fun H3 s3 => (s2.trans s3).mut nF
    generalize upd H1 F (.frz od (.dK kvs)) = H2 at hF2 s2 bk ⊢
    refine ⟨_, rfl, F, od, rfl, .inl ⟨kvs, hF2, fun D hD => ?_⟩⟩
    have hDF : D ≠ F := fun z => by rw [z, hF2] at hD; cases hD
    refine lc_it walk_keys (PvV H2 ((R.map fun r => MP.behind pg qs bs i r (j - i) - r).map V.int) D) (vals0 hD) (fun _ _ _ pv => pv.1 _ _ hF2) ?_ ?_
    · rintro n x H3 H4 hn pv ⟨rfl, kk, v, ekv, rfl⟩
      have er : (kvs.map (·.1))[n]? = some kk := at_map ekv
      rw [eR] at er
      obtain ⟨r, er2, rfl⟩ := map_at er
      refine ⟨rfl, ?_⟩
      have s4 := s2.trans pv.1
      refine ⟨_, rfl, _, rfl, _, rfl, _, rfl, _, rfl, pl, sa, pg, r, qs, bs, i, j, rfl, hpl.same s4, ok, s4.sq hs, hij, hj, by rw [hb.len]; omega, _, rfl, _, _, rfl, rfl, ?_⟩
      exact vals_step pv hD (Same.refl _) (at_map (at_map er2)) (by rw [List.length_map, List.length_map]; omega)
    · intro H3 pv
      obtain ⟨s3, hd⟩ := valsE pv (by rw [List.length_map, List.length_map, lR])
      refine ⟨s3 _ _ hF2, ?_⟩
      refine ⟨D, _, rfl, sqL_of (by rw [upd_ne hDF]; exact hd), ?_, fun m hm hle => ?_⟩
      · obtain ⟨v, y, hy, _⟩ := rd.c _ (show MP.RowIn qs bs i (bs.take i) from ⟨by rw [List.length_take, hb.len]; omega, fun a ha => by rw [MP.sz_take ha]; exact hb.lo a (by omega), fun a ha => by rw [MP.sz_take ha]; exact Int.le_refl _⟩)
        rw [List.length_map, lR]
        exact List.length_pos_of_mem hy
      · refine k _ m (bk H3 s3) ?_
        refine (good_plan ok).isReach hij hj hb.row (R := R) (fun r hr => ?_) (fun row hrow => ?_) hm hle
        · have : Sum.inl r ∈ kvs.map (·.1) := by rw [eR]; exact List.mem_map.mpr ⟨r, hr, rfl⟩
          obtain ⟨⟨k, v⟩, hm, e⟩ := List.mem_map.mp this
          obtain ⟨x, _, x2, _, x4⟩ := rd.v.ok k v hm
          refine ⟨x.2, x2, ?_⟩
          have e' : k = Sum.inl r := e
          rw [e'] at x4
          exact (Sum.inl.inj x4).symm
        · obtain ⟨v, y, hy, _⟩ := rd.c row hrow
          have : (Sum.inl ((MP.adr pg qs row i).fmod pg) : L2.Key) ∈ kvs.map (·.1) := List.mem_map.mpr ⟨_, hy, rfl⟩
          rw [eR] at this
          obtain ⟨r, hr, e⟩ := List.mem_map.mp this
          rw [← Sum.inl.inj e]
          exact hr
def sp_hold (K : PySem.W.Frag) (C : Addr) : Sp := fun vs H Q _ => ∃ (pl s : Addr) (pg far : Int) (qs : List Part) (bs : List Int) (i j : Nat), vs = [.ref pl, .ref s, .str (MP.pt qs i).w, .str (MP.pt qs j).w, .int far] ∧ PlanAt C H pl pg qs ∧ PlanOk pg qs ∧ SmallQ qs ∧ Sq K H s (bs.map V.int) ∧ BoundOk qs bs ∧ i < j ∧ j < qs.length ∧
  ∀ H' m, Same H H' → MP.IsReach pg qs bs i j m → Q (.bl (decide (m ≤ far))) H'
theorem ok_hold (T : Txt K mg ad ai fd) : FnOk P w K mg base CX0 5 (ad 32) (fd 32) ["plan", "bounds", "one", "other", "far"] (sp_hold K (ad 19)) := by
  have G_checked_sizes : FnOk P w K mg base CX0 2 (ad 20) (fd 20) ["plan", "sizes"] (sp_sizes K (ad 19)) := ok_sizes T
  have G_checked_two : FnOk P w K mg base CX0 3 (ad 25) (fd 25) ["plan", "one", "other"] (sp_two (ad 19)) := ok_two T
  have G_checked_far : FnOk P w K mg base CX0 2 (ad 26) (fd 26) ["far"] (sp_far) := ok_far T
  have G_reach_at_most : FnOk P w K mg base CX0 4 (ad 31) (fd 31) ["plan", "first", "second", "bounds"] (sp_reach K (ad 19)) := ok_reach T
  refine T.F_bounds_hold.ok sc_bounds_hold (fun vs H Q E h => ?_) (fun cdv A outer s H vs Q E hr h => ?_)
  · obtain ⟨pl, s, pg, far, qs, bs, i, j, rfl, _⟩ := h
    rfl
  · obtain ⟨pl, sa, pg, far, qs, bs, i, j, rfl, hpl, ok, sm, hs, hb, hij, hj, k⟩ := h
    refine ⟨_, (pss_cons (ps_set (i := 5) sc_bounds_hold.nd rfl (.inl rfl) (pe_call G_checked_sizes (hr.mono (by decide)) (by rfl) T.g_checked_sizes T.F_checked_sizes.kp T.b_checked_sizes .nil pass0 (pa_cons (pv 0) (pa_cons (pv 1) pa_nil))))
      (pss_cons (ps_asg (pe_call G_checked_two (hr.mono (by decide)) (by rfl) T.g_checked_two T.F_checked_two.kp T.b_checked_two .nil pass0 (pa_cons (pv 0) (pa_cons (pv 2) (pa_cons (pv 3) pa_nil)))) (pg_tp (K := K) (n := 2) rfl (pgs_cons (pg_name (i := 6) sc_bounds_hold.nd rfl (.inl rfl)) (pgs_cons (pg_name (i := 7) sc_bounds_hold.nd rfl (.inl rfl)) pgs_nil))))
      (pss_one (ps_ret (pe_cmpR op_le (pe_call G_reach_at_most (hr.mono (by decide)) (by rfl) T.g_reach_at_most T.F_reach_at_most.kp T.b_reach_at_most .nil pass0 (pa_cons (pv 0) (pa_cons (pv 6) (pa_cons (pv 7) (pa_cons (pv 5) pa_nil))))) (pe_call G_checked_far (hr.mono (by decide)) (by rfl) T.g_checked_far T.F_checked_far.kp T.b_checked_far .nil pass0 (pa_cons (pv 4) pa_nil)) (nomark _)))))), ?_⟩
    refine ⟨_, rfl, _, rfl, pl, sa, pg, qs, bs, rfl, hpl, ok, hs, ⟨hb.len, fun a ha => ⟨hb.lo a ha, hb.hi a ha⟩⟩, fun H1 l s1 nl hl => ?_⟩
    refine ⟨_, rfl, _, rfl, _, rfl, pl, pg, qs, i, j, rfl, hpl.same s1, ok, hij, hj, fun H2 t s2 ht => ?_⟩
    refine ⟨t, _, rfl, sqT_of ht, rfl, _, _, rfl, _, _, rfl, rfl, ?_⟩
    have s12 := s1.trans s2
    refine ⟨_, rfl, _, rfl, _, rfl, _, rfl, pl, l, pg, qs, bs, i, j, rfl, hpl.same s12, ok, sm, sq_lst (s2 _ _ hl), hb, by omega, hj, fun H3 m s3 hm => ?_⟩
    exact ⟨_, rfl, far, rfl, _, _, rfl, rfl, k _ m (s12.trans s3) hm⟩
end
end Lk
namespace Lk
open PySem PySem.Spec PyProof.Rows L2 RZ StX
section
variable {P : Program} {w : World} {K : PySem.W.Frag} {mg : Str → Option Value} {base : Heap} {ad ai : Nat → Addr} {fd : Nat → FuncData}
/-- a list of rows, as data -/
def RowsD (K : PySem.W.Frag) (H : Hp) (l : Addr) (rows : List (List Int)) : Prop := ∃ vs, H l = some (.lst vs) ∧ Paired (fun v r => Dp K H v (encR r)) vs rows
theorem RowsAt.d {H : Hp} {l : Addr} {rows : List (List Int)} (h : RowsAt H l rows) : RowsD K H l rows := by
  obtain ⟨as, h1, h2⟩ := h
  refine ⟨_, h1, ?_⟩
  clear h1
  induction h2 with
  | nil => exact .nil
  | cons h t ih => exact .cons (dp_row (sqT_of h)) ih
def sp_grows (K : PySem.W.Frag) : Sp := fun vs H Q _ => ∃ (l : Addr) (rows : List (List Int)) (n : Nat), vs = [.ref l] ∧ RowsD K H l rows ∧ rows.Pairwise MP.lLe ∧ (∀ r ∈ rows, r.length = n) ∧ 1 ≤ n ∧ n ≤ 1000 ∧ rows.length ≤ 100000 ∧
  ∀ H' r, Same H H' → H r = none → RowsD K H' r (rows.filter (MP.maxB rows)) → Q (.ref r) H'
theorem ok_grows (T : Txt K mg ad ai fd) : FnOk P w K mg base CX0 2 (ad 35) (fd 35) ["rows"] (sp_grows K) := by
  have G_is_within : FnOk P w K mg base CX0 1 (ad 34) (fd 34) ["one", "other"] (sp_within K) := ok_within T
  refine T.F_greatest_rows.ok sc_greatest_rows (fun vs H Q E h => ?_) (fun cdv A outer s H vs Q E hr h => ?_)
  · obtain ⟨l, rows, n, rfl, _⟩ := h
    rfl
  · obtain ⟨l, rows, n, rfl, ⟨vs, hl, hpr⟩, ho, hn, n1, n2, hlen, k⟩ := h
    refine ⟨_, (pss_one (ps_ret (pe_lc (own := [("row", 1)]) rfl sc_greatest_rows.nd (pi_seq (K := K) (pe_callB (cr_sortedD (K := K) (enc := encR) (hu60 hr)) (by rfl) T.n_sorted (by decide +kernel) (pa_cons (pv 0) pa_nil))) (blkOk_by (N := ["rows", "row", "other"]) (sc := defScope s_greatest_rows) (by decide +kernel)) (fun _ _ _ _ _ => (pg_name (i := 1) sc_greatest_rows.nd rfl (.inr rfl))) (fun _ _ _ _ _ => (pts_one (pt_not (pt_val (pe_callB (call_any (K := K) rfl) (by rfl) T.n_any (by decide +kernel) (pa_cons (pe_lc (own := [("other", 2)]) rfl sc_greatest_rows.nd (pi_seq (K := K) (pv 0)) (blkOk_by (N := ["rows", "row", "other"]) (sc := { kind := ScopeKind.function, names := [(PySem.Str.ofString ".0", NameKind.local), (PySem.Str.ofString "row", NameKind.cell), (PySem.Str.ofString "any", NameKind.globalImplicit), (PySem.Str.ofString "rows", NameKind.cell)], isGenerator := false, isCoroutine := false, more := [] }) (by decide +kernel)) (fun _ _ _ _ _ => (pg_name (i := 2) sc_greatest_rows.nd rfl (.inl rfl))) (fun _ _ _ _ _ => pts_nil) (fun _ _ _ _ _ => (pe_and (pe_cmpR (op_neT (α := PySem.W.Tup Int) (K := K) (hu_dp1 hr (by show 1 ≤ 50; decide))) (pv 1) (pv 2) (nomark _)) (pe_one (pe_call G_is_within (hr.mono (by decide)) (by rfl) T.g_is_within T.F_is_within.kp T.b_is_within .nil pass0 (pa_cons (pv 1) (pa_cons (pv 2) pa_nil))))))) pa_nil)))))) (fun _ _ _ _ _ => (pv 1))))), ?_⟩
    refine ⟨_, rfl, ?_⟩
    refine tNil_k ?_
    refine sorted_rowsIn (sqL_of hl) hpr (fun r hr e => ?_) ho fun ys p hys np => ?_
    · have := hn r hr
      rw [e] at this
      simp at this
      omega
    have s1 : Same H (upd H p (.lst ys)) := same_new np
    have hp1 : upd H p (.lst ys) p = some (.lst ys) := upd_same
    generalize upd H p (.lst ys) = H1 at s1 hp1 ⊢
    have hls := paired_len hys
    refine lc_seq (K := K) (sq_lst hp1) (fun D i H' => Same H1 H' ∧ ∃ us, H' D = some (.lst us) ∧ us.length ≤ i ∧ Paired (fun v r => Dp K H1 v (encR r)) us ((rows.take i).filter (MP.maxB rows))) (fun D hD => ⟨same_new hD, [], upd_same, Nat.le_refl _, .nil⟩) (fun D i H' hD pv => pv.1.keeps) ?_ ?_
    · rintro D i x H2 hD ex ⟨s2, us, hD2, lus, hus⟩
      obtain ⟨r, er, hx⟩ := paired_get hys ex
      have hx1 := dp_same s1 hx
      have hi := (List.getElem?_eq_some_iff.mp er).1
      have s02 := s1.trans s2
      refine ⟨rfl, ?_⟩
      refine ⟨_, rfl, lc_seq (K := K) (sq_lst (s02 _ _ hl)) (PvV H2 ((rows.map fun o => decide (r ≠ o) && withinB r o).map V.bl)) (fun D hD => vals0 hD) (fun D i H' hD pv => pv.1.keeps) ?_ ?_⟩
      · intro D2 i2 x2 H3 hD2' ex2 pv
        obtain ⟨o, eo, hx2⟩ := paired_get hpr ex2
        have s3 := s02.trans pv.1
        refine ⟨rfl, ?_⟩
        refine ⟨_, rfl, _, rfl, ⟨r⟩, ⟨o⟩, dp_same s3 hx, dp_same s3 hx2, _, rfl, ?_⟩
        have ed : decide ((⟨r⟩ : PySem.W.Tup Int) = ⟨o⟩) = decide (r = o) := by
          by_cases c : r = o
          · rw [c, decide_eq_true rfl, decide_eq_true rfl]
          · rw [decide_eq_false c, decide_eq_false fun z => c (congrArg PySem.W.Tup.items z)]
        rw [ed]
        have hstep : ∀ H4, Same H3 H4 → ∀ b, b = (decide (r ≠ o) && withinB r o) → ∃ acc, H4 D2 = some (.lst acc) ∧ acc.length < sizeLine ∧ PvV H2 ((rows.map fun o => decide (r ≠ o) && withinB r o).map V.bl) D2 (i2 + 1) (upd H4 D2 (.lst (acc ++ [.bl b]))) := fun H4 s4 b hb => by
          subst hb
          exact vals_step pv hD2' s4 (at_map (at_map eo)) (by rw [List.length_map, List.length_map]; omega)
        by_cases c : r = o
        · rw [decide_eq_true c]
          exact hstep H3 (Same.refl _) false (by simp [c])
        · rw [decide_eq_false c]
          obtain ⟨a1, e1, q1⟩ := row_dp (dp_same s3 hx)
          obtain ⟨a2, e2, q2⟩ := row_dp (dp_same s3 hx2)
          subst e1
          subst e2
          refine ⟨_, rfl, _, rfl, a1, a2, r, o, rfl, .inr ⟨q1, q2⟩, by rw [hn r (List.mem_of_getElem? er)]; exact n2, fun H4 s4 => ?_⟩
          exact hstep H4 s4 _ (by simp [c])
      · intro D2 H3 hD2' pv
        obtain ⟨s3, hd3⟩ := valsE pv (by rw [List.length_map, List.length_map, paired_len hpr])
        refine ⟨D2, _, rfl, sqL_of hd3, _, rfl, ?_⟩
        change ite (MP.maxB rows r = true) _ _
        have hDD : H3 D = some (.lst us) := s3 _ _ hD2
        refine ite2 (fun c => ?_) (fun c => ?_)
        · refine ⟨_, rfl, us, hDD, by rw [sizeLine_eq]; omega, (s2.trans s3).mut hD, us ++ [x], upd_same, by rw [List.length_append]; show us.length + 1 ≤ i + 1; omega, ?_⟩
          rw [take_snoc er, List.filter_append, show [r].filter (MP.maxB rows) = [r] by simp [c]]
          exact paired_snoc (R := fun v r => Dp K H1 v (encR r)) hx1 hus
        · refine ⟨s2.trans s3, us, hDD, by omega, ?_⟩
          rw [take_snoc er, List.filter_append, show [r].filter (MP.maxB rows) = [] by simp [c], List.append_nil]
          exact hus
    · rintro D H2 hD ⟨s2, us, hD2, lus, hus⟩
      rw [hls, List.take_length] at hus
      refine k H2 D (s1.trans s2) (s1.free hD) ⟨us, hD2, paired_mono (fun v r z => dp_same s2 z) hus⟩
end
end Lk
namespace Lk
open PySem PySem.Spec PyProof.Rows L2 RZ StX
section
variable {P : Program} {w : World} {K : PySem.W.Frag} {mg : Str → Option Value} {base : Heap} {ad ai : Nat → Addr} {fd : Nat → FuncData}
def losQ (qs : List Part) : List Int := qs.map Part.lo
def hisQ (qs : List Part) : List Int := qs.map Part.hi
def allR (qs : List Part) : List (List Int) := MP.rowsN (losQ qs) (hisQ qs) qs.length
abbrev rchQ (pg : Int) (qs : List Part) (i j : Nat) : List Int → Int := fun r => MP.reach pg qs r i j
def holding (pg : Int) (qs : List Part) (i j : Nat) (far : Int) : List (List Int) := (allR qs).filter (MP.holdB (allR qs) (rchQ pg qs i j) far)
def dueR (pg : Int) (qs : List Part) (i j : Nat) (far : Int) : List (List Int) := (holding pg qs i j far).filter (MP.maxB (holding pg qs i j far))
theorem cut_dropN {xs : List V} {j : Nat} (h : j ≤ xs.length) : cutV xs (some ((j : Nat) : Int)) none = xs.drop j := by
  unfold cutV
  rw [HT.sIx_nat, HT.sIx_none, Nat.min_eq_left h]
  exact List.take_of_length_le (by rw [List.length_drop]; omega)
theorem cut_takeN {xs : List V} {j : Nat} (h : j ≤ xs.length) : cutV xs none (some ((j : Nat) : Int)) = xs.take j := by
  rw [cut_take (by omega) (by omega)]
  rfl
theorem sz_los {qs : List Part} {k : Nat} (h : k < qs.length) : MP.sz (losQ qs) k = (MP.pt qs k).lo := sz_of (at_map (pt_at h))
theorem sz_his {qs : List Part} {k : Nat} (h : k < qs.length) : MP.sz (hisQ qs) k = (MP.pt qs k).hi := sz_of (at_map (pt_at h))
theorem mem_allR {qs : List Part} {b : List Int} : b ∈ allR qs ↔ BoundOk qs b := by
  unfold allR
  rw [MP.mem_rowsN]
  refine ⟨fun ⟨h1, h2⟩ => ⟨h1, fun k hk => ?_, fun k hk => ?_⟩, fun h => ⟨h.len, fun k hk => ?_⟩⟩
  · have := (h2 k hk).1
    rwa [sz_los hk] at this
  · have := (h2 k hk).2
    rwa [sz_his hk] at this
  · rw [sz_los hk, sz_his hk]
    exact ⟨h.lo k hk, h.hi k hk⟩
/-- the reach is at most far just if all sizes up to the bounds keep it -/
theorem reach_hold {pg far m : Int} {qs : List Part} {b : List Int} {i j : Nat} (hb : BoundOk qs b) (h : MP.IsReach pg qs b i j m) : decide (m ≤ far) = MP.holdB (allR qs) (rchQ pg qs i j) far b := by
  rw [Bool.eq_iff_iff, decide_eq_true_eq, MP.holdB_iff]
  refine ⟨fun hm r hr hw => ?_, fun hh => ?_⟩
  · have hr' := mem_allR.mp hr
    have := h.le r ⟨hr'.len, hr'.lo, (MP.withinB_iff hr'.len hb.len).mp hw⟩
    exact Int.le_trans this hm
  · obtain ⟨ns, h1, h2⟩ := h.at_
    rw [← h2]
    refine hh ns (mem_allR.mpr ⟨h1.len, h1.lo, fun k hk => Int.le_trans (h1.hi k hk) (hb.hi k hk)⟩) ((MP.withinB_iff h1.len hb.len).mpr h1.hi)
theorem rch_of {pg : Int} {qs : List Part} {i j : Nat} (hlh : ∀ k, k < qs.length → (MP.pt qs k).lo ≤ (MP.pt qs k).hi) (hij : i ≤ j) (hj : j ≤ qs.length) : MP.Rch (losQ qs) (hisQ qs) qs.length j (rchQ pg qs i j) := by
  refine ⟨List.length_map _, List.length_map _, fun k hk => ?_, hj, fun r r' h1 h2 h => ?_⟩
  · rw [sz_los hk, sz_his hk]
    exact hlh k hk
  · show MP.adr pg qs r j - MP.adr pg qs r i = MP.adr pg qs r' j - MP.adr pg qs r' i
    rw [MP.adr_cong j h, MP.adr_cong i fun k hk => h k (by omega)]
theorem MP.rowsN_cong {ls hs ls' hs' : List Int} : ∀ n, (∀ k, k < n → MP.sz ls k = MP.sz ls' k ∧ MP.sz hs k = MP.sz hs' k) → MP.rowsN ls hs n = MP.rowsN ls' hs' n
  | 0, _ => rfl
  | n + 1, h => by
    show MP.rowStep _ _ _ = MP.rowStep _ _ _
    rw [MP.rowsN_cong n fun k hk => h k (by omega), (h n (by omega)).1, (h n (by omega)).2]
def sp_gbounds (K : PySem.W.Frag) (C : Addr) : Sp := fun vs H Q _ => ∃ (pl : Addr) (pg far : Int) (qs : List Part) (i j : Nat), vs = [.ref pl, .str (MP.pt qs i).w, .str (MP.pt qs j).w, .int far] ∧ PlanAt C H pl pg qs ∧ PlanOk pg qs ∧ SmallQ qs ∧ i < j ∧ j < qs.length ∧ (∀ n, n ≤ qs.length → (MP.rowsN (losQ qs) (hisQ qs) n).length ≤ 10000) ∧
  ∀ H' r, Same H H' → H r = none → RowsD K H' r (dueR pg qs i j far) → Q (.ref r) H'
theorem ok_gbounds (T : Txt K mg ad ai fd) : FnOk P w K mg base CX0 5 (ad 36) (fd 36) ["plan", "one", "other", "far"] (sp_gbounds K (ad 19)) := by
  have G_checked_two : FnOk P w K mg base CX0 3 (ad 25) (fd 25) ["plan", "one", "other"] (sp_two (ad 19)) := ok_two T
  have G_checked_far : FnOk P w K mg base CX0 2 (ad 26) (fd 26) ["far"] (sp_far) := ok_far T
  have G_mosts : FnOk P w K mg base CX0 1 (ad 28) (fd 28) ["plan"] (sp_col (ad 19) Part.hi) := ok_mosts T
  have G_leasts : FnOk P w K mg base CX0 1 (ad 27) (fd 27) ["plan"] (sp_col (ad 19) Part.lo) := ok_leasts T
  have G_rows_between : FnOk P w K mg base CX0 1 (ad 33) (fd 33) ["low", "high"] (sp_rows) := ok_rows T
  have G_greatest_rows : FnOk P w K mg base CX0 2 (ad 35) (fd 35) ["rows"] (sp_grows K) := ok_grows T
  have G_reach_at_most : FnOk P w K mg base CX0 4 (ad 31) (fd 31) ["plan", "first", "second", "bounds"] (sp_reach K (ad 19)) := ok_reach T
  refine T.F_greatest_bounds.ok sc_greatest_bounds (fun vs H Q E h => ?_) (fun cdv A outer s H vs Q E hr h => ?_)
  · obtain ⟨pl, pg, far, qs, i, j, rfl, _⟩ := h
    rfl
  · obtain ⟨pl, pg, far, qs, i, j, rfl, hpl, ok, sm, hij, hj, hlen, k⟩ := h
    refine ⟨_, (pss_cons (ps_asg (pe_call G_checked_two (hr.mono (by decide)) (by rfl) T.g_checked_two T.F_checked_two.kp T.b_checked_two .nil pass0 (pa_cons (pv 0) (pa_cons (pv 1) (pa_cons (pv 2) pa_nil)))) (pg_tp (K := K) (n := 2) rfl (pgs_cons (pg_name (i := 4) sc_greatest_bounds.nd rfl (.inr rfl)) (pgs_cons (pg_name (i := 5) sc_greatest_bounds.nd rfl (.inr rfl)) pgs_nil))))
      (pss_cons (ps_asg (pe_tup (pa_cons (pe_call G_checked_far (hr.mono (by decide)) (by rfl) T.g_checked_far T.F_checked_far.kp T.b_checked_far .nil pass0 (pa_cons (pv 3) pa_nil)) (pa_cons (pe_callTy (call_tuple (K := K)) (by rfl) T.n_tuple (by decide +kernel) (pa_cons (pe_slice (sl_lst (K := K)) (pe_call G_mosts (hr.mono (by decide)) (by rfl) T.g_mosts T.F_mosts.kp T.b_mosts .nil pass0 (pa_cons (pv 0) pa_nil)) (po_some (pv 5)) po_none) pa_nil)) pa_nil))) (pg_tp (K := K) (n := 2) rfl (pgs_cons (pg_name (i := 6) sc_greatest_bounds.nd rfl (.inr rfl)) (pgs_cons (pg_name (i := 7) sc_greatest_bounds.nd rfl (.inr rfl)) pgs_nil))))
      (pss_cons (ps_setLc (i := 8) (own := [("row", 9)]) rfl sc_greatest_bounds.nd rfl rfl (sw_true rfl rfl rfl (by decide +kernel)) (pi_seq (K := K) (pe_call G_rows_between (hr.mono (by decide)) (by rfl) T.g_rows_between T.F_rows_between.kp T.b_rows_between .nil pass0 (pa_cons (pe_slice (sl_lst (K := K)) (pe_call G_leasts (hr.mono (by decide)) (by rfl) T.g_leasts T.F_leasts.kp T.b_leasts .nil pass0 (pa_cons (pv 0) pa_nil)) po_none (po_some (pv 5))) (pa_cons (pe_slice (sl_lst (K := K)) (pe_call G_mosts (hr.mono (by decide)) (by rfl) T.g_mosts T.F_mosts.kp T.b_mosts .nil pass0 (pa_cons (pv 0) pa_nil)) po_none (po_some (pv 5))) pa_nil)))) (blkOk_by (N := ["plan", "one", "other", "far", "first", "second", "distance", "behind", "rows", "row"]) (sc := defScope s_greatest_bounds) (by decide +kernel)) (fun _ _ _ _ _ => (pg_name (i := 9) sc_greatest_bounds.nd rfl (.inl rfl))) (fun _ _ _ _ _ => pts_nil) (fun _ _ _ _ _ => (pe_tup (pa_starK (K := K) (pv 9) (pa_starK (K := K) (pv 7) pa_nil)))))
      (pss_one (ps_ret (pe_call G_greatest_rows (hr.mono (by decide)) (by rfl) T.g_greatest_rows T.F_greatest_rows.kp T.b_greatest_rows .nil pass0 (pa_cons (pe_lc (own := [("row", 9)]) rfl sc_greatest_bounds.nd (pi_seq (K := K) (pv 8)) (blkOk_by (N := ["plan", "one", "other", "far", "first", "second", "distance", "behind", "rows", "row"]) (sc := defScope s_greatest_bounds) (by decide +kernel)) (fun _ _ _ _ _ => (pg_name (i := 9) sc_greatest_bounds.nd rfl (.inl rfl))) (fun _ _ _ _ _ => (pts_one (pt_cmpR op_le (pe_call G_reach_at_most (hr.mono (by decide)) (by rfl) T.g_reach_at_most T.F_reach_at_most.kp T.b_reach_at_most .nil pass0 (pa_cons (pv 0) (pa_cons (pv 4) (pa_cons (pv 5) (pa_cons (pv 9) pa_nil))))) (pv 6) (nomark _)))) (fun _ _ _ _ _ => (pv 9))) pa_nil))))))), ?_⟩
    have hlh : ∀ k, k < qs.length → (MP.pt qs k).lo ≤ (MP.pt qs k).hi := fun k hk => (ok.q _ (List.mem_of_getElem? (pt_at hk))).hi
    have h100 := ok.few
    have ll : (losQ qs).length = qs.length := List.length_map _
    have lh : (hisQ qs).length = qs.length := List.length_map _
    -- first, second
    refine ⟨_, rfl, _, rfl, _, rfl, pl, pg, qs, i, j, rfl, hpl, ok, hij, hj, fun H1 t1 s1 ht1 => ?_⟩
    refine ⟨t1, _, rfl, sqT_of ht1, rfl, _, _, rfl, _, _, rfl, rfl, ?_⟩
    -- distance, behind
    refine ⟨_, rfl, far, rfl, _, rfl, pl, pg, qs, rfl, hpl.same s1, ok, fun H2 l2 s2 nl2 hl2 => ?_⟩
    have s02 := s1.trans s2
    refine ⟨_, rfl, _, rfl, l2, _, rfl, sqL_of hl2, fun c3 nc3 => ?_⟩
    have ec3 : cutV ((hisQ qs).map V.int) (some ((j : Nat) : Int)) none = ((hisQ qs).drop j).map V.int := by
      rw [cut_dropN (by rw [List.length_map]; omega), List.map_drop]
    change tNil _ (upd H2 c3 (.lst (cutV ((hisQ qs).map V.int) (some ((j : Nat) : Int)) none))) _
    rw [ec3]
    have s3 := s02.new (o := .lst (((hisQ qs).drop j).map V.int)) nc3
    have hc3 : (upd H2 c3 (.lst (((hisQ qs).drop j).map V.int))) c3 = some (.lst (((hisQ qs).drop j).map V.int)) := upd_same
    generalize upd H2 c3 (.lst (((hisQ qs).drop j).map V.int)) = H3 at s3 hc3 ⊢
    refine tNil_k ⟨c3, _, rfl, .inl ⟨sqL_of hc3, fun b4 nb4 => ?_⟩⟩
    have s4 := s3.new (o := .tup (((hisQ qs).drop j).map V.int)) nb4
    have hb4 : (upd H3 b4 (.tup (((hisQ qs).drop j).map V.int))) b4 = some (.tup (((hisQ qs).drop j).map V.int)) := upd_same
    generalize upd H3 b4 (.tup (((hisQ qs).drop j).map V.int)) = H4 at s4 hb4 ⊢
    refine ⟨by show 2 ≤ sizeLine; decide, fun t5 nt5 => ?_⟩
    have s5 := s4.new (o := .tup [.int far, .ref b4]) nt5
    have s45 : Same H4 (upd H4 t5 (.tup [.int far, .ref b4])) := same_new nt5
    have ht5 : (upd H4 t5 (.tup [.int far, .ref b4])) t5 = some (.tup [.int far, .ref b4]) := upd_same
    generalize upd H4 t5 (.tup [.int far, .ref b4]) = H5 at s5 s45 ht5 ⊢
    have hb5 := s45 _ _ hb4
    refine ⟨t5, _, rfl, sqT_of ht5, rfl, _, _, rfl, _, _, rfl, rfl, ?_⟩
    -- rows
    refine ⟨_, rfl, pl, pg, qs, rfl, hpl.same s5, ok, fun H6 l6 s6 nl6 hl6 => ?_⟩
    refine ⟨_, rfl, _, rfl, l6, _, rfl, sqL_of hl6, fun c7 nc7 => ?_⟩
    have ec7 : cutV ((losQ qs).map V.int) none (some ((j : Nat) : Int)) = ((losQ qs).take j).map V.int := by
      rw [cut_takeN (by rw [List.length_map]; omega), List.map_take]
    change tCons _ _ _ (upd H6 c7 (.lst (cutV ((losQ qs).map V.int) none (some ((j : Nat) : Int))))) _
    rw [ec7]
    have s7 := (s5.trans s6).new (o := .lst (((losQ qs).take j).map V.int)) nc7
    have s57 := s6.new (o := .lst (((losQ qs).take j).map V.int)) nc7
    have hc7 : (upd H6 c7 (.lst (((losQ qs).take j).map V.int))) c7 = some (.lst (((losQ qs).take j).map V.int)) := upd_same
    generalize upd H6 c7 (.lst (((losQ qs).take j).map V.int)) = H7 at s7 s57 hc7 ⊢
    refine ⟨_, rfl, pl, pg, qs, rfl, hpl.same s7, ok, fun H8 l8 s8 nl8 hl8 => ?_⟩
    refine ⟨_, rfl, _, rfl, l8, _, rfl, sqL_of hl8, fun c9 nc9 => ?_⟩
    have ec9 : cutV ((hisQ qs).map V.int) none (some ((j : Nat) : Int)) = ((hisQ qs).take j).map V.int := by
      rw [cut_takeN (by rw [List.length_map]; omega), List.map_take]
    change tNil _ (upd H8 c9 (.lst (cutV ((hisQ qs).map V.int) none (some ((j : Nat) : Int))))) _
    rw [ec9]
    have s79 := s8.new (o := .lst (((hisQ qs).take j).map V.int)) nc9
    have hc9 : (upd H8 c9 (.lst (((hisQ qs).take j).map V.int))) c9 = some (.lst (((hisQ qs).take j).map V.int)) := upd_same
    generalize upd H8 c9 (.lst (((hisQ qs).take j).map V.int)) = H9 at s79 hc9 ⊢
    have lt1 : ((losQ qs).take j).length = j := by rw [List.length_take]; omega
    have lt2 : ((hisQ qs).take j).length = j := by rw [List.length_take]; omega
    have cong : ∀ n, n ≤ j → MP.rowsN ((losQ qs).take j) ((hisQ qs).take j) n = MP.rowsN (losQ qs) (hisQ qs) n := fun n hn => MP.rowsN_cong n fun k hk => ⟨MP.sz_take (by omega), MP.sz_take (by omega)⟩
    refine tNil_k ⟨c7, c9, _, _, rfl, s79 _ _ hc7, hc9, by omega, by omega, fun k hk => ?_, fun n hn => ?_, fun H10 r10 s10 nr10 hR10 => ?_⟩
    · rw [lt1] at hk
      rw [MP.sz_take hk, MP.sz_take hk, sz_los (by omega), sz_his (by omega)]
      exact ⟨(ok.q _ (List.mem_of_getElem? (pt_at (by omega)))).lo, hlh k (by omega), sm k (by omega)⟩
    · rw [lt1] at hn
      rw [cong n hn]
      have := hlen n (by omega)
      omega
    rw [lt1, cong j (Nat.le_refl _)] at hR10
    have s510 := (s57.trans s79).trans s10
    have s010 := s5.trans s510
    have hb10 := s510 _ _ hb5
    have hl0 := hlen j (by omega)
    have hrl := MP.rowsN_len (ls := losQ qs) (hs := hisQ qs) j
    have hmem : ∀ b, b ∈ (MP.rowsN (losQ qs) (hisQ qs) j).map (fun r => r ++ (hisQ qs).drop j) ↔ b ∈ MP.rowsN (losQ qs) (hisQ qs) qs.length ∧ MP.top (hisQ qs) j b = b := by
      intro b
      rw [List.mem_map]
      refine ⟨?_, fun ⟨h1, h2⟩ => ?_⟩
      · rintro ⟨r, hr, rfl⟩
        have hrl' := hrl r hr
        obtain ⟨_, hb⟩ := MP.mem_rowsN.mp hr
        refine ⟨MP.mem_rowsN.mpr ⟨by rw [List.length_append, List.length_drop, hrl']; omega, fun k hk => ?_⟩, ?_⟩
        · by_cases c : k < j
          · rw [MP.sz_app1 (by omega)]
            exact hb k c
          · rw [MP.sz_app2 (by omega), MP.sz_drop, hrl', show j + (k - j) = k by omega, sz_los hk, sz_his hk]
            exact ⟨hlh k hk, Int.le_refl _⟩
        · unfold MP.top
          rw [List.take_left' hrl']
      · obtain ⟨h3, h4⟩ := MP.mem_rowsN.mp h1
        refine ⟨b.take j, MP.mem_rowsN.mpr ⟨by rw [List.length_take]; omega, fun k hk => ?_⟩, h2⟩
        rw [MP.sz_take hk]
        exact h4 k (by omega)
    have hord : ((MP.rowsN (losQ qs) (hisQ qs) j).map (fun r => r ++ (hisQ qs).drop j)).Pairwise MP.lLt := by
      rw [List.pairwise_map]
      exact (MP.rowsN_order j).imp_of_mem fun {a b} ha hb h => h.app (by rw [hrl a ha, hrl b hb])
    obtain ⟨as10, hr10, hpr10⟩ := hR10
    generalize hrows : MP.rowsN (losQ qs) (hisQ qs) j = rows0 at *
    refine lc_seq (K := K) (sq_lst hr10) (fun D n H' => GrowO objT H10 D ((rows0.take n).map fun r => r ++ (hisQ qs).drop j) H') (fun D hD => growO0 hD) (fun D n H' hD g => g.1.keeps) ?_ ?_
    · rintro D n x H11 hD ex g11
      obtain ⟨a, ea, rfl⟩ := map_at ex
      obtain ⟨r, er, ha⟩ := paired_get hpr10 ea
      have hn := (List.getElem?_eq_some_iff.mp er).1
      refine ⟨rfl, ?_⟩
      refine ⟨_, rfl, a, _, rfl, .inl (sqT_of (g11.1 _ _ ha)), _, rfl, b4, _, rfl, .inl (sqT_of (g11.1 _ _ hb10)), ?_, fun t nt => ?_⟩
      · rw [List.length_append, List.length_append, List.length_map, List.length_map, hrl r (List.mem_of_getElem? er), List.length_drop, sizeLine_eq]
        show j + ((hisQ qs).length - j + 0) ≤ _
        omega
      · have e : r.map V.int ++ (((hisQ qs).drop j).map V.int ++ []) = (r ++ (hisQ qs).drop j).map V.int := by rw [List.append_nil, List.map_append]
        rw [e, take_snoc er, List.map_append]
        exact growO_step g11 hD (Same.refl _) (by rw [List.length_map, List.length_take]; omega) t nt
    · rintro D H11 hD g11
      rw [List.length_map, paired_len hpr10, List.take_length] at g11
      obtain ⟨s11, as11, hD11, hpr11, _⟩ := g11
      have s011 := s010.trans s11
      generalize hrows1 : (rows0.map fun r => r ++ (hisQ qs).drop j) = rows1 at *
      have len1 : rows1.length = rows0.length := by rw [← hrows1, List.length_map]
      have hbo : ∀ r, r ∈ rows1 → BoundOk qs r := fun r hr => mem_allR.mp ((hmem r).mp hr).1
      -- those that hold
      refine ⟨_, rfl, lc_seq (K := K) (sq_lst hD11) (fun D n H' => Same H11 H' ∧ ∃ bs' : List Addr, H' D = some (.lst (bs'.map V.ref)) ∧ bs'.length ≤ n ∧ Paired (fun a r => H11 a = some (objT r)) bs' ((rows1.take n).filter (MP.holdB (allR qs) (rchQ pg qs i j) far))) (fun D hD => ⟨same_new hD, [], upd_same, Nat.le_refl _, .nil⟩) (fun D n H' hD pv => pv.1.keeps) ?_ ?_⟩
      · rintro D2 n x H12 hD2 ex ⟨s12, bs', hD12, lbs, hbs⟩
        obtain ⟨a, ea, rfl⟩ := map_at ex
        obtain ⟨r, er, ha⟩ := paired_get hpr11 ea
        have hn := (List.getElem?_eq_some_iff.mp er).1
        have hbr := hbo r (List.mem_of_getElem? er)
        have s012 := s011.trans s12
        refine ⟨rfl, ?_⟩
        refine ⟨_, rfl, _, rfl, _, rfl, _, rfl, pl, a, pg, qs, r, i, j, rfl, hpl.same s012, ok, sm, sq_tup (s12 _ _ ha), hbr, by omega, hj, fun H13 m s13 hm => ?_⟩
        refine ⟨_, rfl, _, _, rfl, rfl, _, rfl, ?_⟩
        have eh := reach_hold (far := far) hbr hm
        change ite (decide (m ≤ far) = true) _ _
        rw [eh]
        have hDD := s13 _ _ hD12
        refine ite2 (fun c => ?_) (fun c => ?_)
        · refine ⟨_, rfl, _, hDD, by rw [List.length_map, sizeLine_eq]; omega, (s12.trans s13).mut hD2, bs' ++ [a], by rw [upd_same, List.map_append]; rfl, by rw [List.length_append]; show bs'.length + 1 ≤ n + 1; omega, ?_⟩
          rw [take_snoc er, List.filter_append, show [r].filter (MP.holdB (allR qs) (rchQ pg qs i j) far) = [r] by simp [c]]
          exact paired_snoc (R := fun a r => H11 a = some (objT r)) ha hbs
        · refine ⟨s12.trans s13, bs', hDD, by omega, ?_⟩
          rw [take_snoc er, List.filter_append, show [r].filter (MP.holdB (allR qs) (rchQ pg qs i j) far) = [] by simp [c], List.append_nil]
          exact hbs
      · rintro D2 H12 hD2 ⟨s12, bs', hD12, lbs, hbs⟩
        rw [List.length_map, paired_len hpr11, List.take_length] at hbs
        rw [List.length_map, paired_len hpr11] at lbs
        have hD2R : RowsD K H12 D2 (rows1.filter (MP.holdB (allR qs) (rchQ pg qs i j) far)) := RowsAt.d ⟨bs', hD12, paired_mono (fun a r z => s12 _ _ z) hbs⟩
        refine ⟨D2, _, qs.length, rfl, hD2R, ((hord.filter _).imp fun z => z.le), fun r hr => (hbo r (List.mem_filter.mp hr).1).len, ok.one, by omega, by rw [← paired_len hbs]; omega, fun H13 r13 s13 nr13 hR13 => ?_⟩
        refine k H13 r13 ((s011.trans s12).trans s13) ((s011.trans s12).free nr13) ?_
        have e := (rch_of (pg := pg) hlh (Nat.le_of_lt hij) (Nat.le_of_lt hj)).greatest (far := far) rows1 hmem hord
        show RowsD K H13 r13 (((allR qs).filter (MP.holdB (allR qs) (rchQ pg qs i j) far)).filter (MP.maxB ((allR qs).filter (MP.holdB (allR qs) (rchQ pg qs i j) far))))
        unfold allR at *
        rw [← e]
        exact hR13
end
end Lk
namespace Lk
open PySem PySem.Spec PyProof.Rows L2 RZ StX
section
variable {P : Program} {w : World} {K : PySem.W.Frag} {mg : Str → Option Value} {base : Heap} {ad ai : Nat → Addr} {fd : Nat → FuncData}
def sp_lall : Sp := fun vs H Q _ => ∃ (l : Addr) (qs : List Part), vs = [.ref l] ∧ PartsL H l qs ∧ qs.length ≤ 100 ∧ (∀ q ∈ qs, 0 ≤ q.lo ∧ q.lo ≤ q.hi ∧ q.hi ≤ 1000000) ∧ (∀ n, n ≤ qs.length → (MP.rowsN (losQ qs) (hisQ qs) n).length ≤ 10000) ∧ ∀ H' r, Same H H' → H r = none → RowsAt H' r (allR qs) → Q (.ref r) H'
theorem ok_lall (T : Txt K mg ad ai fd) : FnOk P w K mg base CX0 2 (ad 48) (fd 48) ["_law_parts_here"] (sp_lall) := by
  have G_law_rows : FnOk P w K mg base CX0 1 (ad 47) (fd 47) ["_law_low", "_law_high"] (sp_rows) := ok_lrows T
  refine T.F_law_all_sizes.ok sc_law_all_sizes (fun vs H Q E h => ?_) (fun cdv A outer s H vs Q E hr h => ?_)
  · obtain ⟨l, qs, rfl, _⟩ := h
    rfl
  · obtain ⟨l, qs, rfl, ⟨as, hl, hpr⟩, h100, hb, hlen, k⟩ := h
    refine ⟨_, (pss_one (ps_ret (pe_call G_law_rows (hr.mono (by decide)) (by rfl) T.g_law_rows T.F_law_rows.kp T.b_law_rows .nil pass0 (pa_cons (pe_lc (own := [("_law_part", 1)]) rfl sc_law_all_sizes.nd (pi_seq (K := K) (pv 0)) (blkOk_by (N := ["_law_parts_here", "_law_part"]) (sc := defScope s_law_all_sizes) (by decide +kernel)) (fun _ _ _ _ _ => (pg_name (i := 1) sc_law_all_sizes.nd rfl (.inl rfl))) (fun _ _ _ _ _ => pts_nil) (fun _ _ _ _ _ => (pe_ix (ix_seq (K := K)) (pv 1) pe_int (fun _ _ => rfl)))) (pa_cons (pe_lc (own := [("_law_part", 1)]) rfl sc_law_all_sizes.nd (pi_seq (K := K) (pv 0)) (blkOk_by (N := ["_law_parts_here", "_law_part"]) (sc := defScope s_law_all_sizes) (by decide +kernel)) (fun _ _ _ _ _ => (pg_name (i := 1) sc_law_all_sizes.nd rfl (.inl rfl))) (fun _ _ _ _ _ => pts_nil) (fun _ _ _ _ _ => (pe_ix (ix_seq (K := K)) (pv 1) pe_int (fun _ _ => rfl)))) pa_nil))))), ?_⟩
    have ll : (losQ qs).length = qs.length := List.length_map _
    have lh : (hisQ qs).length = qs.length := List.length_map _
    have el := paired_len hpr
    refine ⟨_, rfl, lc_seq (K := K) (sq_lst hl) (PvV H ((losQ qs).map V.int)) (fun D hD => vals0 hD) (fun D i H' hD pv => pv.1.keeps) ?_ ?_⟩
    · intro D i x H1 hD ex pv
      obtain ⟨a, ea, rfl⟩ := map_at ex
      obtain ⟨q, eq, hq⟩ := paired_get hpr ea
      refine ⟨rfl, ?_⟩
      refine ⟨_, rfl, ixS (j := 3) (sq_tup (pv.1 _ _ hq)) rfl ?_⟩
      exact vals_step pv hD (Same.refl _) (at_map (at_map eq)) (by rw [List.length_map, ll]; omega)
    · intro D1 H1 hD1 pv1
      obtain ⟨s1, hd1⟩ := valsE pv1 (by rw [List.length_map, List.length_map, ll, el])
      refine ⟨_, rfl, lc_seq (K := K) (sq_lst (s1 _ _ hl)) (PvV H1 ((hisQ qs).map V.int)) (fun D hD => vals0 hD) (fun D i H' hD pv => pv.1.keeps) ?_ ?_⟩
      · intro D i x H2 hD ex pv
        obtain ⟨a, ea, rfl⟩ := map_at ex
        obtain ⟨q, eq, hq⟩ := paired_get hpr ea
        refine ⟨rfl, ?_⟩
        refine ⟨_, rfl, ixS (j := 4) (sq_tup (pv.1 _ _ (s1 _ _ hq))) rfl ?_⟩
        exact vals_step pv hD (Same.refl _) (at_map (at_map eq)) (by rw [List.length_map, lh]; omega)
      · intro D2 H2 hD2 pv2
        obtain ⟨s2, hd2⟩ := valsE pv2 (by rw [List.length_map, List.length_map, lh, el])
        refine ⟨D1, D2, losQ qs, hisQ qs, rfl, s2 _ _ hd1, hd2, by omega, by omega, fun k hk => ?_, fun n hn => ?_, fun H3 r s3 nr hR => ?_⟩
        · rw [ll] at hk
          rw [sz_los hk, sz_his hk]
          exact hb _ (List.mem_of_getElem? (pt_at hk))
        · have := hlen n (by omega)
          omega
        · rw [ll] at hR
          exact k H3 r ((s1.trans s2).trans s3) ((s1.trans s2).free nr) hR
def sp_lreach : Sp := fun vs H Q _ => ∃ (pg : Int) (l s : Addr) (qs : List Part) (ns : List Int) (i j : Nat), vs = [.int pg, .ref l, .int (i : Nat), .int (j : Nat), .ref s] ∧ PartsL H l qs ∧ PartsOk pg qs ∧ TrkI H s ns ∧ ns.length = qs.length ∧ i < qs.length ∧ j < qs.length ∧ ∀ H', Same H H' → Q (.int (MP.reach pg qs ns i j)) H'
theorem ok_lreach (T : Txt K mg ad ai fd) : FnOk P w K mg base CX0 3 (ad 51) (fd 51) ["_law_page", "_law_parts_here", "_law_first", "_law_second", "_law_sizes"] (sp_lreach) := by
  have G_law_addresses : FnOk P w K mg base CX0 2 (ad 46) (fd 46) ["_law_page", "_law_parts_here", "_law_sizes"] (sp_laddr) := ok_laddr T
  refine T.F_law_reach.ok sc_law_reach (fun vs H Q E h => ?_) (fun cdv A outer s H vs Q E hr h => ?_)
  · obtain ⟨pg, l, s, qs, ns, i, j, rfl, _⟩ := h
    rfl
  · obtain ⟨pg, l, sa, qs, ns, i, j, rfl, hpl, ok, hs, hn, hi, hj, k⟩ := h
    refine ⟨_, (pss_cons (ps_set (i := 5) sc_law_reach.nd rfl (.inl rfl) (pe_call G_law_addresses (hr.mono (by decide)) (by rfl) T.g_law_addresses T.F_law_addresses.kp T.b_law_addresses .nil pass0 (pa_cons (pv 0) (pa_cons (pv 1) (pa_cons (pv 4) pa_nil)))))
      (pss_one (ps_ret (pe_op op_sub (pe_ix (ix_seq (K := K)) (pv 5) (pv 3) (fun _ _ => rfl)) (pe_ix (ix_seq (K := K)) (pv 5) (pv 2) (fun _ _ => rfl)))))), ?_⟩
    refine ⟨_, rfl, _, rfl, _, rfl, pg, l, sa, qs, ns, rfl, hpl, ok, hs, hn, fun H1 r s1 nr hr1 => ?_⟩
    have at_ : ∀ k, k < qs.length → ((addrs pg qs ns qs.length).map V.int)[k]? = some (.int (MP.adr pg qs ns k)) := fun k hk => by
      rw [at_map (addrs_at hk), MP.adr_eq]
    refine ⟨_, rfl, _, rfl, ixS (j := j) (sq_lst hr1) (at_ j hj) ⟨_, rfl, _, rfl, ixS (j := i) (sq_lst hr1) (at_ i hi) ⟨_, _, rfl, rfl, k _ s1⟩⟩⟩
end
end Lk
namespace Lk
open PySem PySem.Spec PyProof.Rows L2 RZ StX
/-! ### how many rows -/
theorem MP.rowStep_len {rows : List (List Int)} {lo hi : Int} : (MP.rowStep rows lo hi).length = rows.length * (hi + 1 - lo).toNat := by
  induction rows with
  | nil => simp [MP.rowStep]
  | cons r rows ih =>
    rw [show r :: rows = [r] ++ rows from rfl, MP.rowStep_app, List.length_append, ih, MP.rowStep_one, List.length_map, List.length_range, List.length_append, Nat.add_mul]
    simp
theorem rowsN_wid {qs : List Part} (h : ∀ k, k < qs.length → (MP.pt qs k).lo ≤ (MP.pt qs k).hi) : ∀ n, n ≤ qs.length → (((MP.rowsN (losQ qs) (hisQ qs) n).length : Nat) : Int) = widQ (qs.take n)
  | 0, _ => rfl
  | n + 1, hn => by
    have ih := rowsN_wid h n (by omega)
    have e := take_snoc (l := qs) (i := n) (pt_at (by omega))
    rw [e, widQ_snoc, ← ih]
    show ((MP.rowStep _ _ _).length : Int) = _
    rw [MP.rowStep_len, sz_los (by omega), sz_his (by omega), Int.natCast_mul]
    have := h n (by omega)
    congr 1
    omega
theorem wid_pos {qs : List Part} (h : ∀ k, k < qs.length → (MP.pt qs k).lo ≤ (MP.pt qs k).hi) : ∀ n, n ≤ qs.length → 1 ≤ widQ (qs.take n)
  | 0, _ => by show (1 : Int) ≤ 1; omega
  | n + 1, hn => by
    have ih := wid_pos h n (by omega)
    rw [take_snoc (l := qs) (i := n) (pt_at (by omega)), widQ_snoc]
    have := h n (by omega)
    exact Int.mul_pos (by omega) (by omega)
theorem wid_mono {qs : List Part} (h : ∀ k, k < qs.length → (MP.pt qs k).lo ≤ (MP.pt qs k).hi) : ∀ d n, n + d = qs.length → widQ (qs.take n) ≤ widQ qs
  | 0, n, e => by rw [List.take_of_length_le (by omega)]; exact Int.le_refl _
  | d + 1, n, e => by
    have ih := wid_mono h d (n + 1) (by omega)
    rw [take_snoc (l := qs) (i := n) (pt_at (by omega)), widQ_snoc] at ih
    have h1 := wid_pos h n (by omega)
    have h2 := h n (by omega)
    have : widQ (qs.take n) * 1 ≤ widQ (qs.take n) * ((MP.pt qs n).hi - (MP.pt qs n).lo + 1) := Int.mul_le_mul_of_nonneg_left (by omega) (by omega)
    omega
theorem rows_few {qs : List Part} {m : Nat} (h : ∀ k, k < qs.length → (MP.pt qs k).lo ≤ (MP.pt qs k).hi) (hw : widQ qs ≤ m) (n : Nat) (hn : n ≤ qs.length) : (MP.rowsN (losQ qs) (hisQ qs) n).length ≤ m := by
  have h1 := rowsN_wid h n hn
  have h2 := wid_mono h (qs.length - n) n (by omega)
  omega
/-! ### what the law makes of the drawn parts -/
def zzP (r : Str) : Part := ⟨"zz", r, 1, 0, 1, true⟩
/-- a plan of two parts or more, with few sizes -/
structure Plan2 (pg : Int) (qs : List Part) : Prop where
  ok : PlanOk pg qs
  two : 2 ≤ qs.length
  sm : ∀ q ∈ qs, 0 ≤ q.lo ∧ q.lo ≤ q.hi ∧ q.hi ≤ 2000
  wid : widQ qs ≤ 120
theorem Plan2.le {pg : Int} {qs : List Part} (h : Plan2 pg qs) (k : Nat) (hk : k < qs.length) : (MP.pt qs k).lo ≤ (MP.pt qs k).hi := (h.sm _ (List.mem_of_getElem? (pt_at hk))).2.1
theorem Plan2.small {pg : Int} {qs : List Part} (h : Plan2 pg qs) : SmallQ qs := fun k hk => by
  have := (h.sm _ (List.mem_of_getElem? (pt_at hk))).2.2
  omega
theorem Plan2.few {pg : Int} {qs : List Part} (h : Plan2 pg qs) (n : Nat) (hn : n ≤ qs.length) : (MP.rowsN (losQ qs) (hisQ qs) n).length ≤ 120 := rows_few h.le h.wid n hn
theorem zz_ok : WordOk "zz" := ⟨by decide, by decide, by decide +kernel⟩
theorem plan2_of {pg : Int} {qs : List Part} (ok : PlanOk pg qs) (dr : Drawn pg qs) (hw : widQ qs ≤ 60) (h2 : 2 ≤ qs.length) : Plan2 pg qs := by
  refine ⟨ok, h2, fun q hq => ?_, by omega⟩
  have h1 := dr.q q hq
  have h2 := (dr.lo q hq).1
  exact ⟨h1.1.lo, h1.1.hi, by omega⟩
theorem plan2_zz {pg : Int} {qs : List Part} {r : Str} (ok : PlanOk pg qs) (dr : Drawn pg qs) (hw : widQ qs ≤ 60) (h1 : qs.length = 1) (hr : inV (.str r) [.str "r", .str "rw", .str "rx"] = true) : Plan2 pg (qs ++ [zzP r]) := by
  have hpg := pg_pos ok
  refine ⟨⟨ok.pgs, by rw [List.length_append]; omega, by rw [List.length_append, h1]; show 1 + 1 ≤ 100; decide, fun q hq => ?_, ?_, fun i p q ep eq => ?_⟩, by rw [List.length_append, h1]; show 2 ≤ 1 + 1; decide, fun q hq => ?_, ?_⟩
  · rcases List.mem_append.mp hq with hq | hq
    · exact ok.q q hq
    · cases List.mem_singleton.mp hq
      exact ⟨zz_ok, hr, rfl, by show (1 : Int) ≤ pg; omega, by show (0 : Int) ≤ 0; omega, by show (0 : Int) ≤ 1; omega⟩
  · rw [List.map_append, List.nodup_append]
    refine ⟨ok.nd, by simp, fun a ha b hb e => ?_⟩
    obtain ⟨q, hq, rfl⟩ := List.mem_map.mp ha
    have hb' : b = ("zz" : Str) := by simpa [zzP] using hb
    have := (dr.lo q hq).2
    rw [e, hb'] at this
    exact absurd this (by decide +kernel)
  · intro z
    have hi := (List.getElem?_eq_some_iff.mp eq).1
    rw [List.length_append, h1] at hi
    have hi' : i + 1 < 2 := hi
    have e0 : i + 1 = 1 := by omega
    rw [e0, List.getElem?_append_right (by omega), h1] at eq
    cases eq
    exact absurd z.2.1 (by intro q; cases q)
  · rcases List.mem_append.mp hq with hq | hq
    · have h1 := dr.q q hq
      have h2 := (dr.lo q hq).1
      exact ⟨h1.1.lo, h1.1.hi, by omega⟩
    · cases List.mem_singleton.mp hq
      exact ⟨by show (0 : Int) ≤ 0; omega, by show (0 : Int) ≤ 1; omega, by show (1 : Int) ≤ 2000; omega⟩
  · rw [widQ_snoc]
    show widQ qs * (1 - 0 + 1) ≤ 120
    omega
/-! ### the law's dict -/
abbrev knownK (rows : List (List Int)) (rch : List Int → Int) : List (List L2.Key × V) := rows.map fun r => (r.map Sum.inl, V.int (rch r))
theorem keysR {r : List Int} : (r.map (Sum.inl : Int → L2.Key)).map kV = r.map V.int := by
  rw [List.map_map]
  rfl
theorem inl_inj {r r' : List Int} (h : r.map (Sum.inl : Int → L2.Key) = r'.map Sum.inl) : r = r' := (List.map_inj_right (f := (Sum.inl : Int → L2.Key)) (fun _ _ z => Sum.inl.inj z)).mp h
theorem known_val {rows : List (List Int)} {rch : List Int → Int} (hn : rows.Nodup) {r : List Int} (h : r ∈ rows) : valV (knownK rows rch) (r.map Sum.inl) = some (.int (rch r)) := by
  refine mem_val ?_ (List.mem_map.mpr ⟨r, h, rfl⟩)
  rw [List.map_map]
  exact List.pairwise_map.mpr (hn.imp fun z e => z (inl_inj e))
theorem allR_nodup (qs : List Part) : (allR qs).Nodup := List.Pairwise.imp (S := fun a b => a ≠ b) (fun {a b} (z : MP.lLt a b) (e : a = b) => MP.lLt.irrefl (xs := b) (by rw [e] at z; exact z)) (MP.rowsN_order _)
theorem los_mem {qs : List Part} (h : ∀ k, k < qs.length → (MP.pt qs k).lo ≤ (MP.pt qs k).hi) : losQ qs ∈ allR qs := mem_allR.mpr ⟨List.length_map _, fun k hk => by rw [sz_los hk]; exact Int.le_refl _, fun k hk => by rw [sz_los hk]; exact h k hk⟩
theorem hu_in2 {k : Nat} {A : Around} (hr : Room k A) : A.in1.in1.units < cLine := by
  have := hr.un
  show A.units + 1 + 1 < cLine
  omega
/-! ### lists of rows while the pool changes -/
theorem RowsAt.sb {H H' : Hp} {p l : Addr} {rows : List (List Int)} {u : List V} (e : SameBut p H H') (hp : H p = some (.lst u)) (lp : l ≠ p) (h : RowsAt H l rows) : RowsAt H' l rows := by
  obtain ⟨as, h1, h2⟩ := h
  exact ⟨as, e _ _ lp h1, paired_mono (fun a r z => e _ _ (ne_of z hp (by intro z; cases z)) z) h2⟩
/-- what the law knows in a turn -/
structure BJ (C : Addr) (H : Hp) (p x r ho du : Addr) (pg : Int) (qs : List Part) (hl dl : List (List Int)) (k : Nat) (H' : Hp) : Prop where
  sm : Same H H'
  np : H p = none
  pool : Pool H' p k
  plan : PlanAt C H' x pg qs
  rows : RowsAt H' r (allR qs)
  hold : RowsAt H' ho hl
  due : RowsAt H' du dl
  rp : r ≠ p
  hp : ho ≠ p
  dp : du ≠ p
section
variable {C : Addr} {H H1 H2 : Hp} {p x r ho du : Addr} {pg : Int} {qs : List Part} {hl dl : List (List Int)} {k k' : Nat}
theorem BJ.same (j : BJ C H p x r ho du pg qs hl dl k H1) (e : Same H1 H2) : BJ C H p x r ho du pg qs hl dl k H2 :=
  ⟨j.sm.trans e, j.np, j.pool.keeps e.keeps, j.plan.same e, j.rows.same e, j.hold.same e, j.due.same e, j.rp, j.hp, j.dp⟩
theorem BJ.sb (j : BJ C H p x r ho du pg qs hl dl k H1) (e : SameBut p H1 H2) (h : Pool H2 p k') : BJ C H p x r ho du pg qs hl dl k' H2 := by
  obtain ⟨u, hu⟩ := j.pool.at_
  exact ⟨fun b o hb => e _ _ (ne_of_none hb j.np) (j.sm _ _ hb), j.np, h, j.plan.sb e hu, j.rows.sb e hu j.rp, j.hold.sb e hu j.hp, j.due.sb e hu j.dp, j.rp, j.hp, j.dp⟩
end
theorem fits_rows {rows : List (List Int)} (h : rows.length ≤ 1000) (hr : ∀ r ∈ rows, r.length ≤ 1000) : Fits 2 (.list (rows.map encR)) := by
  refine ⟨by rw [List.length_map]; exact h, fun d hd => ?_⟩
  obtain ⟨r, hm, rfl⟩ := List.mem_map.mp hd
  refine ⟨by rw [List.length_map]; exact hr r hm, fun e he => ?_⟩
  obtain ⟨i, _, rfl⟩ := List.mem_map.mp he
  trivial
theorem paired_mapR {α β γ : Type} {R : α → γ → Prop} {f : β → γ} : ∀ {xs : List α} {ys : List β}, Paired (fun a b => R a (f b)) xs ys → Paired R xs (ys.map f)
  | _, _, .nil => .nil
  | _, _, .cons h t => .cons h (paired_mapR t)
theorem paired_zip {α β : Type} {R : α → β → Prop} : ∀ {xs : List α} {ys : List β}, Paired R xs ys → ∀ p ∈ xs.zip ys, R p.1 p.2
  | _, _, .nil, p, hp => nomatch hp
  | _, _, .cons h t, p, hp => by
    rcases List.mem_cons.mp hp with rfl | hp
    · exact h
    · exact paired_zip t p hp
theorem paired_memR {α β : Type} {R S : α → β → Prop} : ∀ {xs : List α} {ys : List β}, Paired R xs ys → (∀ x y, y ∈ ys → R x y → S x y) → Paired S xs ys
  | _, _, .nil, _ => .nil
  | _, _, .cons h t, f => .cons (f _ _ (List.mem_cons_self ..) h) (paired_memR t fun x y hy => f x y (List.mem_cons_of_mem _ hy))
abbrev objK (rch : List Int → Int) (ar : Addr × List Int) : HO := .tup [.ref ar.1, .int (rch ar.2)]
/-- dict of the pairs of all rows and their reaches -/
theorem known_dict {K : PySem.W.Frag} {H : Hp} {D : Addr} {ps as : List Addr} {rows : List (List Int)} {rch : List Int → Int} {Q : VK} (hD : H D = some (.lst (ps.map V.ref))) (hp : Paired (fun p ar => H p = some (objK rch ar)) ps (as.zip rows)) (hr : Paired (fun a r => H a = some (objT r)) as rows) (hn : rows.Nodup)
    (q : ∀ d, H d = none → Q (.ref d) (upd H d (.dT (knownK rows rch)))) : rDictT K [.ref D] H Q := by
  have el := paired_len hr
  have ez : (as.zip rows).map Prod.snd = rows := List.map_snd_zip (by omega)
  have hz := paired_zip hr
  refine ⟨D, ps, (as.zip rows).map fun ar => (ar.2.map Sum.inl, ar.1, V.int (rch ar.2)), rfl, sqL_of hD, ?_, ?_, fun d nd => ?_⟩
  · refine paired_mapR (paired_memR hp fun x ar har h => ⟨sqT_of h, ?_⟩)
    show H ar.1 = some (.tup ((ar.2.map Sum.inl).map kV))
    rw [keysR]
    exact hz ar har
  · rw [List.map_map]
    have e : (as.zip rows).map ((fun x : KAV => x.1) ∘ fun ar => (ar.2.map Sum.inl, ar.1, V.int (rch ar.2))) = rows.map fun r => r.map Sum.inl := by
      refine Eq.trans ?_ (congrArg (List.map fun r : List Int => r.map (Sum.inl : Int → L2.Key)) ez)
      rw [List.map_map]
      rfl
    rw [e]
    exact List.pairwise_map.mpr (hn.imp fun z e => z (inl_inj e))
  · rw [List.map_map]
    have e : (as.zip rows).map ((fun k : KAV => (k.1, k.2.2)) ∘ fun ar => (ar.2.map Sum.inl, ar.1, V.int (rch ar.2))) = knownK rows rch := by
      refine Eq.trans ?_ (congrArg (List.map fun r : List Int => (r.map (Sum.inl : Int → L2.Key), V.int (rch r))) ez)
      rw [List.map_map]
      rfl
    rw [e]
    exact q d nd
end Lk
namespace Lk
open PySem PySem.Spec PyProof.Rows L2 RZ StX
def sp_law (K : PySem.W.Frag) : Sp := fun vs H Q _ => ∃ (a : Addr) (ns : List Int), vs = [.ref a] ∧ SqL K H a (ns.map V.int) ∧ ns.length ≤ 63 ∧ ∀ H', Q (.bl true) H'
section
variable {P : Program} {w : World} {K : PySem.W.Frag} {mg : Str → Option Value} {base : Heap} {ad ai : Nat → Addr} {fd : Nat → FuncData}
theorem ok_law (T : Txt K mg ad ai fd) : FnOk P w K mg base CX0 6 (ad 52) (fd 52) ["_law_script"] (sp_law K) := by
  have G_law_source : FnOk P w K mg base CX0 1 (ad 38) (fd 38) ["_law_script", "_law_turn"] (sp_source K) := ok_source T
  have G_law_few : FnOk P w K mg base CX0 4 (ad 49) (fd 49) ["_law_source_here", "_law_most"] (sp_few) := ok_few T
  have G_law_pick : FnOk P w K mg base CX0 2 (ad 40) (fd 40) ["_law_source_here", "_law_things"] (sp_pick K) := ok_pick T
  have G_law_draw : FnOk P w K mg base CX0 1 (ad 39) (fd 39) ["_law_source_here", "_law_many"] (sp_draw) := ok_draw T
  have G_Plan___init__ : FnOk P w K mg base CX0 4 (ai 1380) (fd 1380) ["self", "page", "parts"] (sp_plan (ad 19)) := ok_plan T
  have G_law_all_sizes : FnOk P w K mg base CX0 2 (ad 48) (fd 48) ["_law_parts_here"] (sp_lall) := ok_lall T
  have G_law_reach : FnOk P w K mg base CX0 3 (ad 51) (fd 51) ["_law_page", "_law_parts_here", "_law_first", "_law_second", "_law_sizes"] (sp_lreach) := ok_lreach T
  have G_law_is_below : FnOk P w K mg base CX0 1 (ad 50) (fd 50) ["_law_one", "_law_other"] (sp_within K) := ok_below T
  have G_greatest_bounds : FnOk P w K mg base CX0 5 (ad 36) (fd 36) ["plan", "one", "other", "far"] (sp_gbounds K (ad 19)) := ok_gbounds T
  have G_bounds_hold : FnOk P w K mg base CX0 5 (ad 32) (fd 32) ["plan", "bounds", "one", "other", "far"] (sp_hold K (ad 19)) := ok_hold T
  have G_law_loose : FnOk P w K mg base CX0 2 (ad 42) (fd 42) ["_law_source_here", "_law_thing"] (sp_loose K) := ok_loose T
  have G_law_same : FnOk P w K mg base CX0 3 (ad 43) (fd 43) ["_law_found", "_law_due"] (sp_same K 2) := ok_same T 2
  refine T.F_law.ok sc_law (fun vs H Q E h => ?_) (fun cdv A outer s H vs Q E hr h => ?_)
  · obtain ⟨a, ns, rfl, _⟩ := h
    rfl
  · obtain ⟨a, zs, rfl, hs, hl, q⟩ := h
    refine ⟨_, (pss_cons (ps_for PassesOwn.never rfl (pi_range1 (by rfl) T.n_range (pa_cons (pe_op op_add pe_int (pe_callB (call_min2 rfl) (by rfl) T.n_min (by decide +kernel) (pa_cons (pe_callB (call_len (K := K)) (by rfl) T.n_len (by decide +kernel) (pa_cons (pv 0) pa_nil)) (pa_cons pe_int pa_nil)))) pa_nil)) (pg_name (i := 1) sc_law.nd rfl (.inl rfl))
          (pss_cons (ps_set (i := 2) sc_law.nd rfl (.inl rfl) (pe_call G_law_source (hr.mono (by decide)) (by rfl) T.g_law_source T.F_law_source.kp T.b_law_source .nil pass0 (pa_cons (pv 0) (pa_cons (pv 1) pa_nil))))
          (pss_cons (ps_asg (pe_call G_law_few (hr.mono (by decide)) (by rfl) T.g_law_few T.F_law_few.kp T.b_law_few .nil pass0 (pa_cons (pv 2) (pa_cons pe_int pa_nil))) (pg_tp (K := K) (n := 2) rfl (pgs_cons (pg_name (i := 3) sc_law.nd rfl (.inr rfl)) (pgs_cons (pg_name (i := 4) sc_law.nd rfl (.inr rfl)) pgs_nil))))
          (pss_cons (ps_set (i := 5) sc_law.nd rfl (.inl rfl) (pe_op op_rep (pe_lst (pa_cons (pe_tup (pa_cons pe_str (pa_cons (pe_call G_law_pick (hr.mono (by decide)) (by rfl) T.g_law_pick T.F_law_pick.kp T.b_law_pick .nil pass0 (pa_cons (pv 2) (pa_cons (pe_lst (pa_cons pe_str (pa_cons pe_str pa_nil))) pa_nil))) (pa_cons pe_int (pa_cons pe_int (pa_cons pe_int (pa_cons pe_bl pa_nil))))))) pa_nil)) (pe_callTy call_int1 (by rfl) T.n_int (by decide +kernel) (pa_cons (pe_cmpR op_lt (pe_callB (call_len (K := K)) (by rfl) T.n_len (by decide +kernel) (pa_cons (pv 4) pa_nil)) pe_int (nomark _)) pa_nil))))
          (pss_cons (ps_set (i := 4) sc_law.nd rfl (.inr rfl) (pe_op op_cat (pv 4) (pv 5)))
          (pss_cons (ps_set (i := 6) sc_law.nd rfl (.inr rfl) (pe_op op_add pe_int (pe_call G_law_draw (hr.mono (by decide)) (by rfl) T.g_law_draw T.F_law_draw.kp T.b_law_draw .nil pass0 (pa_cons (pv 2) (pa_cons (pe_op op_sub (pe_callB (call_len (K := K)) (by rfl) T.n_len (by decide +kernel) (pa_cons (pv 4) pa_nil)) pe_int) pa_nil)))))
          (pss_cons (ps_set (i := 7) sc_law.nd rfl (.inr rfl) (pe_call G_law_draw (hr.mono (by decide)) (by rfl) T.g_law_draw T.F_law_draw.kp T.b_law_draw .nil pass0 (pa_cons (pv 2) (pa_cons (pv 6) pa_nil))))
          (pss_cons (ps_par (i := 8) (j := 9) (by rfl) sc_law.nd rfl rfl (by decide) rfl rfl (pa_cons (pe_make T.mk_Plan G_Plan___init__ (hr.mono (by decide)) (by rfl) T.g_Plan T.b_Plan___init__ .nil pass0 (pa_cons (pv 3) (pa_cons (pv 4) pa_nil))) (pa_cons (pe_call G_law_all_sizes (hr.mono (by decide)) (by rfl) T.g_law_all_sizes T.F_law_all_sizes.kp T.b_law_all_sizes .nil pass0 (pa_cons (pv 4) pa_nil)) pa_nil)) (by rfl))
          (pss_cons (ps_par (i := 10) (j := 11) (by rfl) sc_law.nd rfl rfl (by decide) rfl rfl (pa_cons (pe_ix (ix_seq (K := K)) (pe_ix (ix_seq (K := K)) (pv 4) (pv 7) (fun _ _ => rfl)) pe_int (fun _ _ => rfl)) (pa_cons (pe_ix (ix_seq (K := K)) (pe_ix (ix_seq (K := K)) (pv 4) (pv 6) (fun _ _ => rfl)) pe_int (fun _ _ => rfl)) pa_nil)) (by rfl))
          (pss_cons (ps_set (i := 12) sc_law.nd rfl (.inr rfl) (pe_callTy (cr_dictT (K := K) rfl (hu_in2 hr)) (by rfl) T.n_dict (by decide +kernel) (pa_cons (pe_lc (own := [("_law_sizes", 13)]) rfl sc_law.nd (pi_seq (K := K) (pv 9)) (blkOk_by (N := ["_law_script", "_law_turn", "_law_source_here", "_law_page", "_law_parts_here", "_law_more", "_law_second", "_law_first", "_law_plan", "_law_rows_here", "_law_one", "_law_other", "_law_known", "_law_sizes", "_law_some", "_law_far", "_law_holding", "_law_bounds", "_law_due", "_law_wide", "_law_k", "_law_told"]) (sc := defScope s_law) (by decide +kernel)) (fun _ _ _ _ _ => (pg_name (i := 13) sc_law.nd rfl (.inl rfl))) (fun _ _ _ _ _ => pts_nil) (fun _ _ _ _ _ => (pe_tup (pa_cons (pv 13) (pa_cons (pe_call G_law_reach (hr.mono (by decide)) (by rfl) T.g_law_reach T.F_law_reach.kp T.b_law_reach .nil pass0 (pa_cons (pv 3) (pa_cons (pv 4) (pa_cons (pv 7) (pa_cons (pv 6) (pa_cons (pv 13) pa_nil)))))) pa_nil))))) pa_nil)))
          (pss_cons (ps_set (i := 14) sc_law.nd rfl (.inl rfl) (pe_listValsT rfl (pv 12) (by rfl) T.n_list (by decide +kernel)))
          (pss_cons (ps_set (i := 15) sc_law.nd rfl (.inr rfl) (pe_call G_law_pick (hr.mono (by decide)) (by rfl) T.g_law_pick T.F_law_pick.kp T.b_law_pick .nil pass0 (pa_cons (pv 2) (pa_cons (pe_lst (pa_cons (pe_call G_law_pick (hr.mono (by decide)) (by rfl) T.g_law_pick T.F_law_pick.kp T.b_law_pick .nil pass0 (pa_cons (pv 2) (pa_cons (pv 14) pa_nil))) (pa_cons (pe_op op_sub (pe_call G_law_pick (hr.mono (by decide)) (by rfl) T.g_law_pick T.F_law_pick.kp T.b_law_pick .nil pass0 (pa_cons (pv 2) (pa_cons (pv 14) pa_nil))) pe_int) (pa_cons (pe_callB (cr_min rfl) (by rfl) T.n_min (by decide +kernel) (pa_cons (pv 14) pa_nil)) pa_nil)))) pa_nil))))
          (pss_cons (ps_set (i := 16) sc_law.nd rfl (.inl rfl) (pe_lst pa_nil))
          (pss_cons (ps_for PassesOwn.never rfl (pi_seq (K := K) (pv 9)) (pg_name (i := 17) sc_law.nd rfl (.inr rfl))
              (pss_one (ps_if (pt_val (pe_callB (call_all (K := K) rfl) (by rfl) T.n_all (by decide +kernel) (pa_cons (pe_lc (own := [("_law_sizes", 13)]) rfl sc_law.nd (pi_seq (K := K) (pv 9)) (blkOk_by (N := ["_law_script", "_law_turn", "_law_source_here", "_law_page", "_law_parts_here", "_law_more", "_law_second", "_law_first", "_law_plan", "_law_rows_here", "_law_one", "_law_other", "_law_known", "_law_sizes", "_law_some", "_law_far", "_law_holding", "_law_bounds", "_law_due", "_law_wide", "_law_k", "_law_told"]) (sc := defScope s_law) (by decide +kernel)) (fun _ _ _ _ _ => (pg_name (i := 13) sc_law.nd rfl (.inl rfl))) (fun _ _ _ _ _ => (pts_one (pt_val (pe_call G_law_is_below (hr.mono (by decide)) (by rfl) T.g_law_is_below T.F_law_is_below.kp T.b_law_is_below .nil pass0 (pa_cons (pv 13) (pa_cons (pv 17) pa_nil)))))) (fun _ _ _ _ _ => (pe_cmpR op_le (pe_dget (hu_of hr) (pv 12) (pv 13) (fun _ _ => rfl)) (pv 15) (nomark _)))) pa_nil))) (pss_one (ps_expr (pe_bmK (K := K) PySem.F.plainAttrs_list PySem.F.slot_list_append PySem.F.type_list_append mt_append (pv 16) (pa_cons (pv 17) pa_nil)))) pss_nil)))
          (pss_cons (ps_set (i := 18) sc_law.nd rfl (.inl rfl) (pe_lst pa_nil))
          (pss_cons (ps_for PassesOwn.never rfl (pi_seq (K := K) (pv 16)) (pg_name (i := 17) sc_law.nd rfl (.inr rfl))
              (pss_one (ps_if (pt_not (pt_val (pe_callB (call_any (K := K) rfl) (by rfl) T.n_any (by decide +kernel) (pa_cons (pe_lc (own := [("_law_wide", 19)]) rfl sc_law.nd (pi_seq (K := K) (pv 16)) (blkOk_by (N := ["_law_script", "_law_turn", "_law_source_here", "_law_page", "_law_parts_here", "_law_more", "_law_second", "_law_first", "_law_plan", "_law_rows_here", "_law_one", "_law_other", "_law_known", "_law_sizes", "_law_some", "_law_far", "_law_holding", "_law_bounds", "_law_due", "_law_wide", "_law_k", "_law_told"]) (sc := defScope s_law) (by decide +kernel)) (fun _ _ _ _ _ => (pg_name (i := 19) sc_law.nd rfl (.inl rfl))) (fun _ _ _ _ _ => pts_nil) (fun _ _ _ _ _ => (pe_and (pe_cmpR (op_neT (α := PySem.W.Tup Int) (K := K) (hu_dp1 hr (by show 1 ≤ 50; decide))) (pv 19) (pv 17) (nomark _)) (pe_one (pe_call G_law_is_below (hr.mono (by decide)) (by rfl) T.g_law_is_below T.F_law_is_below.kp T.b_law_is_below .nil pass0 (pa_cons (pv 17) (pa_cons (pv 19) pa_nil))))))) pa_nil)))) (pss_one (ps_expr (pe_bmK (K := K) PySem.F.plainAttrs_list PySem.F.slot_list_append PySem.F.type_list_append mt_append (pv 18) (pa_cons (pv 17) pa_nil)))) pss_nil)))
          (pss_cons (ps_expr (pe_bmK (K := K) PySem.F.plainAttrs_list PySem.F.slot_list_append PySem.F.type_list_append mt_append (pe_call G_greatest_bounds (hr.mono (by decide)) (by rfl) T.g_greatest_bounds T.F_greatest_bounds.kp T.b_greatest_bounds .nil pass0 (pa_cons (pv 8) (pa_cons (pv 10) (pa_cons (pv 11) (pa_cons (pv 15) pa_nil))))) (pa_cons pe_str pa_nil)))
          (pss_cons (ps_if (pt_not (pt_val (pe_call G_law_same (hr.mono (by decide)) (by rfl) T.g_law_same T.F_law_same.kp T.b_law_same .nil pass0 (pa_cons (pe_call G_greatest_bounds (hr.mono (by decide)) (by rfl) T.g_greatest_bounds T.F_greatest_bounds.kp T.b_greatest_bounds .nil pass0 (pa_cons (pv 8) (pa_cons (pv 10) (pa_cons (pv 11) (pa_cons (pv 15) pa_nil))))) (pa_cons (pe_callB (cr_sortedD (K := K) (enc := encR) (hu60 hr)) (by rfl) T.n_sorted (by decide +kernel) (pa_cons (pv 18) pa_nil)) pa_nil))))) (pss_one (ps_ret pe_bl)) pss_nil)
          (pss_one (ps_for PassesOwn.never rfl (pi_range1 (by rfl) T.n_range (pa_cons pe_int pa_nil)) (pg_name (i := 20) sc_law.nd rfl (.inl rfl))
            (pss_cons (ps_set (i := 17) sc_law.nd rfl (.inr rfl) (pe_call G_law_pick (hr.mono (by decide)) (by rfl) T.g_law_pick T.F_law_pick.kp T.b_law_pick .nil pass0 (pa_cons (pv 2) (pa_cons (pv 9) pa_nil))))
            (pss_cons (ps_set (i := 21) sc_law.nd rfl (.inl rfl) (pe_call G_bounds_hold (hr.mono (by decide)) (by rfl) T.g_bounds_hold T.F_bounds_hold.kp T.b_bounds_hold .nil pass0 (pa_cons (pv 8) (pa_cons (pe_call G_law_loose (hr.mono (by decide)) (by rfl) T.g_law_loose T.F_law_loose.kp T.b_law_loose .nil pass0 (pa_cons (pv 2) (pa_cons (pe_callTy (call_list (K := K)) (by rfl) T.n_list (by decide +kernel) (pa_cons (pv 17) pa_nil)) pa_nil))) (pa_cons (pv 10) (pa_cons (pv 11) (pa_cons (pv 15) pa_nil)))))))
            (pss_cons (ps_if (pt_not (pt_val (pe_call G_law_same (hr.mono (by decide)) (by rfl) T.g_law_same T.F_law_same.kp T.b_law_same .nil pass0 (pa_cons (pv 21) (pa_cons (pe_cmpR (op_inT (α := PySem.W.Tup Int) (K := K) (hu_dp hr (by show 1 ≤ 50; decide))) (pv 17) (pv 16) rfl) pa_nil))))) (pss_one (ps_ret pe_bl)) pss_nil)
            (pss_one (ps_if (pt_cmpR op_ne (pv 21) (pe_callB (call_any (K := K) rfl) (by rfl) T.n_any (by decide +kernel) (pa_cons (pe_lc (own := [("_law_wide", 19)]) rfl sc_law.nd (pi_seq (K := K) (pv 18)) (blkOk_by (N := ["_law_script", "_law_turn", "_law_source_here", "_law_page", "_law_parts_here", "_law_more", "_law_second", "_law_first", "_law_plan", "_law_rows_here", "_law_one", "_law_other", "_law_known", "_law_sizes", "_law_some", "_law_far", "_law_holding", "_law_bounds", "_law_due", "_law_wide", "_law_k", "_law_told"]) (sc := defScope s_law) (by decide +kernel)) (fun _ _ _ _ _ => (pg_name (i := 19) sc_law.nd rfl (.inl rfl))) (fun _ _ _ _ _ => pts_nil) (fun _ _ _ _ _ => (pe_call G_law_is_below (hr.mono (by decide)) (by rfl) T.g_law_is_below T.F_law_is_below.kp T.b_law_is_below .nil pass0 (pa_cons (pv 17) (pa_cons (pv 19) pa_nil))))) pa_nil)) (nomark _)) (pss_one (ps_ret pe_bl)) pss_nil)))))))))))))))))))))))))
      (pss_one (ps_ret pe_bl))), ?_⟩
    refine ⟨_, rfl, _, _, rfl, .inl hs, _, _, rfl, _, _, rfl, rfl, ?_⟩
    obtain ⟨N, hN, hN2⟩ : ∃ N : Nat, (1 : Int) + (if (2 : Int) < ((zs.map V.int).length : Int) then 2 else ((zs.map V.int).length : Int)) = (N : Nat) ∧ N ≤ 4 := by
      refine ⟨((1 : Int) + (if (2 : Int) < ((zs.map V.int).length : Int) then 2 else ((zs.map V.int).length : Int))).toNat, ?_, ?_⟩
      · split <;> omega
      · split <;> omega
    refine ⟨(N : Int), (by rw [← hN]), by omega, by omega, ?_⟩
    refine for_range (lo := 0) (n := N) (fun i σ H' => (∃ y1 y2 y3 y4 y5 y6 y7 y8 y9 y10 y11 y12 y13 y14 y15 y16 y17 y18 y19 y20 y21, σ = [some (.ref a), y1, y2, y3, y4, y5, y6, y7, y8, y9, y10, y11, y12, y13, y14, y15, y16, y17, y18, y19, y20, y21]) ∧ Same H H') ⟨⟨_, _, _, _, _, _, _, _, _, _, _, _, _, _, _, _, _, _, _, _, _, rfl⟩, Same.refl _⟩ ?_ ?_
    · rintro i σ H1 hi ⟨⟨y1, y2, y3, y4, y5, y6, y7, y8, y9, y10, y11, y12, y13, y14, y15, y16, y17, y18, y19, y20, y21, rfl⟩, s1⟩
      refine ⟨_, rfl, _, rfl, ?_⟩
      refine ⟨a, zs, _, rfl, s1.seq hs, by omega, by omega, fun H2 p s2 np hp2 => ?_⟩
      refine ⟨_, rfl, ?_⟩
      refine ⟨p, 60, 0, rfl, hp2, by omega, by omega, by omega, fun H3 t l pg qs0 sb3 hp3 nt ht nl hpl ok dr wid => ?_⟩
      refine ⟨t, _, rfl, sqT_of ht, rfl, _, _, rfl, _, _, rfl, rfl, ?_⟩
      obtain ⟨u2, hu2⟩ := hp2.at_
      have lp : l ≠ p := fun z => by rw [z, hu2] at nl; cases nl
      have npH : H p = none := s1.free np
      have s03 : Same H H3 := fun b o hb => sb3 _ _ (ne_of_none hb npH) ((s1.trans s2) _ _ hb)
      -- more
      refine ⟨_, rfl, by show 2 ≤ sizeLine; decide, fun a4 na4 => ?_⟩
      show sp_pick K [V.ref p, V.ref a4] (upd H3 a4 (.lst [.str "rx", .str "rw"])) _ E0
      refine pick_lit hp3 (by omega) na4 (by show 1 ≤ 2; decide) (by show 2 ≤ 1000; decide) fun rv H4 hrv hp4 sb4 => ?_
      obtain ⟨rz, rfl, hrz⟩ : ∃ rz : Str, rv = .str rz ∧ inV (.str rz) [.str "r", .str "rw", .str "rx"] = true := by
        simp only [List.mem_cons, List.not_mem_nil, or_false] at hrv
        rcases hrv with rfl | rfl <;> exact ⟨_, rfl, by decide +kernel⟩
      obtain ⟨u3, hu3⟩ := hp3.at_
      have hpl4 := hpl.sb sb4 hu3 lp
      have s04 : Same H H4 := fun b o hb => sb4 _ _ (ne_of_none hb npH) (s03 _ _ hb)
      refine ⟨by show 6 ≤ sizeLine; decide, fun t5 nt5 => ?_⟩
      refine ⟨by show 1 ≤ sizeLine; decide, fun l5 nl5 => ?_⟩
      have s45 : Same H4 (upd (upd H4 t5 (objQ (zzP rz))) l5 (.lst [.ref t5])) := (same_new nt5).new nl5
      have ht5 : (upd (upd H4 t5 (objQ (zzP rz))) l5 (.lst [.ref t5])) t5 = some (objQ (zzP rz)) := (same_new nl5) _ _ upd_same
      have hl5 : (upd (upd H4 t5 (objQ (zzP rz))) l5 (.lst [.ref t5])) l5 = some (.lst [.ref t5]) := upd_same
      change tCB _ _ _ (upd (upd H4 t5 (objQ (zzP rz))) l5 (.lst [.ref t5])) _
      generalize upd (upd H4 t5 (objQ (zzP rz))) l5 (.lst [.ref t5]) = H5 at s45 ht5 hl5 ⊢
      have hpl5 := hpl4.same s45
      obtain ⟨as5, hlp5, hpr5⟩ := hpl5
      have el5 := paired_len hpr5
      refine ⟨_, rfl, l, _, rfl, .inl (sqL_of hlp5), _, _, rfl, rfl, .inr ⟨_, rfl, ?_⟩⟩
      generalize hk : (if decide (((as5.map V.ref).length : Int) < 2) = true then (1 : Int) else 0) = kk
      have hk01 : kk = 0 ∨ kk = 1 := by
        rw [← hk]
        split <;> simp
      refine ⟨l5, kk, _, rfl, rfl, hl5, by omega, by omega, ?_, fun m6 nm6 => ?_⟩
      · show 1 * kk.toNat ≤ sizeLine
        rw [sizeLine_eq]
        omega
      have s56 : Same H5 (upd H5 m6 (.lst (List.replicate kk.toNat [V.ref t5]).flatten)) := same_new nm6
      have hm6 : (upd H5 m6 (.lst (List.replicate kk.toNat [V.ref t5]).flatten)) m6 = some (.lst (List.replicate kk.toNat [V.ref t5]).flatten) := upd_same
      generalize upd H5 m6 (.lst (List.replicate kk.toNat [V.ref t5]).flatten) = H6 at s56 hm6 ⊢
      -- the parts
      have lz : (List.replicate kk.toNat [V.ref t5]).flatten.length ≤ 1 := by
        rcases hk01 with rfl | rfl
        · exact Nat.zero_le _
        · exact Nat.le_refl _
      refine ⟨_, rfl, _, rfl, l, m6, _, _, rfl, rfl, s56 _ _ hlp5, hm6, by rw [List.length_map, el5, sizeLine_eq]; have := ok.few; omega, fun l7 nl7 => ?_⟩
      obtain ⟨qs, p2, as7, e7, hpr7⟩ : ∃ qs, Plan2 pg qs ∧ ∃ as7 : List Addr, as5.map V.ref ++ (List.replicate kk.toNat [V.ref t5]).flatten = as7.map V.ref ∧ Paired (IsQ H6) as7 qs := by
        have hw60 : widQ qs0 ≤ 60 := wid
        by_cases c : 2 ≤ qs0.length
        · have : kk = 0 := by
            rw [← hk, if_neg]
            rw [decide_eq_true_eq, List.length_map, el5]
            omega
          subst this
          exact ⟨qs0, plan2_of ok dr hw60 c, as5, by show as5.map V.ref ++ [] = _; rw [List.append_nil], paired_same s56 hpr5⟩
        · have : kk = 1 := by
            rw [← hk, if_pos]
            rw [decide_eq_true_eq, List.length_map, el5]
            omega
          subst this
          refine ⟨qs0 ++ [zzP rz], plan2_zz ok dr hw60 (by have := ok.one; omega) hrz, as5 ++ [t5], ?_, paired_snoc (R := IsQ H6) (s56 _ _ ht5) (paired_same s56 hpr5)⟩
          rw [List.map_append]
          rfl
      rw [e7]
      have s67 : Same H6 (upd H6 l7 (.lst (as7.map V.ref))) := same_new nl7
      have hl7 : (upd H6 l7 (.lst (as7.map V.ref))) l7 = some (.lst (as7.map V.ref)) := upd_same
      generalize upd H6 l7 (.lst (as7.map V.ref)) = H7 at s67 hl7 ⊢
      have s47 := (s45.trans s56).trans s67
      have hp7 := hp4.keeps s47.keeps
      have hpl7 : PartsL H7 l7 qs := ⟨as7, hl7, paired_same s67 hpr7⟩
      obtain ⟨u4, hu4⟩ := hp4.at_
      have nl7H4 : H4 l7 = none := (s45.trans s56).free nl7
      have l7p : l7 ≠ p := fun z => by rw [z, hu4] at nl7H4; cases nl7H4
      have s07 := s04.trans s47
      have el7 := paired_len hpr7
      have h100 := p2.ok.few
      have h2q := p2.two
      clear hpr5 hpr7 hlp5 hl5 ht5 hm6 hpl4 hpl
      -- second, first
      refine ⟨_, rfl, _, rfl, l7, _, rfl, .inl (sqL_of hl7), _, _, rfl, rfl, ?_⟩
      refine tNil_k (draw_of hp7 (by omega) (by rw [List.length_map]; omega) (by rw [List.length_map]; omega) fun r8 H8 r80 r81 hp8 sb8 => ?_)
      rw [List.length_map, el7] at r81
      refine ⟨_, _, rfl, rfl, ?_⟩
      obtain ⟨jj, hjj, j1, j2⟩ : ∃ jj : Nat, (1 : Int) + r8 = (jj : Nat) ∧ 1 ≤ jj ∧ jj < qs.length := ⟨(1 + r8).toNat, by omega, by omega, by omega⟩
      refine ⟨_, rfl, _, rfl, ?_⟩
      refine tNil_k (draw_of hp8 (by omega) (by omega) (by omega) fun r9 H9 r90 r91 hp9 sb9 => ?_)
      obtain ⟨ii, hii, i1⟩ : ∃ ii : Nat, r9 = (ii : Nat) ∧ ii < jj := ⟨r9.toNat, by omega, by omega⟩
      subst hii
      have ejj : (fun i j : Int => V.int (i + j)) 1 r8 = V.int (jj : Nat) := by
        show V.int (1 + r8) = _
        rw [hjj]
      rw [ejj]
      obtain ⟨u7, hu7⟩ := hp7.at_
      obtain ⟨u8, hu8⟩ := hp8.at_
      have hpl8 := hpl7.sb sb8 hu7 l7p
      have hpl9 := hpl8.sb sb9 hu8 l7p
      have s09 : Same H H9 := fun b o hb => sb9 _ _ (ne_of_none hb npH) (sb8 _ _ (ne_of_none hb npH) (s07 _ _ hb))
      -- the plan
      refine ⟨_, rfl, _, rfl, fun x dx nx ndx dxx => ?_⟩
      have s9x : Same H9 (upd (upd H9 dx (.own x)) x (.ins (ad 19) dx [])) := (same_new ndx).mut nx
      have hxx : (upd (upd H9 dx (.own x)) x (.ins (ad 19) dx [])) x = some (.ins (ad 19) dx []) := upd_same
      generalize upd (upd H9 dx (.own x)) x (.ins (ad 19) dx []) = Hx at s9x hxx ⊢
      obtain ⟨asx, hlx, hprx⟩ := hpl9.same s9x
      refine ⟨x, pg, l7, dx, asx, qs, rfl, hxx, hlx, hprx, p2.ok, fun H10 sb10 hplan10 => ⟨rfl, ?_⟩⟩
      have s910 : Same H9 H10 := fun b o hb => sb10 _ _ (ne_of_none hb nx) (s9x _ _ hb)
      have hpl10 := hpl9.same s910
      have s010 := s09.trans s910
      have hp10 := hp9.keeps s910.keeps
      clear hlx hprx hxx s9x
      -- all sizes
      refine ⟨_, rfl, l7, qs, rfl, hpl10, h100, (fun q hq => ?_), (fun n hn => Nat.le_trans (p2.few n hn) (by decide)), fun H11 rr s11 nrr hrr => ?_⟩
      · have := p2.sm q hq
        omega
      refine ⟨_, _, rfl, ?_⟩
      have hpl11 := hpl10.same s11
      have hp11 := hp10.keeps s11.keeps
      have hplan11 := hplan10.same s11
      have s011 := s010.trans s11
      obtain ⟨u10, hu10⟩ := hp10.at_
      have rrp : rr ≠ p := fun z => by rw [z, hu10] at nrr; cases nrr
      -- one, other
      obtain ⟨a11, xs11, e11, e12, e13⟩ := hpl11.get (i := ii) (by omega)
      obtain ⟨b11, ys11, f11, f12, f13⟩ := hpl11.get (i := jj) (by omega)
      refine ⟨_, rfl, _, rfl, ixS (j := ii) (sq_lst e11) e12 (ixS (j := 0) (sq_tup e13) rfl ?_)⟩
      refine ⟨_, rfl, _, rfl, ixS (j := jj) (sq_lst f11) f12 (ixS (j := 0) (sq_tup f13) rfl ?_)⟩
      refine ⟨_, _, rfl, ?_⟩
      -- known
      have pok : PartsOk pg qs := ⟨pg_pos p2.ok, fun i hi => al_pos (p2.ok.q _ (List.mem_of_getElem? (pt_at hi))), h100⟩
      obtain ⟨asr, hrl, hprr⟩ := id hrr
      have elr := paired_len hprr
      have fewR : (allR qs).length ≤ 120 := p2.few _ (Nat.le_refl _)
      have bok : ∀ r ∈ allR qs, BoundOk qs r := fun r hr => mem_allR.mp hr
      generalize hrch : (rchQ pg qs ii jj) = rch
      refine ⟨_, rfl, lc_seq (K := K) (sq_lst hrl) (fun D n H' => GrowO (objK rch) H11 D ((asr.zip (allR qs)).take n) H') (fun D hD => growO0 hD) (fun D n H' hD g => g.1.keeps) ?_ ?_⟩
      · rintro D n x' H12 hD ex g12
        obtain ⟨ar, ear, rfl⟩ := map_at ex
        obtain ⟨r, er, har⟩ := paired_get hprr ear
        have hbr := bok r (List.mem_of_getElem? er)
        have hn := (List.getElem?_eq_some_iff.mp er).1
        refine ⟨rfl, ?_⟩
        refine ⟨_, rfl, _, rfl, _, rfl, _, rfl, _, rfl, _, rfl, pg, l7, ar, qs, r, ii, jj, rfl, hpl11.same g12.1, pok, .inr (g12.1 _ _ har), hbr.len, by omega, by omega, fun H13 s13 => ?_⟩
        refine ⟨by show 2 ≤ sizeLine; decide, fun t nt => ?_⟩
        rw [take_snoc (zip_at ear er)]
        have e : V.int (MP.reach pg qs r ii jj) = V.int (rch r) := by rw [← hrch]
        rw [e]
        exact growO_step (obj := objK rch) (q := (ar, r)) g12 hD s13 (by rw [List.length_take]; omega) t nt
      rintro D H12 hD g12
      rw [List.length_map, elr, show (asr.zip (allR qs)).take (allR qs).length = asr.zip (allR qs) from List.take_of_length_le (by rw [List.length_zip]; omega)] at g12
      obtain ⟨s12, ps12, hD12, hpr12, _⟩ := g12
      refine tNil_k (known_dict hD12 hpr12 (paired_mono (fun a r z => s12 _ _ z) hprr) (allR_nodup qs) fun kn nkn => ?_)
      have s1213 : Same H12 (upd H12 kn (.dT (knownK (allR qs) rch))) := same_new nkn
      have hkn : (upd H12 kn (.dT (knownK (allR qs) rch))) kn = some (.dT (knownK (allR qs) rch)) := upd_same
      generalize upd H12 kn (.dT (knownK (allR qs) rch)) = H13 at s1213 hkn ⊢
      have s1113 := s12.trans s1213
      -- some
      refine ⟨_, rfl, kn, _, rfl, hkn, fun so nso => ?_⟩
      have eso : (knownK (allR qs) rch).map (·.2) = ((allR qs).map rch).map V.int := by
        rw [List.map_map, List.map_map]
        rfl
      rw [eso]
      have s1314 : Same H13 (upd H13 so (.lst (((allR qs).map rch).map V.int))) := same_new nso
      have hso : (upd H13 so (.lst (((allR qs).map rch).map V.int))) so = some (.lst (((allR qs).map rch).map V.int)) := upd_same
      generalize upd H13 so (.lst (((allR qs).map rch).map V.int)) = H14 at s1314 hso ⊢
      have s1114 := s1113.trans s1314
      have hkn14 := s1314 _ _ hkn
      have hp14 := hp11.keeps s1114.keeps
      obtain ⟨u11, hu11⟩ := hp11.at_
      obtain ⟨u14, hu14⟩ := hp14.at_
      have sop : so ≠ p := fun z => by rw [z, s1113 _ _ hu11] at nso; cases nso
      have knp : kn ≠ p := fun z => by rw [z, s12 _ _ hu11] at nkn; cases nkn
      have hpos : 0 < (allR qs).length := List.length_pos_of_mem (los_mem p2.le)
      -- far
      refine ⟨_, rfl, _, rfl, _, rfl, p, so, _, _, rfl, hp14, by omega, sq_lst hso, sop, by rw [List.length_map, List.length_map]; omega, by rw [List.length_map, List.length_map]; omega, fun z1 o15 hz1 hp15 => ?_⟩
      obtain ⟨z1, _, rfl⟩ := List.mem_map.mp hz1
      have sb15 : SameBut p H14 (upd H14 p o15) := SameBut.at_
      generalize upd H14 p o15 = H15 at sb15 hp15 ⊢
      have hso15 := sb15 _ _ sop hso
      refine ⟨_, rfl, _, rfl, p, so, _, _, rfl, hp15, by omega, sq_lst hso15, sop, by rw [List.length_map, List.length_map]; omega, by rw [List.length_map, List.length_map]; omega, fun z2 o16 hz2 hp16 => ?_⟩
      obtain ⟨z2, _, rfl⟩ := List.mem_map.mp hz2
      have sb16 : SameBut p H15 (upd H15 p o16) := SameBut.at_
      generalize upd H15 p o16 = H16 at sb16 hp16 ⊢
      have hso16 := sb16 _ _ sop hso15
      refine ⟨_, _, rfl, rfl, _, rfl, so, _, rfl, sqL_of hso16, by rw [List.length_map]; exact hpos, fun m hm hle => ?_⟩
      refine ⟨by show 3 ≤ sizeLine; decide, fun a17 na17 => ?_⟩
      show sp_pick K [V.ref p, V.ref a17] (upd H16 a17 (.lst [.int z1, .int (z2 - 1), .int m])) _ E0
      refine pick_lit hp16 (by omega) na17 (by show 1 ≤ 3; decide) (by show 3 ≤ 1000; decide) fun fv H17 hfv hp17 sb17 => ?_
      obtain ⟨far, rfl⟩ : ∃ far : Int, fv = .int far := by
        simp only [List.mem_cons, List.not_mem_nil, or_false] at hfv
        rcases hfv with rfl | rfl | rfl <;> exact ⟨_, rfl⟩
      have sb1417 := (sb15.trans sb16).trans sb17
      have hplan17 : PlanAt (ad 19) H17 x pg qs := (hplan11.same s1114).sb sb1417 hu14
      have hkn17 := sb1417 _ _ knp hkn14
      have hrl17 := sb1417 _ _ rrp (s1114 _ _ hrl)
      have hprr17 : Paired (fun a r => H17 a = some (objT r)) asr (allR qs) := paired_mono (fun a r z => sb1417 _ _ (ne_of (s1114 _ _ z) hu14 (by intro z; cases z)) (s1114 _ _ z)) hprr
      have s017 : Same H H17 := fun b o hb => sb1417 _ _ (ne_of_none hb npH) ((s011.trans s1114) _ _ hb)
      have hlen : ∀ r ∈ allR qs, r.length ≤ 1000 := fun r hr => by rw [(bok r hr).len]; omega
      clear hso hso15 hso16 hkn hpr12 hD12 hprr sb15 sb16 sb17 sb1417 hu14 hu11 s1114 s1113 s1314 s1213 hrl hrr e11 e12 e13 f11 f12 f13
      -- holding
      refine ⟨by show 0 ≤ sizeLine; decide, fun ho nho => ?_⟩
      have s1718 : Same H17 (upd H17 ho (.lst [])) := same_new nho
      have hho18 : (upd H17 ho (.lst [])) ho = some (.lst (([] : List Addr).map V.ref)) := upd_same
      change gName 16 _ _ (upd H17 ho (.lst [])) _
      generalize upd H17 ho (.lst []) = H18 at s1718 hho18 ⊢
      have hrl18 := s1718 _ _ hrl17
      have hkn18 := s1718 _ _ hkn17
      have hprr18 : Paired (fun a r => H18 a = some (objT r)) asr (allR qs) := paired_mono (fun a r z => s1718 _ _ z) hprr17
      have horr : rr ≠ ho := fun z => by rw [← z, hrl17] at nho; cases nho
      have hokn : kn ≠ ho := fun z => by rw [← z, hkn17] at nho; cases nho
      have elr18 := paired_len hprr18
      refine ⟨_, rfl, for_seq (K := K) (sq_lst hrl18) (fun n σ H' => (∃ y13 y17 y18 y19 y20 y21, σ = [some (.ref a), some (.int (0 + ((i : Nat) : Int))), some (.ref p), some (.int pg), some (.ref l7), some (.ref m6), some (.int (jj : Nat)), some (.int (ii : Nat)), some (.ref x), some (.ref rr), some (.str (MP.pt qs ii).w), some (.str (MP.pt qs jj).w), some (.ref kn), y13, some (.ref so), some (.int far), some (.ref ho), y17, y18, y19, y20, y21]) ∧ SameBut ho H18 H' ∧ ∃ bs' : List Addr, H' ho = some (.lst (bs'.map V.ref)) ∧ bs'.length ≤ n ∧ Paired (fun a r => H18 a = some (objT r)) bs' (((allR qs).take n).filter (MP.holdB (allR qs) rch far))) ⟨⟨_, _, _, _, _, _, rfl⟩, SameBut.refl, [], hho18, Nat.le_refl _, .nil⟩ (fun n σ H' h => h.2.1.keeps horr) ?_ ?_⟩
      · rintro n v σ H19 ev ⟨⟨y13, y17, y18, y19, y20, y21, rfl⟩, sb19, bs', hho19, lbs, hbs⟩
        obtain ⟨ab, eab, rfl⟩ := map_at ev
        obtain ⟨b, eb, hab⟩ := paired_get hprr18 eab
        have tupB : ∀ (c : Addr) (z : List Int), H18 c = some (objT z) → H19 c = some (objT z) := fun c z h => sb19 _ _ (ne_of h hho18 (by intro z; cases z)) h
        have hkn19 := sb19 _ _ hokn hkn18
        have hn := (List.getElem?_eq_some_iff.mp eb).1
        refine ⟨_, rfl, lc_seq (K := K) (sq_lst (sb19 _ _ horr hrl18)) (fun D m H' => Same H19 H' ∧ H' D = some (.lst (((((allR qs).take m).filter fun z => withinB z b).map fun z => decide (rch z ≤ far)).map V.bl))) (fun D hD => ⟨same_new hD, upd_same⟩) (fun D m H' hD pv => pv.1.keeps) ?_ ?_⟩
        · rintro D m v2 H20 hD ev2 ⟨s20, hD20⟩
          obtain ⟨a2, ea2, rfl⟩ := map_at ev2
          obtain ⟨r2, er2, ha2⟩ := paired_get hprr18 ea2
          have hm2 := List.mem_of_getElem? er2
          have hmn := (List.getElem?_eq_some_iff.mp er2).1
          refine ⟨rfl, ?_⟩
          refine ⟨_, rfl, _, rfl, a2, ab, r2, b, rfl, .inr ⟨sqT_of (s20 _ _ (tupB _ _ ha2)), sqT_of (s20 _ _ (tupB _ _ hab))⟩, hlen r2 hm2, fun H21 s21 => ⟨_, rfl, ?_⟩⟩
          have s1921 := s20.trans s21
          have hDD := s21 _ _ hD20
          rw [take_snoc er2, List.filter_append]
          refine ite2 (fun c => ?_) (fun c => ?_)
          · have dg := DGet.t (k := r2.map Sum.inl) (s1921 _ _ hkn19) (show H21 a2 = some (.tup ((r2.map Sum.inl).map kV)) by rw [keysR]; exact s1921 _ _ (tupB _ _ ha2))
            rw [known_val (allR_nodup qs) hm2] at dg
            refine ⟨_, rfl, _, rfl, kn, _, rfl, dg, _, rfl, _, _, rfl, rfl, _, hDD, ?_, s1921.mut hD, ?_⟩
            · rw [List.length_map, List.length_map, sizeLine_eq]
              have h1 := List.length_filter_le (fun z => withinB z b) ((allR qs).take m)
              rw [List.length_take] at h1
              omega
            · rw [upd_same, show [r2].filter (fun z => withinB z b) = [r2] by simp [c], List.map_append, List.map_append]
              rfl
          · refine ⟨s1921, ?_⟩
            rw [show [r2].filter (fun z => withinB z b) = [] by simp [c], List.append_nil]
            exact hDD
        · rintro D H20 hD ⟨s20, hD20⟩
          rw [List.length_map, elr18, List.take_length] at hD20
          refine ⟨D, _, rfl, sqL_of hD20, _, rfl, ?_⟩
          change ite (MP.holdB (allR qs) rch far b = true) _ _
          have hho20 := s20 _ _ hho19
          rw [take_snoc eb, List.filter_append]
          refine ite2 (fun c => ?_) (fun c => ?_)
          · refine ⟨_, rfl, .inl ⟨rfl, _, sqL_of hho20⟩, _, rfl, ho, _, _, rfl, rfl, hho20, by rw [List.length_map, sizeLine_eq]; omega, ⟨_, _, _, _, _, _, rfl⟩, (sb19.trans s20.but).trans SameBut.at_, bs' ++ [ab], by rw [upd_same, List.map_append]; rfl, by rw [List.length_append]; show bs'.length + 1 ≤ n + 1; omega, ?_⟩
            rw [show [b].filter (MP.holdB (allR qs) rch far) = [b] by simp [c]]
            exact paired_snoc (R := fun a r => H18 a = some (objT r)) hab hbs
          · refine ⟨⟨_, _, _, _, _, _, rfl⟩, sb19.trans s20.but, bs', hho20, by omega, ?_⟩
            rw [show [b].filter (MP.holdB (allR qs) rch far) = [] by simp [c], List.append_nil]
            exact hbs
      · rintro σ H19 ⟨⟨y13, y17, y18, y19, y20, y21, rfl⟩, sb19, bs', hho19, lbs, hbs⟩
        rw [List.length_map, elr18, List.take_length] at hbs
        rw [List.length_map, elr18] at lbs
        obtain ⟨hl0, ehl0⟩ : ∃ hl0, (allR qs).filter (MP.holdB (allR qs) rch far) = hl0 := ⟨_, rfl⟩
        rw [ehl0] at hbs
        have hl0m : ∀ b ∈ hl0, b ∈ allR qs ∧ MP.holdB (allR qs) rch far b = true := fun b hb => by
          rw [← ehl0] at hb
          exact List.mem_filter.mp hb
        have tup19 : ∀ (c : Addr) (z : List Int), H18 c = some (objT z) → H19 c = some (objT z) := fun c z h => sb19 _ _ (ne_of h hho18 (by intro z; cases z)) h
        have lhl0 := paired_len hbs
        -- due
        refine ⟨by show 0 ≤ sizeLine; decide, fun du ndu => ?_⟩
        have s1920 : Same H19 (upd H19 du (.lst [])) := same_new ndu
        have hdu20 : (upd H19 du (.lst [])) du = some (.lst (([] : List Addr).map V.ref)) := upd_same
        change gName 18 _ _ (upd H19 du (.lst [])) _
        generalize upd H19 du (.lst []) = H20 at s1920 hdu20 ⊢
        have hho20 := s1920 _ _ hho19
        have hdh : ho ≠ du := fun z => by rw [← z, hho19] at ndu; cases ndu
        have hbs20 : Paired (fun a r => H20 a = some (objT r)) bs' hl0 := paired_mono (fun a r z => s1920 _ _ (tup19 _ _ z)) hbs
        refine ⟨_, rfl, for_seq (K := K) (sq_lst hho20) (fun n σ H' => (∃ y13 y17 y19 y20 y21, σ = [some (.ref a), some (.int (0 + ((i : Nat) : Int))), some (.ref p), some (.int pg), some (.ref l7), some (.ref m6), some (.int (jj : Nat)), some (.int (ii : Nat)), some (.ref x), some (.ref rr), some (.str (MP.pt qs ii).w), some (.str (MP.pt qs jj).w), some (.ref kn), y13, some (.ref so), some (.int far), some (.ref ho), y17, some (.ref du), y19, y20, y21]) ∧ SameBut du H20 H' ∧ ∃ cs' : List Addr, H' du = some (.lst (cs'.map V.ref)) ∧ cs'.length ≤ n ∧ Paired (fun a r => H20 a = some (objT r)) cs' ((hl0.take n).filter (MP.maxB hl0))) ⟨⟨_, _, _, _, _, rfl⟩, SameBut.refl, [], hdu20, Nat.le_refl _, .nil⟩ (fun n σ H' h => h.2.1.keeps hdh) ?_ ?_⟩
        · rintro n v σ H21 ev ⟨⟨y13, y17, y19, y20, y21, rfl⟩, sb21, cs', hdu21, lcs, hcs⟩
          obtain ⟨ab, eab, rfl⟩ := map_at ev
          obtain ⟨b, eb, hab⟩ := paired_get hbs20 eab
          have tup21 : ∀ (c : Addr) (z : List Int), H20 c = some (objT z) → H21 c = some (objT z) := fun c z h => sb21 _ _ (ne_of h hdu20 (by intro z; cases z)) h
          have hn := (List.getElem?_eq_some_iff.mp eb).1
          have hbm := List.mem_of_getElem? eb
          refine ⟨_, rfl, lc_seq (K := K) (sq_lst (sb21 _ _ hdh hho20)) (PvV H21 ((hl0.map fun o => decide (b ≠ o) && withinB b o).map V.bl)) (fun D hD => vals0 hD) (fun D i H' hD pv => pv.1.keeps) ?_ ?_⟩
          · intro D2 i2 x2 H22 hD2' ex2 pv
            obtain ⟨a2, ea2, rfl⟩ := map_at ex2
            obtain ⟨o, eo, ha2⟩ := paired_get hbs20 ea2
            have q1 : SqT K H22 ab (b.map V.int) := sqT_of (pv.1 _ _ (tup21 _ _ hab))
            have q2 : SqT K H22 a2 (o.map V.int) := sqT_of (pv.1 _ _ (tup21 _ _ ha2))
            refine ⟨rfl, ?_⟩
            refine ⟨_, rfl, _, rfl, ⟨o⟩, ⟨b⟩, dp_row q2, dp_row q1, _, rfl, ?_⟩
            have ed : decide ((⟨o⟩ : PySem.W.Tup Int) = ⟨b⟩) = decide (b = o) := by
              by_cases c : b = o
              · rw [c, decide_eq_true rfl, decide_eq_true rfl]
              · rw [decide_eq_false c, decide_eq_false fun z => c (congrArg PySem.W.Tup.items z).symm]
            rw [ed]
            have hstep : ∀ H4, Same H22 H4 → ∀ bb, bb = (decide (b ≠ o) && withinB b o) → ∃ acc, H4 D2 = some (.lst acc) ∧ acc.length < sizeLine ∧ PvV H21 ((hl0.map fun o => decide (b ≠ o) && withinB b o).map V.bl) D2 (i2 + 1) (upd H4 D2 (.lst (acc ++ [.bl bb]))) := fun H4 s4 bb hb => by
              subst hb
              exact vals_step pv hD2' s4 (at_map (at_map eo)) (by rw [List.length_map, List.length_map]; omega)
            by_cases c : b = o
            · rw [decide_eq_true c]
              exact hstep H22 (Same.refl _) false (by simp [c])
            · rw [decide_eq_false c]
              refine ⟨_, rfl, _, rfl, ab, a2, b, o, rfl, .inr ⟨q1, q2⟩, hlen b (hl0m b hbm).1, fun H4 s4 => ?_⟩
              exact hstep H4 s4 _ (by simp [c])
          · intro D2 H22 hD2' pv
            obtain ⟨s22, hd22⟩ := valsE pv (by rw [List.length_map, List.length_map, List.length_map, lhl0])
            refine ⟨D2, _, rfl, sqL_of hd22, _, rfl, ?_⟩
            change ite (MP.maxB hl0 b = true) _ _
            have hdu22 := s22 _ _ hdu21
            rw [take_snoc eb, List.filter_append]
            refine ite2 (fun c => ?_) (fun c => ?_)
            · refine ⟨_, rfl, .inl ⟨rfl, _, sqL_of hdu22⟩, _, rfl, du, _, _, rfl, rfl, hdu22, by rw [List.length_map, sizeLine_eq]; omega, ⟨_, _, _, _, _, rfl⟩, (sb21.trans s22.but).trans SameBut.at_, cs' ++ [ab], by rw [upd_same, List.map_append]; rfl, by rw [List.length_append]; show cs'.length + 1 ≤ n + 1; omega, ?_⟩
              rw [show [b].filter (MP.maxB hl0) = [b] by simp [c]]
              exact paired_snoc (R := fun a r => H20 a = some (objT r)) hab hcs
            · refine ⟨⟨_, _, _, _, _, rfl⟩, sb21.trans s22.but, cs', hdu22, by omega, ?_⟩
              rw [show [b].filter (MP.maxB hl0) = [] by simp [c], List.append_nil]
              exact hcs
        · rintro σ H21 ⟨⟨y13, y17, y19, y20, y21, rfl⟩, sb21, cs', hdu21, lcs, hcs⟩
          rw [List.length_map, lhl0, List.take_length] at hcs
          rw [List.length_map] at lcs
          obtain ⟨dl0, edl0⟩ : ∃ dl0, hl0.filter (MP.maxB hl0) = dl0 := ⟨_, rfl⟩
          rw [edl0] at hcs
          have edue : dueR pg qs ii jj far = dl0 := by
            rw [← edl0, ← ehl0, ← hrch]
            rfl
          have tup21 : ∀ (c : Addr) (z : List Int), H20 c = some (objT z) → H21 c = some (objT z) := fun c z h => sb21 _ _ (ne_of h hdu20 (by intro z; cases z)) h
          have hho21 := sb21 _ _ hdh hho20
          obtain ⟨u17, hu17⟩ := hp17.at_
          have hu18 := s1718 _ _ hu17
          have hop : ho ≠ p := fun z => by rw [z, hu17] at nho; cases nho
          have hu19 := sb19 _ _ (Ne.symm hop) hu18
          have dup : du ≠ p := fun z => by rw [z, hu19] at ndu; cases ndu
          have durr : rr ≠ du := fun z => by rw [← z, sb19 _ _ horr hrl18] at ndu; cases ndu
          have keep : ∀ c o, c ≠ ho → c ≠ du → H17 c = some o → H21 c = some o := fun c o h1 h2 h => sb21 _ _ h2 (s1920 _ _ (sb19 _ _ h1 (s1718 _ _ h)))
          have keepH : Same H H21 := fun c o h => by
            have h17 := s017 _ _ h
            refine keep c o (fun z => ?_) (fun z => ?_) h17
            · rw [← z, h17] at nho
              cases nho
            · have h18 := s1718 _ _ h17
              have h19 := sb19 c o (fun y => by rw [← y, h17] at nho; cases nho) h18
              rw [← z, h19] at ndu
              cases ndu
          have kp17 : KeepsAt p H17 H21 := fun o h => keep p o (Ne.symm hop) (Ne.symm dup) h
          have hpl21 : PlanAt (ad 19) H21 x pg qs := by
            refine PlanAt.sb sb21 hdu20 (PlanAt.same s1920 (PlanAt.sb sb19 hho18 (hplan17.same s1718)))
          have j21 : BJ (ad 19) H p x rr ho du pg qs hl0 dl0 (0 + 300 + 1 + 1 + 1 + 1 + 1 + 1) H21 :=
            ⟨keepH, npH, hp17.keeps kp17, hpl21, ⟨asr, keep _ _ horr durr hrl17, paired_mono (fun c r z => tup21 _ _ (s1920 _ _ (tup19 _ _ z))) hprr18⟩, ⟨bs', hho21, paired_mono (fun c r z => tup21 _ _ z) hbs20⟩, ⟨cs', hdu21, paired_mono (fun c r z => tup21 _ _ z) hcs⟩, rrp, hop, dup⟩
          clear hho21 hdu21 hcs hbs20 hbs hprr18 hprr17 hkn17 hkn18 hrl17 hrl18 sb19 sb21 s1920 s1718 hplan17 hpl21 kp17 keepH keep tup21 tup19
          have fewH : hl0.length ≤ 120 := by
            rw [← ehl0]
            exact Nat.le_trans (List.length_filter_le _ _) fewR
          have fewD : dl0.length ≤ 120 := by
            rw [← edl0]
            exact Nat.le_trans (List.length_filter_le _ _) fewH
          have dl0m : ∀ b ∈ dl0, b ∈ allR qs := fun b hb => by
            rw [← edl0] at hb
            exact (hl0m b (List.mem_filter.mp hb).1).1
          have few10 : ∀ n, n ≤ qs.length → (MP.rowsN (losQ qs) (hisQ qs) n).length ≤ 10000 := fun n hn => Nat.le_trans (p2.few n hn) (by decide)
          -- greatest_bounds(..).append('late')
          refine ⟨_, rfl, _, rfl, _, rfl, _, rfl, x, pg, far, qs, ii, jj, rfl, j21.plan, p2.ok, p2.small, i1, j2, few10, fun H22 r22 s22 nr22 hR22 => ?_⟩
          rw [edue] at hR22
          obtain ⟨vs22, hr22, hpr22⟩ := hR22
          refine ⟨.inl ⟨rfl, _, sqL_of hr22⟩, r22, _, _, rfl, rfl, hr22, by rw [paired_len hpr22, sizeLine_eq]; omega, ?_⟩
          have j23 := j21.same (s22.mut (o := .lst (vs22 ++ [.str "late"])) nr22)
          generalize upd H22 r22 (.lst (vs22 ++ [.str "late"])) = H23 at j23 ⊢
          -- the first test
          refine ⟨_, rfl, _, rfl, _, rfl, _, rfl, x, pg, far, qs, ii, jj, rfl, j23.plan, p2.ok, p2.small, i1, j2, few10, fun H24 r24 s24 nr24 hR24 => ?_⟩
          rw [edue] at hR24
          have j24 := j23.same s24
          obtain ⟨cs24, hdu24, hcs24⟩ := id j24.due
          have ordD : dl0.Pairwise MP.lLe := by
            rw [← edl0, ← ehl0]
            exact (((MP.rowsN_order _).filter _).filter _).imp fun z => z.le
          refine ⟨_, rfl, tNil_k (sorted_rowsIn (K := K) (sqL_of hdu24) (rows := dl0) ?_ (fun r hr e => ?_) ordD fun ys p25 hys np25 => ?_)⟩
          · obtain ⟨vs, h1, h2⟩ := RowsAt.d (K := K) j24.due
            rw [hdu24] at h1
            cases h1
            exact h2
          · have := (bok r (dl0m r hr)).len
            rw [e] at this
            have := p2.two
            simp at *
            omega
          have s2425 : Same H24 (upd H24 p25 (.lst ys)) := same_new np25
          have hp25 : (upd H24 p25 (.lst ys)) p25 = some (.lst ys) := upd_same
          generalize upd H24 p25 (.lst ys) = H25 at s2425 hp25 ⊢
          obtain ⟨vs24, hr24, hpr24⟩ := hR24
          refine tNil_k ⟨.ref r24, .ref p25, .list (dl0.map encR), rfl, dp_same s2425 (.lst (sqL_of hr24) (dp_rows hpr24)), .lst (sqL_of hp25) (dp_rows (paired_mono (fun v r z => dp_same s2425 z) hys)), fits_rows (by omega) (fun r hr => hlen r (dl0m r hr)), fun H26 s26 => ⟨_, rfl, ?_⟩⟩
          have j26 := j24.same (s2425.trans s26)
          -- four bounds
          refine ⟨4, rfl, by decide, by decide, ?_⟩
          refine for_range (lo := 0) (n := 4) (fun n σ H' => (∃ y13 y17 y19 y20 y21, σ = [some (.ref a), some (.int (0 + ((i : Nat) : Int))), some (.ref p), some (.int pg), some (.ref l7), some (.ref m6), some (.int (jj : Nat)), some (.int (ii : Nat)), some (.ref x), some (.ref rr), some (.str (MP.pt qs ii).w), some (.str (MP.pt qs jj).w), some (.ref kn), y13, some (.ref so), some (.int far), some (.ref ho), y17, some (.ref du), y19, y20, y21]) ∧ BJ (ad 19) H p x rr ho du pg qs hl0 dl0 (1000 + 2 * n) H') ⟨⟨_, _, _, _, _, rfl⟩, j26.sb SameBut.refl (j26.pool.mono (by omega))⟩ ?_ ?_
          · rintro n σ H27 hn ⟨⟨y13, y17, y19, y20, y21, rfl⟩, j27⟩
            obtain ⟨as27, hrr27, hpr27⟩ := id j27.rows
            have el27 := paired_len hpr27
            refine ⟨_, rfl, _, rfl, p, rr, _, _, rfl, j27.pool, by omega, sq_lst hrr27, rrp, by rw [List.length_map, el27]; omega, by rw [List.length_map, el27]; omega, fun v o28 hv hp28 => ?_⟩
            obtain ⟨ab, hab, rfl⟩ := List.mem_map.mp hv
            obtain ⟨nb, enb⟩ := List.getElem?_of_mem hab
            obtain ⟨b, eb, hb27⟩ := paired_get hpr27 enb
            have hbm := List.mem_of_getElem? eb
            have hbo := bok b hbm
            have j28 := j27.sb (H2 := upd H27 p o28) SameBut.at_ hp28
            obtain ⟨u27, hu27⟩ := j27.pool.at_
            have hb28 : (upd H27 p o28) ab = some (objT b) := by
              rw [upd_ne (ne_of hb27 hu27 (by intro z; cases z))]
              exact hb27
            generalize upd H27 p o28 = H28 at j28 hb28 ⊢
            obtain ⟨u28, hu28⟩ := j28.pool.at_
            -- told
            refine ⟨_, rfl, _, rfl, _, rfl, ab, _, rfl, .inr (sqT_of hb28), fun l29 nl29 => ?_⟩
            have s2829 : Same H28 (upd H28 l29 (.lst (b.map V.int))) := same_new nl29
            have hl29 : (upd H28 l29 (.lst (b.map V.int))) l29 = some (.lst (b.map V.int)) := upd_same
            have l29p : l29 ≠ p := fun z => by rw [z, hu28] at nl29; cases nl29
            generalize upd H28 l29 (.lst (b.map V.int)) = H29 at s2829 hl29 ⊢
            have j29 := j28.same s2829
            refine tNil_k ⟨p, l29, b.map V.int, _, rfl, j29.pool, by omega, sq_lst hl29, l29p, by rw [List.length_map]; exact hlen b hbm, (fun v hv => ?_), fun H30 lo30 sb30 hp30 nlo30 hlo30 => ?_⟩
            · obtain ⟨z, _, rfl⟩ := List.mem_map.mp hv
              exact .int z
            have j30 := j29.sb sb30 hp30
            obtain ⟨u29, hu29⟩ := j29.pool.at_
            have hb30 : H30 ab = some (objT b) := sb30 _ _ (ne_of (s2829 _ _ hb28) hu29 (by intro z; cases z)) (s2829 _ _ hb28)
            refine ⟨_, rfl, _, rfl, _, rfl, x, lo30, pg, far, qs, b, ii, jj, rfl, j30.plan, p2.ok, p2.small, hlo30.imp sqL_of sqT_of, hbo, i1, j2, fun H31 m s31 hm => ?_⟩
            have eh : decide (m ≤ far) = MP.holdB (allR qs) rch far b := by
              rw [reach_hold hbo hm, ← hrch]
            rw [eh]
            have j31 := j30.same s31
            have hb31 := s31 _ _ hb30
            obtain ⟨vho, hho31, hpho31⟩ := RowsAt.d (K := K) j31.hold
            -- the second test
            refine ⟨_, rfl, _, rfl, _, rfl, ⟨b⟩, ho, vho, hl0.map PySem.W.Tup.mk, rfl, dp_row (sqT_of hb31), sqL_of hho31, paired_mapR hpho31, ?_⟩
            have ein : decide ((⟨b⟩ : PySem.W.Tup Int) ∈ hl0.map PySem.W.Tup.mk) = MP.holdB (allR qs) rch far b := by
              rw [Bool.eq_iff_iff, decide_eq_true_eq, List.mem_map, ← ehl0]
              refine ⟨fun ⟨z, hz, e⟩ => ?_, fun h => ⟨b, List.mem_filter.mpr ⟨hbm, h⟩, rfl⟩⟩
              have e' : z = b := congrArg PySem.W.Tup.items e
              subst e'
              exact (List.mem_filter.mp hz).2
            rw [ein]
            refine tNil_k ⟨.bl (MP.holdB (allR qs) rch far b), .bl (MP.holdB (allR qs) rch far b), .bool (MP.holdB (allR qs) rch far b), rfl, .bl _, .bl _, trivial, fun H32 s32 => ⟨_, rfl, ?_⟩⟩
            have j32 := j31.same s32
            have hb32 := s32 _ _ hb31
            obtain ⟨cs32, hdu32, hpdu32⟩ := id j32.due
            have eld := paired_len hpdu32
            -- the third test
            refine ⟨_, rfl, _, rfl, lc_seq (K := K) (sq_lst hdu32) (PvV H32 ((dl0.map fun o => withinB b o).map V.bl)) (fun D hD => vals0 hD) (fun D i H' hD pv => pv.1.keeps) ?_ ?_⟩
            · intro D2 i2 x2 H33 hD2 ex2 pv
              obtain ⟨a2, ea2, rfl⟩ := map_at ex2
              obtain ⟨o, eo, ha2⟩ := paired_get hpdu32 ea2
              refine ⟨rfl, ?_⟩
              refine ⟨_, rfl, _, rfl, ab, a2, b, o, rfl, .inr ⟨sqT_of (pv.1 _ _ hb32), sqT_of (pv.1 _ _ ha2)⟩, hlen b hbm, fun H34 s34 => ?_⟩
              exact vals_step pv hD2 s34 (at_map (at_map eo)) (by rw [List.length_map, List.length_map]; omega)
            · intro D2 H33 hD2 pv
              obtain ⟨s33, hd33⟩ := valsE pv (by rw [List.length_map, List.length_map, List.length_map, eld])
              refine ⟨D2, _, rfl, sqL_of hd33, rfl, _, rfl, ?_⟩
              have ew : MP.holdB (allR qs) rch far b = (dl0.map fun o => withinB b o).any id := by
                rw [← edl0, ← ehl0]
                exact MP.hold_within hbm
              rw [← ew, decide_eq_true rfl]
              exact ⟨⟨_, _, _, _, _, rfl⟩, (j32.same s33).sb SameBut.refl (((j32.same s33).pool).mono (by omega))⟩
          · rintro σ H27 ⟨⟨y13, y17, y19, y20, y21, rfl⟩, j27⟩
            exact ⟨⟨_, _, _, _, _, _, _, _, _, _, _, _, _, _, _, _, _, _, _, _, _, rfl⟩, j27.sm⟩
    · rintro σ H' ⟨⟨y1, y2, y3, y4, y5, y6, y7, y8, y9, y10, y11, y12, y13, y14, y15, y16, y17, y18, y19, y20, y21, rfl⟩, s1⟩
      exact q _
end
end Lk
namespace Lk
open PySem PySem.Spec PyProof.Rows L2
theorem exm_self {K : PySem.W.Frag} {S : Addr} (h1 : PySem.W.subIn K (.ref S) (.type "BaseException") = some true) (h2 : PySem.W.isClsIn K S = true) (h3 : PySem.W.typeIn K (.ref S) = some (.type "type")) (h4 : PySem.W.subIn K (.ref S) (.ref S) = some true) :
    PySem.W.exmOne K (.ref S) (.ref S) = some true := by
  have e1 : (PySem.W.subIn K (.ref S) (.type "BaseException") == some true) = true := by rw [h1] <;> rfl
  have e2 : ((PySem.W.clsIn K S).isSome && PySem.W.typeIn K (.ref S) == some (.type "type")) = true := by
    have h2' : (PySem.W.clsIn K S).isSome = true := h2
    rw [h2', h3] <;> rfl
  show (if (PySem.W.subIn K (.ref S) (.type "BaseException") == some true) = true then (if ((PySem.W.clsIn K S).isSome && PySem.W.typeIn K (.ref S) == some (.type "type")) = true then PySem.W.subIn K (.ref S) (.ref S) else none) else none) = some true
  rw [if_pos e1, if_pos e2]
  exact h4
theorem all_mk {l : PySem.W.OpenLaw} {w : World} {K : PySem.W.Frag} {h : Heap} {mg : Str → Option Value} {fa : Addr} (X : K.In h) (G : h.Ns mainGlobals mg) (hfa : mg "law" = some (.ref fa))
    {f2 : Addr} {od2 an2 : Option Addr} {sl2 : Array (Option Value)} {oc2 kV2 dc2 pm2 cd2 ct2 : Value}
    {f3 : Addr} {od3 an3 : Option Addr} {sl3 : Array (Option Value)} {oc3 kV3 dc3 pm3 cd3 ct3 : Value}
    {f4 : Addr} {od4 an4 : Option Addr} {sl4 : Array (Option Value)} {oc4 kV4 dc4 pm4 cd4 ct4 : Value}
    {f5 : Addr} {od5 an5 : Option Addr} {sl5 : Array (Option Value)} {oc5 kV5 dc5 pm5 cd5 ct5 : Value}
    {f18 : Addr} {od18 an18 : Option Addr} {sl18 : Array (Option Value)} {oc18 kV18 dc18 pm18 cd18 ct18 : Value}
    {f20 : Addr} {od20 an20 : Option Addr} {sl20 : Array (Option Value)} {oc20 kV20 dc20 pm20 cd20 ct20 : Value}
    {f21 : Addr} {od21 an21 : Option Addr} {sl21 : Array (Option Value)} {oc21 kV21 dc21 pm21 cd21 ct21 : Value}
    {f22 : Addr} {od22 an22 : Option Addr} {sl22 : Array (Option Value)} {oc22 kV22 dc22 pm22 cd22 ct22 : Value}
    {f24 : Addr} {od24 an24 : Option Addr} {sl24 : Array (Option Value)} {oc24 kV24 dc24 pm24 cd24 ct24 : Value}
    {f25 : Addr} {od25 an25 : Option Addr} {sl25 : Array (Option Value)} {oc25 kV25 dc25 pm25 cd25 ct25 : Value}
    {f26 : Addr} {od26 an26 : Option Addr} {sl26 : Array (Option Value)} {oc26 kV26 dc26 pm26 cd26 ct26 : Value}
    {f27 : Addr} {od27 an27 : Option Addr} {sl27 : Array (Option Value)} {oc27 kV27 dc27 pm27 cd27 ct27 : Value}
    {f28 : Addr} {od28 an28 : Option Addr} {sl28 : Array (Option Value)} {oc28 kV28 dc28 pm28 cd28 ct28 : Value}
    {f29 : Addr} {od29 an29 : Option Addr} {sl29 : Array (Option Value)} {oc29 kV29 dc29 pm29 cd29 ct29 : Value}
    {f30 : Addr} {od30 an30 : Option Addr} {sl30 : Array (Option Value)} {oc30 kV30 dc30 pm30 cd30 ct30 : Value}
    {f31 : Addr} {od31 an31 : Option Addr} {sl31 : Array (Option Value)} {oc31 kV31 dc31 pm31 cd31 ct31 : Value}
    {f32 : Addr} {od32 an32 : Option Addr} {sl32 : Array (Option Value)} {oc32 kV32 dc32 pm32 cd32 ct32 : Value}
    {f33 : Addr} {od33 an33 : Option Addr} {sl33 : Array (Option Value)} {oc33 kV33 dc33 pm33 cd33 ct33 : Value}
    {f34 : Addr} {od34 an34 : Option Addr} {sl34 : Array (Option Value)} {oc34 kV34 dc34 pm34 cd34 ct34 : Value}
    {f35 : Addr} {od35 an35 : Option Addr} {sl35 : Array (Option Value)} {oc35 kV35 dc35 pm35 cd35 ct35 : Value}
    {f36 : Addr} {od36 an36 : Option Addr} {sl36 : Array (Option Value)} {oc36 kV36 dc36 pm36 cd36 ct36 : Value}
    {f38 : Addr} {od38 an38 : Option Addr} {sl38 : Array (Option Value)} {oc38 kV38 dc38 pm38 cd38 ct38 : Value}
    {f39 : Addr} {od39 an39 : Option Addr} {sl39 : Array (Option Value)} {oc39 kV39 dc39 pm39 cd39 ct39 : Value}
    {f40 : Addr} {od40 an40 : Option Addr} {sl40 : Array (Option Value)} {oc40 kV40 dc40 pm40 cd40 ct40 : Value}
    {f41 : Addr} {od41 an41 : Option Addr} {sl41 : Array (Option Value)} {oc41 kV41 dc41 pm41 cd41 ct41 : Value}
    {f42 : Addr} {od42 an42 : Option Addr} {sl42 : Array (Option Value)} {oc42 kV42 dc42 pm42 cd42 ct42 : Value}
    {f43 : Addr} {od43 an43 : Option Addr} {sl43 : Array (Option Value)} {oc43 kV43 dc43 pm43 cd43 ct43 : Value}
    {f44 : Addr} {od44 an44 : Option Addr} {sl44 : Array (Option Value)} {oc44 kV44 dc44 pm44 cd44 ct44 : Value}
    {f45 : Addr} {od45 an45 : Option Addr} {sl45 : Array (Option Value)} {oc45 kV45 dc45 pm45 cd45 ct45 : Value}
    {f46 : Addr} {od46 an46 : Option Addr} {sl46 : Array (Option Value)} {oc46 kV46 dc46 pm46 cd46 ct46 : Value}
    {f47 : Addr} {od47 an47 : Option Addr} {sl47 : Array (Option Value)} {oc47 kV47 dc47 pm47 cd47 ct47 : Value}
    {f48 : Addr} {od48 an48 : Option Addr} {sl48 : Array (Option Value)} {oc48 kV48 dc48 pm48 cd48 ct48 : Value}
    {f49 : Addr} {od49 an49 : Option Addr} {sl49 : Array (Option Value)} {oc49 kV49 dc49 pm49 cd49 ct49 : Value}
    {f50 : Addr} {od50 an50 : Option Addr} {sl50 : Array (Option Value)} {oc50 kV50 dc50 pm50 cd50 ct50 : Value}
    {f51 : Addr} {od51 an51 : Option Addr} {sl51 : Array (Option Value)} {oc51 kV51 dc51 pm51 cd51 ct51 : Value}
    {f52 : Addr} {od52 an52 : Option Addr} {sl52 : Array (Option Value)} {oc52 kV52 dc52 pm52 cd52 ct52 : Value}
    {C8 B8 f8 : Addr} {od8 an8 : Option Addr} {sl8 : Array (Option Value)} {oc8 kV8 dc8 pm8 cd8 ct8 : Value}
    {nm8 q8 : Str} {N8 : Addr} {bs8 : List Value} {sn8 : List Str} {sub8 : List Value} {ab8 : Bool} {col8 : Option Bool} {dd8 : Option Addr} {m08 m18 m28 m38 m58 : Option Value}
    {C9 B9 f9 : Addr} {od9 an9 : Option Addr} {sl9 : Array (Option Value)} {oc9 kV9 dc9 pm9 cd9 ct9 : Value}
    {nm9 q9 : Str} {N9 : Addr} {bs9 : List Value} {sn9 : List Str} {sub9 : List Value} {ab9 : Bool} {col9 : Option Bool} {dd9 : Option Addr} {m09 m19 m29 m39 m59 : Option Value}
    {C10 B10 f10 : Addr} {od10 an10 : Option Addr} {sl10 : Array (Option Value)} {oc10 kV10 dc10 pm10 cd10 ct10 : Value}
    {nm10 q10 : Str} {N10 : Addr} {bs10 : List Value} {sn10 : List Str} {sub10 : List Value} {ab10 : Bool} {col10 : Option Bool} {dd10 : Option Addr} {m010 m110 m210 m310 m510 : Option Value}
    {C11 B11 f11 : Addr} {od11 an11 : Option Addr} {sl11 : Array (Option Value)} {oc11 kV11 dc11 pm11 cd11 ct11 : Value}
    {nm11 q11 : Str} {N11 : Addr} {bs11 : List Value} {sn11 : List Str} {sub11 : List Value} {ab11 : Bool} {col11 : Option Bool} {dd11 : Option Addr} {m011 m111 m211 m311 m511 : Option Value}
    {C12 B12 f12 : Addr} {od12 an12 : Option Addr} {sl12 : Array (Option Value)} {oc12 kV12 dc12 pm12 cd12 ct12 : Value}
    {nm12 q12 : Str} {N12 : Addr} {bs12 : List Value} {sn12 : List Str} {sub12 : List Value} {ab12 : Bool} {col12 : Option Bool} {dd12 : Option Addr} {m012 m112 m212 m312 m512 : Option Value}
    {C13 B13 f13 : Addr} {od13 an13 : Option Addr} {sl13 : Array (Option Value)} {oc13 kV13 dc13 pm13 cd13 ct13 : Value}
    {nm13 q13 : Str} {N13 : Addr} {bs13 : List Value} {sn13 : List Str} {sub13 : List Value} {ab13 : Bool} {col13 : Option Bool} {dd13 : Option Addr} {m013 m113 m213 m313 m513 : Option Value}
    {t1 : Tok}
    {f14 : Addr} {od14 : Option Addr} {its14 : Array Value} {nn14 : Nat} {sl14 : Array (Option Value)}
    {f15 : Addr} {od15 : Option Addr} {its15 : Array Value} {nn15 : Nat} {sl15 : Array (Option Value)}
    {f17 : Addr} {od17 : Option Addr} {its17 : Array Value} {nn17 : Nat} {sl17 : Array (Option Value)}
    {C19 : Addr}
    {f1380 : Addr} {od1380 an1380 : Option Addr} {sl1380 : Array (Option Value)} {oc1380 kV1380 dc1380 pm1380 cd1380 ct1380 : Value}
    {f1381 : Addr} {od1381 an1381 : Option Addr} {sl1381 : Array (Option Value)} {oc1381 kV1381 dc1381 pm1381 cd1381 ct1381 : Value}
    {f1382 : Addr} {od1382 an1382 : Option Addr} {sl1382 : Array (Option Value)} {oc1382 kV1382 dc1382 pm1382 cd1382 ct1382 : Value}
    {f1383 : Addr} {od1383 an1383 : Option Addr} {sl1383 : Array (Option Value)} {oc1383 kV1383 dc1383 pm1383 cd1383 ct1383 : Value}
    (a2 : PySem.W.nsIn K mainGlobals "is_integer" = some (some (.ref f2)))
    (l2 : K.lookup f2 = some ⟨oc2, od2, .func (PySem.W.fnOf "is_integer" "is_integer" (defArgs s_is_integer) (defBody s_is_integer) (defScope s_is_integer) .none kV2 dc2 pm2 an2 cd2 ct2), sl2⟩)
    (c2 : PySem.W.codeIn K cd2 "is_integer" = true) (k2 : PySem.W.keepIn K (.ref f2) = true)
    (a3 : PySem.W.nsIn K mainGlobals "is_natural" = some (some (.ref f3)))
    (l3 : K.lookup f3 = some ⟨oc3, od3, .func (PySem.W.fnOf "is_natural" "is_natural" (defArgs s_is_natural) (defBody s_is_natural) (defScope s_is_natural) .none kV3 dc3 pm3 an3 cd3 ct3), sl3⟩)
    (c3 : PySem.W.codeIn K cd3 "is_natural" = true) (k3 : PySem.W.keepIn K (.ref f3) = true)
    (a4 : PySem.W.nsIn K mainGlobals "is_list" = some (some (.ref f4)))
    (l4 : K.lookup f4 = some ⟨oc4, od4, .func (PySem.W.fnOf "is_list" "is_list" (defArgs s_is_list) (defBody s_is_list) (defScope s_is_list) .none kV4 dc4 pm4 an4 cd4 ct4), sl4⟩)
    (c4 : PySem.W.codeIn K cd4 "is_list" = true) (k4 : PySem.W.keepIn K (.ref f4) = true)
    (a5 : PySem.W.nsIn K mainGlobals "is_word" = some (some (.ref f5)))
    (l5 : K.lookup f5 = some ⟨oc5, od5, .func (PySem.W.fnOf "is_word" "is_word" (defArgs s_is_word) (defBody s_is_word) (defScope s_is_word) .none kV5 dc5 pm5 an5 cd5 ct5), sl5⟩)
    (c5 : PySem.W.codeIn K cd5 "is_word" = true) (k5 : PySem.W.keepIn K (.ref f5) = true)
    (a18 : PySem.W.nsIn K mainGlobals "is_part" = some (some (.ref f18)))
    (l18 : K.lookup f18 = some ⟨oc18, od18, .func (PySem.W.fnOf "is_part" "is_part" (defArgs s_is_part) (defBody s_is_part) (defScope s_is_part) .none kV18 dc18 pm18 an18 cd18 ct18), sl18⟩)
    (c18 : PySem.W.codeIn K cd18 "is_part" = true) (k18 : PySem.W.keepIn K (.ref f18) = true)
    (a20 : PySem.W.nsIn K mainGlobals "checked_sizes" = some (some (.ref f20)))
    (l20 : K.lookup f20 = some ⟨oc20, od20, .func (PySem.W.fnOf "checked_sizes" "checked_sizes" (defArgs s_checked_sizes) (defBody s_checked_sizes) (defScope s_checked_sizes) .none kV20 dc20 pm20 an20 cd20 ct20), sl20⟩)
    (c20 : PySem.W.codeIn K cd20 "checked_sizes" = true) (k20 : PySem.W.keepIn K (.ref f20) = true)
    (a21 : PySem.W.nsIn K mainGlobals "lifted" = some (some (.ref f21)))
    (l21 : K.lookup f21 = some ⟨oc21, od21, .func (PySem.W.fnOf "lifted" "lifted" (defArgs s_lifted) (defBody s_lifted) (defScope s_lifted) .none kV21 dc21 pm21 an21 cd21 ct21), sl21⟩)
    (c21 : PySem.W.codeIn K cd21 "lifted" = true) (k21 : PySem.W.keepIn K (.ref f21) = true)
    (a22 : PySem.W.nsIn K mainGlobals "lowest" = some (some (.ref f22)))
    (l22 : K.lookup f22 = some ⟨oc22, od22, .func (PySem.W.fnOf "lowest" "lowest" (defArgs s_lowest) (defBody s_lowest) (defScope s_lowest) .none kV22 dc22 pm22 an22 cd22 ct22), sl22⟩)
    (c22 : PySem.W.codeIn K cd22 "lowest" = true) (k22 : PySem.W.keepIn K (.ref f22) = true)
    (a24 : PySem.W.nsIn K mainGlobals "number_of" = some (some (.ref f24)))
    (l24 : K.lookup f24 = some ⟨oc24, od24, .func (PySem.W.fnOf "number_of" "number_of" (defArgs s_number_of) (defBody s_number_of) (defScope s_number_of) .none kV24 dc24 pm24 an24 cd24 ct24), sl24⟩)
    (c24 : PySem.W.codeIn K cd24 "number_of" = true) (k24 : PySem.W.keepIn K (.ref f24) = true)
    (a25 : PySem.W.nsIn K mainGlobals "checked_two" = some (some (.ref f25)))
    (l25 : K.lookup f25 = some ⟨oc25, od25, .func (PySem.W.fnOf "checked_two" "checked_two" (defArgs s_checked_two) (defBody s_checked_two) (defScope s_checked_two) .none kV25 dc25 pm25 an25 cd25 ct25), sl25⟩)
    (c25 : PySem.W.codeIn K cd25 "checked_two" = true) (k25 : PySem.W.keepIn K (.ref f25) = true)
    (a26 : PySem.W.nsIn K mainGlobals "checked_far" = some (some (.ref f26)))
    (l26 : K.lookup f26 = some ⟨oc26, od26, .func (PySem.W.fnOf "checked_far" "checked_far" (defArgs s_checked_far) (defBody s_checked_far) (defScope s_checked_far) .none kV26 dc26 pm26 an26 cd26 ct26), sl26⟩)
    (c26 : PySem.W.codeIn K cd26 "checked_far" = true) (k26 : PySem.W.keepIn K (.ref f26) = true)
    (a27 : PySem.W.nsIn K mainGlobals "leasts" = some (some (.ref f27)))
    (l27 : K.lookup f27 = some ⟨oc27, od27, .func (PySem.W.fnOf "leasts" "leasts" (defArgs s_leasts) (defBody s_leasts) (defScope s_leasts) .none kV27 dc27 pm27 an27 cd27 ct27), sl27⟩)
    (c27 : PySem.W.codeIn K cd27 "leasts" = true) (k27 : PySem.W.keepIn K (.ref f27) = true)
    (a28 : PySem.W.nsIn K mainGlobals "mosts" = some (some (.ref f28)))
    (l28 : K.lookup f28 = some ⟨oc28, od28, .func (PySem.W.fnOf "mosts" "mosts" (defArgs s_mosts) (defBody s_mosts) (defScope s_mosts) .none kV28 dc28 pm28 an28 cd28 ct28), sl28⟩)
    (c28 : PySem.W.codeIn K cd28 "mosts" = true) (k28 : PySem.W.keepIn K (.ref f28) = true)
    (a29 : PySem.W.nsIn K mainGlobals "rests_at" = some (some (.ref f29)))
    (l29 : K.lookup f29 = some ⟨oc29, od29, .func (PySem.W.fnOf "rests_at" "rests_at" (defArgs s_rests_at) (defBody s_rests_at) (defScope s_rests_at) .none kV29 dc29 pm29 an29 cd29 ct29), sl29⟩)
    (c29 : PySem.W.codeIn K cd29 "rests_at" = true) (k29 : PySem.W.keepIn K (.ref f29) = true)
    (a30 : PySem.W.nsIn K mainGlobals "address_behind" = some (some (.ref f30)))
    (l30 : K.lookup f30 = some ⟨oc30, od30, .func (PySem.W.fnOf "address_behind" "address_behind" (defArgs s_address_behind) (defBody s_address_behind) (defScope s_address_behind) .none kV30 dc30 pm30 an30 cd30 ct30), sl30⟩)
    (c30 : PySem.W.codeIn K cd30 "address_behind" = true) (k30 : PySem.W.keepIn K (.ref f30) = true)
    (a31 : PySem.W.nsIn K mainGlobals "reach_at_most" = some (some (.ref f31)))
    (l31 : K.lookup f31 = some ⟨oc31, od31, .func (PySem.W.fnOf "reach_at_most" "reach_at_most" (defArgs s_reach_at_most) (defBody s_reach_at_most) (defScope s_reach_at_most) .none kV31 dc31 pm31 an31 cd31 ct31), sl31⟩)
    (c31 : PySem.W.codeIn K cd31 "reach_at_most" = true) (k31 : PySem.W.keepIn K (.ref f31) = true)
    (a32 : PySem.W.nsIn K mainGlobals "bounds_hold" = some (some (.ref f32)))
    (l32 : K.lookup f32 = some ⟨oc32, od32, .func (PySem.W.fnOf "bounds_hold" "bounds_hold" (defArgs s_bounds_hold) (defBody s_bounds_hold) (defScope s_bounds_hold) .none kV32 dc32 pm32 an32 cd32 ct32), sl32⟩)
    (c32 : PySem.W.codeIn K cd32 "bounds_hold" = true) (k32 : PySem.W.keepIn K (.ref f32) = true)
    (a33 : PySem.W.nsIn K mainGlobals "rows_between" = some (some (.ref f33)))
    (l33 : K.lookup f33 = some ⟨oc33, od33, .func (PySem.W.fnOf "rows_between" "rows_between" (defArgs s_rows_between) (defBody s_rows_between) (defScope s_rows_between) .none kV33 dc33 pm33 an33 cd33 ct33), sl33⟩)
    (c33 : PySem.W.codeIn K cd33 "rows_between" = true) (k33 : PySem.W.keepIn K (.ref f33) = true)
    (a34 : PySem.W.nsIn K mainGlobals "is_within" = some (some (.ref f34)))
    (l34 : K.lookup f34 = some ⟨oc34, od34, .func (PySem.W.fnOf "is_within" "is_within" (defArgs s_is_within) (defBody s_is_within) (defScope s_is_within) .none kV34 dc34 pm34 an34 cd34 ct34), sl34⟩)
    (c34 : PySem.W.codeIn K cd34 "is_within" = true) (k34 : PySem.W.keepIn K (.ref f34) = true)
    (a35 : PySem.W.nsIn K mainGlobals "greatest_rows" = some (some (.ref f35)))
    (l35 : K.lookup f35 = some ⟨oc35, od35, .func (PySem.W.fnOf "greatest_rows" "greatest_rows" (defArgs s_greatest_rows) (defBody s_greatest_rows) (defScope s_greatest_rows) .none kV35 dc35 pm35 an35 cd35 ct35), sl35⟩)
    (c35 : PySem.W.codeIn K cd35 "greatest_rows" = true) (k35 : PySem.W.keepIn K (.ref f35) = true)
    (a36 : PySem.W.nsIn K mainGlobals "greatest_bounds" = some (some (.ref f36)))
    (l36 : K.lookup f36 = some ⟨oc36, od36, .func (PySem.W.fnOf "greatest_bounds" "greatest_bounds" (defArgs s_greatest_bounds) (defBody s_greatest_bounds) (defScope s_greatest_bounds) .none kV36 dc36 pm36 an36 cd36 ct36), sl36⟩)
    (c36 : PySem.W.codeIn K cd36 "greatest_bounds" = true) (k36 : PySem.W.keepIn K (.ref f36) = true)
    (a38 : PySem.W.nsIn K mainGlobals "_law_source" = some (some (.ref f38)))
    (l38 : K.lookup f38 = some ⟨oc38, od38, .func (PySem.W.fnOf "_law_source" "_law_source" (defArgs s_law_source) (defBody s_law_source) (defScope s_law_source) .none kV38 dc38 pm38 an38 cd38 ct38), sl38⟩)
    (c38 : PySem.W.codeIn K cd38 "_law_source" = true) (k38 : PySem.W.keepIn K (.ref f38) = true)
    (a39 : PySem.W.nsIn K mainGlobals "_law_draw" = some (some (.ref f39)))
    (l39 : K.lookup f39 = some ⟨oc39, od39, .func (PySem.W.fnOf "_law_draw" "_law_draw" (defArgs s_law_draw) (defBody s_law_draw) (defScope s_law_draw) .none kV39 dc39 pm39 an39 cd39 ct39), sl39⟩)
    (c39 : PySem.W.codeIn K cd39 "_law_draw" = true) (k39 : PySem.W.keepIn K (.ref f39) = true)
    (a40 : PySem.W.nsIn K mainGlobals "_law_pick" = some (some (.ref f40)))
    (l40 : K.lookup f40 = some ⟨oc40, od40, .func (PySem.W.fnOf "_law_pick" "_law_pick" (defArgs s_law_pick) (defBody s_law_pick) (defScope s_law_pick) .none kV40 dc40 pm40 an40 cd40 ct40), sl40⟩)
    (c40 : PySem.W.codeIn K cd40 "_law_pick" = true) (k40 : PySem.W.keepIn K (.ref f40) = true)
    (a41 : PySem.W.nsIn K mainGlobals "_law_mixed" = some (some (.ref f41)))
    (l41 : K.lookup f41 = some ⟨oc41, od41, .func (PySem.W.fnOf "_law_mixed" "_law_mixed" (defArgs s_law_mixed) (defBody s_law_mixed) (defScope s_law_mixed) .none kV41 dc41 pm41 an41 cd41 ct41), sl41⟩)
    (c41 : PySem.W.codeIn K cd41 "_law_mixed" = true) (k41 : PySem.W.keepIn K (.ref f41) = true)
    (a42 : PySem.W.nsIn K mainGlobals "_law_loose" = some (some (.ref f42)))
    (l42 : K.lookup f42 = some ⟨oc42, od42, .func (PySem.W.fnOf "_law_loose" "_law_loose" (defArgs s_law_loose) (defBody s_law_loose) (defScope s_law_loose) .none kV42 dc42 pm42 an42 cd42 ct42), sl42⟩)
    (c42 : PySem.W.codeIn K cd42 "_law_loose" = true) (k42 : PySem.W.keepIn K (.ref f42) = true)
    (a43 : PySem.W.nsIn K mainGlobals "_law_same" = some (some (.ref f43)))
    (l43 : K.lookup f43 = some ⟨oc43, od43, .func (PySem.W.fnOf "_law_same" "_law_same" (defArgs s_law_same) (defBody s_law_same) (defScope s_law_same) .none kV43 dc43 pm43 an43 cd43 ct43), sl43⟩)
    (c43 : PySem.W.codeIn K cd43 "_law_same" = true) (k43 : PySem.W.keepIn K (.ref f43) = true)
    (a44 : PySem.W.nsIn K mainGlobals "_law_parts" = some (some (.ref f44)))
    (l44 : K.lookup f44 = some ⟨oc44, od44, .func (PySem.W.fnOf "_law_parts" "_law_parts" (defArgs s_law_parts) (defBody s_law_parts) (defScope s_law_parts) .none kV44 dc44 pm44 an44 cd44 ct44), sl44⟩)
    (c44 : PySem.W.codeIn K cd44 "_law_parts" = true) (k44 : PySem.W.keepIn K (.ref f44) = true)
    (a45 : PySem.W.nsIn K mainGlobals "_law_lowest" = some (some (.ref f45)))
    (l45 : K.lookup f45 = some ⟨oc45, od45, .func (PySem.W.fnOf "_law_lowest" "_law_lowest" (defArgs s_law_lowest) (defBody s_law_lowest) (defScope s_law_lowest) .none kV45 dc45 pm45 an45 cd45 ct45), sl45⟩)
    (c45 : PySem.W.codeIn K cd45 "_law_lowest" = true) (k45 : PySem.W.keepIn K (.ref f45) = true)
    (a46 : PySem.W.nsIn K mainGlobals "_law_addresses" = some (some (.ref f46)))
    (l46 : K.lookup f46 = some ⟨oc46, od46, .func (PySem.W.fnOf "_law_addresses" "_law_addresses" (defArgs s_law_addresses) (defBody s_law_addresses) (defScope s_law_addresses) .none kV46 dc46 pm46 an46 cd46 ct46), sl46⟩)
    (c46 : PySem.W.codeIn K cd46 "_law_addresses" = true) (k46 : PySem.W.keepIn K (.ref f46) = true)
    (a47 : PySem.W.nsIn K mainGlobals "_law_rows" = some (some (.ref f47)))
    (l47 : K.lookup f47 = some ⟨oc47, od47, .func (PySem.W.fnOf "_law_rows" "_law_rows" (defArgs s_law_rows) (defBody s_law_rows) (defScope s_law_rows) .none kV47 dc47 pm47 an47 cd47 ct47), sl47⟩)
    (c47 : PySem.W.codeIn K cd47 "_law_rows" = true) (k47 : PySem.W.keepIn K (.ref f47) = true)
    (a48 : PySem.W.nsIn K mainGlobals "_law_all_sizes" = some (some (.ref f48)))
    (l48 : K.lookup f48 = some ⟨oc48, od48, .func (PySem.W.fnOf "_law_all_sizes" "_law_all_sizes" (defArgs s_law_all_sizes) (defBody s_law_all_sizes) (defScope s_law_all_sizes) .none kV48 dc48 pm48 an48 cd48 ct48), sl48⟩)
    (c48 : PySem.W.codeIn K cd48 "_law_all_sizes" = true) (k48 : PySem.W.keepIn K (.ref f48) = true)
    (a49 : PySem.W.nsIn K mainGlobals "_law_few" = some (some (.ref f49)))
    (l49 : K.lookup f49 = some ⟨oc49, od49, .func (PySem.W.fnOf "_law_few" "_law_few" (defArgs s_law_few) (defBody s_law_few) (defScope s_law_few) .none kV49 dc49 pm49 an49 cd49 ct49), sl49⟩)
    (c49 : PySem.W.codeIn K cd49 "_law_few" = true) (k49 : PySem.W.keepIn K (.ref f49) = true)
    (a50 : PySem.W.nsIn K mainGlobals "_law_is_below" = some (some (.ref f50)))
    (l50 : K.lookup f50 = some ⟨oc50, od50, .func (PySem.W.fnOf "_law_is_below" "_law_is_below" (defArgs s_law_is_below) (defBody s_law_is_below) (defScope s_law_is_below) .none kV50 dc50 pm50 an50 cd50 ct50), sl50⟩)
    (c50 : PySem.W.codeIn K cd50 "_law_is_below" = true) (k50 : PySem.W.keepIn K (.ref f50) = true)
    (a51 : PySem.W.nsIn K mainGlobals "_law_reach" = some (some (.ref f51)))
    (l51 : K.lookup f51 = some ⟨oc51, od51, .func (PySem.W.fnOf "_law_reach" "_law_reach" (defArgs s_law_reach) (defBody s_law_reach) (defScope s_law_reach) .none kV51 dc51 pm51 an51 cd51 ct51), sl51⟩)
    (c51 : PySem.W.codeIn K cd51 "_law_reach" = true) (k51 : PySem.W.keepIn K (.ref f51) = true)
    (a52 : PySem.W.nsIn K mainGlobals "law" = some (some (.ref f52)))
    (l52 : K.lookup f52 = some ⟨oc52, od52, .func (PySem.W.fnOf "law" "law" (defArgs s_law) (defBody s_law) (defScope s_law) .none kV52 dc52 pm52 an52 cd52 ct52), sl52⟩)
    (c52 : PySem.W.codeIn K cd52 "law" = true) (k52 : PySem.W.keepIn K (.ref f52) = true)
    (a8 : PySem.W.nsIn K mainGlobals "BadPage" = some (some (.ref C8)))
    (x8 : K.lookup C8 = some (excClassObj nm8 q8 C8 N8 bs8 [.ref B8, .type "ValueError", .type "Exception", .type "BaseException", .type "object"] true sn8 sub8 ab8 col8 dd8 m08 m18 m28 m38 m58 "ValueError.__new__"))
    (sa8 : PySem.W.findIn K (.ref C8) "__setattr__" = some (some (.builtin "object.__setattr__")))
    (ga8 : PySem.W.findIn K (.ref C8) "__getattribute__" = some (some (.builtin "BaseException.__getattribute__")))
    (gg8 : PySem.W.findIn K (.ref C8) "__getattr__" = some none)
    (nf8 : PySem.W.findIn K (.ref C8) "thing" = some none)
    (ii8 : PySem.W.findIn K (.ref C8) "__init__" = some (some (.ref f8)))
    (ti8 : PySem.W.typeIn K (.ref f8) = some (.type "function"))
    (kc8 : PySem.W.keepIn K (.ref C8) = true)
    (ec8 : PySem.W.subIn K (.ref C8) (.type "BaseException") = some true)
    (tc8 : PySem.W.typeIn K (.ref C8) = some (.type "type"))
    (hc8 : PySem.W.hasDictIn K C8 = true)
    (ic8 : PySem.W.isClsIn K C8 = true)
    (sc8 : PySem.W.subIn K (.ref C8) (.ref C8) = some true)
    (l8 : K.lookup f8 = some ⟨oc8, od8, .func (PySem.W.fnOf "__init__" "BadPage.__init__" (defArgs s_BadPage) (defBody s_BadPage) (defScope s_BadPage) .none kV8 dc8 pm8 an8 cd8 ct8), sl8⟩)
    (c8 : PySem.W.codeIn K cd8 "BadPage.__init__" = true) (k8 : PySem.W.keepIn K (.ref f8) = true)
    (a9 : PySem.W.nsIn K mainGlobals "BadPart" = some (some (.ref C9)))
    (x9 : K.lookup C9 = some (excClassObj nm9 q9 C9 N9 bs9 [.ref B9, .type "ValueError", .type "Exception", .type "BaseException", .type "object"] true sn9 sub9 ab9 col9 dd9 m09 m19 m29 m39 m59 "ValueError.__new__"))
    (sa9 : PySem.W.findIn K (.ref C9) "__setattr__" = some (some (.builtin "object.__setattr__")))
    (ga9 : PySem.W.findIn K (.ref C9) "__getattribute__" = some (some (.builtin "BaseException.__getattribute__")))
    (gg9 : PySem.W.findIn K (.ref C9) "__getattr__" = some none)
    (nf9 : PySem.W.findIn K (.ref C9) "index" = some none)
    (ii9 : PySem.W.findIn K (.ref C9) "__init__" = some (some (.ref f9)))
    (ti9 : PySem.W.typeIn K (.ref f9) = some (.type "function"))
    (kc9 : PySem.W.keepIn K (.ref C9) = true)
    (ec9 : PySem.W.subIn K (.ref C9) (.type "BaseException") = some true)
    (tc9 : PySem.W.typeIn K (.ref C9) = some (.type "type"))
    (hc9 : PySem.W.hasDictIn K C9 = true)
    (ic9 : PySem.W.isClsIn K C9 = true)
    (sc9 : PySem.W.subIn K (.ref C9) (.ref C9) = some true)
    (l9 : K.lookup f9 = some ⟨oc9, od9, .func (PySem.W.fnOf "__init__" "BadPart.__init__" (defArgs s_BadPart) (defBody s_BadPart) (defScope s_BadPart) .none kV9 dc9 pm9 an9 cd9 ct9), sl9⟩)
    (c9 : PySem.W.codeIn K cd9 "BadPart.__init__" = true) (k9 : PySem.W.keepIn K (.ref f9) = true)
    (a10 : PySem.W.nsIn K mainGlobals "BadSizes" = some (some (.ref C10)))
    (x10 : K.lookup C10 = some (excClassObj nm10 q10 C10 N10 bs10 [.ref B10, .type "ValueError", .type "Exception", .type "BaseException", .type "object"] true sn10 sub10 ab10 col10 dd10 m010 m110 m210 m310 m510 "ValueError.__new__"))
    (sa10 : PySem.W.findIn K (.ref C10) "__setattr__" = some (some (.builtin "object.__setattr__")))
    (ga10 : PySem.W.findIn K (.ref C10) "__getattribute__" = some (some (.builtin "BaseException.__getattribute__")))
    (gg10 : PySem.W.findIn K (.ref C10) "__getattr__" = some none)
    (nf10 : PySem.W.findIn K (.ref C10) "index" = some none)
    (ii10 : PySem.W.findIn K (.ref C10) "__init__" = some (some (.ref f10)))
    (ti10 : PySem.W.typeIn K (.ref f10) = some (.type "function"))
    (kc10 : PySem.W.keepIn K (.ref C10) = true)
    (ec10 : PySem.W.subIn K (.ref C10) (.type "BaseException") = some true)
    (tc10 : PySem.W.typeIn K (.ref C10) = some (.type "type"))
    (hc10 : PySem.W.hasDictIn K C10 = true)
    (ic10 : PySem.W.isClsIn K C10 = true)
    (sc10 : PySem.W.subIn K (.ref C10) (.ref C10) = some true)
    (l10 : K.lookup f10 = some ⟨oc10, od10, .func (PySem.W.fnOf "__init__" "BadSizes.__init__" (defArgs s_BadSizes) (defBody s_BadSizes) (defScope s_BadSizes) .none kV10 dc10 pm10 an10 cd10 ct10), sl10⟩)
    (c10 : PySem.W.codeIn K cd10 "BadSizes.__init__" = true) (k10 : PySem.W.keepIn K (.ref f10) = true)
    (a11 : PySem.W.nsIn K mainGlobals "NoPart" = some (some (.ref C11)))
    (x11 : K.lookup C11 = some (excClassObj nm11 q11 C11 N11 bs11 [.ref B11, .type "ValueError", .type "Exception", .type "BaseException", .type "object"] true sn11 sub11 ab11 col11 dd11 m011 m111 m211 m311 m511 "ValueError.__new__"))
    (sa11 : PySem.W.findIn K (.ref C11) "__setattr__" = some (some (.builtin "object.__setattr__")))
    (ga11 : PySem.W.findIn K (.ref C11) "__getattribute__" = some (some (.builtin "BaseException.__getattribute__")))
    (gg11 : PySem.W.findIn K (.ref C11) "__getattr__" = some none)
    (nf11 : PySem.W.findIn K (.ref C11) "word" = some none)
    (ii11 : PySem.W.findIn K (.ref C11) "__init__" = some (some (.ref f11)))
    (ti11 : PySem.W.typeIn K (.ref f11) = some (.type "function"))
    (kc11 : PySem.W.keepIn K (.ref C11) = true)
    (ec11 : PySem.W.subIn K (.ref C11) (.type "BaseException") = some true)
    (tc11 : PySem.W.typeIn K (.ref C11) = some (.type "type"))
    (hc11 : PySem.W.hasDictIn K C11 = true)
    (ic11 : PySem.W.isClsIn K C11 = true)
    (sc11 : PySem.W.subIn K (.ref C11) (.ref C11) = some true)
    (l11 : K.lookup f11 = some ⟨oc11, od11, .func (PySem.W.fnOf "__init__" "NoPart.__init__" (defArgs s_NoPart) (defBody s_NoPart) (defScope s_NoPart) .none kV11 dc11 pm11 an11 cd11 ct11), sl11⟩)
    (c11 : PySem.W.codeIn K cd11 "NoPart.__init__" = true) (k11 : PySem.W.keepIn K (.ref f11) = true)
    (a12 : PySem.W.nsIn K mainGlobals "NotBehind" = some (some (.ref C12)))
    (x12 : K.lookup C12 = some (excClassObj nm12 q12 C12 N12 bs12 [.ref B12, .type "ValueError", .type "Exception", .type "BaseException", .type "object"] true sn12 sub12 ab12 col12 dd12 m012 m112 m212 m312 m512 "ValueError.__new__"))
    (sa12 : PySem.W.findIn K (.ref C12) "__setattr__" = some (some (.builtin "object.__setattr__")))
    (ga12 : PySem.W.findIn K (.ref C12) "__getattribute__" = some (some (.builtin "BaseException.__getattribute__")))
    (gg12 : PySem.W.findIn K (.ref C12) "__getattr__" = some none)
    (nf12 : PySem.W.findIn K (.ref C12) "one" = some none)
    (ii12 : PySem.W.findIn K (.ref C12) "__init__" = some (some (.ref f12)))
    (ti12 : PySem.W.typeIn K (.ref f12) = some (.type "function"))
    (kc12 : PySem.W.keepIn K (.ref C12) = true)
    (ec12 : PySem.W.subIn K (.ref C12) (.type "BaseException") = some true)
    (tc12 : PySem.W.typeIn K (.ref C12) = some (.type "type"))
    (hc12 : PySem.W.hasDictIn K C12 = true)
    (ic12 : PySem.W.isClsIn K C12 = true)
    (sc12 : PySem.W.subIn K (.ref C12) (.ref C12) = some true)
    (l12 : K.lookup f12 = some ⟨oc12, od12, .func (PySem.W.fnOf "__init__" "NotBehind.__init__" (defArgs s_NotBehind) (defBody s_NotBehind) (defScope s_NotBehind) .none kV12 dc12 pm12 an12 cd12 ct12), sl12⟩)
    (c12 : PySem.W.codeIn K cd12 "NotBehind.__init__" = true) (k12 : PySem.W.keepIn K (.ref f12) = true)
    (a13 : PySem.W.nsIn K mainGlobals "BadFar" = some (some (.ref C13)))
    (x13 : K.lookup C13 = some (excClassObj nm13 q13 C13 N13 bs13 [.ref B13, .type "ValueError", .type "Exception", .type "BaseException", .type "object"] true sn13 sub13 ab13 col13 dd13 m013 m113 m213 m313 m513 "ValueError.__new__"))
    (sa13 : PySem.W.findIn K (.ref C13) "__setattr__" = some (some (.builtin "object.__setattr__")))
    (ga13 : PySem.W.findIn K (.ref C13) "__getattribute__" = some (some (.builtin "BaseException.__getattribute__")))
    (gg13 : PySem.W.findIn K (.ref C13) "__getattr__" = some none)
    (nf13 : PySem.W.findIn K (.ref C13) "far" = some none)
    (ii13 : PySem.W.findIn K (.ref C13) "__init__" = some (some (.ref f13)))
    (ti13 : PySem.W.typeIn K (.ref f13) = some (.type "function"))
    (kc13 : PySem.W.keepIn K (.ref C13) = true)
    (ec13 : PySem.W.subIn K (.ref C13) (.type "BaseException") = some true)
    (tc13 : PySem.W.typeIn K (.ref C13) = some (.type "type"))
    (hc13 : PySem.W.hasDictIn K C13 = true)
    (ic13 : PySem.W.isClsIn K C13 = true)
    (sc13 : PySem.W.subIn K (.ref C13) (.ref C13) = some true)
    (l13 : K.lookup f13 = some ⟨oc13, od13, .func (PySem.W.fnOf "__init__" "BadFar.__init__" (defArgs s_BadFar) (defBody s_BadFar) (defScope s_BadFar) .none kV13 dc13 pm13 an13 cd13 ct13), sl13⟩)
    (c13 : PySem.W.codeIn K cd13 "BadFar.__init__" = true) (k13 : PySem.W.keepIn K (.ref f13) = true)
    (a1 : PySem.W.nsIn K mainGlobals "LETTERS" = some (some (.str "abcdefghijklmnopqrstuvwxyz" t1)))
    (a14 : PySem.W.nsIn K mainGlobals "RIGHTS" = some (some (.ref f14)))
    (l14 : K.lookup f14 = some ⟨.type "tuple", od14, .seq its14 nn14, sl14⟩)
    (v14 : Vals [.str "r", .str "rw", .str "rx"] its14.toList)
    (w14 : its14.size ≤ sizeLine)
    (a15 : PySem.W.nsIn K mainGlobals "ALIGNS" = some (some (.ref f15)))
    (l15 : K.lookup f15 = some ⟨.type "tuple", od15, .seq its15 nn15, sl15⟩)
    (v15 : Vals [.int 1, .int 2, .int 4, .int 8, .int 16, .int 32, .int 64] its15.toList)
    (w15 : its15.size ≤ sizeLine)
    (a17 : PySem.W.nsIn K mainGlobals "PAGES" = some (some (.ref f17)))
    (l17 : K.lookup f17 = some ⟨.type "tuple", od17, .seq its17 nn17, sl17⟩)
    (v17 : Vals [.int 8, .int 16, .int 32, .int 64] its17.toList)
    (w17 : its17.size ≤ sizeLine)
    (a19 : PySem.W.nsIn K mainGlobals "Plan" = some (some (.ref C19)))
    (pg19 : PySem.W.plainGet K C19 Str.empty = true)
    (hd19 : PySem.W.hasDictIn K C19 = true)
    (po19 : PySem.W.plainOver K C19 = true)
    (sa19 : PySem.W.findIn K (.ref C19) "__setattr__" = some (some (.builtin "object.__setattr__")))
    (mk19 : PySem.W.makesIn K C19 = true)
    (kc19 : PySem.W.keepIn K (.ref C19) = true)
    (no19_0 : PySem.W.findIn K (.ref C19) "kept_page" = some none)
    (no19_1 : PySem.W.findIn K (.ref C19) "kept_parts" = some none)
    (a1380 : PySem.W.findIn K (.ref C19) "__init__" = some (some (.ref f1380)))
    (i1380 : PySem.W.isFn K (.ref f1380) = true)
    (l1380 : K.lookup f1380 = some ⟨oc1380, od1380, .func (PySem.W.fnOf "__init__" "Plan.__init__" (defArgs s_Plan___init__) (defBody s_Plan___init__) (defScope s_Plan___init__) .none kV1380 dc1380 pm1380 an1380 cd1380 ct1380), sl1380⟩)
    (c1380 : PySem.W.codeIn K cd1380 "Plan.__init__" = true) (k1380 : PySem.W.keepIn K (.ref f1380) = true)
    (a1381 : PySem.W.findIn K (.ref C19) "page" = some (some (.ref f1381)))
    (i1381 : PySem.W.isFn K (.ref f1381) = true)
    (l1381 : K.lookup f1381 = some ⟨oc1381, od1381, .func (PySem.W.fnOf "page" "Plan.page" (defArgs s_Plan_page) (defBody s_Plan_page) (defScope s_Plan_page) .none kV1381 dc1381 pm1381 an1381 cd1381 ct1381), sl1381⟩)
    (c1381 : PySem.W.codeIn K cd1381 "Plan.page" = true) (k1381 : PySem.W.keepIn K (.ref f1381) = true)
    (a1382 : PySem.W.findIn K (.ref C19) "parts" = some (some (.ref f1382)))
    (i1382 : PySem.W.isFn K (.ref f1382) = true)
    (l1382 : K.lookup f1382 = some ⟨oc1382, od1382, .func (PySem.W.fnOf "parts" "Plan.parts" (defArgs s_Plan_parts) (defBody s_Plan_parts) (defScope s_Plan_parts) .none kV1382 dc1382 pm1382 an1382 cd1382 ct1382), sl1382⟩)
    (c1382 : PySem.W.codeIn K cd1382 "Plan.parts" = true) (k1382 : PySem.W.keepIn K (.ref f1382) = true)
    (a1383 : PySem.W.findIn K (.ref C19) "__eq__" = some (some (.ref f1383)))
    (i1383 : PySem.W.isFn K (.ref f1383) = true)
    (l1383 : K.lookup f1383 = some ⟨oc1383, od1383, .func (PySem.W.fnOf "__eq__" "Plan.__eq__" (defArgs s_Plan___eq__) (defBody s_Plan___eq__) (defScope s_Plan___eq__) .none kV1383 dc1383 pm1383 an1383 cd1383 ct1383), sl1383⟩)
    (c1383 : PySem.W.codeIn K cd1383 "Plan.__eq__" = true) (k1383 : PySem.W.keepIn K (.ref f1383) = true)
    (z0 : PySem.W.nsIn K mainGlobals "all" = some none)
    (z1 : PySem.W.nsIn K mainGlobals "any" = some none)
    (z2 : PySem.W.nsIn K mainGlobals "bool" = some none)
    (z3 : PySem.W.nsIn K mainGlobals "dict" = some none)
    (z4 : PySem.W.nsIn K mainGlobals "enumerate" = some none)
    (z5 : PySem.W.nsIn K mainGlobals "int" = some none)
    (z6 : PySem.W.nsIn K mainGlobals "isinstance" = some none)
    (z7 : PySem.W.nsIn K mainGlobals "len" = some none)
    (z8 : PySem.W.nsIn K mainGlobals "list" = some none)
    (z9 : PySem.W.nsIn K mainGlobals "max" = some none)
    (z10 : PySem.W.nsIn K mainGlobals "min" = some none)
    (z11 : PySem.W.nsIn K mainGlobals "range" = some none)
    (z12 : PySem.W.nsIn K mainGlobals "sorted" = some none)
    (z13 : PySem.W.nsIn K mainGlobals "str" = some none)
    (z14 : PySem.W.nsIn K mainGlobals "sum" = some none)
    (z15 : PySem.W.nsIn K mainGlobals "tuple" = some none)
    (z16 : PySem.W.nsIn K mainGlobals "zip" = some none) :
    ∃ fd : FuncData, (∀ (s : Shared) (v : Value), BindsTo s fd ⟨[v], []⟩ [("_law_script", v)]) ∧ ∀ base : Heap, K.In base → base.Ns mainGlobals mg → FnOk l.prog w K mg base CX0 6 fa fd ["_law_script"] (sp_law K) := by
  have e := hfa.symm.trans (PySem.W.mg_of X G a52)
  cases e
  let ad : Nat → Addr := fun n => match n with | 2 => f2 | 3 => f3 | 4 => f4 | 5 => f5 | 18 => f18 | 20 => f20 | 21 => f21 | 22 => f22 | 24 => f24 | 25 => f25 | 26 => f26 | 27 => f27 | 28 => f28 | 29 => f29 | 30 => f30 | 31 => f31 | 32 => f32 | 33 => f33 | 34 => f34 | 35 => f35 | 36 => f36 | 38 => f38 | 39 => f39 | 40 => f40 | 41 => f41 | 42 => f42 | 43 => f43 | 44 => f44 | 45 => f45 | 46 => f46 | 47 => f47 | 48 => f48 | 49 => f49 | 50 => f50 | 51 => f51 | 52 => fa | 8 => C8 | 9 => C9 | 10 => C10 | 11 => C11 | 12 => C12 | 13 => C13 | 14 => f14 | 15 => f15 | 17 => f17 | 19 => C19 | _ => 0
  let ai : Nat → Addr := fun n => match n with | 8 => f8 | 9 => f9 | 10 => f10 | 11 => f11 | 12 => f12 | 13 => f13 | 1380 => f1380 | 1381 => f1381 | 1382 => f1382 | 1383 => f1383 | _ => 0
  let fd : Nat → FuncData := fun n => match n with | 2 => PySem.W.fnOf "is_integer" "is_integer" (defArgs s_is_integer) (defBody s_is_integer) (defScope s_is_integer) .none kV2 dc2 pm2 an2 cd2 ct2 | 3 => PySem.W.fnOf "is_natural" "is_natural" (defArgs s_is_natural) (defBody s_is_natural) (defScope s_is_natural) .none kV3 dc3 pm3 an3 cd3 ct3 | 4 => PySem.W.fnOf "is_list" "is_list" (defArgs s_is_list) (defBody s_is_list) (defScope s_is_list) .none kV4 dc4 pm4 an4 cd4 ct4 | 5 => PySem.W.fnOf "is_word" "is_word" (defArgs s_is_word) (defBody s_is_word) (defScope s_is_word) .none kV5 dc5 pm5 an5 cd5 ct5 | 18 => PySem.W.fnOf "is_part" "is_part" (defArgs s_is_part) (defBody s_is_part) (defScope s_is_part) .none kV18 dc18 pm18 an18 cd18 ct18 | 20 => PySem.W.fnOf "checked_sizes" "checked_sizes" (defArgs s_checked_sizes) (defBody s_checked_sizes) (defScope s_checked_sizes) .none kV20 dc20 pm20 an20 cd20 ct20 | 21 => PySem.W.fnOf "lifted" "lifted" (defArgs s_lifted) (defBody s_lifted) (defScope s_lifted) .none kV21 dc21 pm21 an21 cd21 ct21 | 22 => PySem.W.fnOf "lowest" "lowest" (defArgs s_lowest) (defBody s_lowest) (defScope s_lowest) .none kV22 dc22 pm22 an22 cd22 ct22 | 24 => PySem.W.fnOf "number_of" "number_of" (defArgs s_number_of) (defBody s_number_of) (defScope s_number_of) .none kV24 dc24 pm24 an24 cd24 ct24 | 25 => PySem.W.fnOf "checked_two" "checked_two" (defArgs s_checked_two) (defBody s_checked_two) (defScope s_checked_two) .none kV25 dc25 pm25 an25 cd25 ct25 | 26 => PySem.W.fnOf "checked_far" "checked_far" (defArgs s_checked_far) (defBody s_checked_far) (defScope s_checked_far) .none kV26 dc26 pm26 an26 cd26 ct26 | 27 => PySem.W.fnOf "leasts" "leasts" (defArgs s_leasts) (defBody s_leasts) (defScope s_leasts) .none kV27 dc27 pm27 an27 cd27 ct27 | 28 => PySem.W.fnOf "mosts" "mosts" (defArgs s_mosts) (defBody s_mosts) (defScope s_mosts) .none kV28 dc28 pm28 an28 cd28 ct28 | 29 => PySem.W.fnOf "rests_at" "rests_at" (defArgs s_rests_at) (defBody s_rests_at) (defScope s_rests_at) .none kV29 dc29 pm29 an29 cd29 ct29 | 30 => PySem.W.fnOf "address_behind" "address_behind" (defArgs s_address_behind) (defBody s_address_behind) (defScope s_address_behind) .none kV30 dc30 pm30 an30 cd30 ct30 | 31 => PySem.W.fnOf "reach_at_most" "reach_at_most" (defArgs s_reach_at_most) (defBody s_reach_at_most) (defScope s_reach_at_most) .none kV31 dc31 pm31 an31 cd31 ct31 | 32 => PySem.W.fnOf "bounds_hold" "bounds_hold" (defArgs s_bounds_hold) (defBody s_bounds_hold) (defScope s_bounds_hold) .none kV32 dc32 pm32 an32 cd32 ct32 | 33 => PySem.W.fnOf "rows_between" "rows_between" (defArgs s_rows_between) (defBody s_rows_between) (defScope s_rows_between) .none kV33 dc33 pm33 an33 cd33 ct33 | 34 => PySem.W.fnOf "is_within" "is_within" (defArgs s_is_within) (defBody s_is_within) (defScope s_is_within) .none kV34 dc34 pm34 an34 cd34 ct34 | 35 => PySem.W.fnOf "greatest_rows" "greatest_rows" (defArgs s_greatest_rows) (defBody s_greatest_rows) (defScope s_greatest_rows) .none kV35 dc35 pm35 an35 cd35 ct35 | 36 => PySem.W.fnOf "greatest_bounds" "greatest_bounds" (defArgs s_greatest_bounds) (defBody s_greatest_bounds) (defScope s_greatest_bounds) .none kV36 dc36 pm36 an36 cd36 ct36 | 38 => PySem.W.fnOf "_law_source" "_law_source" (defArgs s_law_source) (defBody s_law_source) (defScope s_law_source) .none kV38 dc38 pm38 an38 cd38 ct38 | 39 => PySem.W.fnOf "_law_draw" "_law_draw" (defArgs s_law_draw) (defBody s_law_draw) (defScope s_law_draw) .none kV39 dc39 pm39 an39 cd39 ct39 | 40 => PySem.W.fnOf "_law_pick" "_law_pick" (defArgs s_law_pick) (defBody s_law_pick) (defScope s_law_pick) .none kV40 dc40 pm40 an40 cd40 ct40 | 41 => PySem.W.fnOf "_law_mixed" "_law_mixed" (defArgs s_law_mixed) (defBody s_law_mixed) (defScope s_law_mixed) .none kV41 dc41 pm41 an41 cd41 ct41 | 42 => PySem.W.fnOf "_law_loose" "_law_loose" (defArgs s_law_loose) (defBody s_law_loose) (defScope s_law_loose) .none kV42 dc42 pm42 an42 cd42 ct42 | 43 => PySem.W.fnOf "_law_same" "_law_same" (defArgs s_law_same) (defBody s_law_same) (defScope s_law_same) .none kV43 dc43 pm43 an43 cd43 ct43 | 44 => PySem.W.fnOf "_law_parts" "_law_parts" (defArgs s_law_parts) (defBody s_law_parts) (defScope s_law_parts) .none kV44 dc44 pm44 an44 cd44 ct44 | 45 => PySem.W.fnOf "_law_lowest" "_law_lowest" (defArgs s_law_lowest) (defBody s_law_lowest) (defScope s_law_lowest) .none kV45 dc45 pm45 an45 cd45 ct45 | 46 => PySem.W.fnOf "_law_addresses" "_law_addresses" (defArgs s_law_addresses) (defBody s_law_addresses) (defScope s_law_addresses) .none kV46 dc46 pm46 an46 cd46 ct46 | 47 => PySem.W.fnOf "_law_rows" "_law_rows" (defArgs s_law_rows) (defBody s_law_rows) (defScope s_law_rows) .none kV47 dc47 pm47 an47 cd47 ct47 | 48 => PySem.W.fnOf "_law_all_sizes" "_law_all_sizes" (defArgs s_law_all_sizes) (defBody s_law_all_sizes) (defScope s_law_all_sizes) .none kV48 dc48 pm48 an48 cd48 ct48 | 49 => PySem.W.fnOf "_law_few" "_law_few" (defArgs s_law_few) (defBody s_law_few) (defScope s_law_few) .none kV49 dc49 pm49 an49 cd49 ct49 | 50 => PySem.W.fnOf "_law_is_below" "_law_is_below" (defArgs s_law_is_below) (defBody s_law_is_below) (defScope s_law_is_below) .none kV50 dc50 pm50 an50 cd50 ct50 | 51 => PySem.W.fnOf "_law_reach" "_law_reach" (defArgs s_law_reach) (defBody s_law_reach) (defScope s_law_reach) .none kV51 dc51 pm51 an51 cd51 ct51 | 52 => PySem.W.fnOf "law" "law" (defArgs s_law) (defBody s_law) (defScope s_law) .none kV52 dc52 pm52 an52 cd52 ct52 | 8 => PySem.W.fnOf "__init__" "BadPage.__init__" (defArgs s_BadPage) (defBody s_BadPage) (defScope s_BadPage) .none kV8 dc8 pm8 an8 cd8 ct8 | 9 => PySem.W.fnOf "__init__" "BadPart.__init__" (defArgs s_BadPart) (defBody s_BadPart) (defScope s_BadPart) .none kV9 dc9 pm9 an9 cd9 ct9 | 10 => PySem.W.fnOf "__init__" "BadSizes.__init__" (defArgs s_BadSizes) (defBody s_BadSizes) (defScope s_BadSizes) .none kV10 dc10 pm10 an10 cd10 ct10 | 11 => PySem.W.fnOf "__init__" "NoPart.__init__" (defArgs s_NoPart) (defBody s_NoPart) (defScope s_NoPart) .none kV11 dc11 pm11 an11 cd11 ct11 | 12 => PySem.W.fnOf "__init__" "NotBehind.__init__" (defArgs s_NotBehind) (defBody s_NotBehind) (defScope s_NotBehind) .none kV12 dc12 pm12 an12 cd12 ct12 | 13 => PySem.W.fnOf "__init__" "BadFar.__init__" (defArgs s_BadFar) (defBody s_BadFar) (defScope s_BadFar) .none kV13 dc13 pm13 an13 cd13 ct13 | 1380 => PySem.W.fnOf "__init__" "Plan.__init__" (defArgs s_Plan___init__) (defBody s_Plan___init__) (defScope s_Plan___init__) .none kV1380 dc1380 pm1380 an1380 cd1380 ct1380 | 1381 => PySem.W.fnOf "page" "Plan.page" (defArgs s_Plan_page) (defBody s_Plan_page) (defScope s_Plan_page) .none kV1381 dc1381 pm1381 an1381 cd1381 ct1381 | 1382 => PySem.W.fnOf "parts" "Plan.parts" (defArgs s_Plan_parts) (defBody s_Plan_parts) (defScope s_Plan_parts) .none kV1382 dc1382 pm1382 an1382 cd1382 ct1382 | 1383 => PySem.W.fnOf "__eq__" "Plan.__eq__" (defArgs s_Plan___eq__) (defBody s_Plan___eq__) (defScope s_Plan___eq__) .none kV1383 dc1383 pm1383 an1383 cd1383 ct1383 | _ => PySem.W.fnOf "law" "law" (defArgs s_law) (defBody s_law) (defScope s_law) .none kV52 dc52 pm52 an52 cd52 ct52
  have F2 : Fun K "is_integer" "is_integer" s_is_integer f2 (PySem.W.fnOf "is_integer" "is_integer" (defArgs s_is_integer) (defBody s_is_integer) (defScope s_is_integer) .none kV2 dc2 pm2 an2 cd2 ct2) := fun_mk (st := s_is_integer) l2 c2 k2
  have F3 : Fun K "is_natural" "is_natural" s_is_natural f3 (PySem.W.fnOf "is_natural" "is_natural" (defArgs s_is_natural) (defBody s_is_natural) (defScope s_is_natural) .none kV3 dc3 pm3 an3 cd3 ct3) := fun_mk (st := s_is_natural) l3 c3 k3
  have F4 : Fun K "is_list" "is_list" s_is_list f4 (PySem.W.fnOf "is_list" "is_list" (defArgs s_is_list) (defBody s_is_list) (defScope s_is_list) .none kV4 dc4 pm4 an4 cd4 ct4) := fun_mk (st := s_is_list) l4 c4 k4
  have F5 : Fun K "is_word" "is_word" s_is_word f5 (PySem.W.fnOf "is_word" "is_word" (defArgs s_is_word) (defBody s_is_word) (defScope s_is_word) .none kV5 dc5 pm5 an5 cd5 ct5) := fun_mk (st := s_is_word) l5 c5 k5
  have F18 : Fun K "is_part" "is_part" s_is_part f18 (PySem.W.fnOf "is_part" "is_part" (defArgs s_is_part) (defBody s_is_part) (defScope s_is_part) .none kV18 dc18 pm18 an18 cd18 ct18) := fun_mk (st := s_is_part) l18 c18 k18
  have F20 : Fun K "checked_sizes" "checked_sizes" s_checked_sizes f20 (PySem.W.fnOf "checked_sizes" "checked_sizes" (defArgs s_checked_sizes) (defBody s_checked_sizes) (defScope s_checked_sizes) .none kV20 dc20 pm20 an20 cd20 ct20) := fun_mk (st := s_checked_sizes) l20 c20 k20
  have F21 : Fun K "lifted" "lifted" s_lifted f21 (PySem.W.fnOf "lifted" "lifted" (defArgs s_lifted) (defBody s_lifted) (defScope s_lifted) .none kV21 dc21 pm21 an21 cd21 ct21) := fun_mk (st := s_lifted) l21 c21 k21
  have F22 : Fun K "lowest" "lowest" s_lowest f22 (PySem.W.fnOf "lowest" "lowest" (defArgs s_lowest) (defBody s_lowest) (defScope s_lowest) .none kV22 dc22 pm22 an22 cd22 ct22) := fun_mk (st := s_lowest) l22 c22 k22
  have F24 : Fun K "number_of" "number_of" s_number_of f24 (PySem.W.fnOf "number_of" "number_of" (defArgs s_number_of) (defBody s_number_of) (defScope s_number_of) .none kV24 dc24 pm24 an24 cd24 ct24) := fun_mk (st := s_number_of) l24 c24 k24
  have F25 : Fun K "checked_two" "checked_two" s_checked_two f25 (PySem.W.fnOf "checked_two" "checked_two" (defArgs s_checked_two) (defBody s_checked_two) (defScope s_checked_two) .none kV25 dc25 pm25 an25 cd25 ct25) := fun_mk (st := s_checked_two) l25 c25 k25
  have F26 : Fun K "checked_far" "checked_far" s_checked_far f26 (PySem.W.fnOf "checked_far" "checked_far" (defArgs s_checked_far) (defBody s_checked_far) (defScope s_checked_far) .none kV26 dc26 pm26 an26 cd26 ct26) := fun_mk (st := s_checked_far) l26 c26 k26
  have F27 : Fun K "leasts" "leasts" s_leasts f27 (PySem.W.fnOf "leasts" "leasts" (defArgs s_leasts) (defBody s_leasts) (defScope s_leasts) .none kV27 dc27 pm27 an27 cd27 ct27) := fun_mk (st := s_leasts) l27 c27 k27
  have F28 : Fun K "mosts" "mosts" s_mosts f28 (PySem.W.fnOf "mosts" "mosts" (defArgs s_mosts) (defBody s_mosts) (defScope s_mosts) .none kV28 dc28 pm28 an28 cd28 ct28) := fun_mk (st := s_mosts) l28 c28 k28
  have F29 : Fun K "rests_at" "rests_at" s_rests_at f29 (PySem.W.fnOf "rests_at" "rests_at" (defArgs s_rests_at) (defBody s_rests_at) (defScope s_rests_at) .none kV29 dc29 pm29 an29 cd29 ct29) := fun_mk (st := s_rests_at) l29 c29 k29
  have F30 : Fun K "address_behind" "address_behind" s_address_behind f30 (PySem.W.fnOf "address_behind" "address_behind" (defArgs s_address_behind) (defBody s_address_behind) (defScope s_address_behind) .none kV30 dc30 pm30 an30 cd30 ct30) := fun_mk (st := s_address_behind) l30 c30 k30
  have F31 : Fun K "reach_at_most" "reach_at_most" s_reach_at_most f31 (PySem.W.fnOf "reach_at_most" "reach_at_most" (defArgs s_reach_at_most) (defBody s_reach_at_most) (defScope s_reach_at_most) .none kV31 dc31 pm31 an31 cd31 ct31) := fun_mk (st := s_reach_at_most) l31 c31 k31
  have F32 : Fun K "bounds_hold" "bounds_hold" s_bounds_hold f32 (PySem.W.fnOf "bounds_hold" "bounds_hold" (defArgs s_bounds_hold) (defBody s_bounds_hold) (defScope s_bounds_hold) .none kV32 dc32 pm32 an32 cd32 ct32) := fun_mk (st := s_bounds_hold) l32 c32 k32
  have F33 : Fun K "rows_between" "rows_between" s_rows_between f33 (PySem.W.fnOf "rows_between" "rows_between" (defArgs s_rows_between) (defBody s_rows_between) (defScope s_rows_between) .none kV33 dc33 pm33 an33 cd33 ct33) := fun_mk (st := s_rows_between) l33 c33 k33
  have F34 : Fun K "is_within" "is_within" s_is_within f34 (PySem.W.fnOf "is_within" "is_within" (defArgs s_is_within) (defBody s_is_within) (defScope s_is_within) .none kV34 dc34 pm34 an34 cd34 ct34) := fun_mk (st := s_is_within) l34 c34 k34
  have F35 : Fun K "greatest_rows" "greatest_rows" s_greatest_rows f35 (PySem.W.fnOf "greatest_rows" "greatest_rows" (defArgs s_greatest_rows) (defBody s_greatest_rows) (defScope s_greatest_rows) .none kV35 dc35 pm35 an35 cd35 ct35) := fun_mk (st := s_greatest_rows) l35 c35 k35
  have F36 : Fun K "greatest_bounds" "greatest_bounds" s_greatest_bounds f36 (PySem.W.fnOf "greatest_bounds" "greatest_bounds" (defArgs s_greatest_bounds) (defBody s_greatest_bounds) (defScope s_greatest_bounds) .none kV36 dc36 pm36 an36 cd36 ct36) := fun_mk (st := s_greatest_bounds) l36 c36 k36
  have F38 : Fun K "_law_source" "_law_source" s_law_source f38 (PySem.W.fnOf "_law_source" "_law_source" (defArgs s_law_source) (defBody s_law_source) (defScope s_law_source) .none kV38 dc38 pm38 an38 cd38 ct38) := fun_mk (st := s_law_source) l38 c38 k38
  have F39 : Fun K "_law_draw" "_law_draw" s_law_draw f39 (PySem.W.fnOf "_law_draw" "_law_draw" (defArgs s_law_draw) (defBody s_law_draw) (defScope s_law_draw) .none kV39 dc39 pm39 an39 cd39 ct39) := fun_mk (st := s_law_draw) l39 c39 k39
  have F40 : Fun K "_law_pick" "_law_pick" s_law_pick f40 (PySem.W.fnOf "_law_pick" "_law_pick" (defArgs s_law_pick) (defBody s_law_pick) (defScope s_law_pick) .none kV40 dc40 pm40 an40 cd40 ct40) := fun_mk (st := s_law_pick) l40 c40 k40
  have F41 : Fun K "_law_mixed" "_law_mixed" s_law_mixed f41 (PySem.W.fnOf "_law_mixed" "_law_mixed" (defArgs s_law_mixed) (defBody s_law_mixed) (defScope s_law_mixed) .none kV41 dc41 pm41 an41 cd41 ct41) := fun_mk (st := s_law_mixed) l41 c41 k41
  have F42 : Fun K "_law_loose" "_law_loose" s_law_loose f42 (PySem.W.fnOf "_law_loose" "_law_loose" (defArgs s_law_loose) (defBody s_law_loose) (defScope s_law_loose) .none kV42 dc42 pm42 an42 cd42 ct42) := fun_mk (st := s_law_loose) l42 c42 k42
  have F43 : Fun K "_law_same" "_law_same" s_law_same f43 (PySem.W.fnOf "_law_same" "_law_same" (defArgs s_law_same) (defBody s_law_same) (defScope s_law_same) .none kV43 dc43 pm43 an43 cd43 ct43) := fun_mk (st := s_law_same) l43 c43 k43
  have F44 : Fun K "_law_parts" "_law_parts" s_law_parts f44 (PySem.W.fnOf "_law_parts" "_law_parts" (defArgs s_law_parts) (defBody s_law_parts) (defScope s_law_parts) .none kV44 dc44 pm44 an44 cd44 ct44) := fun_mk (st := s_law_parts) l44 c44 k44
  have F45 : Fun K "_law_lowest" "_law_lowest" s_law_lowest f45 (PySem.W.fnOf "_law_lowest" "_law_lowest" (defArgs s_law_lowest) (defBody s_law_lowest) (defScope s_law_lowest) .none kV45 dc45 pm45 an45 cd45 ct45) := fun_mk (st := s_law_lowest) l45 c45 k45
  have F46 : Fun K "_law_addresses" "_law_addresses" s_law_addresses f46 (PySem.W.fnOf "_law_addresses" "_law_addresses" (defArgs s_law_addresses) (defBody s_law_addresses) (defScope s_law_addresses) .none kV46 dc46 pm46 an46 cd46 ct46) := fun_mk (st := s_law_addresses) l46 c46 k46
  have F47 : Fun K "_law_rows" "_law_rows" s_law_rows f47 (PySem.W.fnOf "_law_rows" "_law_rows" (defArgs s_law_rows) (defBody s_law_rows) (defScope s_law_rows) .none kV47 dc47 pm47 an47 cd47 ct47) := fun_mk (st := s_law_rows) l47 c47 k47
  have F48 : Fun K "_law_all_sizes" "_law_all_sizes" s_law_all_sizes f48 (PySem.W.fnOf "_law_all_sizes" "_law_all_sizes" (defArgs s_law_all_sizes) (defBody s_law_all_sizes) (defScope s_law_all_sizes) .none kV48 dc48 pm48 an48 cd48 ct48) := fun_mk (st := s_law_all_sizes) l48 c48 k48
  have F49 : Fun K "_law_few" "_law_few" s_law_few f49 (PySem.W.fnOf "_law_few" "_law_few" (defArgs s_law_few) (defBody s_law_few) (defScope s_law_few) .none kV49 dc49 pm49 an49 cd49 ct49) := fun_mk (st := s_law_few) l49 c49 k49
  have F50 : Fun K "_law_is_below" "_law_is_below" s_law_is_below f50 (PySem.W.fnOf "_law_is_below" "_law_is_below" (defArgs s_law_is_below) (defBody s_law_is_below) (defScope s_law_is_below) .none kV50 dc50 pm50 an50 cd50 ct50) := fun_mk (st := s_law_is_below) l50 c50 k50
  have F51 : Fun K "_law_reach" "_law_reach" s_law_reach f51 (PySem.W.fnOf "_law_reach" "_law_reach" (defArgs s_law_reach) (defBody s_law_reach) (defScope s_law_reach) .none kV51 dc51 pm51 an51 cd51 ct51) := fun_mk (st := s_law_reach) l51 c51 k51
  have F52 : Fun K "law" "law" s_law fa (PySem.W.fnOf "law" "law" (defArgs s_law) (defBody s_law) (defScope s_law) .none kV52 dc52 pm52 an52 cd52 ct52) := fun_mk (st := s_law) l52 c52 k52
  have F8 : Fun K "__init__" "BadPage.__init__" s_BadPage f8 (PySem.W.fnOf "__init__" "BadPage.__init__" (defArgs s_BadPage) (defBody s_BadPage) (defScope s_BadPage) .none kV8 dc8 pm8 an8 cd8 ct8) := fun_mk (st := s_BadPage) l8 c8 k8
  have F9 : Fun K "__init__" "BadPart.__init__" s_BadPart f9 (PySem.W.fnOf "__init__" "BadPart.__init__" (defArgs s_BadPart) (defBody s_BadPart) (defScope s_BadPart) .none kV9 dc9 pm9 an9 cd9 ct9) := fun_mk (st := s_BadPart) l9 c9 k9
  have F10 : Fun K "__init__" "BadSizes.__init__" s_BadSizes f10 (PySem.W.fnOf "__init__" "BadSizes.__init__" (defArgs s_BadSizes) (defBody s_BadSizes) (defScope s_BadSizes) .none kV10 dc10 pm10 an10 cd10 ct10) := fun_mk (st := s_BadSizes) l10 c10 k10
  have F11 : Fun K "__init__" "NoPart.__init__" s_NoPart f11 (PySem.W.fnOf "__init__" "NoPart.__init__" (defArgs s_NoPart) (defBody s_NoPart) (defScope s_NoPart) .none kV11 dc11 pm11 an11 cd11 ct11) := fun_mk (st := s_NoPart) l11 c11 k11
  have F12 : Fun K "__init__" "NotBehind.__init__" s_NotBehind f12 (PySem.W.fnOf "__init__" "NotBehind.__init__" (defArgs s_NotBehind) (defBody s_NotBehind) (defScope s_NotBehind) .none kV12 dc12 pm12 an12 cd12 ct12) := fun_mk (st := s_NotBehind) l12 c12 k12
  have F13 : Fun K "__init__" "BadFar.__init__" s_BadFar f13 (PySem.W.fnOf "__init__" "BadFar.__init__" (defArgs s_BadFar) (defBody s_BadFar) (defScope s_BadFar) .none kV13 dc13 pm13 an13 cd13 ct13) := fun_mk (st := s_BadFar) l13 c13 k13
  have F1380 : Fun K "__init__" "Plan.__init__" s_Plan___init__ f1380 (PySem.W.fnOf "__init__" "Plan.__init__" (defArgs s_Plan___init__) (defBody s_Plan___init__) (defScope s_Plan___init__) .none kV1380 dc1380 pm1380 an1380 cd1380 ct1380) := fun_mk (st := s_Plan___init__) l1380 c1380 k1380
  have F1381 : Fun K "page" "Plan.page" s_Plan_page f1381 (PySem.W.fnOf "page" "Plan.page" (defArgs s_Plan_page) (defBody s_Plan_page) (defScope s_Plan_page) .none kV1381 dc1381 pm1381 an1381 cd1381 ct1381) := fun_mk (st := s_Plan_page) l1381 c1381 k1381
  have F1382 : Fun K "parts" "Plan.parts" s_Plan_parts f1382 (PySem.W.fnOf "parts" "Plan.parts" (defArgs s_Plan_parts) (defBody s_Plan_parts) (defScope s_Plan_parts) .none kV1382 dc1382 pm1382 an1382 cd1382 ct1382) := fun_mk (st := s_Plan_parts) l1382 c1382 k1382
  have F1383 : Fun K "__eq__" "Plan.__eq__" s_Plan___eq__ f1383 (PySem.W.fnOf "__eq__" "Plan.__eq__" (defArgs s_Plan___eq__) (defBody s_Plan___eq__) (defScope s_Plan___eq__) .none kV1383 dc1383 pm1383 an1383 cd1383 ct1383) := fun_mk (st := s_Plan___eq__) l1383 c1383 k1383
  have T : Txt K mg ad ai fd :=
    { F_is_integer := F2, g_is_integer := PySem.W.mg_of X G a2, b_is_integer := F2.binds (ps := ["thing"]) fun _ _ _ _ _ _ us hl => match us, hl with | [_], _ => rfl,
      F_is_natural := F3, g_is_natural := PySem.W.mg_of X G a3, b_is_natural := F3.binds (ps := ["thing"]) fun _ _ _ _ _ _ us hl => match us, hl with | [_], _ => rfl,
      F_is_list := F4, g_is_list := PySem.W.mg_of X G a4, b_is_list := F4.binds (ps := ["thing"]) fun _ _ _ _ _ _ us hl => match us, hl with | [_], _ => rfl,
      F_is_word := F5, g_is_word := PySem.W.mg_of X G a5, b_is_word := F5.binds (ps := ["thing"]) fun _ _ _ _ _ _ us hl => match us, hl with | [_], _ => rfl,
      F_is_part := F18, g_is_part := PySem.W.mg_of X G a18, b_is_part := F18.binds (ps := ["thing", "page", "met"]) fun _ _ _ _ _ _ us hl => match us, hl with | [_, _, _], _ => rfl,
      F_checked_sizes := F20, g_checked_sizes := PySem.W.mg_of X G a20, b_checked_sizes := F20.binds (ps := ["plan", "sizes"]) fun _ _ _ _ _ _ us hl => match us, hl with | [_, _], _ => rfl,
      F_lifted := F21, g_lifted := PySem.W.mg_of X G a21, b_lifted := F21.binds (ps := ["place", "step", "rest"]) fun _ _ _ _ _ _ us hl => match us, hl with | [_, _, _], _ => rfl,
      F_lowest := F22, g_lowest := PySem.W.mg_of X G a22, b_lowest := F22.binds (ps := ["plan", "number", "end"]) fun _ _ _ _ _ _ us hl => match us, hl with | [_, _, _], _ => rfl,
      F_number_of := F24, g_number_of := PySem.W.mg_of X G a24, b_number_of := F24.binds (ps := ["plan", "word"]) fun _ _ _ _ _ _ us hl => match us, hl with | [_, _], _ => rfl,
      F_checked_two := F25, g_checked_two := PySem.W.mg_of X G a25, b_checked_two := F25.binds (ps := ["plan", "one", "other"]) fun _ _ _ _ _ _ us hl => match us, hl with | [_, _, _], _ => rfl,
      F_checked_far := F26, g_checked_far := PySem.W.mg_of X G a26, b_checked_far := F26.binds (ps := ["far"]) fun _ _ _ _ _ _ us hl => match us, hl with | [_], _ => rfl,
      F_leasts := F27, g_leasts := PySem.W.mg_of X G a27, b_leasts := F27.binds (ps := ["plan"]) fun _ _ _ _ _ _ us hl => match us, hl with | [_], _ => rfl,
      F_mosts := F28, g_mosts := PySem.W.mg_of X G a28, b_mosts := F28.binds (ps := ["plan"]) fun _ _ _ _ _ _ us hl => match us, hl with | [_], _ => rfl,
      F_rests_at := F29, g_rests_at := PySem.W.mg_of X G a29, b_rests_at := F29.binds (ps := ["plan", "number", "bounds"]) fun _ _ _ _ _ _ us hl => match us, hl with | [_, _, _], _ => rfl,
      F_address_behind := F30, g_address_behind := PySem.W.mg_of X G a30, b_address_behind := F30.binds (ps := ["plan", "first", "second", "start", "sizes"]) fun _ _ _ _ _ _ us hl => match us, hl with | [_, _, _, _, _], _ => rfl,
      F_reach_at_most := F31, g_reach_at_most := PySem.W.mg_of X G a31, b_reach_at_most := F31.binds (ps := ["plan", "first", "second", "bounds"]) fun _ _ _ _ _ _ us hl => match us, hl with | [_, _, _, _], _ => rfl,
      F_bounds_hold := F32, g_bounds_hold := PySem.W.mg_of X G a32, b_bounds_hold := F32.binds (ps := ["plan", "bounds", "one", "other", "far"]) fun _ _ _ _ _ _ us hl => match us, hl with | [_, _, _, _, _], _ => rfl,
      F_rows_between := F33, g_rows_between := PySem.W.mg_of X G a33, b_rows_between := F33.binds (ps := ["low", "high"]) fun _ _ _ _ _ _ us hl => match us, hl with | [_, _], _ => rfl,
      F_is_within := F34, g_is_within := PySem.W.mg_of X G a34, b_is_within := F34.binds (ps := ["one", "other"]) fun _ _ _ _ _ _ us hl => match us, hl with | [_, _], _ => rfl,
      F_greatest_rows := F35, g_greatest_rows := PySem.W.mg_of X G a35, b_greatest_rows := F35.binds (ps := ["rows"]) fun _ _ _ _ _ _ us hl => match us, hl with | [_], _ => rfl,
      F_greatest_bounds := F36, g_greatest_bounds := PySem.W.mg_of X G a36, b_greatest_bounds := F36.binds (ps := ["plan", "one", "other", "far"]) fun _ _ _ _ _ _ us hl => match us, hl with | [_, _, _, _], _ => rfl,
      F_law_source := F38, g_law_source := PySem.W.mg_of X G a38, b_law_source := F38.binds (ps := ["_law_script", "_law_turn"]) fun _ _ _ _ _ _ us hl => match us, hl with | [_, _], _ => rfl,
      F_law_draw := F39, g_law_draw := PySem.W.mg_of X G a39, b_law_draw := F39.binds (ps := ["_law_source_here", "_law_many"]) fun _ _ _ _ _ _ us hl => match us, hl with | [_, _], _ => rfl,
      F_law_pick := F40, g_law_pick := PySem.W.mg_of X G a40, b_law_pick := F40.binds (ps := ["_law_source_here", "_law_things"]) fun _ _ _ _ _ _ us hl => match us, hl with | [_, _], _ => rfl,
      F_law_mixed := F41, g_law_mixed := PySem.W.mg_of X G a41, b_law_mixed := F41.binds (ps := ["_law_source_here", "_law_things"]) fun _ _ _ _ _ _ us hl => match us, hl with | [_, _], _ => rfl,
      F_law_loose := F42, g_law_loose := PySem.W.mg_of X G a42, b_law_loose := F42.binds (ps := ["_law_source_here", "_law_thing"]) fun _ _ _ _ _ _ us hl => match us, hl with | [_, _], _ => rfl,
      F_law_same := F43, g_law_same := PySem.W.mg_of X G a43, b_law_same := F43.binds (ps := ["_law_found", "_law_due"]) fun _ _ _ _ _ _ us hl => match us, hl with | [_, _], _ => rfl,
      F_law_parts := F44, g_law_parts := PySem.W.mg_of X G a44, b_law_parts := F44.binds (ps := ["_law_source_here", "_law_page", "_law_many", "_law_spread"]) fun _ _ _ _ _ _ us hl => match us, hl with | [_, _, _, _], _ => rfl,
      F_law_lowest := F45, g_law_lowest := PySem.W.mg_of X G a45, b_law_lowest := F45.binds (ps := ["_law_page", "_law_parts_here", "_law_k", "_law_end"]) fun _ _ _ _ _ _ us hl => match us, hl with | [_, _, _, _], _ => rfl,
      F_law_addresses := F46, g_law_addresses := PySem.W.mg_of X G a46, b_law_addresses := F46.binds (ps := ["_law_page", "_law_parts_here", "_law_sizes"]) fun _ _ _ _ _ _ us hl => match us, hl with | [_, _, _], _ => rfl,
      F_law_rows := F47, g_law_rows := PySem.W.mg_of X G a47, b_law_rows := F47.binds (ps := ["_law_low", "_law_high"]) fun _ _ _ _ _ _ us hl => match us, hl with | [_, _], _ => rfl,
      F_law_all_sizes := F48, g_law_all_sizes := PySem.W.mg_of X G a48, b_law_all_sizes := F48.binds (ps := ["_law_parts_here"]) fun _ _ _ _ _ _ us hl => match us, hl with | [_], _ => rfl,
      F_law_few := F49, g_law_few := PySem.W.mg_of X G a49, b_law_few := F49.binds (ps := ["_law_source_here", "_law_most"]) fun _ _ _ _ _ _ us hl => match us, hl with | [_, _], _ => rfl,
      F_law_is_below := F50, g_law_is_below := PySem.W.mg_of X G a50, b_law_is_below := F50.binds (ps := ["_law_one", "_law_other"]) fun _ _ _ _ _ _ us hl => match us, hl with | [_, _], _ => rfl,
      F_law_reach := F51, g_law_reach := PySem.W.mg_of X G a51, b_law_reach := F51.binds (ps := ["_law_page", "_law_parts_here", "_law_first", "_law_second", "_law_sizes"]) fun _ _ _ _ _ _ us hl => match us, hl with | [_, _, _, _, _], _ => rfl,
      F_law := F52, g_law := PySem.W.mg_of X G a52, b_law := F52.binds (ps := ["_law_script"]) fun _ _ _ _ _ _ us hl => match us, hl with | [_], _ => rfl,
      F_BadPage := F8, g_BadPage := PySem.W.mg_of X G a8, b_BadPage := F8.binds (ps := ["self", "thing"]) fun _ _ _ _ _ _ us hl => match us, hl with | [_, _], _ => rfl,
      e_BadPage := { oex := { cls := ⟨nm8, q8, N8, bs8, _, sn8, sub8, ab8, col8, dd8, m08, m18, m28, m38, m58, x8, rfl⟩, sa := sa8, exC := ec8, tyC := tc8, kC := kc8 }, xf := ⟨ga8, gg8, ec8, hc8⟩, no := nf8, iC := ii8, tI := ti8, te := exm_self ec8 ic8 tc8 sc8 },
      F_BadPart := F9, g_BadPart := PySem.W.mg_of X G a9, b_BadPart := F9.binds (ps := ["self", "index"]) fun _ _ _ _ _ _ us hl => match us, hl with | [_, _], _ => rfl,
      e_BadPart := { oex := { cls := ⟨nm9, q9, N9, bs9, _, sn9, sub9, ab9, col9, dd9, m09, m19, m29, m39, m59, x9, rfl⟩, sa := sa9, exC := ec9, tyC := tc9, kC := kc9 }, xf := ⟨ga9, gg9, ec9, hc9⟩, no := nf9, iC := ii9, tI := ti9, te := exm_self ec9 ic9 tc9 sc9 },
      F_BadSizes := F10, g_BadSizes := PySem.W.mg_of X G a10, b_BadSizes := F10.binds (ps := ["self", "index"]) fun _ _ _ _ _ _ us hl => match us, hl with | [_, _], _ => rfl,
      e_BadSizes := { oex := { cls := ⟨nm10, q10, N10, bs10, _, sn10, sub10, ab10, col10, dd10, m010, m110, m210, m310, m510, x10, rfl⟩, sa := sa10, exC := ec10, tyC := tc10, kC := kc10 }, xf := ⟨ga10, gg10, ec10, hc10⟩, no := nf10, iC := ii10, tI := ti10, te := exm_self ec10 ic10 tc10 sc10 },
      F_NoPart := F11, g_NoPart := PySem.W.mg_of X G a11, b_NoPart := F11.binds (ps := ["self", "word"]) fun _ _ _ _ _ _ us hl => match us, hl with | [_, _], _ => rfl,
      e_NoPart := { oex := { cls := ⟨nm11, q11, N11, bs11, _, sn11, sub11, ab11, col11, dd11, m011, m111, m211, m311, m511, x11, rfl⟩, sa := sa11, exC := ec11, tyC := tc11, kC := kc11 }, xf := ⟨ga11, gg11, ec11, hc11⟩, no := nf11, iC := ii11, tI := ti11, te := exm_self ec11 ic11 tc11 sc11 },
      F_NotBehind := F12, g_NotBehind := PySem.W.mg_of X G a12, b_NotBehind := F12.binds (ps := ["self", "one", "other"]) fun _ _ _ _ _ _ us hl => match us, hl with | [_, _, _], _ => rfl,
      e_NotBehind := { oex := { cls := ⟨nm12, q12, N12, bs12, _, sn12, sub12, ab12, col12, dd12, m012, m112, m212, m312, m512, x12, rfl⟩, sa := sa12, exC := ec12, tyC := tc12, kC := kc12 }, xf := ⟨ga12, gg12, ec12, hc12⟩, no := nf12, iC := ii12, tI := ti12, te := exm_self ec12 ic12 tc12 sc12 },
      F_BadFar := F13, g_BadFar := PySem.W.mg_of X G a13, b_BadFar := F13.binds (ps := ["self", "far"]) fun _ _ _ _ _ _ us hl => match us, hl with | [_, _], _ => rfl,
      e_BadFar := { oex := { cls := ⟨nm13, q13, N13, bs13, _, sn13, sub13, ab13, col13, dd13, m013, m113, m213, m313, m513, x13, rfl⟩, sa := sa13, exC := ec13, tyC := tc13, kC := kc13 }, xf := ⟨ga13, gg13, ec13, hc13⟩, no := nf13, iC := ii13, tI := ti13, te := exm_self ec13 ic13 tc13 sc13 },
      g_LETTERS := ⟨_, PySem.W.mg_of X G a1⟩,
      g_RIGHTS := PySem.W.mg_of X G a14, q_RIGHTS := fun _ => .inr ⟨_, _, _, l14, rfl, rfl, w14, v14⟩,
      g_ALIGNS := PySem.W.mg_of X G a15, q_ALIGNS := fun _ => .inr ⟨_, _, _, l15, rfl, rfl, w15, v15⟩,
      g_PAGES := PySem.W.mg_of X G a17, q_PAGES := fun _ => .inr ⟨_, _, _, l17, rfl, rfl, w17, v17⟩,
      g_Plan := PySem.W.mg_of X G a19, cl_Plan := ⟨pg19, hd19, po19, sa19⟩,
      no_Plan_kept_page := no19_0,
      no_Plan_kept_parts := no19_1,
      F_Plan___init__ := F1380, b_Plan___init__ := F1380.binds (ps := ["self", "page", "parts"]) fun _ _ _ _ _ _ us hl => match us, hl with | [_, _, _], _ => rfl, m_Plan___init__ := ⟨a1380, i1380, k1380⟩,
      mk_Plan := ⟨mk19, a1380, i1380, kc19⟩,
      F_Plan_page := F1381, b_Plan_page := F1381.binds (ps := ["self"]) fun _ _ _ _ _ _ us hl => match us, hl with | [_], _ => rfl, m_Plan_page := ⟨a1381, i1381, k1381⟩,
      F_Plan_parts := F1382, b_Plan_parts := F1382.binds (ps := ["self"]) fun _ _ _ _ _ _ us hl => match us, hl with | [_], _ => rfl, m_Plan_parts := ⟨a1382, i1382, k1382⟩,
      F_Plan___eq__ := F1383, b_Plan___eq__ := F1383.binds (ps := ["self", "other"]) fun _ _ _ _ _ _ us hl => match us, hl with | [_, _], _ => rfl, m_Plan___eq__ := ⟨a1383, i1383, k1383⟩,
      n_all := PySem.W.mg_none_of X G z0,
      n_any := PySem.W.mg_none_of X G z1,
      n_bool := PySem.W.mg_none_of X G z2,
      n_dict := PySem.W.mg_none_of X G z3,
      n_enumerate := PySem.W.mg_none_of X G z4,
      n_int := PySem.W.mg_none_of X G z5,
      n_isinstance := PySem.W.mg_none_of X G z6,
      n_len := PySem.W.mg_none_of X G z7,
      n_list := PySem.W.mg_none_of X G z8,
      n_max := PySem.W.mg_none_of X G z9,
      n_min := PySem.W.mg_none_of X G z10,
      n_range := PySem.W.mg_none_of X G z11,
      n_sorted := PySem.W.mg_none_of X G z12,
      n_str := PySem.W.mg_none_of X G z13,
      n_sum := PySem.W.mg_none_of X G z14,
      n_tuple := PySem.W.mg_none_of X G z15,
      n_zip := PySem.W.mg_none_of X G z16 }
  exact ⟨fd 52, fun s v => .of_eq rfl, fun base _ _ => ok_law T⟩
end Lk
open PySem PySem.W PyProof.Rows
set_option maxHeartbeats 0 in
theorem PySem.Challenge.cw_linklines_k70_whole_bounds_holds : PySem.Challenge.rw_linklines_k70_whole_bounds.Holds := by
  w_on; o_law; k_head; (case hw => w_witness2)
  k_fill
  refine L2.walk_of (l := PySem.Challenge.rw_linklines_k70_whole_bounds) (n := 63) (k := 6) (x := "_law_script") (CX := fun _ => L2.CX0) (sp := fun w => Lk.sp_law _) rfl (by decide) rfl ⟨rfl, by decide, by decide⟩ (fun w h Y => PySem.W.kIn_of Y) ?F (fun _ _ a ns hl _ hS => ⟨a, ns, rfl, hS, hl, fun _ => rfl⟩) (fun _ _ _ _ _ h => h)
  case F =>
    intro w mg fa h KX G hmg
    refine' Lk.all_mk KX G hmg ?a2 ?l2 ?c2 ?k2 ?a3 ?l3 ?c3 ?k3 ?a4 ?l4 ?c4 ?k4 ?a5 ?l5 ?c5 ?k5 ?a18 ?l18 ?c18 ?k18 ?a20 ?l20 ?c20 ?k20 ?a21 ?l21 ?c21 ?k21 ?a22 ?l22 ?c22 ?k22 ?a24 ?l24 ?c24 ?k24 ?a25 ?l25 ?c25 ?k25 ?a26 ?l26 ?c26 ?k26 ?a27 ?l27 ?c27 ?k27 ?a28 ?l28 ?c28 ?k28 ?a29 ?l29 ?c29 ?k29 ?a30 ?l30 ?c30 ?k30 ?a31 ?l31 ?c31 ?k31 ?a32 ?l32 ?c32 ?k32 ?a33 ?l33 ?c33 ?k33 ?a34 ?l34 ?c34 ?k34 ?a35 ?l35 ?c35 ?k35 ?a36 ?l36 ?c36 ?k36 ?a38 ?l38 ?c38 ?k38 ?a39 ?l39 ?c39 ?k39 ?a40 ?l40 ?c40 ?k40 ?a41 ?l41 ?c41 ?k41 ?a42 ?l42 ?c42 ?k42 ?a43 ?l43 ?c43 ?k43 ?a44 ?l44 ?c44 ?k44 ?a45 ?l45 ?c45 ?k45 ?a46 ?l46 ?c46 ?k46 ?a47 ?l47 ?c47 ?k47 ?a48 ?l48 ?c48 ?k48 ?a49 ?l49 ?c49 ?k49 ?a50 ?l50 ?c50 ?k50 ?a51 ?l51 ?c51 ?k51 ?a52 ?l52 ?c52 ?k52 ?a8 ?x8 ?sa8 ?ga8 ?gg8 ?nf8 ?ii8 ?ti8 ?kc8 ?ec8 ?tc8 ?hc8 ?ic8 ?sc8 ?l8 ?c8 ?k8 ?a9 ?x9 ?sa9 ?ga9 ?gg9 ?nf9 ?ii9 ?ti9 ?kc9 ?ec9 ?tc9 ?hc9 ?ic9 ?sc9 ?l9 ?c9 ?k9 ?a10 ?x10 ?sa10 ?ga10 ?gg10 ?nf10 ?ii10 ?ti10 ?kc10 ?ec10 ?tc10 ?hc10 ?ic10 ?sc10 ?l10 ?c10 ?k10 ?a11 ?x11 ?sa11 ?ga11 ?gg11 ?nf11 ?ii11 ?ti11 ?kc11 ?ec11 ?tc11 ?hc11 ?ic11 ?sc11 ?l11 ?c11 ?k11 ?a12 ?x12 ?sa12 ?ga12 ?gg12 ?nf12 ?ii12 ?ti12 ?kc12 ?ec12 ?tc12 ?hc12 ?ic12 ?sc12 ?l12 ?c12 ?k12 ?a13 ?x13 ?sa13 ?ga13 ?gg13 ?nf13 ?ii13 ?ti13 ?kc13 ?ec13 ?tc13 ?hc13 ?ic13 ?sc13 ?l13 ?c13 ?k13 ?a1 ?a14 ?l14 ?v14 ?w14 ?a15 ?l15 ?v15 ?w15 ?a17 ?l17 ?v17 ?w17 ?a19 ?pg19 ?hd19 ?po19 ?sa19 ?mk19 ?kc19 ?no19_0 ?no19_1 ?a1380 ?i1380 ?l1380 ?c1380 ?k1380 ?a1381 ?i1381 ?l1381 ?c1381 ?k1381 ?a1382 ?i1382 ?l1382 ?c1382 ?k1382 ?a1383 ?i1383 ?l1383 ?c1383 ?k1383 ?z0 ?z1 ?z2 ?z3 ?z4 ?z5 ?z6 ?z7 ?z8 ?z9 ?z10 ?z11 ?z12 ?z13 ?z14 ?z15 ?z16
    (case a2 => k_is)
    (case l2 => k_is)
    (case c2 => k_is)
    (case k2 => k_is)
    (case a3 => k_is)
    (case l3 => k_is)
    (case c3 => k_is)
    (case k3 => k_is)
    (case a4 => k_is)
    (case l4 => k_is)
    (case c4 => k_is)
    (case k4 => k_is)
    (case a5 => k_is)
    (case l5 => k_is)
    (case c5 => k_is)
    (case k5 => k_is)
    (case a18 => k_is)
    (case l18 => k_is)
    (case c18 => k_is)
    (case k18 => k_is)
    (case a20 => k_is)
    (case l20 => k_is)
    (case c20 => k_is)
    (case k20 => k_is)
    (case a21 => k_is)
    (case l21 => k_is)
    (case c21 => k_is)
    (case k21 => k_is)
    (case a22 => k_is)
    (case l22 => k_is)
    (case c22 => k_is)
    (case k22 => k_is)
    (case a24 => k_is)
    (case l24 => k_is)
    (case c24 => k_is)
    (case k24 => k_is)
    (case a25 => k_is)
    (case l25 => k_is)
    (case c25 => k_is)
    (case k25 => k_is)
    (case a26 => k_is)
    (case l26 => k_is)
    (case c26 => k_is)
    (case k26 => k_is)
    (case a27 => k_is)
    (case l27 => k_is)
    (case c27 => k_is)
    (case k27 => k_is)
    (case a28 => k_is)
    (case l28 => k_is)
    (case c28 => k_is)
    (case k28 => k_is)
    (case a29 => k_is)
    (case l29 => k_is)
    (case c29 => k_is)
    (case k29 => k_is)
    (case a30 => k_is)
    (case l30 => k_is)
    (case c30 => k_is)
    (case k30 => k_is)
    (case a31 => k_is)
    (case l31 => k_is)
    (case c31 => k_is)
    (case k31 => k_is)
    (case a32 => k_is)
    (case l32 => k_is)
    (case c32 => k_is)
    (case k32 => k_is)
    (case a33 => k_is)
    (case l33 => k_is)
    (case c33 => k_is)
    (case k33 => k_is)
    (case a34 => k_is)
    (case l34 => k_is)
    (case c34 => k_is)
    (case k34 => k_is)
    (case a35 => k_is)
    (case l35 => k_is)
    (case c35 => k_is)
    (case k35 => k_is)
    (case a36 => k_is)
    (case l36 => k_is)
    (case c36 => k_is)
    (case k36 => k_is)
    (case a38 => k_is)
    (case l38 => k_is)
    (case c38 => k_is)
    (case k38 => k_is)
    (case a39 => k_is)
    (case l39 => k_is)
    (case c39 => k_is)
    (case k39 => k_is)
    (case a40 => k_is)
    (case l40 => k_is)
    (case c40 => k_is)
    (case k40 => k_is)
    (case a41 => k_is)
    (case l41 => k_is)
    (case c41 => k_is)
    (case k41 => k_is)
    (case a42 => k_is)
    (case l42 => k_is)
    (case c42 => k_is)
    (case k42 => k_is)
    (case a43 => k_is)
    (case l43 => k_is)
    (case c43 => k_is)
    (case k43 => k_is)
    (case a44 => k_is)
    (case l44 => k_is)
    (case c44 => k_is)
    (case k44 => k_is)
    (case a45 => k_is)
    (case l45 => k_is)
    (case c45 => k_is)
    (case k45 => k_is)
    (case a46 => k_is)
    (case l46 => k_is)
    (case c46 => k_is)
    (case k46 => k_is)
    (case a47 => k_is)
    (case l47 => k_is)
    (case c47 => k_is)
    (case k47 => k_is)
    (case a48 => k_is)
    (case l48 => k_is)
    (case c48 => k_is)
    (case k48 => k_is)
    (case a49 => k_is)
    (case l49 => k_is)
    (case c49 => k_is)
    (case k49 => k_is)
    (case a50 => k_is)
    (case l50 => k_is)
    (case c50 => k_is)
    (case k50 => k_is)
    (case a51 => k_is)
    (case l51 => k_is)
    (case c51 => k_is)
    (case k51 => k_is)
    (case a52 => k_is)
    (case l52 => k_is)
    (case c52 => k_is)
    (case k52 => k_is)
    (case a8 => k_is)
    (case x8 => k_is)
    (case sa8 => k_is)
    (case ga8 => k_is)
    (case gg8 => k_is)
    (case nf8 => k_is)
    (case ii8 => k_is)
    (case ti8 => k_is)
    (case kc8 => k_is)
    (case ec8 => k_is)
    (case tc8 => k_is)
    (case hc8 => k_is)
    (case ic8 => k_is)
    (case sc8 => first | rfl | k_is)
    (case l8 => k_is)
    (case c8 => k_is)
    (case k8 => k_is)
    (case a9 => k_is)
    (case x9 => k_is)
    (case sa9 => k_is)
    (case ga9 => k_is)
    (case gg9 => k_is)
    (case nf9 => k_is)
    (case ii9 => k_is)
    (case ti9 => k_is)
    (case kc9 => k_is)
    (case ec9 => k_is)
    (case tc9 => k_is)
    (case hc9 => k_is)
    (case ic9 => k_is)
    (case sc9 => first | rfl | k_is)
    (case l9 => k_is)
    (case c9 => k_is)
    (case k9 => k_is)
    (case a10 => k_is)
    (case x10 => k_is)
    (case sa10 => k_is)
    (case ga10 => k_is)
    (case gg10 => k_is)
    (case nf10 => k_is)
    (case ii10 => k_is)
    (case ti10 => k_is)
    (case kc10 => k_is)
    (case ec10 => k_is)
    (case tc10 => k_is)
    (case hc10 => k_is)
    (case ic10 => k_is)
    (case sc10 => first | rfl | k_is)
    (case l10 => k_is)
    (case c10 => k_is)
    (case k10 => k_is)
    (case a11 => k_is)
    (case x11 => k_is)
    (case sa11 => k_is)
    (case ga11 => k_is)
    (case gg11 => k_is)
    (case nf11 => k_is)
    (case ii11 => k_is)
    (case ti11 => k_is)
    (case kc11 => k_is)
    (case ec11 => k_is)
    (case tc11 => k_is)
    (case hc11 => k_is)
    (case ic11 => k_is)
    (case sc11 => first | rfl | k_is)
    (case l11 => k_is)
    (case c11 => k_is)
    (case k11 => k_is)
    (case a12 => k_is)
    (case x12 => k_is)
    (case sa12 => k_is)
    (case ga12 => k_is)
    (case gg12 => k_is)
    (case nf12 => k_is)
    (case ii12 => k_is)
    (case ti12 => k_is)
    (case kc12 => k_is)
    (case ec12 => k_is)
    (case tc12 => k_is)
    (case hc12 => k_is)
    (case ic12 => k_is)
    (case sc12 => first | rfl | k_is)
    (case l12 => k_is)
    (case c12 => k_is)
    (case k12 => k_is)
    (case a13 => k_is)
    (case x13 => k_is)
    (case sa13 => k_is)
    (case ga13 => k_is)
    (case gg13 => k_is)
    (case nf13 => k_is)
    (case ii13 => k_is)
    (case ti13 => k_is)
    (case kc13 => k_is)
    (case ec13 => k_is)
    (case tc13 => k_is)
    (case hc13 => k_is)
    (case ic13 => k_is)
    (case sc13 => first | rfl | k_is)
    (case l13 => k_is)
    (case c13 => k_is)
    (case k13 => k_is)
    (case a1 => k_is)
    (case a14 => k_is)
    (case l14 => k_is)
    (case v14 => exact .cons ⟨_, rfl⟩ (.cons ⟨_, rfl⟩ (.cons ⟨_, rfl⟩ .nil)))
    (case w14 => decide)
    (case a15 => k_is)
    (case l15 => k_is)
    (case v15 => exact .cons ⟨_, rfl⟩ (.cons ⟨_, rfl⟩ (.cons ⟨_, rfl⟩ (.cons ⟨_, rfl⟩ (.cons ⟨_, rfl⟩ (.cons ⟨_, rfl⟩ (.cons ⟨_, rfl⟩ .nil)))))))
    (case w15 => decide)
    (case a17 => k_is)
    (case l17 => k_is)
    (case v17 => exact .cons ⟨_, rfl⟩ (.cons ⟨_, rfl⟩ (.cons ⟨_, rfl⟩ (.cons ⟨_, rfl⟩ .nil))))
    (case w17 => decide)
    (case a19 => k_is)
    (case pg19 => k_is)
    (case hd19 => k_is)
    (case po19 => k_is)
    (case sa19 => k_is)
    (case mk19 => k_is)
    (case kc19 => k_is)
    (case no19_0 => k_is)
    (case no19_1 => k_is)
    (case a1380 => k_is)
    (case i1380 => k_is)
    (case l1380 => k_is)
    (case c1380 => k_is)
    (case k1380 => k_is)
    (case a1381 => k_is)
    (case i1381 => k_is)
    (case l1381 => k_is)
    (case c1381 => k_is)
    (case k1381 => k_is)
    (case a1382 => k_is)
    (case i1382 => k_is)
    (case l1382 => k_is)
    (case c1382 => k_is)
    (case k1382 => k_is)
    (case a1383 => k_is)
    (case i1383 => k_is)
    (case l1383 => k_is)
    (case c1383 => k_is)
    (case k1383 => k_is)
    (case z0 => k_is)
    (case z1 => k_is)
    (case z2 => k_is)
    (case z3 => k_is)
    (case z4 => k_is)
    (case z5 => k_is)
    (case z6 => k_is)
    (case z7 => k_is)
    (case z8 => k_is)
    (case z9 => k_is)
    (case z10 => k_is)
    (case z11 => k_is)
    (case z12 => k_is)
    (case z13 => k_is)
    (case z14 => k_is)
    (case z15 => k_is)
    (case z16 => k_is)
