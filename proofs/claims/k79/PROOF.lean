import PyProof.Rows.All
import Wide.All
import OpenK.AllK
import Wide.FinOn
import KE.KStateDown
import KE.DataMinMax
import KE.GoesMore
import KE.GoesEnum
import Lean
import HandS.ForMost
import HandS.More
import HandS.Exc
import HandS.TryOnly
import HandS.ExcOwn
import HandS.WordsExc
import HandS.IsInst
import HandS.TupAny
import HandS.TupMul
import HandS.Zip
import HandS.Walk
import HandS.Steps
import HandS.Small
import HandS.OwnEq
import HandS.Conv
import HandS.Defaults
import HandS.Head0
import HandS.Head1
import HandS.Head2
import HandS.HeadEnd
import HandS.HeadHook1
import HandS.HeadHook2
import KE.KDictZip
import KE.GoesZip
import HandS.HeadHook3
import HandS.HeadHook4
import PySem.Challenge.RW_neverblinder_k79_whole_books_that_look_a
set_option Elab.async false
set_option linter.all false
set_option maxRecDepth 100000
set_option maxHeartbeats 4000000
namespace NB
open PySem L2
def top (i : Nat) : Stmt := PySem.Challenge.pw_neverblinder_k79_whole_books_that_look_a.main.body.getD i (.Pass ⟨0, 0, 0, 0⟩)
/-- a def of the text that stands at f and keeps its promise -/
structure OkF (P : Program) (w : World) (K : PySem.W.Frag) (mg : Str → Option Value) (base : Heap) (CX : CXT) (k : Nat) (f : Addr) (ps : List Str) (sp : Sp) : Prop where
  ex : ∃ fd, FnOk P w K mg base CX k f fd ps sp ∧ Binds K fd ps []
  kp : PySem.W.keepIn K (.ref f) = true
section
variable {X : Cx} {CX : CXT} {k : Nat} {f C : Addr} {ps : List Str} {sp : Sp} {E : XK} {x m : Str} {p pos apos : Pos} {e o : Expr} {es : List Expr} {ta : TE} {t : TA}
theorem pe_callG (G : OkF X.prog X.w X.K X.mg X.base CX k f ps sp) (hr : Room k X.A) (hg : Gl X x) (hm : X.mg x = some (.ref f)) (hx : Passes CX X E)
    (ha : PA X (e :: es) t) (hdb : (x == ("__debug__" : Str)) = false := by decide) (he : starEach (e :: es) X.env = (false, eval e X.env) :: starEach es X.env := by rfl) (hpl : (backTo pos (starEach es X.env)).any (·.1) = false := by rfl) :
    PE X (.Call (.Name x p) (e :: es) [] pos) (tCall sp [] E t) := by
  obtain ⟨fd, F, b⟩ := G.ex
  exact pe_call F hr hg hm G.kp b .nil hx ha hdb he hpl
theorem pe_methG {pl : Sem Bool} (he : PE X o ta) (c : Cls X.K C) (hm : Meth X.K C m f) (G : OkF X.prog X.w X.K X.mg X.base CX k f ps sp) (hr : Room k X.A) (hx : Passes CX X E) (ha : PA X (e :: es) t)
    (hst : starEach (e :: es) X.env = (false, eval e X.env) :: starEach es X.env := by rfl) (hpl : (backTo pos (starEach es X.env)).any (·.1) = false := by rfl)
    (ht : eval (.Call (.Attribute o m apos) (e :: es) [] pos) X.env = (do
      let ov ← eval o X.env
      standAt apos.atName
      let (f, first) ← holding [ov] (getMethod ov m pl)
      callWith pos f first (backTo pos (starEach (e :: es) X.env)) (backToKw pos (keywordEach [] X.env))) := by rfl) :
    PE X (.Call (.Attribute o m apos) (e :: es) [] pos) (tMeth C m sp [] E ta t) := by
  obtain ⟨fd, F, b⟩ := G.ex
  exact pe_meth he c hm F hr b .nil hx ha hst hpl ht
theorem pe_methG0 {pl : Sem Bool} (he : PE X o ta) (c : Cls X.K C) (hm : Meth X.K C m f) (G : OkF X.prog X.w X.K X.mg X.base CX k f ps sp) (hr : Room k X.A) (hx : Passes CX X E)
    (ht : eval (.Call (.Attribute o m apos) [] [] pos) X.env = (do
      let ov ← eval o X.env
      standAt apos.atName
      let (f, first) ← holding [ov] (getMethod ov m pl)
      callWith pos f first (backTo pos (starEach [] X.env)) (backToKw pos (keywordEach [] X.env))) := by rfl) :
    PE X (.Call (.Attribute o m apos) [] [] pos) (tMeth C m sp [] E ta tNil) := by
  obtain ⟨fd, F, b⟩ := G.ex
  exact pe_meth0 he c hm F hr b .nil hx ht
theorem pe_makeG (M : Mk X.K C f) (G : OkF X.prog X.w X.K X.mg X.base CX k f ps sp) (hr : Room (k + 1) X.A) (hg : Gl X x) (hm : X.mg x = some (.ref C)) (hx : Passes CX X E)
    (ha : PA X (e :: es) t) (hdb : (x == ("__debug__" : Str)) = false := by decide) (he : starEach (e :: es) X.env = (false, eval e X.env) :: starEach es X.env := by rfl) (hpl : (backTo pos (starEach es X.env)).any (·.1) = false := by rfl) :
    PE X (.Call (.Name x p) (e :: es) [] pos) (tMake C sp [] E t) := by
  obtain ⟨fd, F, b⟩ := G.ex
  exact pe_make M F hr hg hm b .nil hx ha hdb he hpl
end
/-! ### the readings' words -/
abbrev rAddI : R2 := rI0 fun i j => .int (i + j)
abbrev rSubI : R2 := rI0 fun i j => .int (i - j)
abbrev rMulI : R2 := rI CMul fun i j => .int (i * j)
abbrev rDivI : R2 := rI CDiv fun i j => .int (i / j)
abbrev rModI : R2 := rI (fun _ j => 0 < j) fun i j => .int (i % j)
abbrev rPowI : R2 := rI CPow fun i j => .int (i ^ j.toNat)
abbrev rShlI : R2 := rI CPow fun i j => .int (i * 2 ^ j.toNat)
abbrev rShrI : R2 := rI (fun _ j => 0 ≤ j) fun i j => .int (i / 2 ^ j.toNat)
abbrev rAndI : R2 := rI0 fun i j => .int (Builtin.bitAnd i j)
abbrev rOrI : R2 := rI0 fun i j => .int (Builtin.bitOr i j)
abbrev rLtI : R2 := rI0 fun i j => .bl (decide (i < j))
abbrev rLeI : R2 := rI0 fun i j => .bl (decide (i ≤ j))
abbrev rGtI : R2 := rI0 fun i j => .bl (decide (j < i))
abbrev rGeI : R2 := rI0 fun i j => .bl (decide (j ≤ i))
abbrev rNegI : V → Hp → VK → Prop := rU fun i => .int (-i)
abbrev rInvI : V → Hp → VK → Prop := rU fun i => .int (Builtin.bitNot i)
abbrev rLenS (K : PySem.W.Frag) : List V → Hp → VK → Prop := fun xs H Q => ∃ p ys, xs = [.ref p] ∧ (SqL K H p ys ∨ SqT K H p ys) ∧ Q (.int ys.length) H
abbrev rListS (K : PySem.W.Frag) : List V → Hp → VK → Prop := fun xs H Q => ∃ p ys, xs = [.ref p] ∧ (SqL K H p ys ∨ SqT K H p ys) ∧ ∀ l, H l = none → Q (.ref l) (upd H l (.lst ys))
abbrev rTupleS (K : PySem.W.Frag) : List V → Hp → VK → Prop := fun xs H Q => ∃ p ys, xs = [.ref p] ∧ ((SqL K H p ys ∧ ∀ l, H l = none → Q (.ref l) (upd H l (.tup ys))) ∨ (SqT K H p ys ∧ Q (.ref p) H))
abbrev rInt1 : List V → Hp → VK → Prop := fun xs H Q => (∃ i, xs = [.int i] ∧ Q (.int i) H) ∨ ∃ k, xs = [.bl k] ∧ Q (.int (if k then 1 else 0)) H
abbrev rBool1 : List V → Hp → VK → Prop := fun xs H Q => (∃ i, xs = [.int i] ∧ Q (.bl (i != 0)) H) ∨ ∃ k, xs = [.bl k] ∧ Q (.bl k) H
abbrev rStrI : List V → Hp → VK → Prop := fun xs H Q => ∃ i, xs = [.int i] ∧ i.natAbs.log2 < 1920 ∧ Q (.str (toString i)) H
abbrev rAbsI : List V → Hp → VK → Prop := fun xs H Q => ∃ i, xs = [.int i] ∧ Q (.int (if i < 0 then -i else i)) H
end NB
set_option Elab.async false
set_option linter.all false
set_option maxRecDepth 100000
set_option maxHeartbeats 4000000
/-! Rules that the layer lacks: enumerate of a tuple, max of a tuple of one int, tuple * int, tuple[::-1], an error without arguments. -/
namespace NB
open PySem PySem.Spec PyProof.Rows L2
/-! ### enumerate(tuple) -/
theorem enum_new1 {v : Value} {o : Obj} {H : Heap → Prop} (B : Begins v o H) :
    Meets (Builtin.«enumerate.__new__» ⟨[.type "enumerate", v], []⟩) (fun _ R s => H s.heap ∧
      R (.ok (.ret (.ref (s.heap.push o).objs.size))) { s with heap := (s.heap.push o).push { cls := .type "enumerate", data := .fields #[.none, .bool false, .ref s.heap.objs.size, rawInt 0, .none, .none] } }) :=
  .of_wp fun prog w A R s h => by
    obtain ⟨hp, g, d, tk, os⟩ := s; obtain ⟨h1, h⟩ := h
    have hsub := sub_enumerate
    have q1 : ∀ {A' : Around} {E : Value → Shared → Prop} {Q : Value → Shared → Prop}, Q (.ref hp.objs.size) ⟨hp.push o, g, d, tk, os⟩ → wpAny (model prog w) A' (pyIter v) Q E ⟨hp, g, d, tk, os⟩ :=
      fun q => B.iter prog w _ _ ⟨hp, g, d, tk, os⟩ _ h1 q
    wp_walk using q1
    refine wpAny_stack_any fun st => wpAny_pure ?_
    split
    · rename_i c _ _ _ _ _
      cases (c == Value.type "enumerate")
      · wp_walk using q1
        exact ⟨_, rfl, h⟩
      · wp_walk using q1
        exact ⟨_, rfl, h⟩
    · wp_walk using q1
      exact ⟨_, rfl, h⟩
section
variable {prog : Program} {w : World} {A : Around} {E : Value → Shared → Prop} {s : Shared}
theorem enum_tup {t : Addr} {items : Array Value} {Q : Value → Shared → Prop} (hT : s.heap.IsTuple t items)
    (h : ∀ h', IsEnum h' (s.heap.objs.size + 1) s.heap.objs.size 0 .none → h'.IsTupleIter s.heap.objs.size t 0 → h'.objs.size = s.heap.objs.size + 2 →
      (∀ b o, s.heap.get? b = some o → h'.get? b = some o) → Q (.ref (s.heap.objs.size + 1)) { s with heap := h' }) :
    wpAny (model prog w) A (call (.type "enumerate") [.ref t]) Q E s := by
  refine callType_new F.called_enumerate (by decide) (F.typeCall_enumerate_1 _) (F.newCall_enumerate_1 _) (fun obj => F.args_object_init_2 obj _) F.entry_enumerate_new
    (enum_new1 (begins_tuple t items)) ⟨hT, ?_⟩
  have hz : (s.heap.push { cls := .type "tuple_iterator", data := .fields #[.ref t, .int 0 0] }).objs.size = s.heap.objs.size + 1 := Heap.size_push ..
  show _ ∧ _
  rw [hz]
  have he : IsEnum ((s.heap.push { cls := .type "tuple_iterator", data := .fields #[.ref t, .int 0 0] }).push
      { cls := .type "enumerate", data := .fields #[.none, .bool false, .ref s.heap.objs.size, rawInt 0, .none, .none] }) (s.heap.objs.size + 1) s.heap.objs.size 0 .none := by
    have := Heap.get?_push_size (s.heap.push { cls := .type "tuple_iterator", data := .fields #[.ref t, .int 0 0] })
      (o := { cls := .type "enumerate", data := .fields #[.none, .bool false, .ref s.heap.objs.size, rawInt 0, .none, .none] }) rfl
    rw [hz] at this; exact this
  refine ⟨⟨_, he, rfl⟩, h _ he ⟨_, Heap.get?_push_of_some _ (Heap.get?_push_size _ rfl), rfl, rfl⟩ (by rw [Heap.size_push, hz]) fun b o x => Heap.get?_push_of_some _ (Heap.get?_push_of_some _ x)⟩
theorem enum_tup_end {e it l : Addr} {i : Nat} {items : Array Value} {old : Value} {Q : Option Value → Shared → Prop} (hh : A.handled = none)
    (he : IsEnum s.heap e it i old) (hit : s.heap.IsTupleIter it l i) (hl : s.heap.IsTuple l items) (hx : items[i]? = none)
    (hQ : ∀ h', Heap.ExtBut it s.heap h' → Q none { s with heap := h' }) : wpAny (model prog w) A (pyNext (.ref e)) Q E s := by
  have hT : s.TypeIs (.ref e) "enumerate" := ⟨_, he, rfl⟩
  unfold pyNext
  refine wpAny_bind (wpAny_attempt (wpAny_callSpecial?_slot (name := Str.ofString "__next__") hT F.slot_enumerate_next
    (wpAny_call_entry F.slot_enumerate_next hT F.entry_enumerate_next ?_ (F.args_enumerate_next_1 _))))
  show wpAny _ _ (field (.ref e) 2 >>= _) _ _ _
  refine wpAny_bind (wpAny_field he rfl (x := .ref it) rfl ?_)
  refine wpAny_bind (wpAny_nextOf_tuple_end hh hit hl hx fun h' x he' hx' => ?_)
  obtain ⟨o, ho, hc⟩ := hx'
  refine wpAny_bind (wpAny_isInstance (T := "StopIteration") (b := true) ⟨o, ho, hc⟩ isSubtype_stop ?_)
  exact wpAny_pure (hQ _ he')
end
def IteT (K : PySem.W.Frag) (a : Addr) : It :=
  ⟨fun i H => ∃ (xs : List V) (x : V), SqT K H a xs ∧ xs[i]? = some x, fun i H v H' => ∃ T x, v = .ref T ∧ H T = none ∧ H' = upd H T (.tup [.int (i : Nat), x]) ∧ ∀ xs, SqT K H a xs → xs[i]? = some x, fun i H => ∃ xs : List V, SqT K H a xs ∧ xs.length ≤ i⟩
theorem turn_enumT {P : Program} {w : World} {K : PySem.W.Frag} {elts : List Expr} {kk : Nat} {tpos : Pos} (a e it : Addr) (hai : a ≠ it) (hae : a ≠ e) :
    Turn P w K (.Tuple elts kk tpos) (IteT K a) [e, it] e (fun i h => (∃ old, IsEnum h e it ((i : Nat) : Int) old) ∧ h.IsTupleIter it a i ∧ e ≠ it) where
  mem := by simp
  obj := fun i h st b hb => by
    obtain ⟨⟨old, he⟩, ⟨o, ho, hc, hd⟩, _⟩ := st
    have e' : b = e ∨ b = it := by simpa using hb
    rcases e' with z | z
    · rw [z]; exact ⟨_, he, fun v q => nomatch q⟩
    · rw [z]; exact ⟨o, ho, fun v q => by rw [hd] at q; cases q⟩
  keep := fun i h h' st k => let ⟨⟨old, he⟩, hi, hne⟩ := st; ⟨⟨old, k e (by simp) _ he⟩, hi.at fun o q => k it (by simp) o q, hne⟩
  item := by
    intro X hP hw hK hc i pins s σ H E I hf st hg
    subst hP hw hK
    obtain ⟨⟨old, he⟩, hit, hne⟩ := st
    obtain ⟨xs, x, hq, hx⟩ := hg
    obtain ⟨its, rv, p, hz⟩ := I.tuple hq
    obtain ⟨u, hu, ru⟩ := rv.get hx
    have hel : e < s.heap.objs.size := Heap.lt_size he
    have hil : it < s.heap.objs.size := by obtain ⟨_, q, _⟩ := hit; exact Heap.lt_size q
    have hlt : i < its.toArray.size := by
      have := (List.getElem?_eq_some_iff.mp hu).1
      simpa using this
    refine wpAny_pyNext_enum_itemD (Draws.tuple (A := X.A.in1) (by exact I.ok.hd hc) it a hai its.toArray) he ⟨hit, (show s.heap.IsTuple a its.toArray from p)⟩ hlt hne (by simp only [List.mem_cons, List.not_mem_nil, or_false, not_or]; exact ⟨hne, hae.symm⟩) fun x' h' tk hP' ho hst' hT hsz hk => ?_
    have ex' : x' = u := by
      have q : its.toArray[i]? = some x' := hP'
      have q2 : its.toArray[i]? = some u := by simpa using hu
      rw [q2] at q
      exact (Option.some.inj q).symm
    subst ex'
    refine ⟨_, rfl, wpAny_letOwnedTupleGo_enum (s := { s with heap := h', toks := tk + 1 }) ho fun h'' he' sb => ?_⟩
    have hT2 : h''.get? s.heap.objs.size = some { cls := .type "tuple", data := .seq #[.int i tk, x'] } := (sb.2 _ (Nat.ne_of_gt hel)).trans hT
    have new : ObjOk X.prog X.w (upd H s.heap.objs.size (.tup [.int (i : Nat), x])) h'' s.heap.objs.size (.tup [.int (i : Nat), x]) :=
      ⟨by show 2 ≤ sizeLine; decide, [.int i tk, x'], .cons ⟨_, rfl⟩ (.cons ru .nil), ⟨_, hT2, rfl, _, rfl⟩⟩
    have I1 : Inv X pins σ (upd H s.heap.objs.size (.tup [.int (i : Nat), x])) { s with heap := h'', toks := tk + 1 } :=
      I.turnedNew (ch := [e, it]) (fun b ob hb q => (sb.2 b (fun z => hb (by simp [z]))).trans (hk b ob (fun z => hb (by simp [z])) (fun z => hb (by simp [z])) q)) hf (Nat.le_refl _) new
    refine ⟨.ref s.heap.objs.size, _, I1, rfl, ⟨_, x, rfl, I.hok.fresh (Nat.le_refl _), rfl, fun ys hy => by rw [I.tuple_inj hy hq]; exact hx⟩, ⟨⟨x', ?_⟩, hst'.1.at fun o q => (sb.2 it (Ne.symm hne)).trans q, hne⟩, fun b hb => ?_⟩
    · have e1 : ((i + 1 : Nat) : Int) = (i : Int) + 1 := by omega
      rw [e1]; exact he'
    · have hb' : b < s.heap.objs.size := by
        have e' : b = e ∨ b = it := by simpa using hb
        rcases e' with z | z
        · rw [z]; exact hel
        · rw [z]; exact hil
      rw [upd_ne (Nat.ne_of_lt hb')]
      exact (hf b hb).1
  done := by
    intro X hP hw hK hc i pins s σ H E I hf st hg
    subst hP hw hK
    obtain ⟨⟨old, he⟩, hit, hne⟩ := st
    obtain ⟨xs, hq, hx⟩ := hg
    obtain ⟨its, rv, p, hz⟩ := I.tuple hq
    obtain ⟨f0, f1, f2, f3, f4, f5⟩ := hf it (by simp)
    have hl := rv.length
    have hl2 : its.toArray[i]? = none := by
      simp only [List.getElem?_toArray]
      exact List.getElem?_eq_none_iff.mpr (by omega)
    exact enum_tup_end (I.ok.hd hc) he hit (show s.heap.IsTuple a its.toArray from p) hl2 fun h' eb => ⟨rfl, I.turned (t' := s.toks) (fun b o hb q => eb b o hb q) f0 f1 f3 f4 f5⟩
  self := fun A i s Q E st h => let ⟨⟨_, he⟩, _⟩ := st; wpAny_pyIter_enum he h
def iEnumT (K : PySem.W.Frag) (ta : TA) : TI := fun σ H R => ta σ H fun vs H1 => ∃ a xs, vs = [.ref a] ∧ SqT K H1 a xs ∧ R (IteT K a) H1
theorem pi_enumT {X : Cx} {e : Expr} {ta : TA} {p pos tpos : Pos} {elts : List Expr} {kk : Nat} (hg : Gl X "enumerate") (hm : X.mg "enumerate" = none) (ha : PA X [e] ta) (hs : starEach [e] X.env = [(false, eval e X.env)] := by rfl) :
    PI X (.Tuple elts kk tpos) (.Call (.Name "enumerate" p) [e] [] pos) (iEnumT X.K ta) := by
  refine ⟨fun pins s σ H R I h => ?_⟩
  refine Call_ (ld_blt I hg hm boot_enumerate (PyProof.Rows.callWith_type1 (thn (ha.run pos pins s σ H _ I h) fun us s1 ⟨vs, H1, I1, r1, q1⟩ => ?_) hs rfl))
  obtain ⟨a, xs, ex, hq, q⟩ := q1
  subst ex
  cases r1 with
  | cons r rr =>
    cases rr
    cases r
    obtain ⟨its, rv, p', hz⟩ := I1.tuple hq
    have hal : a < s1.heap.objs.size := by obtain ⟨o, ho, _⟩ := p'; exact Heap.lt_size ho
    refine enum_tup (show s1.heap.IsTuple a its.toArray from p') fun h' he hit hsz hk => wpAny_pyIter_enum he ?_
    have I2 : Inv X pins σ H1 { s1 with heap := h' } := I1.kept (t' := s1.toks) hk
    refine ⟨s1.heap.objs.size + 1, [s1.heap.objs.size + 1, s1.heap.objs.size], _, _, H1, rfl, I2, turn_enumT a (s1.heap.objs.size + 1) s1.heap.objs.size (Nat.ne_of_lt hal) (Nat.ne_of_lt (Nat.lt_succ_of_lt hal)), ⟨⟨.none, he⟩, hit, Nat.succ_ne_self _⟩, fun b hb => ?_, q⟩
    have e' : b = s1.heap.objs.size + 1 ∨ b = s1.heap.objs.size := by simpa using hb
    have hle : s1.heap.objs.size ≤ b := by
      rcases e' with z | z
      · rw [z]; exact Nat.le_add_right _ _
      · rw [z]; exact Nat.le_refl _
    exact I1.fpOk hle (I1.hok.fresh hle)
theorem walk_enumT {K : PySem.W.Frag} {a : Addr} {xs : List V} : Walk (IteT K a) xs.length (fun H => SqT K H a xs) (YPair (fun i => some (.int (i : Nat))) (fun i => xs[i]?)) := by
  refine ⟨fun i _ hi q => ⟨xs, xs[i], q, by simp [hi]⟩, fun _ q => ⟨xs, q, Nat.le_refl _⟩, fun i H v H' _ q y => ?_⟩
  obtain ⟨T, x, h1, h2, h3, h4⟩ := y
  exact ⟨T, .int (i : Nat), x, h1, h2, h3, rfl, h4 xs q⟩
theorem walk_zipT {K : PySem.W.Frag} {a b : Addr} {xs ys : List V} {n : Nat} (hn : n = min xs.length ys.length) : Walk (RZ.ItzT K a b) n (fun H => SqT K H a xs ∧ SqT K H b ys) (YPair (fun i => xs[i]?) (fun i => ys[i]?)) := by
  subst hn
  refine ⟨fun i _ hi q => ?_, fun _ q => ⟨xs, ys, q.1, q.2, by omega⟩, fun i H v H' _ q y => ?_⟩
  · have h1 : i < xs.length := by omega
    have h2 : i < ys.length := by omega
    exact ⟨xs, ys, xs[i], ys[i], q.1, q.2, by simp [h1], by simp [h2]⟩
  · obtain ⟨T, x, z, h1, h2, h3, h4, h5⟩ := y
    exact ⟨T, x, z, h1, h2, h3, h4 xs q.1, h5 ys q.2⟩
/-! ### max of a tuple whose items are one int -/
abbrev rMaxT (K : PySem.W.Frag) : List V → Hp → VK → Prop := fun vs H Q => ∃ (a : Addr) (xs : List V) (c : Int), vs = [.ref a] ∧ SqT K H a xs ∧ 0 < xs.length ∧ xs.length ≤ 1000 ∧ (∀ x ∈ xs, x = .int c) ∧ Q (.int c) H
end NB
set_option Elab.async false
set_option linter.all false
set_option maxRecDepth 100000
set_option maxHeartbeats 4000000
namespace NB
open PySem PySem.Spec PyProof.Rows L2
/-! ### max of a tuple of one int -/
theorem cr_maxT {X : Cx} {k : Nat} (hc : X.calm = true) (hr : Room k X.A) : CallR X (.builtin "max") (rMaxT X.K) := by
  intro pins s σ H xs us Q I r h
  obtain ⟨a, ys, c, rfl, ha, h0, hn, hall, q⟩ := h
  obtain ⟨u1, rfl, r1⟩ := vals1 r
  cases r1
  obtain ⟨its, rv, p, hz⟩ := I.tuple ha
  have eys : ys = List.replicate ys.length (.int c) := List.eq_replicate_of_mem hall
  obtain ⟨m, hm⟩ : ∃ m, ys.length = m + 1 := ⟨ys.length - 1, by omega⟩
  have hd : ∀ n, DpAll X.K H (List.replicate n (V.int c)) (List.replicate n (PyData.int c)) := fun n => by
    induction n with
    | zero => exact .nil
    | succ n ih => exact .cons (.int c) ih
  obtain ⟨as, hr1⟩ := Dp.readsAll I (List.replicate ys.length (PyData.int c)) ys its (by have := hd ys.length; rw [← eys] at this; exact this) rv
  rw [hm, List.replicate_succ] at hr1
  have dep : ∀ n, PyData.depthAll (List.replicate n (PyData.int c)) ≤ 1 := fun n => by
    induction n with
    | zero => simp [PyData.depthAll]
    | succ n ih => rw [List.replicate_succ]; simp only [PyData.depthAll, PyData.depth]; omega
  have dep1 : PyData.depthAll (PyData.int c :: List.replicate m (PyData.int c)) ≤ 1 := by
    have := dep (m + 1); rw [List.replicate_succ] at this; exact this
  have hu := hr.units
  refine PySem.W.max_tuple_data (I.ok.hd hc) (show s.heap.IsTuple a its.toArray from p) (by simpa using hr1) ⟨fun x hx y hy => ?_, fun x hx => ?_⟩ (by omega) fun i v h' tk bs hv _ hk => ?_
  · have ex : x = .int c := by
      rcases List.mem_cons.mp hx with e | e
      · exact e
      · exact (List.mem_replicate.mp e).2
    have ey : y = .int c := by
      rcases List.mem_cons.mp hy with e | e
      · exact e
      · exact (List.mem_replicate.mp e).2
    rw [ex, ey]; rfl
  · have ex : x = .int c := by
      rcases List.mem_cons.mp hx with e | e
      · exact e
      · exact (List.mem_replicate.mp e).2
    rw [ex]; intro z; cases z
  · have hv2 : its[i]? = some v := by simpa using hv
    have hlt : i < ys.length := by rw [rv.length]; exact (List.getElem?_eq_some_iff.mp hv2).1
    obtain ⟨u, hu2, ru⟩ := rv.get (i := i) (x := V.int c) (by rw [eys, List.getElem?_replicate, if_pos hlt])
    rw [hv2] at hu2
    cases hu2
    exact ⟨.int c, H, I.kept (t' := tk) hk, ru, q⟩
/-! ### tuple * int, once too -/
theorem tuple_mul1 (l : Addr) (items : Array Value) (n : Nat) (dd : Option Addr) (sl : Array (Option Value)) (x : Int) (u : Tok) (c0 : (decide (x < -(2 ^ 63)) || decide (x ≥ 2 ^ 63)) = false) (c1 : (items.isEmpty || x == 1) = true) :
    Meets (Builtin.«tuple.__mul__» ⟨[.ref l, .int x u], []⟩) (fun _ R s => s.heap.get? l = some { cls := .type "tuple", dict := dd, data := .seq items n, slots := sl } ∧
      R (.ok (.ret (Value.ref l))) s) :=
  .of_wp fun prog w A R s h => by
    obtain ⟨hp, g, d, tk, os⟩ := s
    obtain ⟨hl, h⟩ := h
    have f1 := AutoSeq1.idx_int
    wp_walk using AutoSeq1.wpAny_loadPart' hl
    repeat (first
      | (refine wpAny_ite_false (decide_eq_false (by rw [c0]; exact Bool.false_ne_true)) ?_; wp_walk using AutoSeq1.wpAny_loadPart' hl)
      | (refine wpAny_ite_true (decide_eq_true (by rw [c1])) ?_; wp_walk using AutoSeq1.wpAny_loadPart' hl))
    exact ⟨_, rfl, h⟩
abbrev rRepA (K : PySem.W.Frag) : R2 := fun x y H Q => ∃ l k xs, x = .ref l ∧ y = .int k ∧ SqT K H l xs ∧ xs ≠ [] ∧ 1 ≤ k ∧ k ≤ 1000 ∧ xs.length ≤ 1000 ∧ (k = 1 → Q (.ref l) H) ∧ (2 ≤ k → ∀ p, H p = none → Q (.ref p) (upd H p (.tup (List.replicate k.toNat xs).flatten)))
theorem op_repA {X : Cx} : OpR X (binaryOp .Mult) (rRepA X.K) := by
  intro pins s σ H x y v u Q I rx ry h
  obtain ⟨l, k, xs, rfl, rfl, hT, hne, h1, h2, hz, q1, q2⟩ := h
  by_cases hk : k = 1
  · subst hk
    cases rx
    obtain ⟨t, rfl⟩ := ry
    obtain ⟨its, r, ⟨⟨cls, dd, data, sl⟩, ho, hc, n, hd⟩, hs⟩ := I.tuple hT
    simp only at hc hd
    subst hc hd
    have c1 : (its.toArray.isEmpty || (1 : Int) == 1) = true := by simp
    refine wpAny_binaryOp_repeat_ref (T := "tuple") (U := "int") (by decide) ⟨_, ho, rfl⟩ (fun s' => typeIs_int s' 1 t) noFill_tuple_mul F.fills_int_mul F.slot_int_rmul repeat_tuple F.slot_int_index.lookup
      (call_meets F.slot_int_rmul (typeIs_int s 1 t) F.entry_int_rmul (F.args_int_rmul_2 _ _) (int_rmul_tuple 1 t l its.toArray n dd sl)
        ⟨ho, rfl, ⟨_, ho, rfl⟩, call_meets F.slot_tuple_mul ⟨_, ho, rfl⟩ F.entry_tuple_mul (F.args_tuple_mul_2 _ _) (tuple_mul1 l its.toArray n dd sl 1 t (by decide) c1) ⟨ho, ?_⟩⟩)
    exact ⟨.ref l, H, I, rfl, q1 rfl⟩
  · exact op_repT pins s σ H _ _ v u Q I rx ry ⟨l, k, xs, rfl, rfl, hT, hne, by omega, h2, hz, q2 (by omega)⟩
/-! ### t[::-1] -/
theorem rev_adjust (n : Nat) : Builtin.Slice.sliceAdjust none none (-1) (n : Int) = ((n : Int) - 1, -1) := by
  unfold Builtin.Slice.sliceAdjust
  simp
theorem rev_places (n : Nat) : Builtin.Slice.slicePlaces ((n : Int) - 1) (-1) (-1) = n := by
  unfold Builtin.Slice.slicePlaces
  have h1 : ¬ ((-1 : Int) > 0) := by decide
  rw [if_neg h1]
  by_cases h : (n : Int) - 1 > -1
  · rw [if_pos h]
    have : ((n : Int) - 1 - -1 - 1) / -(-1) + 1 = (n : Int) := by
      rw [show (-(-1) : Int) = 1 by decide, Int.ediv_one]; omega
    rw [this]; simp
  · rw [if_neg h]; omega
section
variable {prog : Program} {w : World} {A : Around} {E : Value → Shared → Prop} {s : Shared}
theorem rev_applied {sl : Addr} {t : Tok} {n : Nat} {Q : Int × Int × Nat → Shared → Prop} (hs : s.heap.IsSliceOf sl .none .none (.int (-1) t))
    (h : Q ((n : Int) - 1, -1, n) s) : wpAny (model prog w) A (Builtin.Slice.sliceApplied (.ref sl) (pure (n : Int))) Q E s := by
  obtain ⟨os, hos, hcs, hds⟩ := id hs
  unfold Builtin.Slice.sliceApplied Builtin.Slice.sliceFields
  refine wpAny_bind (wpAny_bind (wpAny_field hos hds (x := .none) rfl (wpAny_bind (wpAny_field hos hds (x := .none) rfl (wpAny_bind (wpAny_field hos hds (x := .int (-1) t) rfl (wpAny_pure ?_)))))))
  refine wpAny_bind (HT.slicePart_ (o := some (-1)) (.int _ _) ?_)
  show wpAny _ _ (if ((-1 : Int) == 0) = true then _ else _) _ _ s
  rw [if_neg (by decide)]
  refine wpAny_bind (HT.slicePart_ .none (wpAny_bind (HT.slicePart_ .none (wpAny_bind (wpAny_pure ?_)))))
  show wpAny _ _ (match Builtin.Slice.sliceAdjust none none (-1) (n : Int) with | (lo, hi) => pure (lo, (-1 : Int), Builtin.Slice.slicePlaces lo hi (-1))) _ _ s
  rw [rev_adjust n]
  show wpAny _ _ (pure ((n : Int) - 1, (-1 : Int), Builtin.Slice.slicePlaces ((n : Int) - 1) (-1) (-1))) _ _ s
  rw [rev_places]
  exact wpAny_pure h
theorem rev_pick (xs : List Value) : ((List.range xs.length).filterMap fun (k : Nat) => xs.toArray[(((xs.length : Int) - 1) + (k : Int) * (-1)).toNat]?) = xs.reverse := by
  have e : ∀ k, k ∈ List.range xs.length → (xs.toArray[(((xs.length : Int) - 1) + (k : Int) * (-1)).toNat]?) = some (xs.reverse.getD k .none) := fun k hk => by
    have hk' := List.mem_range.mp hk
    have e1 : (((xs.length : Int) - 1) + (k : Int) * (-1)).toNat = xs.length - 1 - k := by omega
    rw [e1]
    have hlt : k < xs.reverse.length := by rw [List.length_reverse]; exact hk'
    rw [List.getD_eq_getElem?_getD, List.getElem?_eq_getElem hlt, List.getElem_reverse]
    simp only [List.getElem?_toArray, Option.getD_some]
    rw [List.getElem?_eq_getElem (by omega)]
  have e2 : ((List.range xs.length).filterMap fun (k : Nat) => xs.toArray[(((xs.length : Int) - 1) + (k : Int) * (-1)).toNat]?) = (List.range xs.length).map fun k => xs.reverse.getD k .none := by
    have gen : ∀ l : List Nat, (∀ k ∈ l, k ∈ List.range xs.length) → (l.filterMap fun (k : Nat) => xs.toArray[(((xs.length : Int) - 1) + (k : Int) * (-1)).toNat]?) = l.map fun k => xs.reverse.getD k .none := fun l => by
      induction l with
      | nil => intro _; rfl
      | cons a l ih =>
        intro hl
        rw [List.filterMap_cons, e a (hl a List.mem_cons_self), List.map_cons, ih fun k hk => hl k (List.mem_cons_of_mem _ hk)]
    exact gen _ fun _ h => h
  rw [e2]
  apply List.ext_getElem
  · simp
  · intro i h1 h2
    rw [List.getElem_map, List.getElem_range, List.getD_eq_getElem?_getD, List.getElem?_eq_getElem h2, Option.getD_some]
theorem getItem_tuple_rev {t sl : Addr} {its : List Value} {tk : Tok} {Q : Value → Shared → Prop} (ht : IsTup s.heap t its.toArray) (hs : s.heap.IsSliceOf sl .none .none (.int (-1) tk))
    (h : Q (.ref s.heap.objs.size) { s with heap := s.heap.push { cls := .type "tuple", data := .seq its.reverse.toArray } })
    (hsz : its.length ≤ sizeLine) : wpAny (model prog w) A (getItem (.ref t) (.ref sl)) Q E s := by
  have htake : sizeOk (.seq its.reverse.toArray) := by
    show its.reverse.toArray.size ≤ sizeLine
    rw [List.size_toArray, List.length_reverse]
    exact hsz
  obtain ⟨os, hos, hcs, hds⟩ := id hs
  have hTs : s.TypeIs (.ref sl) "slice" := ⟨os, hos, hcs⟩
  unfold getItem
  try with_reducible refine wpAny_holding ?_
  first | refine wpAny_bind (wpAny_pure ?_) | skip
  refine wpAny_bind (wpAny_sequenceKey ht.typeIs (by decide) ?_)
  refine wpAny_bind (wpAny_callSpecial?_slot (name := Str.ofString "__getitem__") ht.typeIs PyProof.Rows.slot_tuple_getitem
    (wpAny_call_entry PyProof.Rows.slot_tuple_getitem ht.typeIs entry_tuple_getitem ?_ (args_tuple_getitem _ _)))
  show wpAny _ _ (Builtin.Tuple.tupleItemsOf (.ref t) >>= _) _ _ s
  refine wpAny_bind (tupleItemsOf_ ht ?_)
  refine wpAny_bind (wpAny_typeOf hTs ?_)
  rw [if_pos (by decide)]
  refine wpAny_bind (rev_applied (n := its.toArray.size) hs ?_)
  have hno : ¬ ((((its.toArray.size : Int) - 1) == 0 && (-1 : Int) == 1 && its.toArray.size == its.toArray.size) = true) := by
    rw [show ((-1 : Int) == 1) = false by decide]; simp
  show wpAny _ _ (if (((its.toArray.size : Int) - 1) == 0 && (-1 : Int) == 1 && its.toArray.size == its.toArray.size) = true then _ else _) _ _ s
  rw [if_neg hno]
  have ep : (List.range its.toArray.size).filterMap (fun (k : Nat) => its.toArray[(((its.toArray.size : Nat) : Int) - 1 + (k : Int) * (-1)).toNat]?) = its.reverse := rev_pick its
  rw [ep]
  first
    | exact wpAny_bind (m := Builtin.Tuple.tupleExact _) (wpAny_newObj_type (wpAny_pure ⟨_, rfl, wpAny_pure h⟩) htake)
    | exact wpAny_bind (m := Builtin.Tuple.tupleExact _) (wpAny_newObj_type (wpAny_bind (wpAny_pure (wpAny_pure ⟨_, rfl, wpAny_pure h⟩))) htake)
    | exact wpAny_bind (wpAny_bind (m := Builtin.Tuple.tupleExact _) (wpAny_newObj_type (wpAny_pure (wpAny_pure ⟨_, rfl, wpAny_pure h⟩)) htake))
    | exact wpAny_bind (wpAny_bind (m := Builtin.Tuple.tupleExact _) (wpAny_newObj_type (wpAny_pure ⟨_, rfl, wpAny_pure h⟩) htake))
end
def tRevT (K : PySem.W.Frag) (te : TE) : TE := fun σ H Q => te σ H fun x H1 => ∃ a xs, x = .ref a ∧ SqT K H1 a xs ∧ ∀ p, H1 p = none → Q (.ref p) (upd H1 p (.tup xs.reverse))
theorem pe_revT {X : Cx} {pos : Pos} {e : Expr} {te : TE} {k : Nat} {p1 p2 p3 : Pos} (he : PE X e te) : PE X (.Subscript e (.Slice none none (some (.UnaryOp .USub (.Constant (.int 1) k p1) p2)) p3) pos) (tRevT X.K te) := by
  refine ⟨fun pins s σ H Q I h => ?_⟩
  refine Subscript_ (thn (he.run pins s σ H _ I h) fun v s1 ⟨x, H1, I1, r1, q1⟩ => ?_)
  obtain ⟨a, xs, ex, hx, q⟩ := q1
  subst ex
  cases r1
  have hst : PO X (some (.UnaryOp .USub (.Constant (.int 1) k p1) p2)) (tPart (tUn (rU fun i => .int (-i)) (tC (.int 1)))) := po_some (pe_un un_neg pe_int)
  refine wpAny_Slice (thn (po_none.run pins s1 σ H1 (fun o H2 => o = none ∧ H2 = H1) I1 ⟨rfl, rfl⟩) fun vl s2 ⟨l, H2, I2, pl, el, e2⟩ => ?_)
  subst el e2
  refine thn (po_none.run pins s2 σ H2 (fun o H3 => o = none ∧ H3 = H2) I2 ⟨rfl, rfl⟩) fun vu s3 ⟨u, H3, I3, pu, eu, e3⟩ => ?_
  subst eu e3
  refine thn (hst.run pins s3 σ H3 (fun o H4 => o = some (-1) ∧ H4 = H3) I3 ⟨1, rfl, -1, rfl, rfl, rfl⟩) fun vs s4 ⟨o, H4, I4, ps, eo, e4⟩ => ?_
  subst eo e4
  have I5 : Inv X pins σ H4 { s4 with heap := s4.heap.push { cls := .type "slice", data := .fields #[vl, vu, vs] } } := I4.kept (t' := s4.toks) fun b ob q => Heap.get?_push_of_some _ q
  obtain ⟨its, r, ht, hz⟩ := I5.tuple hx
  have hlen := r.length
  have hsl := Heap.IsSliceOf.new s4.heap vl vu vs
  cases pl with
  | none =>
  cases pu with
  | none =>
  cases ps with
  | int i t =>
  show wpAny (model X.prog X.w) X.A (subscriptTail e (.Slice none none (some (.UnaryOp .USub (.Constant (.int 1) k p1) p2)) p3) (.ref a) (.ref s4.heap.objs.size)) (EP X pins σ Q) X.xe { s4 with heap := s4.heap.push { cls := .type "slice", data := .fields #[.none, .none, .int (-1) t] } }
  refine tail_any (ops := [.ref a, .ref s4.heap.objs.size]) ht.typeIs (PyProof.Rows.slot_tuple_getitem.lookup) ?_ (by with_unfolding_all rfl)
  refine getItem_tuple_rev ht hsl ?_ (by omega)
  refine ⟨.ref _, _, I5.laid (t' := s4.toks) (o := .tup xs.reverse) (fun b ob q => Heap.get?_push_of_some _ q) (Nat.le_refl _) ?_, rfl, q _ (I5.hok.fresh (Nat.le_refl _))⟩
  exact ⟨by rw [List.length_reverse]; exact hz, _, r.reverse, IsTup.new _ _⟩
/-! ### an own error without arguments -/
theorem pmk_own0 {X : Cx} {C : Addr} {bmB : List Value} {B newId initId : String} {x : Str} {p pos : Pos} (F : ExcBaseFacts B newId initId bmB) (q : PySem.W.excIn X.K C bmB newId = true) (gC : X.mg x = some (.ref C))
    (kC : PySem.W.keepIn X.K (.ref C) = true) (r : Raises X (.ref C)) (hg : Gl X x) (hdb : (x == ("__debug__" : Str)) = false := by decide) : PMk X (.Call (.Name x p) [] [] pos) (fun _ H Q => Q (.ref C) none H) := by
  intro pins s σ H Q I h
  refine wpAny_Call_Name_kw (ld_glob I hg gC ?_ hdb)
  refine PySem.W.callWith_K0 I.kIn kC ?_
  show wpAny _ _ (call (.ref C) []) _ _ _
  obtain ⟨bm, N, nm, qn, bs, hdct, sn, sub, ab, col, dd, k0, k1, k2, k3, k5, mN, hC, hN, hni, T⟩ := exc_obj I.kIn q
  refine wpAny_call_exc_subT F T hC hN hni (fun h' e hm => ?_) (Nat.zero_le _)
  exact mk_of I hm r h (I.hok.gone hm.new)
/-! ### a list or a tuple, walked -/
def iSeq (K : PySem.W.Frag) (tl : TE) : TI := fun σ H R => tl σ H fun x H1 => ∃ a, x = .ref a ∧ (((∃ xs, SqL K H1 a xs) ∧ R (Itl K a) H1) ∨ ((∃ xs, SqT K H1 a xs) ∧ R (Itt K a) H1))
theorem pi_seq {X : Cx} {tg l : Expr} {tl : TE} (hl : PE X l tl) : PI X tg l (iSeq X.K tl) := by
  refine ⟨fun pins s σ H R I h => ?_⟩
  refine thn (hl.run pins s σ H _ I h) fun v s1 ⟨x, H1, I1, r1, q1⟩ => ?_
  obtain ⟨a, e, q1⟩ := q1
  subst e
  cases r1
  have fin : ∀ b ∈ [s1.heap.objs.size], FpOk X pins H1 b := fun b hb => by
    have e : b = s1.heap.objs.size := by simpa using hb
    subst e
    exact I1.fpOk (Nat.le_refl _) (I1.hok.fresh (Nat.le_refl _))
  rcases q1 with ⟨⟨xs, hq⟩, q⟩ | ⟨⟨xs, hq⟩, q⟩
  · obtain ⟨its, rv, p, hz⟩ := I1.list hq
    refine wpAny_pyIter_list p.isList ?_
    exact ⟨s1.heap.objs.size, [s1.heap.objs.size], _, _, H1, rfl, I1.kept (t' := s1.toks) fun b o e => Heap.get?_push_of_some _ e, turn_list a _, ⟨_, Heap.get?_push_size _ rfl, rfl, rfl⟩, fin, q⟩
  · obtain ⟨its, rv, p, hz⟩ := I1.tuple hq
    refine wpAny_pyIter_tuple (show s1.heap.IsTuple a its.toArray from p) ?_
    exact ⟨s1.heap.objs.size, [s1.heap.objs.size], _, _, H1, rfl, I1.kept (t' := s1.toks) fun b o e => Heap.get?_push_of_some _ e, turn_tuple a _, ⟨_, Heap.get?_push_size _ rfl, rfl, rfl⟩, fin, q⟩
end NB
set_option Elab.async false
set_option linter.all false
set_option maxRecDepth 100000
set_option maxHeartbeats 4000000
/-! list(zip(a, b, c)) of three lists. -/
namespace NB
open PySem PySem.Spec PyProof.Rows L2
open PySem.W (kdx_alive)
theorem ne_ {x y : Nat} (h : x ≠ y) : @Ne Addr x y := h
theorem nm2 {x y z : Nat} (h1 : x ≠ y) (h2 : x ≠ z) : (x : Addr) ∉ ([y, z] : List Addr) := fun h => by
  rcases List.mem_cons.mp h with e | h
  · exact h1 e
  · exact h2 (List.mem_singleton.mp h)
section
variable {prog : Program} {w : World} {A : Around} {E : Value → Shared → Prop} {s : Shared} {n i a b c T : Nat} {xs ys zs : Array Value}
/-- the cells of a zip of three lists, laid from n on, i items drawn -/
structure Z3 (h : Heap) (n a b c : Nat) (xs ys zs : Array Value) (i : Nat) : Prop where
  la : a < n
  lb : b < n
  lc : c < n
  zip : IsZip h (n + 5) (n + 3) (n + 4) .none ∨ ∃ (T : Nat) (f : Bool) (oT : Obj), IsZipHeld h (n + 5) (n + 3) (n + 4) T f ∧ h.get? T = some oT ∧ n + 6 < T
  ti : IsTupOf3 h (n + 3) (.ref n) (.ref (n + 1)) (.ref (n + 2))
  to : ∃ x y z, IsTupOf3 h (n + 4) x y z
  d1 : h.IsListIter n a i
  d2 : h.IsListIter (n + 1) b i
  d3 : h.IsListIter (n + 2) c i
  l1 : h.IsList a xs
  l2 : h.IsList b ys
  l3 : h.IsList c zs
theorem Z3.keep {h h' : Heap} (Z : Z3 h n a b c xs ys zs i) (k : ∀ (d : Nat) o, d ≠ n + 6 → h.get? d = some o → h'.get? d = some o) : Z3 h' n a b c xs ys zs i := by
  have ha := Z.la
  have hb := Z.lb
  have hc := Z.lc
  obtain ⟨x, y, z, hto⟩ := Z.to
  refine ⟨ha, hb, hc, ?_, k _ _ (ne_ (by omega)) Z.ti, ⟨x, y, z, k _ _ (ne_ (by omega)) hto⟩, Z.d1.at fun o e => k _ _ (ne_ (by omega)) e, Z.d2.at fun o e => k _ _ (ne_ (by omega)) e, Z.d3.at fun o e => k _ _ (ne_ (by omega)) e, Z.l1.at fun o e => k _ _ (Nat.ne_of_lt (by omega)) e, Z.l2.at fun o e => k _ _ (Nat.ne_of_lt (by omega)) e, Z.l3.at fun o e => k _ _ (Nat.ne_of_lt (by omega)) e⟩
  rcases Z.zip with h0 | ⟨T, f, oT, h1, h2, h3⟩
  · exact .inl (k _ _ (ne_ (by omega)) h0)
  · exact .inr ⟨T, f, oT, k _ _ (ne_ (by omega)) h1, k _ _ (Nat.ne_of_gt h3) h2, h3⟩
theorem z3_sep (la : a < n) (lb : b < n) (lc : c < n) : ZipSep3 (n + 5) (n + 3) (n + 4) n (n + 1) (n + 2) [n, a] [n + 1, b] [n + 2, c] := by
  constructor <;> first | exact ne_ (by omega) | exact nm2 (by omega) (by omega) | simp
theorem z3_held {x y z : Value} {Q : Value → Shared → Prop} {f : Bool} {oT : Obj} (Z : Z3 s.heap n a b c xs ys zs i) (hz : IsZipHeld s.heap (n + 5) (n + 3) (n + 4) T f) (hT : s.heap.get? T = some oT)
    (hx : xs[i]? = some x) (hy : ys[i]? = some y) (hv : zs[i]? = some z)
    (q : ∀ h', IsZipHeld h' (n + 5) (n + 3) (n + 4) T true → h'.IsListIter n a (i + 1) → h'.IsListIter (n + 1) b (i + 1) → h'.IsListIter (n + 2) c (i + 1) → IsTupOf3 h' s.heap.objs.size x y z → h'.objs.size = s.heap.objs.size + 1 →
      (∀ (d : Nat) o, d ≠ n + 5 → d ≠ n → d ≠ n + 1 → d ≠ n + 2 → s.heap.get? d = some o → h'.get? d = some o) → Q (.ref s.heap.objs.size) { s with heap := h' }) :
    wpAny (model prog w) A (Builtin.«zip.__next__» ⟨[.ref (n + 5)], []⟩) (fun fin s' => ∃ v, fin = .done (.ret v) ∧ Q v s') E s := by
  have ha := Z.la
  have hb := Z.lb
  have hc := Z.lc
  have a5 : a ≠ n + 5 := Nat.ne_of_lt (by omega)
  have b5 : b ≠ n + 5 := Nat.ne_of_lt (by omega)
  have c5 : c ≠ n + 5 := Nat.ne_of_lt (by omega)
  have bn : b ≠ n := Nat.ne_of_lt hb
  have cn : c ≠ n := Nat.ne_of_lt hc
  have cn1 : c ≠ n + 1 := Nat.ne_of_lt (by omega)
  show wpAny _ _ (field (.ref (n + 5)) 2 >>= _) _ _ _
  refine wpAny_bind (wpAny_field hz rfl (x := .bool false) rfl ?_)
  show wpAny _ _ (field (.ref (n + 5)) 3 >>= _) _ _ _
  refine wpAny_bind (wpAny_field hz rfl (x := .ref (n + 3)) rfl ?_)
  refine wpAny_bind (wpAny_seqItems Z.ti rfl ?_)
  show wpAny _ _ (Builtin.SmallTypes.ownedTupleIsFree (.ref (n + 5)) >>= _) _ _ _
  refine wpAny_bind (wpAny_tupleHeld_zip hz hT fun p1 z1 s1 => ?_)
  simp only [Bool.false_eq_true, if_false]
  refine wpAny_bind ?_
  rw [← Array.forIn_toList]
  simp only [List.forIn_cons, List.forIn_nil]
  refine wpAny_bind (wpAny_bind (wpAny_holding ?_))
  show wpAny _ _ (Builtin.SmallTypes.nextOf (.ref n) >>= _) _ _ _
  refine wpAny_bind (wpAny_nextOf_list_item (s := { s with heap := p1 }) (Z.d1.extBut s1.extBut (ne_ (by omega))) (Z.l1.extBut s1.extBut a5) hx fun p2 e1 s2 => wpAny_pure ?_)
  refine wpAny_pure ?_
  refine wpAny_bind (wpAny_bind (wpAny_holding ?_))
  show wpAny _ _ (Builtin.SmallTypes.nextOf (.ref (n + 1)) >>= _) _ _ _
  refine wpAny_bind (wpAny_nextOf_list_item (s := { s with heap := p2 }) ((Z.d2.extBut s1.extBut (ne_ (by omega))).extBut s2.extBut (ne_ (by omega))) ((Z.l2.extBut s1.extBut b5).extBut s2.extBut bn) hy fun p3 e2 s3 => wpAny_pure ?_)
  refine wpAny_pure ?_
  refine wpAny_bind (wpAny_bind (wpAny_holding ?_))
  show wpAny _ _ (Builtin.SmallTypes.nextOf (.ref (n + 2)) >>= _) _ _ _
  refine wpAny_bind (wpAny_nextOf_list_item (s := { s with heap := p3 }) (((Z.d3.extBut s1.extBut (ne_ (by omega))).extBut s2.extBut (ne_ (by omega))).extBut s3.extBut (ne_ (by omega))) (((Z.l3.extBut s1.extBut c5).extBut s2.extBut cn).extBut s3.extBut cn1) hv fun p4 e3 s4 => wpAny_pure ?_)
  refine wpAny_pure (wpAny_pure ?_)
  show wpAny _ _ (newTuple [x, y, z] >>= _) _ _ _
  refine wpAny_bind (wpAny_newTuple ?_)
  have es : p4.objs.size = s.heap.objs.size := by rw [s4.1, s3.1, s2.1, s1.1]
  have z4 : IsZipHeld p4 (n + 5) (n + 3) (n + 4) T true := s4.extBut _ _ (ne_ (by omega)) (s3.extBut _ _ (ne_ (by omega)) (s2.extBut _ _ (ne_ (by omega)) z1))
  have kk : ∀ (d : Nat) o, d ≠ n + 5 → d ≠ n → d ≠ n + 1 → d ≠ n + 2 → s.heap.get? d = some o → p4.get? d = some o := fun (d : Nat) o g1 g2 g3 g4 e => s4.extBut _ _ g4 (s3.extBut _ _ g3 (s2.extBut _ _ g2 (s1.extBut _ _ g1 e)))
  have e1' : p4.IsListIter n a (i + 1) := (e1.extBut s3.extBut (ne_ (by omega))).extBut s4.extBut (ne_ (by omega))
  have e2' : p4.IsListIter (n + 1) b (i + 1) := e2.extBut s4.extBut (ne_ (by omega))
  refine wpAny_pure ⟨_, rfl, ?_⟩
  show Q (.ref p4.objs.size) _
  have hp : IsTupOf3 (p4.push { cls := .type "tuple", data := .seq #[x, y, z] }) p4.objs.size x y z := Heap.get?_push_size _ rfl
  have hsz : (p4.push { cls := .type "tuple", data := .seq #[x, y, z] }).objs.size = p4.objs.size + 1 := Heap.size_push ..
  rw [es] at hp hsz ⊢
  exact q _ (Heap.get?_push_of_some _ z4) (e1'.at fun o e => Heap.get?_push_of_some _ e) (e2'.at fun o e => Heap.get?_push_of_some _ e) (e3.at fun o e => Heap.get?_push_of_some _ e) hp hsz fun (d : Nat) o g1 g2 g3 g4 e => Heap.get?_push_of_some _ (kk d o g1 g2 g3 g4 e)
theorem z3_held_end {Q : Fin → Shared → Prop} {f : Bool} {oT : Obj} (hh : A.handled = none) (Z : Z3 s.heap n a b c xs ys zs i) (hz : IsZipHeld s.heap (n + 5) (n + 3) (n + 4) T f) (hT : s.heap.get? T = some oT) (hx : xs[i]? = none)
    (hE : ∀ h' e, (∀ (d : Nat) o, d ≠ n + 5 → d ≠ n → s.heap.get? d = some o → h'.get? d = some o) → (∃ o, h'.get? e = some o ∧ o.cls = .type "StopIteration") → E (.ref e) { s with heap := h' }) :
    wpAny (model prog w) A (Builtin.«zip.__next__» ⟨[.ref (n + 5)], []⟩) Q E s := by
  have ha := Z.la
  have a5 : a ≠ n + 5 := Nat.ne_of_lt (by omega)
  show wpAny _ _ (field (.ref (n + 5)) 2 >>= _) _ _ _
  refine wpAny_bind (wpAny_field hz rfl (x := .bool false) rfl ?_)
  show wpAny _ _ (field (.ref (n + 5)) 3 >>= _) _ _ _
  refine wpAny_bind (wpAny_field hz rfl (x := .ref (n + 3)) rfl ?_)
  refine wpAny_bind (wpAny_seqItems Z.ti rfl ?_)
  show wpAny _ _ (Builtin.SmallTypes.ownedTupleIsFree (.ref (n + 5)) >>= _) _ _ _
  refine wpAny_bind (wpAny_tupleHeld_zip hz hT fun p1 z1 s1 => ?_)
  simp only [Bool.false_eq_true, if_false]
  refine wpAny_bind ?_
  rw [← Array.forIn_toList]
  simp only [List.forIn_cons, List.forIn_nil]
  refine wpAny_bind (wpAny_bind (wpAny_holding ?_))
  show wpAny _ _ (Builtin.SmallTypes.nextOf (.ref n) >>= _) _ _ _
  refine wpAny_bind (wpAny_nextOf_list_end (s := { s with heap := p1 }) hh (Z.d1.extBut s1.extBut (ne_ (by omega))) (Z.l1.extBut s1.extBut a5) hx fun p2 e s2 he => ?_)
  exact hE p2 e (fun (d : Nat) o g1 g2 x => s2 _ _ g2 (s1.extBut _ _ g1 x)) he
theorem z3_item {x y z : Value} {Q : Option Value → Shared → Prop} (hh : A.handled = none) (Z : Z3 s.heap n a b c xs ys zs i) (hn : n + 6 < s.heap.objs.size) (hx : xs[i]? = some x) (hy : ys[i]? = some y) (hv : zs[i]? = some z)
    (q : ∀ h' tk, Z3 h' n a b c xs ys zs (i + 1) → IsTupOf3 h' s.heap.objs.size x y z → h'.objs.size = s.heap.objs.size + 1 → (∀ (d : Nat) o, (d < n ∨ n + 5 < d) → s.heap.get? d = some o → h'.get? d = some o) → Q (some (.ref s.heap.objs.size)) { s with heap := h', toks := tk }) :
    wpAny (model prog w) A (pyNext (.ref (n + 5))) Q E s := by
  have ha := Z.la
  have hb := Z.lb
  have hc := Z.lc
  obtain ⟨x0, y0, z0, hto⟩ := Z.to
  rcases Z.zip with h0 | ⟨T, f, oT, hz, hT, hTn⟩
  · refine wpAny_pyNext_zipD3_item (z3_sep ha hb hc) (Draws.list (A := A.in1) (by exact hh) n a (Nat.ne_of_lt ha) xs) (Draws.list (A := A.in1) (by exact hh) (n + 1) b (Nat.ne_of_lt (by omega)) ys) (Draws.list (A := A.in1) (by exact hh) (n + 2) c (Nat.ne_of_lt (by omega)) zs) h0 Z.ti hto ⟨Z.d1, Z.l1⟩ ⟨Z.d2, Z.l2⟩ ⟨Z.d3, Z.l3⟩ (Array.getElem?_eq_some_iff.mp hx).1 (Array.getElem?_eq_some_iff.mp hy).1 (Array.getElem?_eq_some_iff.mp hv).1 ?_
    intro x1 x2 x3 h' tk r1 r2 r3 hz' hto' st1 st2 st3 ht hsz hk
    have r1 : xs[i]? = some x1 := r1
    have r2 : ys[i]? = some x2 := r2
    have r3 : zs[i]? = some x3 := r3
    rw [hx] at r1
    rw [hy] at r2
    rw [hv] at r3
    cases r1
    cases r2
    cases r3
    exact q h' tk ⟨ha, hb, hc, .inr ⟨_, false, _, hz', ht, hn⟩, hk _ _ (ne_ (by omega)) (ne_ (by omega)) (ne_ (by omega)) (ne_ (by omega)) (ne_ (by omega)) Z.ti, ⟨_, _, _, hto'⟩, st1.1, st2.1, st3.1, st1.2, st2.2, st3.2⟩ ht hsz fun (d : Nat) o hd e => hk d o (ne_ (by omega)) (ne_ (by omega)) (ne_ (by omega)) (ne_ (by omega)) (ne_ (by omega)) e
  · have hTy : s.TypeIs (.ref (n + 5)) "zip" := ⟨_, hz, rfl⟩
    unfold pyNext
    refine wpAny_bind (wpAny_attempt (wpAny_callSpecial?_slot (name := Str.ofString "__next__") hTy F.slot_zip_next (wpAny_call_entry F.slot_zip_next hTy F.entry_zip_next ?_ (F.args_zip_next_1 _))))
    refine z3_held Z hz hT hx hy hv fun h' hz' e1 e2 e3 ht hsz hk => wpAny_pure ?_
    have lo : ∀ (d : Nat), d < n → d ≠ n + 5 ∧ d ≠ n ∧ d ≠ n + 1 ∧ d ≠ n + 2 := fun d h => ⟨Nat.ne_of_lt (by omega), Nat.ne_of_lt h, Nat.ne_of_lt (by omega), Nat.ne_of_lt (by omega)⟩
    have hi : ∀ (d : Nat), n + 5 < d → d ≠ n + 5 ∧ d ≠ n ∧ d ≠ n + 1 ∧ d ≠ n + 2 := fun d h => ⟨Nat.ne_of_gt h, Nat.ne_of_gt (by omega), Nat.ne_of_gt (by omega), Nat.ne_of_gt (by omega)⟩
    exact q h' _ ⟨ha, hb, hc, .inr ⟨T, true, oT, hz', hk _ _ (hi T (by omega)).1 (hi T (by omega)).2.1 (hi T (by omega)).2.2.1 (hi T (by omega)).2.2.2 hT, hTn⟩, hk _ _ (ne_ (by omega)) (ne_ (by omega)) (ne_ (by omega)) (ne_ (by omega)) Z.ti, ⟨_, _, _, hk _ _ (ne_ (by omega)) (ne_ (by omega)) (ne_ (by omega)) (ne_ (by omega)) hto⟩, e1, e2, e3, Z.l1.at fun o e => hk _ _ (lo a ha).1 (lo a ha).2.1 (lo a ha).2.2.1 (lo a ha).2.2.2 e, Z.l2.at fun o e => hk _ _ (lo b hb).1 (lo b hb).2.1 (lo b hb).2.2.1 (lo b hb).2.2.2 e, Z.l3.at fun o e => hk _ _ (lo c hc).1 (lo c hc).2.1 (lo c hc).2.2.1 (lo c hc).2.2.2 e⟩ ht hsz fun (d : Nat) o hd e => by
      rcases hd with hd | hd
      · exact hk d o (lo d hd).1 (lo d hd).2.1 (lo d hd).2.2.1 (lo d hd).2.2.2 e
      · exact hk d o (hi d hd).1 (hi d hd).2.1 (hi d hd).2.2.1 (hi d hd).2.2.2 e
theorem z3_end {Q : Option Value → Shared → Prop} (hh : A.handled = none) (Z : Z3 s.heap n a b c xs ys zs i) (hx : i = xs.size) (hy : i ≤ ys.size) (hv : i ≤ zs.size)
    (q : ∀ h' tk, (∀ (d : Nat) o, (d < n ∨ n + 5 < d) → s.heap.get? d = some o → h'.get? d = some o) → Q none { s with heap := h', toks := tk }) :
    wpAny (model prog w) A (pyNext (.ref (n + 5))) Q E s := by
  have ha := Z.la
  have hb := Z.lb
  have hc := Z.lc
  obtain ⟨x0, y0, z0, hto⟩ := Z.to
  have lo : ∀ (d : Nat), (d < n ∨ n + 5 < d) → d ≠ n + 5 ∧ d ≠ n + 4 ∧ d ≠ n ∧ d ≠ n + 1 ∧ d ≠ n + 2 := fun d h => by omega
  rcases Z.zip with h0 | ⟨T, f, oT, hz, hT, hTn⟩
  · refine wpAny_pyNext_zipD3_end (z3_sep ha hb hc) (Draws.list (A := A.in1) (by exact hh) n a (Nat.ne_of_lt ha) xs) (Draws.list (A := A.in1) (by exact hh) (n + 1) b (Nat.ne_of_lt (by omega)) ys) (Draws.list (A := A.in1) (by exact hh) (n + 2) c (Nat.ne_of_lt (by omega)) zs) h0 Z.ti hto ⟨Z.d1, Z.l1⟩ ⟨Z.d2, Z.l2⟩ ⟨Z.d3, Z.l3⟩ (by omega) hy hv (.inl hx) ?_
    exact fun h' tk hk => q h' tk fun (d : Nat) o hd e => hk d o (lo d hd).1 (lo d hd).2.1 (lo d hd).2.2.1 (lo d hd).2.2.2.1 (lo d hd).2.2.2.2 e
  · have hTy : s.TypeIs (.ref (n + 5)) "zip" := ⟨_, hz, rfl⟩
    unfold pyNext
    refine wpAny_bind (wpAny_attempt (wpAny_callSpecial?_slot (name := Str.ofString "__next__") hTy F.slot_zip_next (wpAny_call_entry F.slot_zip_next hTy F.entry_zip_next ?_ (F.args_zip_next_1 _))))
    refine z3_held_end (by exact hh) Z hz hT (by rw [hx]; simp) fun h' e hk he => ?_
    obtain ⟨o, ho, hcl⟩ := he
    refine wpAny_bind (wpAny_isInstance (T := "StopIteration") (b := true) ⟨o, ho, hcl⟩ isSubtype_stop ?_)
    exact wpAny_pure (q h' _ fun (d : Nat) o hd e => hk d o (lo d hd).1 (lo d hd).2.2.1 e)
end
end NB
set_option Elab.async false
set_option linter.all false
set_option maxRecDepth 100000
set_option maxHeartbeats 4000000
namespace NB
open PySem PySem.Spec PyProof.Rows L2
/-- the new triples, in order -/
structure Tr3 (xs ys zs : Array Value) (lo : Nat) (h : Heap) (as : List Nat) : Prop where
  rise : as.Pairwise (· < ·)
  above : ∀ a ∈ as, lo < a
  here : ∀ (j a : Nat), as[j]? = some a → ∃ x y z, xs[j]? = some x ∧ ys[j]? = some y ∧ zs[j]? = some z ∧ IsTupOf3 h a x y z
theorem Tr3.there {xs ys zs : Array Value} {lo : Nat} {h : Heap} {as : List Nat} (g : Tr3 xs ys zs lo h as) {a : Nat} (ha : a ∈ as) : a < h.objs.size := by
  obtain ⟨j, hj⟩ := List.getElem?_of_mem ha
  obtain ⟨x, y, z, _, _, _, e⟩ := g.here j a hj
  exact Heap.lt_size e
section
variable {prog : Program} {w : World} {A : Around} {E : Value → Shared → Prop} {s : Shared} {n a b c : Nat} {xs ys zs : Array Value}
theorem tr3_loop {R : Result → Shared → Prop} {g1 : Heap} (hh : A.handled = none) (ly : ys.size = xs.size) (lz : zs.size = xs.size) (hx : xs.size ≤ sizeLine) (res : Value)
    (hR : ∀ h' tk acc cp as, (∀ (d : Nat) o, d < n → g1.get? d = some o → h'.get? d = some o) → h'.get? (n + 6) = some { cls := .type "list", dict := none, data := .seq acc cp, slots := #[] } → as.length = xs.size → Tr3 xs ys zs (n + 6) h' as →
      acc.toList = as.map Value.ref → R (.ok (.ret res)) { s with heap := h', toks := tk }) :
    ∀ (k i : Nat) (h : Heap) (tk cp : Nat) (acc : Array Value) (as : List Nat), xs.size - i = k → i ≤ xs.size → Z3 h n a b c xs ys zs i → (∀ (d : Nat) o, d < n → g1.get? d = some o → h.get? d = some o) →
      h.get? (n + 6) = some { cls := .type "list", dict := none, data := .seq acc cp, slots := #[] } → acc.toList = as.map Value.ref → as.length = i → Tr3 xs ys zs (n + 6) h as →
      codeAny (model prog w) A (.builtin "list.extend.loop" ⟨[.ref (n + 6), .ref (n + 5), res], []⟩) R { s with heap := h, toks := tk } := by
  intro k
  induction k with
  | zero =>
    intro i h tk cp acc as hk hi Z kp hS hacc hal G
    have hin : i = xs.size := by omega
    refine codeAny_builtin PySem.F.entry_extend_loop ?_
    rw [Around.under_plainId PySem.F.plain_extend_loop _]
    show wpAny _ A.in1 (pyNext (.ref (n + 5)) >>= _) _ _ _
    refine wpAny_bind (z3_end (s := { s with heap := h, toks := tk }) (A := A.in1) hh Z hin (by omega) (by omega) fun h' tk' he => ?_)
    refine wpAny_pure (hR h' tk' acc cp as (fun d o hd e => he d o (.inl hd) (kp d o hd e)) (he (n + 6) _ (.inr (by omega)) hS) (by omega) ⟨G.rise, G.above, fun j d hj => ?_⟩ hacc)
    obtain ⟨x, y, z, e1, e2, e3, e4⟩ := G.here j d hj
    have := G.above d (List.mem_of_getElem? hj)
    exact ⟨x, y, z, e1, e2, e3, he d _ (.inr (by omega)) e4⟩
  | succ k ih =>
    intro i h tk cp acc as hk hi Z kp hS hacc hal G
    have hlt : i < xs.size := by omega
    have hsz : acc.size = i := by rw [← Array.length_toList, hacc, List.length_map, hal]
    have hSl : n + 6 < h.objs.size := Heap.lt_size hS
    have ex : xs[i]? = some xs[i] := Array.getElem?_eq_getElem hlt
    have ey : ys[i]? = some ys[i] := Array.getElem?_eq_getElem (by omega)
    have ez : zs[i]? = some zs[i] := Array.getElem?_eq_getElem (by omega)
    refine codeAny_builtin PySem.F.entry_extend_loop ?_
    rw [Around.under_plainId PySem.F.plain_extend_loop _]
    show wpAny _ A.in1 (pyNext (.ref (n + 5)) >>= _) _ _ _
    refine wpAny_bind (z3_item (s := { s with heap := h, toks := tk }) (A := A.in1) hh Z hSl ex ey ez fun h' tk' Z' ht hz hkp => ?_)
    dsimp only at ht hz hkp ⊢
    have hS' := hkp (n + 6) _ (.inr (by omega)) hS
    have up : ∀ (d : Nat) o, d ≠ n + 6 → h'.get? d = some o → (h'.update (n + 6) (Obj.mapSeq (·.push (Value.ref h.objs.size)))).get? d = some o := fun d o hd e => (Heap.get?_update_other _ _ (Ne.symm hd)).trans e
    show wpAny _ A.in1 (updateSeq (n + 6) (·.push (Value.ref h.objs.size)) >>= _) _ _ _
    refine wpAny_bind ?_
    refine wpAny_updateSeq hS' rfl (wpAny_pure ⟨plainId_quiet PySem.F.plain_extend_loop _, ih (i + 1) _ tk' _ (acc.push (Value.ref h.objs.size)) (as ++ [h.objs.size]) (by omega) hlt (Z'.keep up)
      (fun d o hd e => up d o (Nat.ne_of_lt (by omega)) (hkp d o (.inl hd) (kp d o hd e))) (Heap.get?_update_self _ hS' rfl) (by rw [Array.toList_push, hacc, List.map_append]; rfl) (by rw [List.length_append, hal]; rfl) ⟨?_, ?_, ?_⟩⟩) (by rw [hsz]; omega) (by show (acc.push (Value.ref h.objs.size)).size ≤ sizeLine + 1; rw [Array.size_push, hsz]; omega)
    · refine List.pairwise_append.mpr ⟨G.rise, List.pairwise_singleton _ _, fun u hu v hv => ?_⟩
      rw [List.mem_singleton.mp hv]
      exact G.there hu
    · intro u hu
      rcases List.mem_append.mp hu with hu | hu
      · exact G.above u hu
      · rw [List.mem_singleton.mp hu]; exact hSl
    · intro j d hj
      by_cases c1 : j < as.length
      · rw [List.getElem?_append_left c1] at hj
        obtain ⟨x, y, z, e1, e2, e3, e4⟩ := G.here j d hj
        have := G.above d (List.mem_of_getElem? hj)
        exact ⟨x, y, z, e1, e2, e3, up d _ (Nat.ne_of_gt this) (hkp d _ (.inr (by omega)) e4)⟩
      · have hj2 := (List.getElem?_eq_some_iff.mp hj).1
        rw [List.length_append] at hj2
        have hj3 : j = as.length := by
          have : [h.objs.size].length = 1 := rfl
          omega
        subst hj3
        rw [List.getElem?_append_right (Nat.le_refl _), Nat.sub_self] at hj
        cases Option.some.inj hj
        rw [hal]
        exact ⟨_, _, _, ex, ey, ez, up _ _ (Nat.ne_of_gt hSl) ht⟩
theorem zip_no_len : typeLookup (.type "zip") "__len__" = pure none := am_miss_of_fast (by decide +kernel)
theorem zip_no_hint : typeLookup (.type "zip") "__length_hint__" = pure none := am_miss_of_fast (by decide +kernel)
theorem zip_hint {r : Nat} {Q : Bool → Shared → Prop} (hT : s.TypeIs (.ref r) "zip") (q : Q true s) : wpAny (model prog w) A (Builtin.List.listLengthHint (.ref r)) Q E s := by
  have f1 := zip_no_len
  have f2 := zip_no_hint
  unfold Builtin.List.listLengthHint
  refine wpAny_bind (wpAny_specialOf hT f1 ?_)
  wp_delta
  refine wpAny_ite_split (fun hab => absurd hab (by decide)) (fun _ => ?_)
  refine wpAny_ite_split (fun hab => absurd hab (by decide)) (fun _ => ?_)
  refine wpAny_bind (wpAny_specialOf hT f2 ?_)
  exact wpAny_pure q
end
end NB
set_option Elab.async false
set_option linter.all false
set_option maxRecDepth 100000
set_option maxHeartbeats 4000000
namespace NB
open PySem PySem.Spec PyProof.Rows L2
section
variable {prog : Program} {w : World} {A : Around} {E : Value → Shared → Prop} {s : Shared} {n a b c : Nat} {xs ys zs : Array Value}
theorem z3_extend {R : Result → Shared → Prop} (hh : A.handled = none) (ly : ys.size = xs.size) (lz : zs.size = xs.size) (hx : xs.size ≤ sizeLine) (Z : Z3 s.heap n a b c xs ys zs 0) (hz : IsZip s.heap (n + 5) (n + 3) (n + 4) .none) (res : Value) (c₀ : Nat) (hS : s.heap.get? (n + 6) = some { cls := .type "list", data := .seq #[] c₀ })
    (hR : ∀ h' tk acc cp as, (∀ (d : Nat) o, d < n → s.heap.get? d = some o → h'.get? d = some o) → h'.get? (n + 6) = some { cls := .type "list", dict := none, data := .seq acc cp, slots := #[] } → as.length = xs.size → Tr3 xs ys zs (n + 6) h' as →
      acc.toList = as.map Value.ref → R (.ok (.ret res)) { s with heap := h', toks := tk }) :
    wpAny (model prog w) A.in1 (Builtin.List.listExtendWith (.ref (n + 6)) (.ref (n + 5)) res)
      (fun fin s' => match fin with | .done f => R (.ok f) s' | .again c' => c'.quiet = true ∧ codeAny (model prog w) A c' R s') (fun e s' => R (.error e) s') s := by
  have key : ∀ (h : Heap) (c₁ tk : Nat), (∀ (d : Nat) o, d ≠ n + 6 → s.heap.get? d = some o → h.get? d = some o) → h.get? (n + 6) = some { cls := .type "list", data := .seq #[] c₁ } → codeAny (model prog w) A (.builtin "list.extend.loop" ⟨[.ref (n + 6), .ref (n + 5), res], []⟩) R { s with heap := h, toks := tk } := fun h c₁ tk hk hS₁ =>
    tr3_loop (s := s) (g1 := s.heap) hh ly lz hx res hR xs.size 0 h tk c₁ #[] [] (Nat.sub_zero _) (Nat.zero_le _) (Z.keep hk) (fun d o hd e => hk d o (Nat.ne_of_lt (by omega)) e) hS₁ rfl rfl ⟨List.Pairwise.nil, fun _ ha => by (cases ha), fun j d hj => by simp at hj⟩
  have hT : s.TypeIs (.ref (n + 5)) "zip" := ⟨_, hz, rfl⟩
  unfold Builtin.List.listExtendWith
  refine wpAny_bind (wpAny_typeOf (T := "zip") hT ?_)
  have h1 : Builtin.List.listSameRef (.ref (n + 6)) (.ref (n + 5)) = false := by simp [Builtin.List.listSameRef]
  have h2 : (Value.type "zip" == Value.type "list") = false := by decide
  have h3 : (Value.type "zip" == Value.type "tuple") = false := by decide
  simp only [h1, h2, h3, Bool.or_false, Bool.false_eq_true, if_false]
  refine wpAny_bind (wpAny_pyIter_zip hz ?_)
  refine wpAny_bind (wpAny_holding (zip_hint hT ?_))
  refine wpAny_ite_split (fun _ => ?_) (fun _ => wpAny_pure ⟨plainId_quiet PySem.F.plain_extend_loop _, key _ c₀ _ (fun d o _ e => e) hS⟩)
  refine wpAny_bind (wpAny_rule ?_)
  refine wpAny_bind ?_
  show wpAny _ _ (updateSeq (n + 6) (·.push .none) >>= fun _ => updateSeq (n + 6) (·.pop)) _ _ _
  refine wpAny_bind (wpAny_updateSeq hS rfl ?_)
  have hS₂ := Heap.get?_update_self (Obj.mapSeq (·.push Value.none)) hS rfl
  refine wpAny_updateSeq (hz := by seq_fits) hS₂ rfl ?_
  have hS₃ := Heap.get?_update_self (Obj.mapSeq (·.pop)) hS₂ rfl
  refine wpAny_pure ⟨plainId_quiet PySem.F.plain_extend_loop _, key _ _ _ (fun d o hb e => ?_) hS₃⟩
  exact (Heap.get?_update_other _ _ (Ne.symm hb)).trans ((Heap.get?_update_other _ _ (Ne.symm hb)).trans e)
theorem z3_init {R : Result → Shared → Prop} (hh : A.handled = none) (ly : ys.size = xs.size) (lz : zs.size = xs.size) (hx : xs.size ≤ sizeLine) (Z : Z3 s.heap n a b c xs ys zs 0) (hz : IsZip s.heap (n + 5) (n + 3) (n + 4) .none) (hS : s.heap.get? (n + 6) = some { cls := .type "list", data := .seq #[] })
    (hR : ∀ h' tk acc cp as, (∀ (d : Nat) o, d < n → s.heap.get? d = some o → h'.get? d = some o) → h'.get? (n + 6) = some { cls := .type "list", dict := none, data := .seq acc cp, slots := #[] } → as.length = xs.size → Tr3 xs ys zs (n + 6) h' as →
      acc.toList = as.map Value.ref → R (.ok (.ret .none)) { s with heap := h', toks := tk }) :
    wpAny (model prog w) A.in1 (Builtin.«list.__init__» ⟨[.ref (n + 6), .ref (n + 5)], []⟩)
      (fun fin s' => match fin with | .done f => R (.ok f) s' | .again c' => c'.quiet = true ∧ codeAny (model prog w) A c' R s') (fun e s' => R (.error e) s') s := by
  show wpAny _ _ (do let old ← Builtin.List.listItems (.ref (n + 6)); Builtin.List.listUpdate (.ref (n + 6)) (fun _ => #[]); letGo old.toList.reverse; Builtin.List.listExtendWith (.ref (n + 6)) (.ref (n + 5)) .none) _ _ s
  refine wpAny_bind ?_
  unfold Builtin.List.listItems
  refine wpAny_bind (wpAny_seqItems hS rfl (wpAny_pure ?_))
  show wpAny _ _ (updateSeq (n + 6) (fun _ => #[]) >>= fun _ => letGo (#[] : Array Value).toList.reverse >>= fun _ => Builtin.List.listExtendWith (.ref (n + 6)) (.ref (n + 5)) .none) _ _ s
  refine wpAny_bind (wpAny_updateSeq hS rfl ?_)
  have hS₂ := Heap.get?_update_self (Obj.mapSeq (fun _ => (#[] : Array Value))) hS rfl
  have oth : ∀ (d : Nat) o, d ≠ n + 6 → s.heap.get? d = some o → (s.heap.update (n + 6) (Obj.mapSeq (fun _ => (#[] : Array Value)))).get? d = some o :=
    fun d o hb e => (Heap.get?_update_other _ _ (Ne.symm hb)).trans e
  refine wpAny_bind (wpAny_letGo ?_)
  refine z3_extend hh ly lz hx (Z.keep oth) (oth _ _ (ne_ (by omega)) hz) .none _ hS₂ fun h' tk acc cp as hk hS' hl hG hacc => ?_
  exact hR h' tk acc cp as (fun d o hd e => hk d o hd (oth d o (Nat.ne_of_lt (by omega)) e)) hS' hl hG hacc
/-- list(z) of a fresh zip of three lists -/
theorem z3_list {Q : Value → Shared → Prop} (hh : A.handled = none) (ly : ys.size = xs.size) (lz : zs.size = xs.size) (hx : xs.size ≤ sizeLine) (Z : Z3 s.heap n a b c xs ys zs 0) (hz : IsZip s.heap (n + 5) (n + 3) (n + 4) .none) (hsz : s.heap.objs.size = n + 6)
    (hQ : ∀ h' tk acc cp as, (∀ (d : Nat) o, d < n → s.heap.get? d = some o → h'.get? d = some o) → h'.get? (n + 6) = some { cls := .type "list", dict := none, data := .seq acc cp, slots := #[] } → as.length = xs.size → Tr3 xs ys zs (n + 6) h' as →
      acc.toList = as.map Value.ref → Q (.ref (n + 6)) { s with heap := h', toks := tk }) :
    wpAny (model prog w) A (call (.type "list") [.ref (n + 5)]) Q E s := by
  refine callType_codes (Q₁ := fun obj s₁ => obj = .ref s.heap.objs.size ∧ s₁ = { s with heap := s.heap.push { cls := .type "list", data := .seq #[] } }) PySem.F.called_list (PySem.F.typeCall_list_1 _) PySem.F.entry_list_init
    (code_list_new _ ⟨rfl, rfl⟩) fun obj s₁ h₁ => ?_
  obtain ⟨rfl, rfl⟩ := h₁
  have hS : (s.heap.push { cls := .type "list", data := .seq #[] }).get? s.heap.objs.size = some { cls := .type "list", data := .seq #[] } := Heap.get?_push_size _ rfl
  rw [hsz] at hS ⊢
  refine ⟨⟨_, hS, rfl⟩, PySem.F.args_list_init_2 _ _, z3_init (A := A.in1) hh ly lz hx (Z.keep fun d o _ e => Heap.get?_push_of_some _ e) (Heap.get?_push_of_some _ hz) hS (fun h' tk acc cp as hk hS' hl hG hacc => ?_)⟩
  exact ⟨rfl, hQ h' tk acc cp as (fun d o hd e => hk d o hd (Heap.get?_push_of_some _ e)) hS' hl hG hacc⟩
/-- list(zip(a, b, c)) -/
theorem z3_made {Q : Value → Shared → Prop} (hh : A.handled = none) (ha : s.heap.IsList a xs) (hb : s.heap.IsList b ys) (hc : s.heap.IsList c zs) (ly : ys.size = xs.size) (lz : zs.size = xs.size) (hx : xs.size ≤ sizeLine)
    (hQ : ∀ h' tk acc cp as, (∀ (d : Nat) o, s.heap.get? d = some o → h'.get? d = some o) → h'.get? (s.heap.objs.size + 6) = some { cls := .type "list", dict := none, data := .seq acc cp, slots := #[] } → as.length = xs.size → Tr3 xs ys zs (s.heap.objs.size + 6) h' as →
      acc.toList = as.map Value.ref → Q (.ref (s.heap.objs.size + 6)) { s with heap := h', toks := tk }) :
    wpAny (model prog w) A (call (.type "zip") [.ref a, .ref b, .ref c]) (fun v s₁ => wpAny (model prog w) A (call (.type "list") [v]) Q E s₁) E s := by
  have la : a < s.heap.objs.size := by obtain ⟨o, h, _⟩ := ha; exact Heap.lt_size h
  have lb : b < s.heap.objs.size := by obtain ⟨o, h, _⟩ := hb; exact Heap.lt_size h
  have lc : c < s.heap.objs.size := by obtain ⟨o, h, _⟩ := hc; exact Heap.lt_size h
  refine zip_begins3 (begins_list a xs) (begins_list b ys) (begins_list c zs) ha hb hc fun h' hz hTI hTO h1 h2 h3 hsz hk => ?_
  refine z3_list (s := { s with heap := h' }) (n := s.heap.objs.size) (a := a) (b := b) (c := c) hh ly lz hx ⟨la, lb, lc, .inl hz, hTI, ⟨_, _, _, hTO⟩, ⟨_, h1, rfl, rfl⟩, ⟨_, h2, rfl, rfl⟩, ⟨_, h3, rfl, rfl⟩, ha.at fun o e => hk _ o e, hb.at fun o e => hk _ o e, hc.at fun o e => hk _ o e⟩ hz hsz fun h2' tk acc cp as hk2 hS hl hG hacc => ?_
  exact hQ h2' tk acc cp as (fun d o e => hk2 d o (Heap.lt_size e) (hk d o e)) hS hl hG hacc
end
/-- the tuples tracked at their addresses -/
def putTs : Hp → List Addr → List (List V) → Hp
  | H, a :: as, p :: ps => putTs (upd H a (.tup p)) as ps
  | H, _, _ => H
theorem putTs_off {b : Addr} : ∀ (as : List Addr) (ps : List (List V)) (H : Hp), b ∉ as → putTs H as ps b = H b
  | [], _, _, _ => rfl
  | _ :: _, [], _, _ => rfl
  | a :: as, p :: ps, H, h => by
    show putTs (upd H a (.tup p)) as ps b = H b
    rw [putTs_off as ps _ (fun z => h (List.mem_cons_of_mem _ z)), upd_ne (fun z => h (by rw [z]; exact List.mem_cons_self))]
theorem putTs_at : ∀ (as : List Addr) (ps : List (List V)) (H : Hp), as.length = ps.length → as.Nodup → ∀ (i : Nat) t, as[i]? = some t → ∃ p, ps[i]? = some p ∧ putTs H as ps t = some (.tup p)
  | [], _, _, _, _, i, t, e => by simp at e
  | _ :: _, [], _, h, _, _, _, _ => by cases h
  | a :: as, p :: ps, H, h, hn, 0, t, e => by
    cases Option.some.inj e
    refine ⟨p, rfl, ?_⟩
    show putTs (upd H a (.tup p)) as ps a = some (.tup p)
    rw [putTs_off as ps _ (List.nodup_cons.mp hn).1, upd_same]
  | a :: as, p :: ps, H, h, hn, i + 1, t, e => by
    obtain ⟨q, h1, h2⟩ := putTs_at as ps (upd H a (.tup p)) (Nat.succ.inj h) (List.nodup_cons.mp hn).2 i t (by simpa using e)
    exact ⟨q, by simpa using h1, h2⟩
theorem vals_refs3 : ∀ as : List Addr, Vals (as.map V.ref) (as.map Value.ref)
  | [] => .nil
  | _ :: as => .cons rfl (vals_refs3 as)
def tLzip3 (K : PySem.W.Frag) (t : TA) : TE := fun σ H Q => t σ H fun vs H1 => ∃ a b c xs ys zs, vs = [.ref a, .ref b, .ref c] ∧ SqL K H1 a xs ∧ SqL K H1 b ys ∧ SqL K H1 c zs ∧ ys.length = xs.length ∧ zs.length = xs.length ∧
  ∀ (H' : Hp) (p : Addr) (ts : List Addr), Same H1 H' → H1 p = none → (∀ t ∈ ts, H1 t = none) → p ∉ ts → ts.length = xs.length → H' p = some (.lst (ts.map V.ref)) →
    (∀ (i : Nat) t, ts[i]? = some t → ∃ x y z, xs[i]? = some x ∧ ys[i]? = some y ∧ zs[i]? = some z ∧ H' t = some (.tup [x, y, z])) → Q (.ref p) H'
section
variable {X : Cx}
theorem zip3_laid {pins : List (Addr × Obj)} {σ : L2.St} {H : Hp} {s : Shared} {h' : Heap} {tk S : Nat} {xs ys zs : List V} {us vs ws : List Value} {acc : Array Value} {cp : Nat} {as : List Nat} (I : Inv X pins σ H s) (hS0 : s.heap.objs.size ≤ S) (hx : xs.length ≤ sizeLine) (ly : ys.length = xs.length) (lz : zs.length = xs.length)
    (r1 : Vals xs us) (r2 : Vals ys vs) (r3 : Vals zs ws) (hk : ∀ b o, s.heap.get? b = some o → h'.get? b = some o) (hS : h'.get? S = some { cls := .type "list", dict := none, data := .seq acc cp, slots := #[] }) (hl : as.length = us.toArray.size)
    (hG : Tr3 us.toArray vs.toArray ws.toArray S h' as) (hacc : acc.toList = as.map Value.ref) :
    ∃ H' : Hp, Same H H' ∧ H S = none ∧ (∀ t ∈ as, H t = none) ∧ S ∉ as ∧ as.length = xs.length ∧ H' S = some (.lst (as.map V.ref)) ∧
      (∀ (i : Nat) t, as[i]? = some t → ∃ x y z, xs[i]? = some x ∧ ys[i]? = some y ∧ zs[i]? = some z ∧ H' t = some (.tup [x, y, z])) ∧ Inv X pins σ H' { s with heap := h', toks := tk } := by
  have lu : xs.length = us.length := r1.length
  have la : as.length = xs.length := by rw [hl, List.size_toArray, lu]
  have hSn : S ∉ as := fun z => Nat.lt_irrefl _ (hG.above _ z)
  have nd : as.Nodup := List.Pairwise.imp (fun {a b} (h : a < b) => Nat.ne_of_lt h) hG.rise
  have new : ∀ t ∈ as, H t = none := fun t ht => I.hok.fresh (Nat.le_of_lt (Nat.lt_of_le_of_lt hS0 (hG.above t ht)))
  have newS : H S = none := I.hok.fresh hS0
  let ps : List (List V) := (List.range xs.length).map fun i => [xs.getD i .non, ys.getD i .non, zs.getD i .non]
  have lps : as.length = ps.length := by rw [la]; simp [ps]
  have atP := putTs_at as ps (upd H S (.lst (as.map V.ref))) lps nd
  have off : ∀ b, b ∉ as → b ≠ S → putTs (upd H S (.lst (as.map V.ref))) as ps b = H b := fun b h1 h2 => by rw [putTs_off as ps _ h1, upd_ne h2]
  have low : ∀ b o, s.heap.get? b = some o → b ∉ as ∧ b ≠ S := fun b o e => ⟨fun z => absurd (Heap.lt_size e) (Nat.not_lt.mpr (Nat.le_of_lt (Nat.lt_of_le_of_lt hS0 (hG.above b z)))), Nat.ne_of_lt (Nat.lt_of_lt_of_le (Heap.lt_size e) hS0)⟩
  have kp : ∀ b u, H b = some u → (putTs (upd H S (.lst (as.map V.ref))) as ps) b = some u := fun b u e => by
    rw [off b (fun z => by rw [new b z] at e; cases e) (fun z => by rw [z, newS] at e; cases e)]
    exact e
  have eS : putTs (upd H S (.lst (as.map V.ref))) as ps S = some (.lst (as.map V.ref)) := by rw [putTs_off as ps _ hSn, upd_same]
  have at3 : ∀ (i : Nat) t, as[i]? = some t → ∃ x y z, xs[i]? = some x ∧ ys[i]? = some y ∧ zs[i]? = some z ∧ putTs (upd H S (.lst (as.map V.ref))) as ps t = some (.tup [x, y, z]) := fun i t e => by
    have hi : i < xs.length := by rw [← la]; exact (List.getElem?_eq_some_iff.mp e).1
    obtain ⟨p, e1, e2⟩ := atP i t e
    have e3 : p = [xs.getD i .non, ys.getD i .non, zs.getD i .non] := by
      have : ps[i]? = some [xs.getD i .non, ys.getD i .non, zs.getD i .non] := by simp [ps, hi]
      rw [this] at e1; exact (Option.some.inj e1).symm
    rw [e3] at e2
    refine ⟨_, _, _, ?_, ?_, ?_, e2⟩
    · rw [List.getD_eq_getElem?_getD, List.getElem?_eq_getElem hi]; rfl
    · rw [List.getD_eq_getElem?_getD, List.getElem?_eq_getElem (by omega)]; rfl
    · rw [List.getD_eq_getElem?_getD, List.getElem?_eq_getElem (by omega)]; rfl
  refine ⟨putTs (upd H S (.lst (as.map V.ref))) as ps, kp, newS, new, hSn, la, eS, at3, ?_⟩
  refine I.call' (ch := []) rfl ⟨fun b o q _ _ _ => hk b o q, fun b o q _ _ _ => ⟨o.slots, hk b o q⟩, fun b o q n _ => ?_, fun b o q _ => ⟨o, hk b o q⟩, fun b xs q => kp b _ q, fun b o u q => kp b _ q, fun b ps' q => ⟨#[], by rw [kp b _ q]; simp⟩⟩ (fun b u q => ?_) I.bare fun b z => by simp at z
  · obtain ⟨z1, z2⟩ := low b o q
    rw [off b z1 z2]
    exact n
  · by_cases hb : b ∈ as
    · obtain ⟨j, e1⟩ := List.getElem?_of_mem hb
      obtain ⟨x, y, z, f1, f2, f3, f4⟩ := at3 j b e1
      rw [f4] at q
      cases q
      obtain ⟨x', y', z', g1, g2, g3, g4⟩ := hG.here j b e1
      obtain ⟨u1, k1, q1⟩ := r1.get f1
      obtain ⟨u2, k2, q2⟩ := r2.get f2
      obtain ⟨u3, k3, q3⟩ := r3.get f3
      rw [List.getElem?_toArray] at g1 g2 g3
      rw [k1] at g1
      rw [k2] at g2
      rw [k3] at g3
      cases g1
      cases g2
      cases g3
      exact ⟨by show 3 ≤ sizeLine; decide, [x', y', z'], .cons q1 (.cons q2 (.cons q3 .nil)), ⟨_, g4, rfl, _, rfl⟩⟩
    · by_cases hb2 : b = S
      · rw [hb2] at q ⊢
        rw [eS] at q
        cases q
        refine ⟨by rw [List.length_map]; omega, acc.toList, cp, by rw [hacc]; exact vals_refs3 as, ?_⟩
        rw [Array.toArray_toList]
        exact hS
      · rw [off b hb hb2] at q
        exact (I.hok b u q).stay (fun d v _ y => hk d v y) (fun d y => kp d _ y) fun d xs y => kp d _ y
theorem pe_lzip3 {e : Expr} {es : List Expr} {t : TA} {p p2 pos2 pos : Pos} (hg : Gl X "list") (hm : X.mg "list" = none) (hg2 : Gl X "zip") (hm2 : X.mg "zip" = none) (ha : PA X (e :: es) t) (hc : X.calm = true := by rfl)
    (hs : starEach [.Call (.Name "zip" p2) (e :: es) [] pos2] X.env = (false, eval (.Call (.Name "zip" p2) (e :: es) [] pos2) X.env) :: starEach [] X.env := by rfl)
    (hs2 : starEach (e :: es) X.env = (false, eval e X.env) :: starEach es X.env := by rfl) (hpl : (backTo pos2 (starEach es X.env)).any (·.1) = false := by rfl) :
    PE X (.Call (.Name "list" p) [.Call (.Name "zip" p2) (e :: es) [] pos2] [] pos) (tLzip3 X.K t) := by
  refine ⟨fun pins s σ H Q I h => ?_⟩
  refine wpAny_Call_Name_kw (ld_blt I hg hm boot_list ?_)
  refine PyProof.Rows.callWith_type1 ?_ hs rfl
  rw [hs]
  show wpAny _ _ (spliced ((false, eval (.Call (.Name "zip" p2) (e :: es) [] pos2) X.env) :: backTo pos (starEach [] X.env))) _ _ s
  refine Calls.spliced_cons ?_
  refine wpAny_Call_Name_kw (ld_blt I hg2 hm2 boot_zip ?_)
  refine PyProof.Rows.callWith_type1 (thn (ha.run pos2 pins s σ H _ I h) fun us s1 ⟨vs, H1, I1, r1, q1⟩ => ?_) hs2 hpl
  obtain ⟨a, b, c, xs, ys, zs, rfl, ha, hb, hc', ly, lz, q⟩ := q1
  cases r1 with
  | cons k1 r1 => cases r1 with
    | cons k2 r1 => cases r1 with
      | cons k3 r1 =>
        cases r1
        cases k1
        cases k2
        cases k3
        obtain ⟨its1, rv1, p1, z1⟩ := I1.list ha
        obtain ⟨its2, rv2, p2', z2⟩ := I1.list hb
        obtain ⟨its3, rv3, p3, z3⟩ := I1.list hc'
        have l1 := rv1.length
        have l2 := rv2.length
        have l3 := rv3.length
        have key := z3_made (prog := X.prog) (w := X.w) (A := X.A) (E := X.xe) (s := s1) (xs := its1.toArray) (ys := its2.toArray) (zs := its3.toArray) (Q := EP X pins σ Q) (I1.ok.hd hc) p1.isList p2'.isList p3.isList (by simp only [List.size_toArray]; omega) (by simp only [List.size_toArray]; omega) (by simp only [List.size_toArray]; omega)
          (fun h' tk acc cp as hk hS hl hG hacc => by
            obtain ⟨H', k1, k2, k3, k4, k5, k6, k7, J⟩ := zip3_laid (tk := tk) I1 (Nat.le_add_right _ 6) (by omega) ly lz rv1 rv2 rv3 hk hS hl hG hacc
            exact ⟨.ref _, H', J, rfl, q H' _ as k1 k2 k3 k4 k5 k6 k7⟩)
        refine wpAny_mono key (fun v s2 x => ?_) fun e s2 x => x
        refine Calls.spliced_nil ?_
        exact x
end
end NB
set_option Elab.async false
set_option linter.all false
set_option maxRecDepth 100000
set_option maxHeartbeats 4000000
/-! Data of tuples over the abstract heap, promises by number of arguments, the masks. -/
namespace NB
open PySem L2
/-! ### promises by the number of arguments -/
def S1 (φ : V → Hp → VK → Prop) : Sp := fun vs H Q E => match vs with | [a] => φ a H Q | _ => False
def S2 (φ : V → V → Hp → VK → Prop) : Sp := fun vs H Q E => match vs with | [a, b] => φ a b H Q | _ => False
def S3 (φ : V → V → V → Hp → VK → Prop) : Sp := fun vs H Q E => match vs with | [a, b, c] => φ a b c H Q | _ => False
def S4 (φ : V → V → V → V → Hp → VK → Prop) : Sp := fun vs H Q E => match vs with | [a, b, c, d] => φ a b c d H Q | _ => False
def S5 (φ : V → V → V → V → V → Hp → VK → Prop) : Sp := fun vs H Q E => match vs with | [a, b, c, d, e] => φ a b c d e H Q | _ => False
section
variable {vs : List V} {H : Hp} {Q : VK} {E : XK}
theorem S1.op {φ} (h : S1 φ vs H Q E) : ∃ a, vs = [a] ∧ φ a H Q := by
  match vs, h with
  | [a], h => exact ⟨a, rfl, h⟩
theorem S2.op {φ} (h : S2 φ vs H Q E) : ∃ a b, vs = [a, b] ∧ φ a b H Q := by
  match vs, h with
  | [a, b], h => exact ⟨a, b, rfl, h⟩
theorem S3.op {φ} (h : S3 φ vs H Q E) : ∃ a b c, vs = [a, b, c] ∧ φ a b c H Q := by
  match vs, h with
  | [a, b, c], h => exact ⟨a, b, c, rfl, h⟩
theorem S4.op {φ} (h : S4 φ vs H Q E) : ∃ a b c d, vs = [a, b, c, d] ∧ φ a b c d H Q := by
  match vs, h with
  | [a, b, c, d], h => exact ⟨a, b, c, d, rfl, h⟩
theorem S5.op {φ} (h : S5 φ vs H Q E) : ∃ a b c d e, vs = [a, b, c, d, e] ∧ φ a b c d e H Q := by
  match vs, h with
  | [a, b, c, d, e], h => exact ⟨a, b, c, d, e, rfl, h⟩
theorem S1.len {φ} (h : S1 φ vs H Q E) : vs.length = 1 := by obtain ⟨_, rfl, _⟩ := h.op; rfl
theorem S2.len {φ} (h : S2 φ vs H Q E) : vs.length = 2 := by obtain ⟨_, _, rfl, _⟩ := h.op; rfl
theorem S3.len {φ} (h : S3 φ vs H Q E) : vs.length = 3 := by obtain ⟨_, _, _, rfl, _⟩ := h.op; rfl
theorem S4.len {φ} (h : S4 φ vs H Q E) : vs.length = 4 := by obtain ⟨_, _, _, _, rfl, _⟩ := h.op; rfl
theorem S5.len {φ} (h : S5 φ vs H Q E) : vs.length = 5 := by obtain ⟨_, _, _, _, _, rfl, _⟩ := h.op; rfl
end
/-- what follows a body -/
abbrev De (Q : VK) : Ends := { nx := fun _ H' => Q .non H', rt := Q }
/-! ### heaps -/
/-- the tuples stand -/
def Im (H H' : Hp) : Prop := ∀ a xs, H a = some (.tup xs) → H' a = some (.tup xs)
theorem Im.refl (H : Hp) : Im H H := fun _ _ h => h
theorem Im.trans {H H1 H2 : Hp} (a : Im H H1) (b : Im H1 H2) : Im H H2 := fun x o h => b x o (a x o h)
theorem _root_.L2.Same.im {H H' : Hp} (s : Same H H') : Im H H' := fun a xs h => s a _ h
theorem _root_.L2.Same.new {H : Hp} {p : Addr} {o : HO} (h : H p = none) : Same H (upd H p o) := fun a u e => by
  rw [upd_ne (ne_of_none e h)]
  exact e
theorem _root_.L2.Same.mut {H H' : Hp} {p : Addr} {o : HO} (e : Same H H') (h : H p = none) : Same H (upd H' p o) := fun a u ha => by
  rw [upd_ne (ne_of_none ha h)]
  exact e a u ha
theorem _root_.L2.Same.snew {H H' : Hp} {p : Addr} {o : HO} (e : Same H H') (h : H' p = none) : Same H (upd H' p o) := e.trans (Same.new h)
theorem Im.new {H : Hp} {p : Addr} {o : HO} (h : H p = none) : Im H (upd H p o) := (Same.new h).im
theorem Im.lst {H : Hp} {l : Addr} {xs : List V} {o : HO} (h : H l = some (.lst xs)) : Im H (upd H l o) := fun a ys e => by
  have : a ≠ l := fun q => by rw [q, h] at e; cases e
  rw [upd_ne this]; exact e
theorem Im.dT {H : Hp} {l : Addr} {xs : List (List Key × V)} {o : HO} (h : H l = some (.dT xs)) : Im H (upd H l o) := fun a ys e => by
  have : a ≠ l := fun q => by rw [q, h] at e; cases e
  rw [upd_ne this]; exact e
theorem Im.dK {H : Hp} {l : Addr} {xs : List (Key × V)} {o : HO} (h : H l = some (.dK xs)) : Im H (upd H l o) := fun a ys e => by
  have : a ≠ l := fun q => by rw [q, h] at e; cases e
  rw [upd_ne this]; exact e
/-! ### data of tuples -/
mutual
inductive Dt (H : Hp) : V → PyData → Prop
  | non : Dt H .non .none
  | bl (b : Bool) : Dt H (.bl b) (.bool b)
  | int (i : Int) : Dt H (.int i) (.int i)
  | str (x : Str) : Dt H (.str x) (.str x)
  | tup {a : Addr} {xs : List V} {ds : List PyData} : H a = some (.tup xs) → DtL H xs ds → Dt H (.ref a) (.tuple ds)
inductive DtL (H : Hp) : List V → List PyData → Prop
  | nil : DtL H [] []
  | cons {v : V} {vs : List V} {d : PyData} {ds : List PyData} : Dt H v d → DtL H vs ds → DtL H (v :: vs) (d :: ds)
end
mutual
theorem Dt.im {H H' : Hp} (e : Im H H') : ∀ {v : V} {d : PyData}, Dt H v d → Dt H' v d
  | _, _, .non => .non
  | _, _, .bl b => .bl b
  | _, _, .int i => .int i
  | _, _, .str x => .str x
  | _, _, .tup h r => .tup (e _ _ h) (DtL.im e r)
theorem DtL.im {H H' : Hp} (e : Im H H') : ∀ {vs : List V} {ds : List PyData}, DtL H vs ds → DtL H' vs ds
  | _, _, .nil => .nil
  | _, _, .cons h r => .cons (Dt.im e h) (DtL.im e r)
end
mutual
theorem Dt.dp {K : PySem.W.Frag} {H : Hp} : ∀ {v : V} {d : PyData}, Dt H v d → Dp K H v d
  | _, _, .non => .non
  | _, _, .bl b => .bl b
  | _, _, .int i => .int i
  | _, _, .str x => .str x
  | _, _, .tup h r => .tup (SqT.of h) (DtL.dp r)
theorem DtL.dp {K : PySem.W.Frag} {H : Hp} : ∀ {vs : List V} {ds : List PyData}, DtL H vs ds → DpAll K H vs ds
  | _, _, .nil => .nil
  | _, _, .cons h r => .cons (Dt.dp h) (DtL.dp r)
end
theorem Dt.same {H H' : Hp} (e : Same H H') {v : V} {d : PyData} (h : Dt H v d) : Dt H' v d := h.im e.im
theorem DtL.same {H H' : Hp} (e : Same H H') {v : List V} {d : List PyData} (h : DtL H v d) : DtL H' v d := h.im e.im
theorem Dt.tup_inv {H : Hp} {v : V} {ds : List PyData} (h : Dt H v (.tuple ds)) : ∃ a xs, v = .ref a ∧ H a = some (.tup xs) ∧ DtL H xs ds := by
  cases h with
  | tup h r => exact ⟨_, _, rfl, h, r⟩
theorem Dt.int_inv {H : Hp} {v : V} {i : Int} (h : Dt H v (.int i)) : v = .int i := by
  cases h with
  | int i => rfl
theorem DtL.length {H : Hp} : ∀ {vs : List V} {ds : List PyData}, DtL H vs ds → vs.length = ds.length
  | _, _, .nil => rfl
  | _, _, .cons _ r => congrArg Nat.succ (DtL.length r)
theorem DtL.get {H : Hp} : ∀ {vs : List V} {ds : List PyData} {i : Nat} {d : PyData}, DtL H vs ds → ds[i]? = some d → ∃ v, vs[i]? = some v ∧ Dt H v d
  | _, _, _, _, .nil, e => by simp at e
  | _, _, 0, _, .cons h _, e => by simp at e; subst e; exact ⟨_, rfl, h⟩
  | _, _, i + 1, d, .cons _ r, e => by
    obtain ⟨v, h1, h2⟩ := DtL.get (i := i) (d := d) r (by simpa using e)
    exact ⟨v, by simpa using h1, h2⟩
theorem DtL.get' {H : Hp} : ∀ {vs : List V} {ds : List PyData} {i : Nat} {v : V}, DtL H vs ds → vs[i]? = some v → ∃ d, ds[i]? = some d ∧ Dt H v d
  | _, _, _, _, .nil, e => by simp at e
  | _, _, 0, _, .cons h _, e => by simp at e; subst e; exact ⟨_, rfl, h⟩
  | _, _, i + 1, v, .cons _ r, e => by
    obtain ⟨d, h1, h2⟩ := DtL.get' (i := i) (v := v) r (by simpa using e)
    exact ⟨d, by simpa using h1, h2⟩
theorem DtL.append {H : Hp} : ∀ {vs ws : List V} {ds es : List PyData}, DtL H vs ds → DtL H ws es → DtL H (vs ++ ws) (ds ++ es)
  | _, _, _, _, .nil, s => s
  | _, _, _, _, .cons h r, s => .cons h (DtL.append r s)
theorem DtL.snoc {H : Hp} {vs : List V} {ds : List PyData} {v : V} {d : PyData} (r : DtL H vs ds) (h : Dt H v d) : DtL H (vs ++ [v]) (ds ++ [d]) := r.append (.cons h .nil)
theorem DtL.one {H : Hp} {v : V} {d : PyData} (h : Dt H v d) : DtL H [v] [d] := .cons h .nil
/-! ### what the data say -/
abbrev nv (n : Nat) : V := .int (n : Int)
abbrev eN (n : Nat) : PyData := .int (n : Int)
abbrev eI (i : Int) : PyData := .int i
abbrev eP (p : Nat × Nat) : PyData := .tuple [eN p.1, eN p.2]
abbrev eT {α : Type} (f : α → PyData) (l : List α) : PyData := .tuple (l.map f)
abbrev eL (l : List Nat) : PyData := eT eN l
theorem DtL.nats {H : Hp} : ∀ {vs : List V} {l : List Nat}, DtL H vs (l.map eN) → vs = l.map nv
  | _, [], .nil => rfl
  | _, n :: l, .cons h r => by rw [h.int_inv, DtL.nats r]; rfl
theorem DtL.of_nats {H : Hp} : ∀ {l : List Nat}, DtL H (l.map nv) (l.map eN)
  | [] => .nil
  | n :: l => .cons (.int _) DtL.of_nats
/-- v is a tuple that says l, by f -/
theorem Dt.open {H : Hp} {v : V} {α : Type} {f : α → PyData} {l : List α} (h : Dt H v (eT f l)) : ∃ a xs, v = .ref a ∧ H a = some (.tup xs) ∧ DtL H xs (l.map f) := h.tup_inv
theorem DtL.at {H : Hp} {xs : List V} {α : Type} {f : α → PyData} {l : List α} (h : DtL H xs (l.map f)) {i : Nat} {y : α} (e : l[i]? = some y) : ∃ x, xs[i]? = some x ∧ Dt H x (f y) :=
  h.get (by rw [List.getElem?_map, e]; rfl)
theorem DtL.at' {H : Hp} {xs : List V} {α : Type} {f : α → PyData} {l : List α} (h : DtL H xs (l.map f)) {i : Nat} {x : V} (e : xs[i]? = some x) : ∃ y, l[i]? = some y ∧ Dt H x (f y) := by
  obtain ⟨d, h1, h2⟩ := h.get' e
  rw [List.getElem?_map] at h1
  cases q : l[i]? with
  | none => rw [q] at h1; cases h1
  | some y => rw [q] at h1; cases h1; exact ⟨y, rfl, h2⟩
theorem DtL.len {H : Hp} {xs : List V} {α : Type} {f : α → PyData} {l : List α} (h : DtL H xs (l.map f)) : xs.length = l.length := by rw [h.length, List.length_map]
theorem Dt.lot {H : Hp} {v : V} {l : List Nat} (h : Dt H v (eL l)) : ∃ a, v = .ref a ∧ H a = some (.tup (l.map nv)) := by
  obtain ⟨a, xs, e1, e2, r⟩ := h.open
  rw [r.nats] at e2
  exact ⟨a, e1, e2⟩
theorem Dt.of_lot {H : Hp} {a : Addr} {l : List Nat} (h : H a = some (.tup (l.map nv))) : Dt H (.ref a) (eL l) := .tup h DtL.of_nats
theorem small {n : Nat} (h : n ≤ 100000) : n ≤ sizeLine := Nat.le_trans h (by decide)
theorem smaller {n : Nat} (h : n < 100000) : n < sizeLine := Nat.lt_of_lt_of_le h (by decide)
theorem getElem?_nats {l : List Nat} {i : Nat} {n : Nat} (h : l[i]? = some n) : (l.map nv)[i]? = some (nv n) := by rw [List.getElem?_map, h]; rfl
theorem of_getElem?_nats {l : List Nat} {i : Nat} {v : V} (h : (l.map nv)[i]? = some v) : ∃ n, l[i]? = some n ∧ v = nv n := by
  rw [List.getElem?_map] at h
  cases q : l[i]? with
  | none => rw [q] at h; cases h
  | some y => rw [q] at h; cases h; exact ⟨y, rfl, rfl⟩
theorem take_more {α : Type} {l : List α} {i : Nat} {x : α} (h : l[i]? = some x) : l.take (i + 1) = l.take i ++ [x] := by
  rw [List.take_succ, h]; rfl
/-! ### a value as an item: its int, if it is one -/
inductive Kn (H : Hp) : V → Option Int → Prop
  | int (i : Int) : Kn H (.int i) (some i)
  | non : Kn H .non none
  | bl (b : Bool) : Kn H (.bl b) none
  | str (x : Str) : Kn H (.str x) none
  | lst {a : Addr} {xs : List V} (e : H a = some (.lst xs)) : Kn H (.ref a) none
  | tup {a : Addr} {xs : List V} (e : H a = some (.tup xs)) : Kn H (.ref a) none
  | dK {a : Addr} {xs : List (Key × V)} (e : H a = some (.dK xs)) : Kn H (.ref a) none
theorem Kn.same {H H' : Hp} (s : Same H H') {v : V} {o : Option Int} (h : Kn H v o) : Kn H' v o := by
  cases h with
  | int i => exact .int i
  | non => exact .non
  | bl b => exact .bl b
  | str x => exact .str x
  | lst e => exact .lst (s _ _ e)
  | tup e => exact .tup (s _ _ e)
  | dK e => exact .dK (s _ _ e)
theorem Kn.isi {K : PySem.W.Frag} {H : Hp} {v : V} {o : Option Int} {Q : VK} (h : Kn H v o) (q : ∀ b, b = (o.isSome || (match v with | .bl _ => true | _ => false)) → Q (.bl b) H) : rIsi K [v, .ty "int"] H Q := by
  cases h with
  | int i => exact ⟨_, _, _, _, true, rfl, .ty _, .base (.int i), kit_ty (by decide +kernel), q _ rfl⟩
  | non => exact ⟨_, _, _, _, false, rfl, .ty _, .base .non, kit_ty (by decide +kernel), q _ rfl⟩
  | bl b => exact ⟨_, _, _, _, true, rfl, .ty _, .base (.bl b), kit_ty (by decide +kernel), q _ rfl⟩
  | str x => exact ⟨_, _, _, _, false, rfl, .ty _, .base (.str x), kit_ty (by decide +kernel), q _ rfl⟩
  | lst e => exact ⟨_, _, _, _, false, rfl, .ty _, .base (.lst e), kit_ty (by decide +kernel), q _ rfl⟩
  | tup e => exact ⟨_, _, _, _, false, rfl, .ty _, .base (.tup e), kit_ty (by decide +kernel), q _ rfl⟩
  | dK e => exact ⟨_, _, _, _, false, rfl, .ty _, .base (.dK e), kit_ty (by decide +kernel), q _ rfl⟩
theorem Kn.isb {K : PySem.W.Frag} {H : Hp} {v : V} {o : Option Int} {Q : VK} (h : Kn H v o) (q : ∀ b, b = (match v with | .bl _ => true | _ => false) → Q (.bl b) H) : rIsi K [v, .ty "bool"] H Q := by
  cases h with
  | int i => exact ⟨_, _, _, _, false, rfl, .ty _, .base (.int i), kit_ty (by decide +kernel), q _ rfl⟩
  | non => exact ⟨_, _, _, _, false, rfl, .ty _, .base .non, kit_ty (by decide +kernel), q _ rfl⟩
  | bl b => exact ⟨_, _, _, _, true, rfl, .ty _, .base (.bl b), kit_ty (by decide +kernel), q _ rfl⟩
  | str x => exact ⟨_, _, _, _, false, rfl, .ty _, .base (.str x), kit_ty (by decide +kernel), q _ rfl⟩
  | lst e => exact ⟨_, _, _, _, false, rfl, .ty _, .base (.lst e), kit_ty (by decide +kernel), q _ rfl⟩
  | tup e => exact ⟨_, _, _, _, false, rfl, .ty _, .base (.tup e), kit_ty (by decide +kernel), q _ rfl⟩
  | dK e => exact ⟨_, _, _, _, false, rfl, .ty _, .base (.dK e), kit_ty (by decide +kernel), q _ rfl⟩
/-- a value as a lot: its items, if it is a tuple -/
inductive Th (H : Hp) : V → Option (List (Option Int)) → Prop
  | tup {a : Addr} {xs : List V} {l : List (Option Int)} (e : H a = some (.tup xs)) (hl : xs.length = l.length) (h : ∀ (i : Nat) x, xs[i]? = some x → ∃ o, l[i]? = some o ∧ Kn H x o) : Th H (.ref a) (some l)
  | int (i : Int) : Th H (.int i) none
  | non : Th H .non none
  | bl (b : Bool) : Th H (.bl b) none
  | str (x : Str) : Th H (.str x) none
  | lst {a : Addr} {xs : List V} (e : H a = some (.lst xs)) : Th H (.ref a) none
  | dK {a : Addr} {xs : List (Key × V)} (e : H a = some (.dK xs)) : Th H (.ref a) none
theorem Th.same {H H' : Hp} (s : Same H H') {v : V} {o : Option (List (Option Int))} (h : Th H v o) : Th H' v o := by
  cases h with
  | tup e hl h => exact .tup (s _ _ e) hl fun i x hx => let ⟨o, h1, h2⟩ := h i x hx; ⟨o, h1, h2.same s⟩
  | int i => exact .int i
  | non => exact .non
  | bl b => exact .bl b
  | str x => exact .str x
  | lst e => exact .lst (s _ _ e)
  | dK e => exact .dK (s _ _ e)
theorem Th.ist {K : PySem.W.Frag} {H : Hp} {v : V} {o : Option (List (Option Int))} {Q : VK} (h : Th H v o) (q : Q (.bl o.isSome) H) : rIsi K [v, .ty "tuple"] H Q := by
  cases h with
  | tup e _ _ => exact ⟨_, _, _, _, true, rfl, .ty _, .base (.tup e), kit_ty (by decide +kernel), q⟩
  | int i => exact ⟨_, _, _, _, false, rfl, .ty _, .base (.int i), kit_ty (by decide +kernel), q⟩
  | non => exact ⟨_, _, _, _, false, rfl, .ty _, .base .non, kit_ty (by decide +kernel), q⟩
  | bl b => exact ⟨_, _, _, _, false, rfl, .ty _, .base (.bl b), kit_ty (by decide +kernel), q⟩
  | str x => exact ⟨_, _, _, _, false, rfl, .ty _, .base (.str x), kit_ty (by decide +kernel), q⟩
  | lst e => exact ⟨_, _, _, _, false, rfl, .ty _, .base (.lst e), kit_ty (by decide +kernel), q⟩
  | dK e => exact ⟨_, _, _, _, false, rfl, .ty _, .base (.dK e), kit_ty (by decide +kernel), q⟩
theorem isT {K : PySem.W.Frag} {H : Hp} {a : Addr} {xs : List V} {Q : VK} (e : H a = some (.tup xs)) (q : Q (.bl true) H) : rIsi K [.ref a, .ty "tuple"] H Q :=
  ⟨_, _, _, _, true, rfl, .ty _, .base (.tup e), kit_ty (by decide +kernel), q⟩
theorem Th.lot {H : Hp} {v : V} {l : List Nat} (h : Dt H v (eL l)) : Th H v (some (l.map fun (n : Nat) => some (n : Int))) := by
  obtain ⟨a, rfl, e⟩ := h.lot
  refine .tup e (by simp) fun i x hx => ?_
  obtain ⟨n, h1, rfl⟩ := of_getElem?_nats hx
  exact ⟨some n, by rw [List.getElem?_map, h1]; rfl, .int _⟩
/-! ### is_lot -/
def isLotL (n : Int) : Int → List (Option Int) → Bool
  | _, [] => true
  | last, some i :: r => decide (0 ≤ i) && decide (i < n) && decide (last < i) && isLotL n i r
  | _, none :: _ => false
def isLot (n : Int) : Option (List (Option Int)) → Bool
  | some l => isLotL n (-1) l
  | none => false
/-! ### data that can be compared -/
def Shp (d : PyData) (n : Nat) : Prop := d.canLay0 = true ∧ d.depth ≤ n
def ShpL (ds : List PyData) (n : Nat) : Prop := PyData.canLayAll0 ds = true ∧ PyData.depthAll ds ≤ n
theorem ShpL.nil {n : Nat} : ShpL [] n := ⟨rfl, by simp [PyData.depthAll]⟩
theorem ShpL.cons {d : PyData} {ds : List PyData} {n : Nat} (h : Shp d n) (r : ShpL ds n) : ShpL (d :: ds) n :=
  ⟨by simp only [PyData.canLayAll0, h.1, r.1, Bool.and_self], by simp only [PyData.depthAll]; exact Nat.max_le.mpr ⟨h.2, r.2⟩⟩
theorem ShpL.map {α : Type} {f : α → PyData} {n : Nat} : ∀ {l : List α}, (∀ x ∈ l, Shp (f x) n) → ShpL (l.map f) n
  | [], _ => .nil
  | a :: l, h => .cons (h a List.mem_cons_self) (ShpL.map fun x hx => h x (List.mem_cons_of_mem _ hx))
theorem Shp.tup {ds : List PyData} {n : Nat} (h : ShpL ds n) : Shp (.tuple ds) (n + 1) := ⟨by simp only [PyData.canLay0]; exact h.1, by simp only [PyData.depth]; exact Nat.succ_le_succ h.2⟩
theorem Shp.list {ds : List PyData} {n : Nat} (h : ShpL ds n) : Shp (.list ds) (n + 1) := ⟨by simp only [PyData.canLay0]; exact h.1, by simp only [PyData.depth]; exact Nat.succ_le_succ h.2⟩
theorem Shp.int {i : Int} {n : Nat} : Shp (.int i) n := ⟨rfl, by simp [PyData.depth]⟩
theorem Shp.bool {b : Bool} {n : Nat} : Shp (.bool b) n := ⟨rfl, by simp [PyData.depth]⟩
theorem Shp.str {x : Str} {n : Nat} (h : (PyData.str x).canLay0 = true) : Shp (.str x) n := ⟨h, by simp [PyData.depth]⟩
theorem Shp.mono {d : PyData} {n m : Nat} (h : Shp d n) (hn : n ≤ m) : Shp d m := ⟨h.1, Nat.le_trans h.2 hn⟩
theorem Shp.ok {d : PyData} {n : Nat} (h : Shp d n) (hn : n ≤ 64 := by decide) : SeqAt.shaped d = true := by
  unfold SeqAt.shaped
  rw [h.1, decide_eq_true (Nat.le_trans h.2 hn)]; rfl
theorem Shp.lot {l : List Nat} {n : Nat} : Shp (eL l) (n + 1) := .tup (.map fun _ _ => .int)
theorem Shp.eqv {d : PyData} {n : Nat} (h : Shp d n) : PyData.eqv d d = true := SeqAt.eqv_refl d h.1
end NB
set_option Elab.async false
set_option linter.all false
set_option maxRecDepth 100000
set_option maxHeartbeats 4000000
/-! Masks and the mirror functions: plain Lean, no program. -/
namespace NB
open PySem
/-! ### masks -/
def ldf (x y : Nat) : Nat := x - (x &&& y)
theorem bnot_nonneg (y : Nat) : decide (0 ≤ Builtin.bitNot (y : Int)) = false := decide_eq_false (by unfold Builtin.bitNot; omega)
theorem b_andnot (x y : Nat) : Builtin.bitAnd (x : Int) (Builtin.bitNot (y : Int)) = ((ldf x y : Nat) : Int) := by
  unfold Builtin.bitAnd
  rw [decide_eq_true (Int.natCast_nonneg x), bnot_nonneg]
  have e : (Builtin.bitNot (Builtin.bitNot (y : Int))).toNat = y := by unfold Builtin.bitNot; omega
  show (x : Int) - (((x : Int).toNat &&& (Builtin.bitNot (Builtin.bitNot (y : Int))).toNat : Nat) : Int) = _
  rw [e]
  have h : x &&& y ≤ x := Nat.and_le_left
  unfold ldf
  simp only [Int.toNat_natCast]
  omega
theorem b_and (x y : Nat) : Builtin.bitAnd (x : Int) (y : Int) = ((x &&& y : Nat) : Int) := by
  unfold Builtin.bitAnd
  rw [decide_eq_true (Int.natCast_nonneg x), decide_eq_true (Int.natCast_nonneg y)]
  simp
theorem b_or (x y : Nat) : Builtin.bitOr (x : Int) (y : Int) = ((x ||| y : Nat) : Int) := by
  unfold Builtin.bitOr Builtin.bitAnd
  rw [bnot_nonneg, bnot_nonneg]
  have e : ∀ z : Nat, (Builtin.bitNot (Builtin.bitNot (z : Int))).toNat = z := fun z => by unfold Builtin.bitNot; omega
  show Builtin.bitNot (Builtin.bitNot (((Builtin.bitNot (Builtin.bitNot (x : Int))).toNat ||| (Builtin.bitNot (Builtin.bitNot (y : Int))).toNat : Nat) : Int)) = _
  rw [e, e]
  unfold Builtin.bitNot; omega
theorem ldf_half (x y : Nat) : ldf x y / 2 = ldf (x / 2) (y / 2) ∧ ldf x y % 2 = x % 2 - (x % 2) * (y % 2) := by
  unfold ldf
  have h1 : (x &&& y) / 2 = x / 2 &&& y / 2 := Nat.and_div_two
  have h2 : x &&& y ≤ x := Nat.and_le_left
  have h3 : x / 2 &&& y / 2 ≤ x / 2 := Nat.and_le_left
  have h4 : (x &&& y) % 2 = 1 ↔ x % 2 = 1 ∧ y % 2 = 1 := Nat.and_mod_two_eq_one
  have h5 : (x &&& y) % 2 = (x % 2) * (y % 2) := by
    rcases Nat.mod_two_eq_zero_or_one x with hx | hx <;> rcases Nat.mod_two_eq_zero_or_one y with hy | hy <;> rcases Nat.mod_two_eq_zero_or_one (x &&& y) with ha | ha <;> rw [hx, hy, ha] at h4 <;> rw [hx, hy, ha] <;> simp at h4 <;> rfl
  have h6 : (x % 2) * (y % 2) ≤ x % 2 := by
    rcases Nat.mod_two_eq_zero_or_one y with hy | hy <;> rw [hy] <;> simp
  rw [← h1] at h3 ⊢
  rw [← h5] at h6 ⊢
  generalize x &&& y = a at *
  clear h4 h5 h1
  constructor <;> omega
theorem testBit_ldf (i : Nat) : ∀ x y : Nat, (ldf x y).testBit i = (x.testBit i && !y.testBit i) := by
  induction i with
  | zero =>
    intro x y
    rw [Nat.testBit_zero, Nat.testBit_zero, Nat.testBit_zero, (ldf_half x y).2]
    rcases Nat.mod_two_eq_zero_or_one x with hx | hx <;> rcases Nat.mod_two_eq_zero_or_one y with hy | hy <;> simp [hx, hy]
  | succ i ih =>
    intro x y
    rw [Nat.testBit_succ, Nat.testBit_succ, Nat.testBit_succ, (ldf_half x y).1]
    exact ih _ _
def sub (x y : Nat) : Bool := decide (ldf x y = 0)
theorem sub_iff {x y : Nat} : sub x y = true ↔ ∀ i, x.testBit i = true → y.testBit i = true := by
  unfold sub
  rw [decide_eq_true_eq]
  constructor
  · intro h i hx
    have e := testBit_ldf i x y
    rw [h, Nat.zero_testBit, hx] at e
    cases hy : y.testBit i
    · rw [hy] at e; cases e
    · rfl
  · intro h
    apply Nat.eq_of_testBit_eq
    intro i
    rw [testBit_ldf, Nat.zero_testBit]
    cases hx : x.testBit i
    · rfl
    · rw [h i hx]; rfl
theorem eq_sub (x y : Nat) : decide (L2.V.int (Builtin.bitAnd (x : Int) (Builtin.bitNot (y : Int))) = L2.V.int 0) = sub x y := by
  rw [b_andnot]
  unfold sub
  by_cases h : ldf x y = 0
  · rw [h]; rfl
  · rw [decide_eq_false h]
    exact decide_eq_false fun e => h (by injection e with e; omega)
def maskOf (l : List Nat) : Nat := l.foldl (fun m i => m ||| 2 ^ i) 0
theorem testBit_foldl (j : Nat) : ∀ (l : List Nat) (m : Nat), (l.foldl (fun m i => m ||| 2 ^ i) m).testBit j = (m.testBit j || decide (j ∈ l))
  | [], m => by simp
  | i :: l, m => by
    rw [List.foldl_cons, testBit_foldl j l, Nat.testBit_or, Nat.testBit_two_pow]
    by_cases h : i = j
    · subst h; simp
    · have h2 : ¬ j = i := fun e => h e.symm
      simp [h, h2]
theorem testBit_maskOf (l : List Nat) (j : Nat) : (maskOf l).testBit j = decide (j ∈ l) := by
  unfold maskOf
  rw [testBit_foldl]; simp
theorem maskOf_snoc (l : List Nat) (i : Nat) : maskOf (l ++ [i]) = maskOf l ||| 2 ^ i := by
  unfold maskOf; rw [List.foldl_append]; rfl
theorem maskOf_range (n : Nat) : maskOf (List.range n) = 2 ^ n - 1 := by
  apply Nat.eq_of_testBit_eq
  intro i
  rw [testBit_maskOf, Nat.testBit_two_pow_sub_one]
  simp
def lotOf (m : Nat) : List Nat := (List.range 100).filter m.testBit
theorem mem_lotOf {m i : Nat} (h : m < 2 ^ 100) : i ∈ lotOf m ↔ m.testBit i = true := by
  unfold lotOf
  rw [List.mem_filter, List.mem_range]
  constructor
  · exact fun q => q.2
  · intro q
    refine ⟨?_, q⟩
    apply Decidable.byContradiction
    intro hn
    have : m.testBit i = false := Nat.testBit_lt_two_pow (Nat.lt_of_lt_of_le h (Nat.pow_le_pow_right (by decide) (by omega)))
    rw [this] at q; cases q
/-! ### rules of a book, as data -/
inductive Rule where
  | here (kind : Nat) (need : List Nat) (d : Nat)
  | way (kind exit : Nat) (near far : List Nat) (isFar : Bool) (d : Nat)
structure WR where
  near : Nat
  far : Nat
  isFar : Bool
  bit : Nat
def hereOf (rs : List Rule) (k : Nat) : List (Nat × Nat) := rs.filterMap fun r => match r with
  | .here k' need d => if k' = k then some (maskOf need, 2 ^ d) else none
  | .way .. => none
def wayOf (rs : List Rule) (k e : Nat) : List WR := rs.filterMap fun r => match r with
  | .way k' e' near far b d => if k' = k ∧ e' = e then some ⟨maskOf near, maskOf far, b, 2 ^ d⟩ else none
  | .here .. => none
/-! ### what the turns compute -/
def goalStep (L : List Nat) (far bit : Nat) (f : List Nat) (t : Nat) : List Nat := if sub far (L.getD t 0) then f.set t (f.getD t 0 ||| bit) else f
def ruleStep (L : List Nat) (p : Nat) (goals : List Nat) (f : List Nat) (r : WR) : List Nat :=
  if r.isFar then goals.foldl (goalStep L r.far r.bit) f
  else if goals.any (fun t => sub r.far (L.getD t 0)) then f.set p (f.getD p 0 ||| r.bit) else f
def makeAlong (L : List Nat) (p : Nat) (goals : List Nat) (rs : List WR) (f : List Nat) : List Nat := rs.foldl (ruleStep L p goals) f
def hereStep (own p : Nat) (f : List Nat) (r : Nat × Nat) : List Nat := if sub r.1 own then f.set p (f.getD p 0 ||| r.2) else f
def exitStep (rs : List Rule) (ways : List (List (List Nat))) (L : List Nat) (p k : Nat) (f : List Nat) (e : Nat) : List Nat :=
  makeAlong L p ((ways.getD p []).getD e []) ((wayOf rs k e).filter fun r => sub r.near (L.getD p 0)) f
def placeStep (exits : List Nat) (rs : List Rule) (kinds : List Nat) (ways : List (List (List Nat))) (L : List Nat) (f : List Nat) (p : Nat) : List Nat :=
  (List.range (exits.getD (kinds.getD p 0) 0)).foldl (exitStep rs ways L p (kinds.getD p 0)) ((hereOf rs (kinds.getD p 0)).foldl (hereStep (L.getD p 0) p) f)
def madeLots (exits : List Nat) (rs : List Rule) (kinds : List Nat) (ways : List (List (List Nat))) (L : List Nat) : List Nat :=
  (List.range L.length).foldl (placeStep exits rs kinds ways L) (List.replicate L.length 0)
def onStates (many lot : Nat) : Nat := lot &&& (lot / 2 ^ many) &&& (2 ^ many - 1)
/-! ### the law's data -/
structure MM where
  many : Nat
  steps : List (List (List (Nat × Nat)))
  starts : List (List Nat)
def Lot (m : Nat) (l : List Nat) : Prop := l.Pairwise (· < ·) ∧ ∀ x ∈ l, x < m
/-- pairs strictly ascending, of numbers below m -/
def PLot (m : Nat) (l : List (Nat × Nat)) : Prop := l.Pairwise (fun a b => a.1 < b.1 ∨ (a.1 = b.1 ∧ a.2 < b.2)) ∧ ∀ x ∈ l, x.1 < m ∧ x.2 < m
structure XOk (exits : List Nat) : Prop where
  lo : 1 ≤ exits.length
  hi : exits.length ≤ 4
  le : ∀ x ∈ exits, x ≤ 3
structure MOk (exits : List Nat) (m : MM) : Prop where
  lo : 1 ≤ m.many
  hi : m.many ≤ 3
  slen : m.steps.length = exits.length
  elen : ∀ (k : Nat) (l : List (List (Nat × Nat))), m.steps[k]? = some l → exits[k]? = some l.length
  pairs : ∀ l ∈ m.steps, ∀ q ∈ l, PLot m.many q
  tlen : m.starts.length = exits.length
  lots : ∀ l ∈ m.starts, Lot m.many l
structure POk (exits : List Nat) (kinds : List Nat) (ways : List (List (List Nat))) : Prop where
  lo : 1 ≤ kinds.length
  hi : kinds.length ≤ 12
  kind : ∀ k ∈ kinds, k < exits.length
  wlen : ways.length = kinds.length
  elen : ∀ (p : Nat) (l : List (List Nat)), ways[p]? = some l → exits[kinds.getD p 0]? = some l.length
  lots : ∀ l ∈ ways, ∀ q ∈ l, Lot kinds.length q
def nextsAt (m : MM) (ways : List (List (List Nat))) (p k s e : Nat) : List (Nat × Nat × Nat) :=
  ((m.steps.getD k []).getD e []).flatMap fun q => if q.1 = s then ((ways.getD p []).getD e []).map fun t => (e, t, q.2) else []
def nextsM (m : MM) (kinds : List Nat) (ways : List (List (List Nat))) (p s : Nat) : List (Nat × Nat × Nat) :=
  (List.range (m.steps.getD (kinds.getD p 0) []).length).flatMap (nextsAt m ways p (kinds.getD p 0) s)
/-- the (place, state) to which runs come -/
inductive Far (m : MM) (kinds : List Nat) (ways : List (List (List Nat))) : Nat → Nat → Prop
  | start {p s : Nat} (hp : p < kinds.length) (h : s ∈ m.starts.getD (kinds.getD p 0) []) : Far m kinds ways p s
  | step {p s e t u : Nat} (h : Far m kinds ways p s) (n : (e, t, u) ∈ nextsM m kinds ways p s) : Far m kinds ways t u
/-- those from which one looks on -/
inductive On (m : MM) (kinds : List Nat) (ways : List (List (List Nat))) (wanted barred : List Nat) : Nat → Nat → Prop
  | now {p s e t u : Nat} (hp : p < kinds.length) (hs : s < m.many) (n : (e, t, u) ∈ nextsM m kinds ways p s) (h : kinds.getD t 0 ∈ wanted) : On m kinds ways wanted barred p s
  | later {p s e t u : Nat} (hp : p < kinds.length) (hs : s < m.many) (n : (e, t, u) ∈ nextsM m kinds ways p s) (h : kinds.getD t 0 ∉ barred) (o : On m kinds ways wanted barred t u) : On m kinds ways wanted barred p s
/-- the places that look on -/
def LooksOn (m : MM) (kinds : List Nat) (ways : List (List (List Nat))) (wanted barred : List Nat) (p : Nat) : Prop := ∃ s, Far m kinds ways p s ∧ On m kinds ways wanted barred p s
/-- what steps make one out of another, from nothing on -/
inductive Der (exits : List Nat) (rs : List Rule) (kinds : List Nat) (ways : List (List (List Nat))) : Nat → Nat → Prop
  | here {p d : Nat} {need : List Nat} (hp : p < kinds.length) (h : Rule.here (kinds.getD p 0) need d ∈ rs) (n : ∀ x ∈ need, Der exits rs kinds ways p x) : Der exits rs kinds ways p d
  | far {p e t d : Nat} {near far : List Nat} (hp : p < kinds.length) (h : Rule.way (kinds.getD p 0) e near far true d ∈ rs) (he : e < exits.getD (kinds.getD p 0) 0) (n : ∀ x ∈ near, Der exits rs kinds ways p x)
      (ht : t ∈ (ways.getD p []).getD e []) (f : ∀ x ∈ far, Der exits rs kinds ways t x) : Der exits rs kinds ways t d
  | near {p e t d : Nat} {near far : List Nat} (hp : p < kinds.length) (h : Rule.way (kinds.getD p 0) e near far false d ∈ rs) (he : e < exits.getD (kinds.getD p 0) 0) (n : ∀ x ∈ near, Der exits rs kinds ways p x)
      (ht : t ∈ (ways.getD p []).getD e []) (f : ∀ x ∈ far, Der exits rs kinds ways t x) : Der exits rs kinds ways p d
/-- the lots that a turn leaves -/
structure Fix (exits : List Nat) (rs : List Rule) (kinds : List Nat) (ways : List (List (List Nat))) (D : Nat) (L : List Nat) : Prop where
  len : L.length = kinds.length
  lt : ∀ x ∈ L, x < 2 ^ D
  bits : ∀ p, p < kinds.length → ∀ d, (L.getD p 0).testBit d = true ↔ Der exits rs kinds ways p d
/-! ### the rules of the two books -/
def startRules (starts : List (List Nat)) : List Rule := (List.range starts.length).flatMap fun k => (starts.getD k []).map fun s => .here k [] s
def stepRules (steps : List (List (List (Nat × Nat)))) : List Rule := (List.range steps.length).flatMap fun k => (List.range (steps.getD k []).length).flatMap fun e => ((steps.getD k []).getD e []).map fun q => .way k e [q.1] [] true q.2
def stateRules (m : MM) : List Rule := startRules m.starts ++ stepRules m.steps
def wantedRules (many : Nat) (wanted : List Nat) : List Rule := wanted.map fun k => .here k [] (2 * many)
def barredRules (n many : Nat) (barred : List Nat) : List Rule := (List.range n).flatMap fun k => if k ∈ barred then [] else (List.range many).map fun s => .here k [many + s] (2 * many + 1 + s)
def nearRules (many : Nat) (steps : List (List (List (Nat × Nat)))) : List Rule := (List.range steps.length).flatMap fun k => (List.range (steps.getD k []).length).flatMap fun e => ((steps.getD k []).getD e []).flatMap fun q =>
  [.way k e [] [2 * many] false (many + q.1), .way k e [] [2 * many + 1 + q.2] false (many + q.1)]
def aheadRules (n : Nat) (m : MM) (wanted barred : List Nat) : List Rule := stateRules m ++ (wantedRules m.many wanted ++ barredRules n m.many barred ++ nearRules m.many m.steps)
end NB
set_option Elab.async false
set_option linter.all false
set_option maxRecDepth 100000
set_option maxHeartbeats 4000000
namespace NB
open PySem L2
abbrev s_is_integer : Stmt := top 9
abbrev s_is_between : Stmt := top 10
abbrev s_is_index : Stmt := top 11
abbrev s_is_lot : Stmt := top 12
abbrev s_mask_of : Stmt := top 13
abbrev s_lot_of : Stmt := top 14
abbrev s_RawBook_keep : Stmt := inClass (top 33) 1
abbrev s_RawBook_bag : Stmt := inClass (top 33) 2
abbrev s_RawBook_owners : Stmt := inClass (top 33) 3
abbrev s_RawBook_rules : Stmt := inClass (top 33) 4
abbrev s_RawBook_rewriters : Stmt := inClass (top 33) 5
abbrev s_RawBook_init : Stmt := inClass (top 34) 0
abbrev s_all_mask : Stmt := top 35
abbrev s_own_mask : Stmt := top 36
abbrev s_State_init : Stmt := inClass (top 39) 0
abbrev s_State_stands : Stmt := inClass (top 39) 1
abbrev s_begin_state : Stmt := top 40
abbrev s_are_lookers : Stmt := top 41
abbrev s_is_move : Stmt := top 42
abbrev s_is_row : Stmt := top 43
abbrev s_check_row : Stmt := top 44
abbrev s_is_open : Stmt := top 45
abbrev s_made_lots : Stmt := top 46
abbrev s_make_along : Stmt := top 47
abbrev s_turn_rounds : Stmt := top 48
abbrev s_turn_state : Stmt := top 49
abbrev s_move_on : Stmt := top 53
abbrev s_states_of : Stmt := top 54
abbrev s_led : Stmt := top 55
abbrev s_are_exits : Stmt := top 58
abbrev s_Bag_init : Stmt := inClass (top 59) 0
abbrev s_Bag_eq : Stmt := inClass (top 59) 2
abbrev s_are_ways : Stmt := top 60
abbrev s_are_kinds : Stmt := top 61
abbrev s_Program_init : Stmt := inClass (top 62) 0
abbrev s_Program_keep : Stmt := inClass (top 62) 1
abbrev s_are_pairs : Stmt := top 65
abbrev s_are_steps : Stmt := top 66
abbrev s_are_starts : Stmt := top 67
abbrev s_Machine_init : Stmt := inClass (top 68) 0
abbrev s_states_book : Stmt := top 69
abbrev s_check_kinds : Stmt := top 71
abbrev s_book_ahead : Stmt := top 72
abbrev s_ahead_book : Stmt := top 73
abbrev s_on_states : Stmt := top 74
abbrev s_on_lots : Stmt := top 75
abbrev s_looks_on : Stmt := top 76
abbrev s_law_hand : Stmt := top 78
abbrev s_law_draw : Stmt := top 79
abbrev s_law_some : Stmt := top 80
abbrev s_law_exits : Stmt := top 81
abbrev s_law_program : Stmt := top 82
abbrev s_law_steps : Stmt := top 83
abbrev s_law_starts : Stmt := top 84
abbrev s_law_machine : Stmt := top 85
abbrev s_law_nexts : Stmt := top 86
abbrev s_law_far : Stmt := top 87
abbrev s_law_on : Stmt := top 89
abbrev s_law_looking : Stmt := top 90
abbrev s_law_is_int : Stmt := top 91
abbrev s_law_is_index : Stmt := top 92
abbrev s_law_is_lot : Stmt := top 93
abbrev s_law_odd : Stmt := top 94
abbrev s_law_spoiled : Stmt := top 95
abbrev s_law_ahead_rules : Stmt := top 96
abbrev s_law_refused : Stmt := top 97
abbrev s_law : Stmt := top 98
/-- what the top has written -/
structure Txt (K : PySem.W.Frag) (mg : Str → Option Value) : Prop where
  g_is_integer : mg "is_integer" = some (.ref (He.ga K "is_integer"))
  g_is_between : mg "is_between" = some (.ref (He.ga K "is_between"))
  g_is_index : mg "is_index" = some (.ref (He.ga K "is_index"))
  g_is_lot : mg "is_lot" = some (.ref (He.ga K "is_lot"))
  g_mask_of : mg "mask_of" = some (.ref (He.ga K "mask_of"))
  g_lot_of : mg "lot_of" = some (.ref (He.ga K "lot_of"))
  g_all_mask : mg "all_mask" = some (.ref (He.ga K "all_mask"))
  g_own_mask : mg "own_mask" = some (.ref (He.ga K "own_mask"))
  g_begin_state : mg "begin_state" = some (.ref (He.ga K "begin_state"))
  g_are_lookers : mg "are_lookers" = some (.ref (He.ga K "are_lookers"))
  g_is_move : mg "is_move" = some (.ref (He.ga K "is_move"))
  g_is_row : mg "is_row" = some (.ref (He.ga K "is_row"))
  g_check_row : mg "check_row" = some (.ref (He.ga K "check_row"))
  g_is_open : mg "is_open" = some (.ref (He.ga K "is_open"))
  g_made_lots : mg "made_lots" = some (.ref (He.ga K "made_lots"))
  g_make_along : mg "make_along" = some (.ref (He.ga K "make_along"))
  g_turn_rounds : mg "turn_rounds" = some (.ref (He.ga K "turn_rounds"))
  g_turn_state : mg "turn_state" = some (.ref (He.ga K "turn_state"))
  g_move_on : mg "move_on" = some (.ref (He.ga K "move_on"))
  g_states_of : mg "states_of" = some (.ref (He.ga K "states_of"))
  g_led : mg "led" = some (.ref (He.ga K "led"))
  g_are_exits : mg "are_exits" = some (.ref (He.ga K "are_exits"))
  g_are_ways : mg "are_ways" = some (.ref (He.ga K "are_ways"))
  g_are_kinds : mg "are_kinds" = some (.ref (He.ga K "are_kinds"))
  g_are_pairs : mg "are_pairs" = some (.ref (He.ga K "are_pairs"))
  g_are_steps : mg "are_steps" = some (.ref (He.ga K "are_steps"))
  g_are_starts : mg "are_starts" = some (.ref (He.ga K "are_starts"))
  g_states_book : mg "states_book" = some (.ref (He.ga K "states_book"))
  g_check_kinds : mg "check_kinds" = some (.ref (He.ga K "check_kinds"))
  g_book_ahead : mg "book_ahead" = some (.ref (He.ga K "book_ahead"))
  g_ahead_book : mg "ahead_book" = some (.ref (He.ga K "ahead_book"))
  g_on_states : mg "on_states" = some (.ref (He.ga K "on_states"))
  g_on_lots : mg "on_lots" = some (.ref (He.ga K "on_lots"))
  g_looks_on : mg "looks_on" = some (.ref (He.ga K "looks_on"))
  g__law_hand : mg "_law_hand" = some (.ref (He.ga K "_law_hand"))
  g__law_draw : mg "_law_draw" = some (.ref (He.ga K "_law_draw"))
  g__law_some : mg "_law_some" = some (.ref (He.ga K "_law_some"))
  g__law_exits : mg "_law_exits" = some (.ref (He.ga K "_law_exits"))
  g__law_program : mg "_law_program" = some (.ref (He.ga K "_law_program"))
  g__law_steps : mg "_law_steps" = some (.ref (He.ga K "_law_steps"))
  g__law_starts : mg "_law_starts" = some (.ref (He.ga K "_law_starts"))
  g__law_machine : mg "_law_machine" = some (.ref (He.ga K "_law_machine"))
  g__law_nexts : mg "_law_nexts" = some (.ref (He.ga K "_law_nexts"))
  g__law_far : mg "_law_far" = some (.ref (He.ga K "_law_far"))
  g__law_on : mg "_law_on" = some (.ref (He.ga K "_law_on"))
  g__law_looking : mg "_law_looking" = some (.ref (He.ga K "_law_looking"))
  g__law_is_int : mg "_law_is_int" = some (.ref (He.ga K "_law_is_int"))
  g__law_is_index : mg "_law_is_index" = some (.ref (He.ga K "_law_is_index"))
  g__law_is_lot : mg "_law_is_lot" = some (.ref (He.ga K "_law_is_lot"))
  g__law_odd : mg "_law_odd" = some (.ref (He.ga K "_law_odd"))
  g__law_spoiled : mg "_law_spoiled" = some (.ref (He.ga K "_law_spoiled"))
  g__law_ahead_rules : mg "_law_ahead_rules" = some (.ref (He.ga K "_law_ahead_rules"))
  g__law_refused : mg "_law_refused" = some (.ref (He.ga K "_law_refused"))
  g_law : mg "law" = some (.ref (He.ga K "law"))
  g_Bag : mg "Bag" = some (.ref (He.ga K "Bag"))
  g_Machine : mg "Machine" = some (.ref (He.ga K "Machine"))
  g_Program : mg "Program" = some (.ref (He.ga K "Program"))
  g_RawBook : mg "RawBook" = some (.ref (He.ga K "RawBook"))
  g_Book : mg "Book" = some (.ref (He.ga K "Book"))
  g_State : mg "State" = some (.ref (He.ga K "State"))
  g_NoKinds : mg "NoKinds" = some (.ref (He.ga K "NoKinds"))
  f_len : mg "len" = none
  f_range : mg "range" = none
  f_isinstance : mg "isinstance" = none
  f_all : mg "all" = none
  f_any : mg "any" = none
  f_tuple : mg "tuple" = none
  f_list : mg "list" = none
  f_int : mg "int" = none
  f_bool : mg "bool" = none
  f_str : mg "str" = none
  f_max : mg "max" = none
  f_abs : mg "abs" = none
  f_enumerate : mg "enumerate" = none
  f_zip : mg "zip" = none
  int_MOST_MOVES : ∃ t, mg "MOST_MOVES" = some (.int 5 t)
  int_MOST_PLACES : ∃ t, mg "MOST_PLACES" = some (.int 60 t)
  int_MOST_STATES : ∃ t, mg "MOST_STATES" = some (.int 4 t)
  c_Bag : Cls K (He.ga K "Bag")
  k_Bag : Mk K (He.ga K "Bag") (He.ma K (He.ga K "Bag") "__init__")
  n_Bag_kept_exits : NoAttr K (He.ga K "Bag") "kept_exits"
  c_Machine : Cls K (He.ga K "Machine")
  k_Machine : Mk K (He.ga K "Machine") (He.ma K (He.ga K "Machine") "__init__")
  n_Machine_kept_bag : NoAttr K (He.ga K "Machine") "kept_bag"
  n_Machine_kept_many : NoAttr K (He.ga K "Machine") "kept_many"
  n_Machine_kept_steps : NoAttr K (He.ga K "Machine") "kept_steps"
  n_Machine_kept_starts : NoAttr K (He.ga K "Machine") "kept_starts"
  c_Program : Cls K (He.ga K "Program")
  k_Program : Mk K (He.ga K "Program") (He.ma K (He.ga K "Program") "__init__")
  n_Program_kept_bag : NoAttr K (He.ga K "Program") "kept_bag"
  n_Program_kept_kinds : NoAttr K (He.ga K "Program") "kept_kinds"
  n_Program_kept_ways : NoAttr K (He.ga K "Program") "kept_ways"
  c_RawBook : Cls K (He.ga K "RawBook")
  k_RawBook : Mk K (He.ga K "RawBook") (He.ma K (He.ga K "RawBook") "__init__")
  n_RawBook_kept_bag : NoAttr K (He.ga K "RawBook") "kept_bag"
  n_RawBook_kept_owners : NoAttr K (He.ga K "RawBook") "kept_owners"
  n_RawBook_kept_rules : NoAttr K (He.ga K "RawBook") "kept_rules"
  n_RawBook_kept_rewriters : NoAttr K (He.ga K "RawBook") "kept_rewriters"
  n_RawBook_here_rules : NoAttr K (He.ga K "RawBook") "here_rules"
  n_RawBook_way_rules : NoAttr K (He.ga K "RawBook") "way_rules"
  c_State : Cls K (He.ga K "State")
  k_State : Mk K (He.ga K "State") (He.ma K (He.ga K "State") "__init__")
  n_State_sorts : NoAttr K (He.ga K "State") "sorts"
  n_State_shut : NoAttr K (He.ga K "State") "shut"
  n_State_lots : NoAttr K (He.ga K "State") "lots"
  m_RawBook_keep : Meth K (He.ga K "RawBook") "keep" (He.ma K (He.ga K "RawBook") "keep")
  m_RawBook_bag : Meth K (He.ga K "RawBook") "bag" (He.ma K (He.ga K "RawBook") "bag")
  m_RawBook_owners : Meth K (He.ga K "RawBook") "owners" (He.ma K (He.ga K "RawBook") "owners")
  m_RawBook_rules : Meth K (He.ga K "RawBook") "rules" (He.ma K (He.ga K "RawBook") "rules")
  m_RawBook_rewriters : Meth K (He.ga K "RawBook") "rewriters" (He.ma K (He.ga K "RawBook") "rewriters")
  m_State_stands : Meth K (He.ga K "State") "stands" (He.ma K (He.ga K "State") "stands")
  m_Bag_eq : Meth K (He.ga K "Bag") "__eq__" (He.ma K (He.ga K "Bag") "__eq__")
  m_Program_keep : Meth K (He.ga K "Program") "keep" (He.ma K (He.ga K "Program") "keep")
  exc_NoKinds : PySem.W.excIn K (He.ga K "NoKinds") He.veBase "ValueError.__new__" = true ∧ PySem.W.keepIn K (.ref (He.ga K "NoKinds")) = true ∧ PySem.W.subIn K (.ref (He.ga K "NoKinds")) (.type "BaseException") = some true ∧ PySem.W.typeIn K (.ref (He.ga K "NoKinds")) = some (.type "type")
  exm_NoKinds : PySem.W.exmOne K (.ref (He.ga K "NoKinds")) (.ref (He.ga K "NoKinds")) = some true
  keep_NoKinds : PySem.W.keepIn K (.ref (He.ga K "NoKinds")) = true
  d_is_integer : ∃ fd, FunD K "is_integer" "is_integer" (defArgs s_is_integer) (defBody s_is_integer) (defScope s_is_integer) [] [] (He.ga K "is_integer") fd
  d_is_between : ∃ fd, FunD K "is_between" "is_between" (defArgs s_is_between) (defBody s_is_between) (defScope s_is_between) [] [] (He.ga K "is_between") fd
  d_is_index : ∃ fd, FunD K "is_index" "is_index" (defArgs s_is_index) (defBody s_is_index) (defScope s_is_index) [] [] (He.ga K "is_index") fd
  d_is_lot : ∃ fd, FunD K "is_lot" "is_lot" (defArgs s_is_lot) (defBody s_is_lot) (defScope s_is_lot) [] [] (He.ga K "is_lot") fd
  d_mask_of : ∃ fd, FunD K "mask_of" "mask_of" (defArgs s_mask_of) (defBody s_mask_of) (defScope s_mask_of) [] [] (He.ga K "mask_of") fd
  d_lot_of : ∃ fd, FunD K "lot_of" "lot_of" (defArgs s_lot_of) (defBody s_lot_of) (defScope s_lot_of) [] [] (He.ga K "lot_of") fd
  d_RawBook_keep : ∃ fd, FunD K "keep" "Book.keep" (defArgs s_RawBook_keep) (defBody s_RawBook_keep) (defScope s_RawBook_keep) [] [] (He.ma K (He.ga K "RawBook") "keep") fd
  d_RawBook_bag : ∃ fd, FunD K "bag" "Book.bag" (defArgs s_RawBook_bag) (defBody s_RawBook_bag) (defScope s_RawBook_bag) [] [] (He.ma K (He.ga K "RawBook") "bag") fd
  d_RawBook_owners : ∃ fd, FunD K "owners" "Book.owners" (defArgs s_RawBook_owners) (defBody s_RawBook_owners) (defScope s_RawBook_owners) [] [] (He.ma K (He.ga K "RawBook") "owners") fd
  d_RawBook_rules : ∃ fd, FunD K "rules" "Book.rules" (defArgs s_RawBook_rules) (defBody s_RawBook_rules) (defScope s_RawBook_rules) [] [] (He.ma K (He.ga K "RawBook") "rules") fd
  d_RawBook_rewriters : ∃ fd, FunD K "rewriters" "Book.rewriters" (defArgs s_RawBook_rewriters) (defBody s_RawBook_rewriters) (defScope s_RawBook_rewriters) [] [] (He.ma K (He.ga K "RawBook") "rewriters") fd
  d_RawBook_init : ∃ fd, FunD K "__init__" "RawBook.__init__" (defArgs s_RawBook_init) (defBody s_RawBook_init) (defScope s_RawBook_init) [] [] (He.ma K (He.ga K "RawBook") "__init__") fd
  d_all_mask : ∃ fd, FunD K "all_mask" "all_mask" (defArgs s_all_mask) (defBody s_all_mask) (defScope s_all_mask) [] [] (He.ga K "all_mask") fd
  d_own_mask : ∃ fd, FunD K "own_mask" "own_mask" (defArgs s_own_mask) (defBody s_own_mask) (defScope s_own_mask) [] [] (He.ga K "own_mask") fd
  d_State_init : ∃ fd, FunD K "__init__" "State.__init__" (defArgs s_State_init) (defBody s_State_init) (defScope s_State_init) [] [] (He.ma K (He.ga K "State") "__init__") fd
  d_State_stands : ∃ fd, FunD K "stands" "State.stands" (defArgs s_State_stands) (defBody s_State_stands) (defScope s_State_stands) [] [] (He.ma K (He.ga K "State") "stands") fd
  d_begin_state : ∃ fd, FunD K "begin_state" "begin_state" (defArgs s_begin_state) (defBody s_begin_state) (defScope s_begin_state) [] [] (He.ga K "begin_state") fd
  d_are_lookers : ∃ fd, FunD K "are_lookers" "are_lookers" (defArgs s_are_lookers) (defBody s_are_lookers) (defScope s_are_lookers) [] [] (He.ga K "are_lookers") fd
  d_is_move : ∃ fd, FunD K "is_move" "is_move" (defArgs s_is_move) (defBody s_is_move) (defScope s_is_move) [] [] (He.ga K "is_move") fd
  d_is_row : ∃ fd, FunD K "is_row" "is_row" (defArgs s_is_row) (defBody s_is_row) (defScope s_is_row) [] [] (He.ga K "is_row") fd
  d_check_row : ∃ fd, FunD K "check_row" "check_row" (defArgs s_check_row) (defBody s_check_row) (defScope s_check_row) [] [] (He.ga K "check_row") fd
  d_is_open : ∃ fd, FunD K "is_open" "is_open" (defArgs s_is_open) (defBody s_is_open) (defScope s_is_open) [] [] (He.ga K "is_open") fd
  d_made_lots : ∃ fd, FunD K "made_lots" "made_lots" (defArgs s_made_lots) (defBody s_made_lots) (defScope s_made_lots) [] [] (He.ga K "made_lots") fd
  d_make_along : ∃ fd, FunD K "make_along" "make_along" (defArgs s_make_along) (defBody s_make_along) (defScope s_make_along) [] [] (He.ga K "make_along") fd
  d_turn_rounds : ∃ fd, FunD K "turn_rounds" "turn_rounds" (defArgs s_turn_rounds) (defBody s_turn_rounds) (defScope s_turn_rounds) [] [] (He.ga K "turn_rounds") fd
  d_turn_state : ∃ fd, FunD K "turn_state" "turn_state" (defArgs s_turn_state) (defBody s_turn_state) (defScope s_turn_state) [] [] (He.ga K "turn_state") fd
  d_move_on : ∃ fd, FunD K "move_on" "move_on" (defArgs s_move_on) (defBody s_move_on) (defScope s_move_on) [] [] (He.ga K "move_on") fd
  d_states_of : ∃ fd, FunD K "states_of" "states_of" (defArgs s_states_of) (defBody s_states_of) (defScope s_states_of) [] [] (He.ga K "states_of") fd
  d_led : ∃ fd, FunD K "led" "led" (defArgs s_led) (defBody s_led) (defScope s_led) [] [] (He.ga K "led") fd
  d_are_exits : ∃ fd, FunD K "are_exits" "are_exits" (defArgs s_are_exits) (defBody s_are_exits) (defScope s_are_exits) [] [] (He.ga K "are_exits") fd
  d_Bag_init : ∃ fd, FunD K "__init__" "Bag.__init__" (defArgs s_Bag_init) (defBody s_Bag_init) (defScope s_Bag_init) [] [] (He.ma K (He.ga K "Bag") "__init__") fd
  d_Bag_eq : ∃ fd, FunD K "__eq__" "Bag.__eq__" (defArgs s_Bag_eq) (defBody s_Bag_eq) (defScope s_Bag_eq) [] [] (He.ma K (He.ga K "Bag") "__eq__") fd
  d_are_ways : ∃ fd, FunD K "are_ways" "are_ways" (defArgs s_are_ways) (defBody s_are_ways) (defScope s_are_ways) [] [] (He.ga K "are_ways") fd
  d_are_kinds : ∃ fd, FunD K "are_kinds" "are_kinds" (defArgs s_are_kinds) (defBody s_are_kinds) (defScope s_are_kinds) [] [] (He.ga K "are_kinds") fd
  d_Program_init : ∃ fd, FunD K "__init__" "Program.__init__" (defArgs s_Program_init) (defBody s_Program_init) (defScope s_Program_init) [] [] (He.ma K (He.ga K "Program") "__init__") fd
  d_Program_keep : ∃ fd, FunD K "keep" "Program.keep" (defArgs s_Program_keep) (defBody s_Program_keep) (defScope s_Program_keep) [] [] (He.ma K (He.ga K "Program") "keep") fd
  d_are_pairs : ∃ fd, FunD K "are_pairs" "are_pairs" (defArgs s_are_pairs) (defBody s_are_pairs) (defScope s_are_pairs) [] [] (He.ga K "are_pairs") fd
  d_are_steps : ∃ fd, FunD K "are_steps" "are_steps" (defArgs s_are_steps) (defBody s_are_steps) (defScope s_are_steps) [] [] (He.ga K "are_steps") fd
  d_are_starts : ∃ fd, FunD K "are_starts" "are_starts" (defArgs s_are_starts) (defBody s_are_starts) (defScope s_are_starts) [] [] (He.ga K "are_starts") fd
  d_Machine_init : ∃ fd, FunD K "__init__" "Machine.__init__" (defArgs s_Machine_init) (defBody s_Machine_init) (defScope s_Machine_init) [] [] (He.ma K (He.ga K "Machine") "__init__") fd
  d_states_book : ∃ fd, FunD K "states_book" "states_book" (defArgs s_states_book) (defBody s_states_book) (defScope s_states_book) [] [] (He.ga K "states_book") fd
  d_check_kinds : ∃ fd, FunD K "check_kinds" "check_kinds" (defArgs s_check_kinds) (defBody s_check_kinds) (defScope s_check_kinds) [] [] (He.ga K "check_kinds") fd
  d_book_ahead : ∃ fd, FunD K "book_ahead" "book_ahead" (defArgs s_book_ahead) (defBody s_book_ahead) (defScope s_book_ahead) [] [] (He.ga K "book_ahead") fd
  d_ahead_book : ∃ fd, FunD K "ahead_book" "ahead_book" (defArgs s_ahead_book) (defBody s_ahead_book) (defScope s_ahead_book) [] [] (He.ga K "ahead_book") fd
  d_on_states : ∃ fd, FunD K "on_states" "on_states" (defArgs s_on_states) (defBody s_on_states) (defScope s_on_states) [] [] (He.ga K "on_states") fd
  d_on_lots : ∃ fd, FunD K "on_lots" "on_lots" (defArgs s_on_lots) (defBody s_on_lots) (defScope s_on_lots) [] [] (He.ga K "on_lots") fd
  d_looks_on : ∃ fd, FunD K "looks_on" "looks_on" (defArgs s_looks_on) (defBody s_looks_on) (defScope s_looks_on) [] [] (He.ga K "looks_on") fd
  d_law_hand : ∃ fd, FunD K "_law_hand" "_law_hand" (defArgs s_law_hand) (defBody s_law_hand) (defScope s_law_hand) [] [] (He.ga K "_law_hand") fd
  d_law_draw : ∃ fd, FunD K "_law_draw" "_law_draw" (defArgs s_law_draw) (defBody s_law_draw) (defScope s_law_draw) [] [] (He.ga K "_law_draw") fd
  d_law_some : ∃ fd, FunD K "_law_some" "_law_some" (defArgs s_law_some) (defBody s_law_some) (defScope s_law_some) [] [] (He.ga K "_law_some") fd
  d_law_exits : ∃ fd, FunD K "_law_exits" "_law_exits" (defArgs s_law_exits) (defBody s_law_exits) (defScope s_law_exits) [] [] (He.ga K "_law_exits") fd
  d_law_program : ∃ fd, FunD K "_law_program" "_law_program" (defArgs s_law_program) (defBody s_law_program) (defScope s_law_program) [] [] (He.ga K "_law_program") fd
  d_law_steps : ∃ fd, FunD K "_law_steps" "_law_steps" (defArgs s_law_steps) (defBody s_law_steps) (defScope s_law_steps) [] [] (He.ga K "_law_steps") fd
  d_law_starts : ∃ fd, FunD K "_law_starts" "_law_starts" (defArgs s_law_starts) (defBody s_law_starts) (defScope s_law_starts) [] [] (He.ga K "_law_starts") fd
  d_law_machine : ∃ fd, FunD K "_law_machine" "_law_machine" (defArgs s_law_machine) (defBody s_law_machine) (defScope s_law_machine) [] [] (He.ga K "_law_machine") fd
  d_law_nexts : ∃ fd, FunD K "_law_nexts" "_law_nexts" (defArgs s_law_nexts) (defBody s_law_nexts) (defScope s_law_nexts) [] [] (He.ga K "_law_nexts") fd
  d_law_far : ∃ fd, FunD K "_law_far" "_law_far" (defArgs s_law_far) (defBody s_law_far) (defScope s_law_far) [] [] (He.ga K "_law_far") fd
  d_law_on : ∃ fd, FunD K "_law_on" "_law_on" (defArgs s_law_on) (defBody s_law_on) (defScope s_law_on) [] [] (He.ga K "_law_on") fd
  d_law_looking : ∃ fd, FunD K "_law_looking" "_law_looking" (defArgs s_law_looking) (defBody s_law_looking) (defScope s_law_looking) [] [] (He.ga K "_law_looking") fd
  d_law_is_int : ∃ fd, FunD K "_law_is_int" "_law_is_int" (defArgs s_law_is_int) (defBody s_law_is_int) (defScope s_law_is_int) [] [] (He.ga K "_law_is_int") fd
  d_law_is_index : ∃ fd, FunD K "_law_is_index" "_law_is_index" (defArgs s_law_is_index) (defBody s_law_is_index) (defScope s_law_is_index) [] [] (He.ga K "_law_is_index") fd
  d_law_is_lot : ∃ fd, FunD K "_law_is_lot" "_law_is_lot" (defArgs s_law_is_lot) (defBody s_law_is_lot) (defScope s_law_is_lot) [] [] (He.ga K "_law_is_lot") fd
  d_law_odd : ∃ fd, FunD K "_law_odd" "_law_odd" (defArgs s_law_odd) (defBody s_law_odd) (defScope s_law_odd) [] [] (He.ga K "_law_odd") fd
  d_law_spoiled : ∃ fd, FunD K "_law_spoiled" "_law_spoiled" (defArgs s_law_spoiled) (defBody s_law_spoiled) (defScope s_law_spoiled) [] [] (He.ga K "_law_spoiled") fd
  d_law_ahead_rules : ∃ fd, FunD K "_law_ahead_rules" "_law_ahead_rules" (defArgs s_law_ahead_rules) (defBody s_law_ahead_rules) (defScope s_law_ahead_rules) [] [] (He.ga K "_law_ahead_rules") fd
  d_law_refused : ∃ fd, FunD K "_law_refused" "_law_refused" (defArgs s_law_refused) (defBody s_law_refused) (defScope s_law_refused) [] [] (He.ga K "_law_refused") fd
  d_law : ∃ fd, FunD K "law" "law" (defArgs s_law) (defBody s_law) (defScope s_law) [] [] (He.ga K "law") fd
  i_RawBook : PySem.W.findIn K (.ref (He.ga K "RawBook")) "__class__" = some (some (.builtin "object.__class__")) ∧ PySem.W.mroIn K (He.ga K "RawBook") (.type "object") = some true
  i_Bag : PySem.W.findIn K (.ref (He.ga K "Bag")) "__class__" = some (some (.builtin "object.__class__")) ∧ PySem.W.mroIn K (He.ga K "Bag") (.type "object") = some true
  s_book : PySem.W.kitOne K (.ref (He.ga K "RawBook")) (.ref (He.ga K "Book")) = some true
end NB
set_option Elab.async false
set_option linter.all false
set_option maxRecDepth 100000
set_option maxHeartbeats 4000000
/-! What stands in the heap, and the promise of each def. -/
namespace NB
open PySem PyProof.Rows L2
abbrev Frag := PySem.W.Frag
/-! ### the data's codes -/
abbrev e3 (p : Nat × Nat × Nat) : PyData := .tuple [eN p.1, eN p.2.1, eN p.2.2]
abbrev eWays (w : List (List (List Nat))) : PyData := eT (eT eL) w
abbrev eSteps (w : List (List (List (Nat × Nat)))) : PyData := eT (eT (eT eP)) w
abbrev eStarts (w : List (List Nat)) : PyData := eT eL w
abbrev eW (r : WR) : PyData := .tuple [eN r.near, eN r.far, .bool r.isFar, eN r.bit]
def eR : Rule → PyData
  | .here k need d => .tuple [.str "here", eN k, eL need, eN d]
  | .way k e near far b d => .tuple [.str "way", eN k, eN e, eL near, eL far, .str (if b then "far" else "near"), eN d]
abbrev eM (m : MM) : PyData := .tuple [eN m.many, eSteps m.steps, eStarts m.starts]
abbrev eMove : PyData := .tuple [.str "turn", eL [0]]
/-! ### a new datum -/
def Ret (H : Hp) (Q : VK) (d : PyData) : Prop := ∀ (v : V) (H' : Hp), Same H H' → Dt H' v d → Q v H'
/-- a new list of data -/
def RetL (H : Hp) (Q : VK) (ds : List PyData) : Prop := ∀ (a : Addr) (xs : List V) (H' : Hp), Same H H' → H a = none → H' a = some (.lst xs) → DtL H' xs ds → Q (.ref a) H'
/-! ### the program's objects -/
abbrev fBag (x : V) : List (Str × V) := [("kept_exits", x)]
abbrev fMach (b n s t : V) : List (Str × V) := [("kept_bag", b), ("kept_many", n), ("kept_steps", s), ("kept_starts", t)]
abbrev fProg (b k w : V) : List (Str × V) := [("kept_bag", b), ("kept_kinds", k), ("kept_ways", w)]
abbrev fBook (b o r w h y : V) : List (Str × V) := [("kept_bag", b), ("kept_owners", o), ("kept_rules", r), ("kept_rewriters", w), ("here_rules", h), ("way_rules", y)]
abbrev fState (a b c : V) : List (Str × V) := [("sorts", a), ("shut", b), ("lots", c)]
/-- the same object with the same fields stands -/
structure BagAt (K : Frag) (H : Hp) (v : V) (exits : List Nat) : Prop where
  ex : ∃ (a dx : Addr) (x : V), v = .ref a ∧ H a = some (.ins (He.ga K "Bag") dx (fBag x)) ∧ Dt H x (eL exits)
structure MachAt (K : Frag) (H : Hp) (v : V) (exits : List Nat) (m : MM) : Prop where
  ex : ∃ (a dx : Addr) (b s t : V), v = .ref a ∧ H a = some (.ins (He.ga K "Machine") dx (fMach b (nv m.many) s t)) ∧ BagAt K H b exits ∧ Dt H s (eSteps m.steps) ∧ Dt H t (eStarts m.starts)
structure ProgAt (K : Frag) (H : Hp) (v : V) (exits kinds : List Nat) (ways : List (List (List Nat))) : Prop where
  ex : ∃ (a dx : Addr) (b k w : V), v = .ref a ∧ H a = some (.ins (He.ga K "Program") dx (fProg b k w)) ∧ BagAt K H b exits ∧ Dt H k (eL kinds) ∧ Dt H w (eWays ways)
/-- a list at v of data -/
def LstAt (H : Hp) (v : V) (ds : List PyData) : Prop := ∃ (l : Addr) (xs : List V), v = .ref l ∧ H l = some (.lst xs) ∧ DtL H xs ds
/-- a list at v whose i-th item is as P i says -/
def LstOf (H : Hp) (v : V) (n : Nat) (P : Nat → V → Prop) : Prop := ∃ (l : Addr) (xs : List V), v = .ref l ∧ H l = some (.lst xs) ∧ xs.length = n ∧ ∀ (i : Nat) x, xs[i]? = some x → P i x
def HereAt (H : Hp) (v : V) (exits : List Nat) (rs : List Rule) : Prop := LstOf H v exits.length fun k x => LstAt H x ((hereOf rs k).map eP)
def WayAt (H : Hp) (v : V) (exits : List Nat) (rs : List Rule) : Prop := LstOf H v exits.length fun k x => LstOf H x (exits.getD k 0) fun e y => LstAt H y ((wayOf rs k e).map eW)
structure BookAt (K : Frag) (H : Hp) (v : V) (exits : List Nat) (D : Nat) (rs : List Rule) : Prop where
  ex : ∃ (a dx : Addr) (b o r w h y : V), v = .ref a ∧ H a = some (.ins (He.ga K "RawBook") dx (fBook b o r w h y)) ∧ BagAt K H b exits ∧ Dt H o (eL (List.replicate D 0)) ∧ Dt H r (eT eR rs) ∧ Dt H w (.tuple []) ∧ HereAt H h exits rs ∧ WayAt H y exits rs
structure StateAt (K : Frag) (H : Hp) (v : V) (kinds shut lots : List Nat) : Prop where
  ex : ∃ (a dx l1 l2 l3 : Addr), v = .ref a ∧ H a = some (.ins (He.ga K "State") dx (fState (.ref l1) (.ref l2) (.ref l3))) ∧ H l1 = some (.lst (kinds.map nv)) ∧ H l2 = some (.lst (shut.map nv)) ∧ H l3 = some (.lst (lots.map nv))
section
variable {K : Frag} {H H' : Hp} {v : V} {exits kinds shut lots : List Nat} {m : MM} {ways : List (List (List Nat))} {rs : List Rule} {D : Nat} {ds : List PyData}
theorem BagAt.same (s : Same H H') (h : BagAt K H v exits) : BagAt K H' v exits := by
  obtain ⟨a, dx, x, e, h1, h2⟩ := h.ex
  exact ⟨a, dx, x, e, s _ _ h1, h2.same s⟩
theorem MachAt.same (s : Same H H') (h : MachAt K H v exits m) : MachAt K H' v exits m := by
  obtain ⟨a, dx, b, st, t, e, h1, h2, h3, h4⟩ := h.ex
  exact ⟨a, dx, b, st, t, e, s _ _ h1, h2.same s, h3.same s, h4.same s⟩
theorem ProgAt.same (s : Same H H') (h : ProgAt K H v exits kinds ways) : ProgAt K H' v exits kinds ways := by
  obtain ⟨a, dx, b, st, t, e, h1, h2, h3, h4⟩ := h.ex
  exact ⟨a, dx, b, st, t, e, s _ _ h1, h2.same s, h3.same s, h4.same s⟩
theorem LstAt.same (s : Same H H') (h : LstAt H v ds) : LstAt H' v ds := by
  obtain ⟨l, xs, e, h1, h2⟩ := h
  exact ⟨l, xs, e, s _ _ h1, h2.same s⟩
theorem LstOf.same {n : Nat} {P P' : Nat → V → Prop} (s : Same H H') (hP : ∀ i x, P i x → P' i x) (h : LstOf H v n P) : LstOf H' v n P' := by
  obtain ⟨l, xs, e, h1, h2, h3⟩ := h
  exact ⟨l, xs, e, s _ _ h1, h2, fun i x hx => hP i x (h3 i x hx)⟩
theorem HereAt.same (s : Same H H') (h : HereAt H v exits rs) : HereAt H' v exits rs := LstOf.same s (fun _ _ q => LstAt.same s q) h
theorem WayAt.same (s : Same H H') (h : WayAt H v exits rs) : WayAt H' v exits rs := LstOf.same s (fun _ _ q => LstOf.same s (fun _ _ r => LstAt.same s r) q) h
theorem BookAt.same (s : Same H H') (h : BookAt K H v exits D rs) : BookAt K H' v exits D rs := by
  obtain ⟨a, dx, b, o, r, w, hh, y, e, h1, h2, h3, h4, h5, h6, h7⟩ := h.ex
  exact ⟨a, dx, b, o, r, w, hh, y, e, s _ _ h1, h2.same s, h3.same s, h4.same s, h5.same s, h6.same s, h7.same s⟩
theorem StateAt.same (s : Same H H') (h : StateAt K H v kinds shut lots) : StateAt K H' v kinds shut lots := by
  obtain ⟨a, dx, l1, l2, l3, e, h1, h2, h3, h4⟩ := h.ex
  exact ⟨a, dx, l1, l2, l3, e, s _ _ h1, s _ _ h2, s _ _ h3, s _ _ h4⟩
end
/-- a state that stands apart from what stood -/
def NewState (K : Frag) (H H' : Hp) (v : V) (kinds shut lots : List Nat) : Prop := StateAt K H' v kinds shut lots ∧ ∀ l o, H l ≠ none → StateAt K (upd H' l o) v kinds shut lots
/-! ### the law's hand -/
/-- all but the object at a stands -/
def SameBut (a : Addr) (H H' : Hp) : Prop := ∀ b o, b ≠ a → H b = some o → H' b = some o
structure Hand (H : Hp) (a : Addr) : Prop where
  ex : ∃ (c : Addr) (i dg s n : Int) (cells : List Int), H a = some (.lst [.ref c, .int i, .int dg, .int s, .int n]) ∧ H c = some (.lst (cells.map V.int)) ∧ 0 ≤ i ∧ a ≠ c
theorem SameBut.refl (a : Addr) (H : Hp) : SameBut a H H := fun _ _ _ h => h
theorem SameBut.trans {a : Addr} {H H1 H2 : Hp} (x : SameBut a H H1) (y : SameBut a H1 H2) : SameBut a H H2 := fun b o n h => y b o n (x b o n h)
theorem _root_.L2.Same.but {a : Addr} {H H' : Hp} (s : Same H H') : SameBut a H H' := fun b o _ h => s b o h
/-- all but the hand at a stands, and the hand's cells are where they were -/
def HB (a : Addr) (H H' : Hp) : Prop := SameBut a H H' ∧ ∀ c xs, H a = some (.lst (.ref c :: xs)) → ∃ ys, H' a = some (.lst (.ref c :: ys))
theorem HB.refl (a : Addr) (H : Hp) : HB a H H := ⟨SameBut.refl a H, fun _ xs h => ⟨xs, h⟩⟩
theorem HB.trans {a : Addr} {H H1 H2 : Hp} (x : HB a H H1) (y : HB a H1 H2) : HB a H H2 := ⟨x.1.trans y.1, fun c xs h => let ⟨ys, h1⟩ := x.2 c xs h; y.2 c ys h1⟩
theorem _root_.L2.Same.hb {a : Addr} {H H' : Hp} (s : Same H H') : HB a H H' := ⟨s.but, fun c xs h => ⟨xs, s _ _ h⟩⟩
theorem SameBut.im {a : Addr} {H H' : Hp} (s : SameBut a H H') (h : Hand H a) : Im H H' := fun b xs e => by
  obtain ⟨c, i, dg, t, n, cells, h1, _⟩ := h.ex
  exact s b _ (fun q => by rw [q, h1] at e; cases e) e
theorem Hand.same {a : Addr} {H H' : Hp} (s : Same H H') (h : Hand H a) : Hand H' a := by
  obtain ⟨c, i, dg, t, n, cells, h1, h2, h3, h4⟩ := h.ex
  exact ⟨c, i, dg, t, n, cells, s _ _ h1, s _ _ h2, h3, h4⟩
theorem SameBut.mut {a p : Addr} {H H' : Hp} {o : HO} (e : SameBut a H H') (h : H p = none) : SameBut a H (upd H' p o) := fun b u n hb => by
  rw [upd_ne (ne_of_none hb h)]
  exact e b u n hb
theorem SameBut.new {a p : Addr} {H H' : Hp} {o : HO} (e : SameBut a H H') (h : H' p = none) : SameBut a H (upd H' p o) := e.trans ((Same.new h).but)
theorem Hand.hupd {a p : Addr} {H : Hp} {o : HO} (h : Hand H a) (hp : H p = none) : Hand (L2.upd H p o) a := h.same (Same.new hp)
/-- a local list that is none of the hand's is changed -/
theorem Hand.mut {a l : Addr} {H : Hp} {o : HO} (h : Hand H a) (hl : l ≠ a) (hc : ∀ c i dg s n, H a = some (.lst [.ref c, .int i, .int dg, .int s, .int n]) → l ≠ c) : Hand (L2.upd H l o) a := by
  obtain ⟨c, i, dg, t, n, cells, h1, h2, h3, h4⟩ := h.ex
  exact ⟨c, i, dg, t, n, cells, by rw [upd_ne hl.symm]; exact h1, by rw [upd_ne (hc _ _ _ _ _ h1).symm]; exact h2, h3, h4⟩
/-- a hand is drawn from, from H0 on -/
structure HS (H0 H : Hp) (a : Addr) : Prop where
  hb : HB a H0 H
  hand0 : Hand H0 a
  hand : Hand H a
theorem HS.start {H : Hp} {a : Addr} (h : Hand H a) : HS H H a := ⟨HB.refl a H, h, h⟩
theorem HS.new {H0 H : Hp} {a p : Addr} {o : HO} (h : HS H0 H a) (hp : H p = none) : HS H0 (upd H p o) a := ⟨h.hb.trans (Same.new hp).hb, h.hand0, h.hand.hupd hp⟩
theorem HS.same {H0 H H' : Hp} {a : Addr} (h : HS H0 H a) (s : Same H H') : HS H0 H' a := ⟨h.hb.trans s.hb, h.hand0, h.hand.same s⟩
theorem HS.draw {H0 H H' : Hp} {a : Addr} (h : HS H0 H a) (s : HB a H H') (d : Hand H' a) : HS H0 H' a := ⟨h.hb.trans s, h.hand0, d⟩
theorem HS.mut {H0 H : Hp} {a l : Addr} {o : HO} (h : HS H0 H a) (hl : H0 l = none) : HS H0 (upd H l o) a := by
  obtain ⟨c0, i0, dg0, s0, n0, cells0, h1, h2, h3, h4⟩ := h.hand0.ex
  have la : l ≠ a := fun z => by rw [z, h1] at hl; cases hl
  have lc : l ≠ c0 := fun z => by rw [z, h2] at hl; cases hl
  refine ⟨⟨fun b u n hb => by rw [upd_ne (ne_of_none hb hl)]; exact h.hb.1 b u n hb, fun c xs hc => by
    obtain ⟨ys, hy⟩ := h.hb.2 c xs hc
    exact ⟨ys, by rw [upd_ne la.symm]; exact hy⟩⟩, h.hand0, h.hand.mut la fun c i dg s n hc => ?_⟩
  obtain ⟨ys, hy⟩ := h.hb.2 c0 _ h1
  rw [hy] at hc
  cases hc
  exact lc
theorem HS.dt {H0 H : Hp} {a : Addr} {v : V} {d : PyData} (h : HS H0 H a) (hv : Dt H0 v d) : Dt H v d := hv.im (h.hb.1.im h.hand0)
theorem HS.im {H0 H : Hp} {a : Addr} (h : HS H0 H a) : Im H0 H := h.hb.1.im h.hand0
theorem lp0 : ([] : List (Str × V)).length ≤ 0 := Nat.le_refl _
theorem lp {fs : List (Str × V)} {f : Str} {v : V} {n : Nat} (h : fs.length ≤ n) : (putF f v fs).length ≤ n + 1 := Nat.le_trans (length_putF f v fs) (Nat.succ_le_succ h)
theorem lpn {fs : List (Str × V)} {n : Nat} (h : fs.length ≤ n) (hn : n < 1000 := by decide) : fs.length < 1000 := Nat.lt_of_le_of_lt h hn
theorem updupd {H : Hp} {a : Addr} {o u : HO} : upd (upd H a o) a u = upd H a u := upd_upd
theorem SameBut.put {a : Addr} {H : Hp} {o : HO} : SameBut a H (upd H a o) := fun b u n h => by rw [upd_ne n]; exact h
theorem BagAt.but {K : Frag} {H H' : Hp} {v : V} {exits : List Nat} {a dx : Addr} {C : Addr} {fs : List (Str × V)} (h : BagAt K H v exits) (ha : H a = some (.ins C dx fs)) (hv : v ≠ .ref a) (s : SameBut a H H') : BagAt K H' v exits := by
  obtain ⟨b, d, x, rfl, h1, h2⟩ := h.ex
  exact ⟨b, d, x, rfl, s _ _ (fun e => hv (by rw [e])) h1, h2.im fun c xs e => s _ _ (fun z => by rw [z, ha] at e; cases e) e⟩
/-- a new instance and its __init__ -/
theorem made_same {H H6 H' : Hp} {x dx C : Addr} (s : Same H H6) (nx : H6 x = none) (nd : H6 dx = none) (k : SameBut x (upd (upd H6 dx (.own x)) x (.ins C dx [])) H') : Same H H' := fun b o e =>
  k b o (ne_of_none (s b o e) nx) (by rw [upd_ne (ne_of_none (s _ _ e) nx), upd_ne (ne_of_none (s _ _ e) nd)]; exact s b o e)
theorem made_at {H6 : Hp} {x dx C : Addr} (nx : H6 x = none) (nd : H6 dx = none) : Same H6 (upd (upd H6 dx (.own x)) x (.ins C dx [])) := fun b o e => by
  rw [upd_ne (ne_of_none e nx), upd_ne (ne_of_none e nd)]; exact e
theorem made_state {K : Frag} {H6 H' : Hp} {x dx l1 l2 l3 : Addr} {kinds shut lots : List Nat} (nx : H6 x = none) (nd : H6 dx = none) (k : SameBut x (upd (upd H6 dx (.own x)) x (.ins (He.ga K "State") dx [])) H') (hx : H' x = some (.ins (He.ga K "State") dx (fState (.ref l1) (.ref l2) (.ref l3))))
    (g1 : H6 l1 = some (.lst (kinds.map nv))) (g2 : H6 l2 = some (.lst (shut.map nv))) (g3 : H6 l3 = some (.lst (lots.map nv))) : StateAt K H' (.ref x) kinds shut lots := by
  have s7 := made_at (C := He.ga K "State") nx nd
  exact ⟨x, dx, l1, l2, l3, rfl, hx, k _ _ (ne_of_none g1 nx) (s7 _ _ g1), k _ _ (ne_of_none g2 nx) (s7 _ _ g2), k _ _ (ne_of_none g3 nx) (s7 _ _ g3)⟩
theorem new_state {K : Frag} {H H6 H' : Hp} {x dx l1 l2 l3 : Addr} {kinds shut lots : List Nat} (s : Same H H6) (nx : H6 x = none) (nd : H6 dx = none) (k : SameBut x (upd (upd H6 dx (.own x)) x (.ins (He.ga K "State") dx [])) H') (hx : H' x = some (.ins (He.ga K "State") dx (fState (.ref l1) (.ref l2) (.ref l3))))
    (g1 : H6 l1 = some (.lst (kinds.map nv))) (g2 : H6 l2 = some (.lst (shut.map nv))) (g3 : H6 l3 = some (.lst (lots.map nv))) (n1 : H l1 = none) (n2 : H l2 = none) (n3 : H l3 = none) : NewState K H H' (.ref x) kinds shut lots := by
  refine ⟨made_state nx nd k hx g1 g2 g3, fun l o hl => ?_⟩
  obtain ⟨x', dx', l1', l2', l3', e, h0, h1, h2, h3⟩ := (made_state (kinds := kinds) (shut := shut) (lots := lots) nx nd k hx g1 g2 g3).ex
  cases e
  rw [hx] at h0
  injection (Option.some.inj h0) with _ _ e3
  cases e3
  have ne : ∀ z, H z = none → z ≠ l := fun z hz e => hl (e ▸ hz)
  refine ⟨x, dx, l1, l2, l3, rfl, ?_, ?_, ?_, ?_⟩
  · rw [upd_ne (ne _ (s.free nx))]; exact hx
  · rw [upd_ne (ne _ n1)]; exact h1
  · rw [upd_ne (ne _ n2)]; exact h2
  · rw [upd_ne (ne _ n3)]; exact h3
theorem NewState.le {K : Frag} {H H1 H' : Hp} {v : V} {kinds shut lots : List Nat} (s : Same H H1) (n : NewState K H1 H' v kinds shut lots) : NewState K H H' v kinds shut lots :=
  ⟨n.1, fun l o hl => n.2 l o fun e => hl (s.free e)⟩
theorem rep_one {α : Type} (x : α) : ∀ n, (List.replicate n [x]).flatten = List.replicate n x
  | 0 => rfl
  | n + 1 => by rw [List.replicate_succ, List.flatten_cons, rep_one x n, List.replicate_succ]; rfl
/-- a comprehension without tests, each item as R says -/
theorem lc_rel {J : It} {n : Nat} {G : Hp → Prop} {Y : Nat → Hp → V → Hp → Prop} (w : Walk J n G Y) {g : TG} {te : TE} {vs : List Nat} {σ : L2.St} {H0 : Hp} {Dl : Addr} {Qd : Hp → Prop} (nD : H0 Dl = none) (R : Nat → V → Hp → Prop) (hn : n ≤ 100000)
    (hR : ∀ j y H1 H2 zs, H1 Dl = some (.lst zs) → SameBut Dl H1 H2 → R j y H1 → R j y H2)
    (hG : ∀ H', Same H0 H' → G H')
    (hs : ∀ i x H1 H2 (Kk : V → Hp → Prop), i < n → Same H0 H1 → H1 Dl ≠ none → Y i H1 x H2 → (∀ y H4, Same H1 H4 → R i y H4 → Kk y H4) → g x (wipe σ vs) H2 fun σ2 H3 => wipe σ2 vs = wipe σ vs ∧ te σ2 H3 Kk)
    (hd : ∀ H' ys, Same H0 H' → H' Dl = some (.lst ys) → ys.length = n → (∀ j y, ys[j]? = some y → R j y H') → Qd H') :
    ∃ W : Nat → Nat → Hp → Prop, (∃ m, W 0 m (upd H0 Dl (.lst []))) ∧ ∀ i m H, W i m H →
      (J.stop i H ∧ Qd H) ∨ (J.go i H ∧ ∃ Nx : Hp → Prop, (∀ H', Nx H' → ∃ m', m' < m ∧ W (i + 1) m' H') ∧ ∀ x H', J.yld i H x H' → g x (wipe σ vs) H' fun σ2 H2 => wipe σ2 vs = wipe σ vs ∧ tYes σ2 H2 fun b H3 =>
        if b = true then te σ2 H3 fun y H4 => ∃ acc, H4 Dl = some (.lst acc) ∧ acc.length < sizeLine ∧ Nx (upd H4 Dl (.lst (acc ++ [y]))) else Nx H3) := by
  refine lc_it w (fun i H' => Same H0 H' ∧ ∃ ys, H' Dl = some (.lst ys) ∧ ys.length = i ∧ ∀ j y, ys[j]? = some y → R j y H') ⟨Same.new nD, [], upd_same, rfl, fun j y h => by simp at h⟩ (fun i H _ p => hG H p.1) ?_ ?_
  · rintro i x H1 H2 hi ⟨s, ys, hD, hl, hr⟩ y
    refine hs i x H1 H2 _ hi s (by rw [hD]; intro z; cases z) y fun z H4 s4 r4 => ?_
    have hD4 := s4 _ _ hD
    refine ⟨ys, hD4, smaller (by omega), (s.trans s4).mut nD, ys ++ [z], upd_same, by rw [List.length_append, hl]; rfl, fun j y' hj => ?_⟩
    have sb : SameBut Dl H4 (upd H4 Dl (.lst (ys ++ [z]))) := fun b u n h => by rw [upd_ne n]; exact h
    by_cases c : j < ys.length
    · rw [List.getElem?_append_left c] at hj
      exact hR j y' H4 _ ys hD4 sb (hR j y' H1 H4 ys hD s4.but (hr j y' hj))
    · have ej : j = ys.length := by
        have := (List.getElem?_eq_some_iff.mp hj).1
        rw [List.length_append] at this
        have h1 : [z].length = 1 := rfl
        omega
      subst ej
      rw [List.getElem?_append_right (Nat.le_refl _), Nat.sub_self] at hj
      cases hj
      rw [hl]
      exact hR i z H4 _ ys hD4 sb r4
  · rintro H1 ⟨s, ys, hD, hl, hr⟩
    exact hd H1 ys s hD hl hr
/-! ### the promises -/
/-- checks -/
def ph_is_integer (K : Frag) (v : V) (H : Hp) (Q : VK) : Prop := ∃ o, Kn H v o ∧ Q (.bl o.isSome) H
def ph_is_between (K : Frag) (v l m : V) (H : Hp) (Q : VK) : Prop := ∃ o lo hi, Kn H v o ∧ l = .int lo ∧ m = .int hi ∧ Q (.bl (o.any fun i => decide (lo ≤ i) && decide (i ≤ hi))) H
def ph_is_index (K : Frag) (v m : V) (H : Hp) (Q : VK) : Prop := ∃ o n, Kn H v o ∧ m = .int n ∧ Q (.bl (o.any fun i => decide (0 ≤ i) && decide (i < n))) H
def ph_is_lot (K : Frag) (v m : V) (H : Hp) (Q : VK) : Prop := ∃ d n, Th H v d ∧ m = .int n ∧ Q (.bl (isLot n d)) H
def ph_mask_of (K : Frag) (v : V) (H : Hp) (Q : VK) : Prop := ∃ (a : Addr) (l : List Nat), v = .ref a ∧ (H a = some (.tup (l.map nv)) ∨ H a = some (.lst (l.map nv))) ∧ (∀ x ∈ l, x ≤ 1000) ∧ Q (nv (maskOf l)) H
def ph_lot_of (K : Frag) (v : V) (H : Hp) (Q : VK) : Prop := ∃ m, v = nv m ∧ m < 2 ^ 100 ∧ Ret H Q (eL (lotOf m))
/-- books -/
def ph_RawBook_keep (K : Frag) (v b o r w : V) (H : Hp) (Q : VK) : Prop := ∃ (a dx : Addr) (exits : List Nat) (D : Nat) (rs : List Rule), v = .ref a ∧ H a = some (.ins (He.ga K "RawBook") dx []) ∧ BagAt K H b exits ∧ XOk exits ∧ Dt H o (eL (List.replicate D 0)) ∧ Dt H r (eT eR rs) ∧ Dt H w (.tuple []) ∧ rs.length ≤ 1000 ∧
  (∀ x ∈ rs, match x with | .here k need d => k < exits.length ∧ (∀ y ∈ need, y ≤ 1000) ∧ d ≤ 1000 | .way k e near far _ d => k < exits.length ∧ e < exits.getD k 0 ∧ (∀ y ∈ near, y ≤ 1000) ∧ (∀ y ∈ far, y ≤ 1000) ∧ d ≤ 1000) ∧
  ∀ H', SameBut a H H' → BookAt K H' v exits D rs → Q .non H'
def ph_RawBook_init (K : Frag) : V → V → V → V → V → Hp → VK → Prop := ph_RawBook_keep K
def ph_RawBook_bag (K : Frag) (v : V) (H : Hp) (Q : VK) : Prop := ∃ exits D rs, BookAt K H v exits D rs ∧ ∀ b, BagAt K H b exits → (∃ a dx o r w h y, v = .ref a ∧ H a = some (.ins (He.ga K "RawBook") dx (fBook b o r w h y))) → Q b H
def ph_RawBook_owners (K : Frag) (v : V) (H : Hp) (Q : VK) : Prop := ∃ exits D rs, BookAt K H v exits D rs ∧ ∀ o, Dt H o (eL (List.replicate D 0)) → Q o H
def ph_RawBook_rules (K : Frag) (v : V) (H : Hp) (Q : VK) : Prop := ∃ exits D rs, BookAt K H v exits D rs ∧ ∀ o, Dt H o (eT eR rs) → Q o H
def ph_RawBook_rewriters (K : Frag) (v : V) (H : Hp) (Q : VK) : Prop := ∃ exits D rs, BookAt K H v exits D rs ∧ ∀ o, Dt H o (.tuple []) → Q o H
def ph_all_mask (K : Frag) (v : V) (H : Hp) (Q : VK) : Prop := ∃ exits D rs, BookAt K H v exits D rs ∧ D ≤ 1000 ∧ Q (nv (2 ^ D - 1)) H
def ph_own_mask (K : Frag) (v l : V) (H : Hp) (Q : VK) : Prop := ∃ exits D rs, BookAt K H v exits D rs ∧ D ≤ 1000 ∧ Dt H l (eL [0]) ∧ ∀ H', Same H H' → Q (nv (2 ^ D - 1)) H'
/-- rows -/
def ph_State_init (K : Frag) (v k c l : V) (H : Hp) (Q : VK) : Prop := ∃ (a dx l1 l2 l3 : Addr) (kinds shut lots : List Nat), v = .ref a ∧ H a = some (.ins (He.ga K "State") dx []) ∧ k = .ref l1 ∧ c = .ref l2 ∧ l = .ref l3 ∧ H l1 = some (.lst (kinds.map nv)) ∧ H l2 = some (.lst (shut.map nv)) ∧ H l3 = some (.lst (lots.map nv)) ∧
  ∀ H', SameBut a H H' → H' a = some (.ins (He.ga K "State") dx (fState k c l)) → Q .non H'
abbrev eStand (p : Nat × Nat × Nat) : PyData := .tuple [eN p.1, eL (lotOf p.2.1), eL (lotOf p.2.2)]
def ph_State_stands (K : Frag) (v : V) (H : Hp) (Q : VK) : Prop := ∃ kinds shut lots, StateAt K H v kinds shut lots ∧ shut.length = kinds.length ∧ lots.length = kinds.length ∧ kinds.length ≤ 1000 ∧ (∀ x ∈ shut, x < 2 ^ 100) ∧ (∀ x ∈ lots, x < 2 ^ 100) ∧
  RetL H Q ((kinds.zip (shut.zip lots)).map eStand)
def ph_begin_state (K : Frag) (b p : V) (H : Hp) (Q : VK) : Prop := ∃ exits D rs kinds ways, BookAt K H b exits D rs ∧ ProgAt K H p exits kinds ways ∧ D ≤ 1000 ∧ kinds.length ≤ 1000 ∧
  ∀ v H', Same H H' → StateAt K H' v kinds (List.replicate kinds.length 0) (List.replicate kinds.length (2 ^ D - 1)) → Q v H'
def ph_are_lookers (K : Frag) (b t : V) (H : Hp) (Q : VK) : Prop := ∃ exits D rs, BookAt K H b exits D rs ∧ 1 ≤ D ∧ D ≤ 1000 ∧ Dt H t (eL [0]) ∧ Q (.bl true) H
def ph_is_move (K : Frag) (b t : V) (H : Hp) (Q : VK) : Prop := ∃ exits D rs, BookAt K H b exits D rs ∧ 1 ≤ D ∧ D ≤ 1000 ∧ Dt H t eMove ∧ ∀ H', Same H H' → Q (.bl true) H'
def ph_is_row (K : Frag) (b t : V) (H : Hp) (Q : VK) : Prop := ∃ exits D rs, BookAt K H b exits D rs ∧ 1 ≤ D ∧ D ≤ 1000 ∧ Dt H t (.tuple [eMove]) ∧ ∀ H', Same H H' → Q (.bl true) H'
def ph_check_row (K : Frag) (b t : V) (H : Hp) (Q : VK) : Prop := ∃ exits D rs, BookAt K H b exits D rs ∧ 1 ≤ D ∧ D ≤ 1000 ∧ Dt H t (.tuple [eMove]) ∧ ∀ H', Same H H' → Q .non H'
def ph_is_open (K : Frag) (s p e : V) (H : Hp) (Q : VK) : Prop := ∃ (kinds lots : List Nat) (n i j : Nat), StateAt K H s kinds (List.replicate n 0) lots ∧ p = nv i ∧ i < n ∧ e = nv j ∧ Q (.bl true) H
def ph_make_along (K : Frag) (fv lv p g r : V) (H : Hp) (Q : VK) : Prop := ∃ (lf ll lr : Addr) (f L gs : List Nat) (i : Nat) (rs : List WR) (xs : List V), fv = .ref lf ∧ lv = .ref ll ∧ r = .ref lr ∧ lf ≠ ll ∧ lf ≠ lr ∧ H lf = some (.lst (f.map nv)) ∧ H ll = some (.lst (L.map nv)) ∧ p = nv i ∧ Dt H g (eL gs) ∧
  H lr = some (.lst xs) ∧ DtL H xs (rs.map eW) ∧ f.length = L.length ∧ i < L.length ∧ (∀ t ∈ gs, t < L.length) ∧ rs.length ≤ 1000 ∧ gs.length ≤ 1000 ∧ ∀ H', SameBut lf H H' → H' lf = some (.lst ((makeAlong L i gs rs f).map nv)) → Q .non H'
/-- what the turns' helpers ask -/
structure Turn0 (K : Frag) (H : Hp) (b w s : V) (exits : List Nat) (D : Nat) (rs : List Rule) (kinds : List Nat) (ways : List (List (List Nat))) (slots : List Nat) : Prop where
  book : BookAt K H b exits D rs
  way : Dt H w (eWays ways)
  state : StateAt K H s kinds (List.replicate kinds.length 0) slots
  xok : XOk exits
  pok : POk exits kinds ways
  rlen : rs.length ≤ 1000
def ph_made_lots (K : Frag) (b w s l : V) (H : Hp) (Q : VK) : Prop := ∃ exits D rs kinds ways slots L ll, Turn0 K H b w s exits D rs kinds ways slots ∧ l = .ref ll ∧ H ll = some (.lst (L.map nv)) ∧ L.length = kinds.length ∧
  ∀ (a : Addr) H', Same H H' → H a = none → H' a = some (.lst ((madeLots exits rs kinds ways L).map nv)) → Q (.ref a) H'
def ph_turn_rounds (K : Frag) (b w s o : V) (H : Hp) (Q : VK) : Prop := ∃ exits D rs kinds ways, Turn0 K H b w s exits D rs kinds ways (List.replicate kinds.length (2 ^ D - 1)) ∧ D ≤ 20 ∧ (∀ x ∈ rs, match x with | .here _ _ d => d < D | .way _ _ _ _ _ d => d < D) ∧ o = nv (2 ^ D - 1) ∧
  ∀ (a l : Addr) (r : V) L H', Same H H' → H' a = some (.tup [.ref l, r]) → H l = none → H' l = some (.lst (L.map nv)) → Fix exits rs kinds ways D L → Q (.ref a) H'
def ph_turn_state (K : Frag) (b w s o : V) (H : Hp) (Q : VK) : Prop := ∃ exits D rs kinds ways, Turn0 K H b w s exits D rs kinds ways (List.replicate kinds.length (2 ^ D - 1)) ∧ D ≤ 20 ∧ (∀ x ∈ rs, match x with | .here _ _ d => d < D | .way _ _ _ _ _ d => d < D) ∧ o = nv (2 ^ D - 1) ∧
  ∀ v L H', Same H H' → NewState K H H' v kinds (List.replicate kinds.length 0) L → Fix exits rs kinds ways D L → Q v H'
def ph_move_on (K : Frag) (b w s o : V) (H : Hp) (Q : VK) : Prop := ∃ exits D rs kinds ways, Turn0 K H b w s exits D rs kinds ways (List.replicate kinds.length (2 ^ D - 1)) ∧ D ≤ 20 ∧ (∀ x ∈ rs, match x with | .here _ _ d => d < D | .way _ _ _ _ _ d => d < D) ∧ Dt H o eMove ∧
  ∀ v L H', Same H H' → NewState K H H' v kinds (List.replicate kinds.length 0) L → Fix exits rs kinds ways D L → Q v H'
def ph_states_of (K : Frag) (b p r : V) (H : Hp) (Q : VK) : Prop := ∃ exits D rs kinds ways, BookAt K H b exits D rs ∧ ProgAt K H p exits kinds ways ∧ XOk exits ∧ POk exits kinds ways ∧ rs.length ≤ 1000 ∧ D ≤ 20 ∧ (∀ x ∈ rs, match x with | .here _ _ d => d < D | .way _ _ _ _ _ d => d < D) ∧ Dt H r (.tuple [eMove]) ∧
  ∀ (a : Addr) (x y : V) L H', Same H H' → H a = none → H' a = some (.lst [x, y]) → StateAt K H' x kinds (List.replicate kinds.length 0) (List.replicate kinds.length (2 ^ D - 1)) → StateAt K H' y kinds (List.replicate kinds.length 0) L → Fix exits rs kinds ways D L → Q (.ref a) H'
def ph_led (K : Frag) (b p r : V) (H : Hp) (Q : VK) : Prop := ∃ exits D rs kinds ways, BookAt K H b exits D rs ∧ ProgAt K H p exits kinds ways ∧ XOk exits ∧ POk exits kinds ways ∧ rs.length ≤ 1000 ∧ 1 ≤ D ∧ D ≤ 20 ∧ (∀ x ∈ rs, match x with | .here _ _ d => d < D | .way _ _ _ _ _ d => d < D) ∧ Dt H r (.tuple [eMove]) ∧
  ∀ (a : Addr) (x y : V) L H', Same H H' → H a = none → H' a = some (.lst [x, y]) → LstAt H' y ((kinds.zip ((List.replicate kinds.length 0).zip L)).map eStand) → Fix exits rs kinds ways D L → Q (.ref a) H'
/-- programs -/
def ph_are_exits (K : Frag) (t : V) (H : Hp) (Q : VK) : Prop := ∃ exits, Dt H t (eL exits) ∧ XOk exits ∧ ∀ H', Same H H' → Q (.bl true) H'
def ph_Bag_init (K : Frag) (v x : V) (H : Hp) (Q : VK) : Prop := ∃ (a dx : Addr) (exits : List Nat), v = .ref a ∧ H a = some (.ins (He.ga K "Bag") dx []) ∧ Dt H x (eL exits) ∧ XOk exits ∧ ∀ H', SameBut a H H' → BagAt K H' v exits → Q .non H'
def ph_Bag_eq (K : Frag) (x y : V) (H : Hp) (Q : VK) : Prop := ∃ exits, BagAt K H x exits ∧ BagAt K H y exits ∧ Q (.bl true) H
def ph_are_ways (K : Frag) (b k t : V) (H : Hp) (Q : VK) : Prop := ∃ exits kinds ways, BagAt K H b exits ∧ Dt H k (eL kinds) ∧ Dt H t (eWays ways) ∧ XOk exits ∧ POk exits kinds ways ∧ ∀ H', Same H H' → Q (.bl true) H'
def ph_are_kinds (K : Frag) (b t : V) (H : Hp) (Q : VK) : Prop := ∃ exits kinds, BagAt K H b exits ∧ Dt H t (eL kinds) ∧ kinds.length ≤ 1000 ∧ (∀ k ∈ kinds, k < exits.length) ∧ ∀ H', Same H H' → Q (.bl true) H'
def ph_Program_keep (K : Frag) (v b k w : V) (H : Hp) (Q : VK) : Prop := ∃ (a dx : Addr) (exits : List Nat) (kinds : List Nat) (ways : List (List (List Nat))), v = .ref a ∧ H a = some (.ins (He.ga K "Program") dx []) ∧ BagAt K H b exits ∧ Dt H k (eL kinds) ∧ Dt H w (eWays ways) ∧ ∀ H', SameBut a H H' → ProgAt K H' v exits kinds ways → Q .non H'
def ph_Program_init (K : Frag) (v b k w : V) (H : Hp) (Q : VK) : Prop := ∃ (a dx : Addr) (exits : List Nat) (kinds : List Nat) (ways : List (List (List Nat))), v = .ref a ∧ H a = some (.ins (He.ga K "Program") dx []) ∧ BagAt K H b exits ∧ Dt H k (eL kinds) ∧ Dt H w (eWays ways) ∧ XOk exits ∧ POk exits kinds ways ∧ ∀ H', SameBut a H H' → ProgAt K H' v exits kinds ways → Q .non H'
/-- machines -/
def ph_are_pairs (K : Frag) (m t : V) (H : Hp) (Q : VK) : Prop := ∃ (n : Nat) (l : List (Nat × Nat)), m = nv n ∧ Dt H t (eT eP l) ∧ PLot n l ∧ l.length ≤ 1000 ∧ ∀ H', Same H H' → Q (.bl true) H'
def ph_are_steps (K : Frag) (b m t : V) (H : Hp) (Q : VK) : Prop := ∃ exits mm, BagAt K H b exits ∧ m = nv mm.many ∧ Dt H t (eSteps mm.steps) ∧ XOk exits ∧ MOk exits mm ∧ ∀ H', Same H H' → Q (.bl true) H'
def ph_are_starts (K : Frag) (b m t : V) (H : Hp) (Q : VK) : Prop := ∃ exits mm, BagAt K H b exits ∧ m = nv mm.many ∧ Dt H t (eStarts mm.starts) ∧ XOk exits ∧ MOk exits mm ∧ ∀ H', Same H H' → Q (.bl true) H'
def ph_Machine_init (K : Frag) (v b n s t : V) (H : Hp) (Q : VK) : Prop := ∃ (a dx : Addr) (exits : List Nat) (mm : MM), v = .ref a ∧ H a = some (.ins (He.ga K "Machine") dx []) ∧ BagAt K H b exits ∧ n = nv mm.many ∧ Dt H s (eSteps mm.steps) ∧ Dt H t (eStarts mm.starts) ∧ XOk exits ∧ MOk exits mm ∧ ∀ H', SameBut a H H' → MachAt K H' v exits mm → Q .non H'
def ph_states_book (K : Frag) (m : V) (H : Hp) (Q : VK) : Prop := ∃ exits mm, MachAt K H m exits mm ∧ XOk exits ∧ MOk exits mm ∧ ∀ v H', Same H H' → BookAt K H' v exits mm.many (stateRules mm) → Q v H'
/-- ahead -/
def ph_book_ahead (K : Frag) (m w b : V) (H : Hp) (Q : VK) : Prop := ∃ exits mm wanted barred, MachAt K H m exits mm ∧ XOk exits ∧ MOk exits mm ∧ Dt H w (eL wanted) ∧ Dt H b (eL barred) ∧ Lot exits.length wanted ∧ Lot exits.length barred ∧ ∀ v H', Same H H' → BookAt K H' v exits (3 * mm.many + 1) (aheadRules exits.length mm wanted barred) → Q v H'
def ph_on_states (K : Frag) (m l : V) (H : Hp) (Q : VK) : Prop := ∃ (exits : List Nat) (mm : MM) (x : Nat), MachAt K H m exits mm ∧ mm.many ≤ 1000 ∧ l = nv x ∧ Q (nv (onStates mm.many x)) H
def ph_on_lots (K : Frag) (m p b : V) (H : Hp) (Q : VK) : Prop := ∃ exits mm rs kinds ways, MachAt K H m exits mm ∧ ProgAt K H p exits kinds ways ∧ BookAt K H b exits (3 * mm.many + 1) rs ∧ XOk exits ∧ MOk exits mm ∧ POk exits kinds ways ∧ rs.length ≤ 1000 ∧ (∀ x ∈ rs, match x with | .here _ _ d => d < 3 * mm.many + 1 | .way _ _ _ _ _ d => d < 3 * mm.many + 1) ∧
  ∀ (a : Addr) L H', Same H H' → H a = none → H' a = some (.lst ((L.map (onStates mm.many)).map nv)) → Fix exits rs kinds ways (3 * mm.many + 1) L → Q (.ref a) H'
/-- the law's draws -/
def ph_law_hand (K : Frag) (s : V) (H : Hp) (Q : VK) : Prop := ∃ (a : Addr) (ns : List Int), s = .ref a ∧ SqL K H a (ns.map V.int) ∧ ns.length ≤ 63 ∧ ∀ (p : Addr) H', Same H H' → H p = none → Hand H' p → Q (.ref p) H'
def ph_law_draw (K : Frag) (h m : V) (H : Hp) (Q : VK) : Prop := ∃ (a : Addr) (n : Nat), h = .ref a ∧ Hand H a ∧ m = nv n ∧ 0 < n ∧ n < 1000000 ∧ ∀ (r : Nat) H', r < n → HB a H H' → Hand H' a → Q (nv r) H'
/-- a new datum, the hand being drawn from -/
def HRet {α : Type} (a : Addr) (H : Hp) (Q : VK) (ok : α → Prop) (f : α → PyData) : Prop := ∀ (x : α) (v : V) (H' : Hp), ok x → HB a H H' → Hand H' a → Dt H' v (f x) → Q v H'
def ph_law_some (K : Frag) (h m s : V) (H : Hp) (Q : VK) : Prop := ∃ (a : Addr) (n k : Nat), h = .ref a ∧ Hand H a ∧ m = nv n ∧ n ≤ 1000 ∧ s = nv k ∧ 0 < k ∧ k < 1000 ∧ HRet a H Q (Lot n) eL
def ph_law_exits (K : Frag) (h k m : V) (H : Hp) (Q : VK) : Prop := ∃ a : Addr, h = .ref a ∧ Hand H a ∧ k = nv 4 ∧ m = nv 3 ∧ HRet a H Q XOk eL
def ph_law_program (K : Frag) (h x m : V) (H : Hp) (Q : VK) : Prop := ∃ (a : Addr) (exits : List Nat), h = .ref a ∧ Hand H a ∧ Dt H x (eL exits) ∧ XOk exits ∧ m = nv 12 ∧ HRet a H Q (fun p : List Nat × List (List (List Nat)) => POk exits p.1 p.2) fun p => .tuple [eL p.1, eWays p.2]
def ph_law_steps (K : Frag) (h x m s : V) (H : Hp) (Q : VK) : Prop := ∃ (a : Addr) (exits : List Nat) (n k : Nat), h = .ref a ∧ Hand H a ∧ Dt H x (eL exits) ∧ XOk exits ∧ m = nv n ∧ 1 ≤ n ∧ n ≤ 3 ∧ s = nv k ∧ 0 < k ∧ k < 1000 ∧
  HRet a H Q (fun st : List (List (List (Nat × Nat))) => st.length = exits.length ∧ (∀ (k : Nat) (l : List (List (Nat × Nat))), st[k]? = some l → exits[k]? = some l.length) ∧ ∀ l ∈ st, ∀ q ∈ l, PLot n q) eSteps
def ph_law_starts (K : Frag) (h x m : V) (H : Hp) (Q : VK) : Prop := ∃ (a : Addr) (exits : List Nat) (n : Nat), h = .ref a ∧ Hand H a ∧ Dt H x (eL exits) ∧ XOk exits ∧ m = nv n ∧ 1 ≤ n ∧ n ≤ 3 ∧ HRet a H Q (fun st : List (List Nat) => st.length = exits.length ∧ ∀ l ∈ st, Lot n l) eStarts
def ph_law_machine (K : Frag) (h x m : V) (H : Hp) (Q : VK) : Prop := ∃ (a : Addr) (exits : List Nat), h = .ref a ∧ Hand H a ∧ Dt H x (eL exits) ∧ XOk exits ∧ m = nv 3 ∧ HRet a H Q (MOk exits) eM
/-- the law's searches -/
structure Srch (H : Hp) (m k w : V) (exits : List Nat) (mm : MM) (kinds : List Nat) (ways : List (List (List Nat))) : Prop where
  mach : Dt H m (eM mm)
  kind : Dt H k (eL kinds)
  way : Dt H w (eWays ways)
  xok : XOk exits
  mok : MOk exits mm
  pok : POk exits kinds ways
def ph_law_nexts (K : Frag) (m k w p s : V) (H : Hp) (Q : VK) : Prop := ∃ (exits : List Nat) (mm : MM) (kinds : List Nat) (ways : List (List (List Nat))) (i j : Nat), Srch H m k w exits mm kinds ways ∧ p = nv i ∧ i < kinds.length ∧ s = nv j ∧ RetL H Q ((nextsM mm kinds ways i j).map e3)
abbrev kPS (p s : Nat) : List Key := [Sum.inl (p : Int), Sum.inl (s : Int)]
def ph_law_far (K : Frag) (m k w : V) (H : Hp) (Q : VK) : Prop := ∃ exits mm kinds ways, Srch H m k w exits mm kinds ways ∧ ∀ (a : Addr) kvs H', Same H H' → H a = none → H' a = some (.dT kvs) → (∀ p s, (valV kvs (kPS p s)).isSome = true ↔ Far mm kinds ways p s) → Q (.ref a) H'
def ph_law_on (K : Frag) (m k w wd bd : V) (H : Hp) (Q : VK) : Prop := ∃ exits mm kinds ways wanted barred, Srch H m k w exits mm kinds ways ∧ Dt H wd (eL wanted) ∧ Dt H bd (eL barred) ∧ ∀ (a : Addr) kvs H', Same H H' → H a = none → H' a = some (.dT kvs) → (∀ p s, (valV kvs (kPS p s)).isSome = true ↔ On mm kinds ways wanted barred p s) → Q (.ref a) H'
def ph_law_looking (K : Frag) (m k w wd bd : V) (H : Hp) (Q : VK) : Prop := ∃ exits mm kinds ways wanted barred, Srch H m k w exits mm kinds ways ∧ Dt H wd (eL wanted) ∧ Dt H bd (eL barred) ∧ ∀ (a : Addr) (l : List Nat) H', Same H H' → H a = none → H' a = some (.lst (l.map nv)) → l.Pairwise (· < ·) → (∀ p, p ∈ l ↔ LooksOn mm kinds ways wanted barred p) → Q (.ref a) H'
def ph_law_is_int (K : Frag) (v : V) (H : Hp) (Q : VK) : Prop := ∃ o, Kn H v o ∧ Q (.bl o.isSome) H
def ph_law_is_index (K : Frag) (v m : V) (H : Hp) (Q : VK) : Prop := ∃ o n, Kn H v o ∧ m = .int n ∧ Q (.bl (o.any fun i => decide (0 ≤ i) && decide (i < n))) H
def ph_law_is_lot (K : Frag) (v m : V) (H : Hp) (Q : VK) : Prop := ∃ d n, Th H v d ∧ (∀ l, d = some l → l.length ≤ 1000) ∧ m = .int n ∧ ∀ H', Same H H' → Q (.bl (isLot n d)) H'
def ph_law_odd (K : Frag) (h g : V) (H : Hp) (Q : VK) : Prop := ∃ a : Addr, h = .ref a ∧ Hand H a ∧ ((∃ l : List Nat, Dt H g (eL l) ∧ l.length ≤ 10 ∧ (∀ x ∈ l, x < 1000) ∧ ∀ v d H', Th H' v d → (∀ l, d = some l → l.length ≤ 1000) → HB a H H' → Hand H' a → Q v H') ∨ (∃ n : Nat, g = nv n ∧ n < 1000 ∧ ∀ v o H', Kn H' v o → HB a H H' → Hand H' a → Q v H'))
def ph_law_spoiled (K : Frag) (h t d : V) (H : Hp) (Q : VK) : Prop := ∃ (a : Addr) (l : List Nat), h = .ref a ∧ Hand H a ∧ Dt H t (eL l) ∧ l.length ≤ 10 ∧ (∀ x ∈ l, x < 1000) ∧ d = nv 1 ∧ ∀ v d H', Th H' v d → (∀ l, d = some l → l.length ≤ 1000) → HB a H H' → Hand H' a → Q v H'
def ph_law_ahead_rules (K : Frag) (x m w b : V) (H : Hp) (Q : VK) : Prop := ∃ exits mm wanted barred, Dt H x (eL exits) ∧ Dt H m (eM mm) ∧ XOk exits ∧ MOk exits mm ∧ Dt H w (eL wanted) ∧ Dt H b (eL barred) ∧ Lot exits.length wanted ∧ Lot exits.length barred ∧ Ret H Q (eT eR (aheadRules exits.length mm wanted barred))
def sp_is_integer (K : Frag) : Sp := S1 (ph_is_integer K)
def sp_is_between (K : Frag) : Sp := S3 (ph_is_between K)
def sp_is_index (K : Frag) : Sp := S2 (ph_is_index K)
def sp_is_lot (K : Frag) : Sp := S2 (ph_is_lot K)
def sp_mask_of (K : Frag) : Sp := S1 (ph_mask_of K)
def sp_lot_of (K : Frag) : Sp := S1 (ph_lot_of K)
def sp_RawBook_keep (K : Frag) : Sp := S5 (ph_RawBook_keep K)
def sp_RawBook_init (K : Frag) : Sp := S5 (ph_RawBook_init K)
def sp_RawBook_bag (K : Frag) : Sp := S1 (ph_RawBook_bag K)
def sp_RawBook_owners (K : Frag) : Sp := S1 (ph_RawBook_owners K)
def sp_RawBook_rules (K : Frag) : Sp := S1 (ph_RawBook_rules K)
def sp_RawBook_rewriters (K : Frag) : Sp := S1 (ph_RawBook_rewriters K)
def sp_all_mask (K : Frag) : Sp := S1 (ph_all_mask K)
def sp_own_mask (K : Frag) : Sp := S2 (ph_own_mask K)
def sp_State_init (K : Frag) : Sp := S4 (ph_State_init K)
def sp_State_stands (K : Frag) : Sp := S1 (ph_State_stands K)
def sp_begin_state (K : Frag) : Sp := S2 (ph_begin_state K)
def sp_are_lookers (K : Frag) : Sp := S2 (ph_are_lookers K)
def sp_is_move (K : Frag) : Sp := S2 (ph_is_move K)
def sp_is_row (K : Frag) : Sp := S2 (ph_is_row K)
def sp_check_row (K : Frag) : Sp := S2 (ph_check_row K)
def sp_is_open (K : Frag) : Sp := S3 (ph_is_open K)
def sp_make_along (K : Frag) : Sp := S5 (ph_make_along K)
def sp_made_lots (K : Frag) : Sp := S4 (ph_made_lots K)
def sp_turn_rounds (K : Frag) : Sp := S4 (ph_turn_rounds K)
def sp_turn_state (K : Frag) : Sp := S4 (ph_turn_state K)
def sp_move_on (K : Frag) : Sp := S4 (ph_move_on K)
def sp_states_of (K : Frag) : Sp := S3 (ph_states_of K)
def sp_led (K : Frag) : Sp := S3 (ph_led K)
def sp_are_exits (K : Frag) : Sp := S1 (ph_are_exits K)
def sp_Bag_init (K : Frag) : Sp := S2 (ph_Bag_init K)
def sp_Bag_eq (K : Frag) : Sp := S2 (ph_Bag_eq K)
def sp_are_ways (K : Frag) : Sp := S3 (ph_are_ways K)
def sp_are_kinds (K : Frag) : Sp := S2 (ph_are_kinds K)
def sp_Program_keep (K : Frag) : Sp := S4 (ph_Program_keep K)
def sp_Program_init (K : Frag) : Sp := S4 (ph_Program_init K)
def sp_are_pairs (K : Frag) : Sp := S2 (ph_are_pairs K)
def sp_are_steps (K : Frag) : Sp := S3 (ph_are_steps K)
def sp_are_starts (K : Frag) : Sp := S3 (ph_are_starts K)
def sp_Machine_init (K : Frag) : Sp := S5 (ph_Machine_init K)
def sp_states_book (K : Frag) : Sp := S1 (ph_states_book K)
def sp_book_ahead (K : Frag) : Sp := S3 (ph_book_ahead K)
def sp_on_states (K : Frag) : Sp := S2 (ph_on_states K)
def sp_on_lots (K : Frag) : Sp := S3 (ph_on_lots K)
def sp_law_hand (K : Frag) : Sp := S1 (ph_law_hand K)
def sp_law_draw (K : Frag) : Sp := S2 (ph_law_draw K)
def sp_law_some (K : Frag) : Sp := S3 (ph_law_some K)
def sp_law_exits (K : Frag) : Sp := S3 (ph_law_exits K)
def sp_law_program (K : Frag) : Sp := S3 (ph_law_program K)
def sp_law_steps (K : Frag) : Sp := S4 (ph_law_steps K)
def sp_law_starts (K : Frag) : Sp := S3 (ph_law_starts K)
def sp_law_machine (K : Frag) : Sp := S3 (ph_law_machine K)
def sp_law_nexts (K : Frag) : Sp := S5 (ph_law_nexts K)
def sp_law_far (K : Frag) : Sp := S3 (ph_law_far K)
def sp_law_on (K : Frag) : Sp := S5 (ph_law_on K)
def sp_law_looking (K : Frag) : Sp := S5 (ph_law_looking K)
def sp_law_is_int (K : Frag) : Sp := S1 (ph_law_is_int K)
def sp_law_is_index (K : Frag) : Sp := S2 (ph_law_is_index K)
def sp_law_is_lot (K : Frag) : Sp := S2 (ph_law_is_lot K)
def sp_law_odd (K : Frag) : Sp := S2 (ph_law_odd K)
def sp_law_spoiled (K : Frag) : Sp := S3 (ph_law_spoiled K)
def sp_law_ahead_rules (K : Frag) : Sp := S4 (ph_law_ahead_rules K)
end NB
set_option Elab.async false
set_option linter.all false
set_option maxRecDepth 100000
set_option maxHeartbeats 4000000
namespace NB
open PySem PyProof.Rows L2
theorem nats_at {l : List Nat} {t : Nat} (h : t < l.length) : (l.map nv)[t]? = some (nv (l.getD t 0)) := getElem?_nats (by rw [List.getD_eq_getElem?_getD, List.getElem?_eq_getElem h]; rfl)
theorem ixN_n {n j : Nat} (hj : j < n) : ixN n (j : Int) = some j := by
  unfold ixN
  simp [hj]
theorem set_or {F : List Nat} {t b : Nat} : (F.map nv).set t (V.int (Builtin.bitOr ((F.getD t 0 : Nat) : Int) (b : Int))) = (F.set t (F.getD t 0 ||| b)).map nv := by
  rw [b_or, List.map_set]
theorem goalStep_len {L : List Nat} {far bit : Nat} {f : List Nat} {t : Nat} : (goalStep L far bit f t).length = f.length := by
  unfold goalStep; split <;> simp
theorem goalSteps_len {L : List Nat} {far bit : Nat} : ∀ {g f : List Nat}, (g.foldl (goalStep L far bit) f).length = f.length
  | [], _ => rfl
  | t :: g, f => by rw [List.foldl_cons, goalSteps_len, goalStep_len]
theorem ruleStep_len {L : List Nat} {p : Nat} {g f : List Nat} {r : WR} : (ruleStep L p g f r).length = f.length := by
  unfold ruleStep
  split
  · exact goalSteps_len
  · split <;> simp
theorem makeAlong_len {L : List Nat} {p : Nat} {g : List Nat} : ∀ {rs : List WR} {f : List Nat}, (makeAlong L p g rs f).length = f.length
  | [], _ => rfl
  | r :: rs, f => by
    show (makeAlong L p g rs (ruleStep L p g f r)).length = _
    rw [makeAlong_len, ruleStep_len]
theorem wr_inv {H : Hp} {x : V} {r : WR} (h : Dt H x (eW r)) : ∃ a, x = .ref a ∧ H a = some (.tup [nv r.near, nv r.far, .bl r.isFar, nv r.bit]) := by
  obtain ⟨a, xs, rfl, h1, h2⟩ := h.tup_inv
  cases h2 with
  | cons x1 h2 => cases h2 with
    | cons x2 h2 => cases h2 with
      | cons x3 h2 => cases h2 with
        | cons x4 h2 => cases h2 with
          | nil =>
            cases x1.int_inv; cases x2.int_inv; cases x4.int_inv
            cases x3
            exact ⟨a, rfl, h1⟩
theorem SameBut.imL {l : Addr} {H H' : Hp} {xs : List V} (s : SameBut l H H') (h : H l = some (.lst xs)) : Im H H' := fun a ys e => s _ _ (fun z => by rw [z, h] at e; cases e) e
theorem foldl_take {α β : Type} {f : β → α → β} {b : β} {l : List α} {i : Nat} {x : α} (h : l[i]? = some x) : (l.take (i + 1)).foldl f b = f ((l.take i).foldl f b) x := by
  rw [take_more h, List.foldl_append]; rfl
theorem asc_len {m : Nat} : ∀ {l : List Nat} {lo : Nat}, l.Pairwise (· < ·) → (∀ x ∈ l, lo ≤ x ∧ x < m) → l.length ≤ m - lo
  | [], _, _, _ => Nat.zero_le _
  | a :: l, lo, hp, h => by
    have ha := h a List.mem_cons_self
    have := asc_len (l := l) (lo := a + 1) (List.pairwise_cons.mp hp).2 fun x hx => ⟨(List.pairwise_cons.mp hp).1 x hx, (h x (List.mem_cons_of_mem _ hx)).2⟩
    rw [List.length_cons]
    omega
theorem Lot.len {m : Nat} {l : List Nat} (h : Lot m l) : l.length ≤ m := asc_len (lo := 0) h.1 fun x hx => ⟨Nat.zero_le _, h.2 x hx⟩
theorem pair_inv {H : Hp} {x : V} {r : Nat × Nat} (h : Dt H x (eP r)) : ∃ a, x = .ref a ∧ H a = some (.tup [nv r.1, nv r.2]) := by
  obtain ⟨a, xs, rfl, h1, h2⟩ := h.tup_inv
  cases h2 with
  | cons x1 h2 => cases h2 with
    | cons x2 h2 => cases h2 with
      | nil =>
        cases x1.int_inv; cases x2.int_inv
        exact ⟨a, rfl, h1⟩
theorem SameBut.ofNew {l : Addr} {H H' : Hp} (s : SameBut l H H') (h : H l = none) : Same H H' := fun a o e => s a o (ne_of_none e h) e
theorem SameBut.toNew {l : Addr} {H H1 H2 : Hp} (s : Same H H1) (h : H l = none) (s2 : SameBut l H1 H2) : Same H H2 := fun a o e => s2 a o (ne_of_none e h) (s a o e)
theorem getD_of {α : Type} {l : List α} {i : Nat} {x d : α} (h : l[i]? = some x) : l.getD i d = x := by rw [List.getD_eq_getElem?_getD, h]; rfl
theorem get_of {α : Type} {l : List α} {i : Nat} (h : i < l.length) (d : α) : l[i]? = some (l.getD i d) := by rw [List.getD_eq_getElem?_getD, List.getElem?_eq_getElem h]; rfl
theorem filter_take {α : Type} {p : α → Bool} {l : List α} {i : Nat} {x : α} (h : l[i]? = some x) : (l.take (i + 1)).filter p = (l.take i).filter p ++ if p x = true then [x] else [] := by
  rw [take_more h, List.filter_append]
  congr 1
  cases c : p x <;> simp [c]
theorem filter_take_len {α : Type} {p : α → Bool} {l : List α} {i : Nat} : ((l.take i).filter p).length ≤ l.length :=
  Nat.le_trans (List.length_filter_le _ _) (by rw [List.length_take]; omega)
end NB
set_option Elab.async false
set_option linter.all false
set_option maxRecDepth 100000
set_option maxHeartbeats 4000000
namespace NB
open PySem PyProof.Rows L2
/-! What the turns compute, bit by bit. -/
def Adds (n : Nat) (g : List Nat → List Nat) (A : Nat → Nat → Prop) : Prop := ∀ f, f.length = n → (g f).length = n ∧ ∀ q, q < n → ∀ d, ((g f).getD q 0).testBit d = true ↔ ((f.getD q 0).testBit d = true ∨ A q d)
section
variable {n : Nat} {g g1 g2 : List Nat → List Nat} {A A1 A2 B : Nat → Nat → Prop}
theorem Adds.iff (h : Adds n g A) (e : ∀ q, q < n → ∀ d, A q d ↔ B q d) : Adds n g B := fun f hf => ⟨(h f hf).1, fun q hq d => by rw [(h f hf).2 q hq d, e q hq d]⟩
theorem Adds.comp (h1 : Adds n g1 A1) (h2 : Adds n g2 A2) : Adds n (fun f => g2 (g1 f)) (fun q d => A1 q d ∨ A2 q d) := fun f hf => by
  have a := h1 f hf
  have b := h2 (g1 f) a.1
  refine ⟨b.1, fun q hq d => ?_⟩
  rw [b.2 q hq d, a.2 q hq d, or_assoc]
theorem Adds.fold {α : Type} {step : List Nat → α → List Nat} {A : α → Nat → Nat → Prop} : ∀ {l : List α}, (∀ x ∈ l, Adds n (fun f => step f x) (A x)) → Adds n (fun f => l.foldl step f) (fun q d => ∃ x ∈ l, A x q d)
  | [], _ => fun f hf => ⟨hf, fun q hq d => by simp⟩
  | x :: l, h => by
    have c := Adds.comp (h x List.mem_cons_self) (Adds.fold (l := l) fun y hy => h y (List.mem_cons_of_mem _ hy))
    refine Adds.iff (g := fun f => (x :: l).foldl step f) c fun q hq d => ?_
    simp
theorem Adds.or1 {t bit : Nat} (ht : t < n) : Adds n (fun f => f.set t (f.getD t 0 ||| bit)) (fun q d => q = t ∧ bit.testBit d = true) := fun f hf => by
  refine ⟨by simp [hf], fun q hq d => ?_⟩
  by_cases e : q = t
  · subst e
    rw [List.getD_eq_getElem?_getD, List.getElem?_set_self (by omega)]
    simp only [Option.getD_some, Nat.testBit_or, Bool.or_eq_true, true_and]
  · rw [List.getD_eq_getElem?_getD, List.getElem?_set_ne (fun z => e z.symm), ← List.getD_eq_getElem?_getD]
    simp [e]
theorem Adds.ite {c : Bool} (h : Adds n g A) : Adds n (fun f => if c = true then g f else f) (fun q d => c = true ∧ A q d) := by
  cases c with
  | true => exact h.iff (g := g) fun q hq d => by simp
  | false => exact fun f hf => ⟨hf, fun q hq d => by simp⟩
end
theorem sub_mask {l : List Nat} {x : Nat} : sub (maskOf l) x = true ↔ ∀ i ∈ l, x.testBit i = true := by
  rw [sub_iff]
  constructor
  · exact fun h i hi => h i (by rw [testBit_maskOf]; exact decide_eq_true hi)
  · exact fun h i hi => h i (by rw [testBit_maskOf] at hi; exact of_decide_eq_true hi)
theorem bit_iff {a d : Nat} : (2 ^ a).testBit d = true ↔ a = d := by
  rw [Nat.testBit_two_pow]; simp
theorem mem_wayOf {rs : List Rule} {k e : Nat} {r : WR} : r ∈ wayOf rs k e ↔ ∃ near far b d, Rule.way k e near far b d ∈ rs ∧ r = ⟨maskOf near, maskOf far, b, 2 ^ d⟩ := by
  unfold wayOf
  rw [List.mem_filterMap]
  constructor
  · rintro ⟨x, hx, h⟩
    cases x with
    | here => cases h
    | way k' e' near far b d =>
      dsimp only at h
      split at h
      · rename_i c
        obtain ⟨rfl, rfl⟩ := c
        exact ⟨near, far, b, d, hx, (Option.some.inj h).symm⟩
      · cases h
  · rintro ⟨near, far, b, d, hx, rfl⟩
    exact ⟨_, hx, by simp⟩
theorem mem_hereOf {rs : List Rule} {k : Nat} {r : Nat × Nat} : r ∈ hereOf rs k ↔ ∃ need d, Rule.here k need d ∈ rs ∧ r = (maskOf need, 2 ^ d) := by
  unfold hereOf
  rw [List.mem_filterMap]
  constructor
  · rintro ⟨x, hx, h⟩
    cases x with
    | way => cases h
    | here k' need d =>
      dsimp only at h
      split at h
      · rename_i c
        subst c
        exact ⟨need, d, hx, (Option.some.inj h).symm⟩
      · cases h
  · rintro ⟨need, d, hx, rfl⟩
    exact ⟨_, hx, by simp⟩
section
variable {exits : List Nat} {rs : List Rule} {kinds : List Nat} {ways : List (List (List Nat))} {L : List Nat} {n : Nat}
theorem Adds.rule {p : Nat} {goals : List Nat} {r : WR} (hp : p < n) (hg : ∀ t ∈ goals, t < n) : Adds n (fun f => ruleStep L p goals f r) (fun q d => r.bit.testBit d = true ∧ ((r.isFar = true ∧ q ∈ goals ∧ sub r.far (L.getD q 0) = true) ∨ (r.isFar = false ∧ q = p ∧ ∃ t ∈ goals, sub r.far (L.getD t 0) = true))) := by
  obtain ⟨wn, wf, wF, wb⟩ := r
  cases wF with
  | true =>
    refine Adds.iff (Adds.fold (step := goalStep L wf wb) (l := goals) fun t ht => Adds.ite (c := sub wf (L.getD t 0)) (Adds.or1 (hg t ht))) fun q hq d => ?_
    constructor
    · rintro ⟨t, ht, h1, rfl, h2⟩
      exact ⟨h2, .inl ⟨rfl, ht, h1⟩⟩
    · rintro ⟨h2, ⟨_, ht, h1⟩ | ⟨h, _⟩⟩
      · exact ⟨q, ht, h1, rfl, h2⟩
      · cases h
  | false =>
    refine Adds.iff (Adds.ite (c := goals.any fun t => sub wf (L.getD t 0)) (Adds.or1 (bit := wb) hp)) fun q hq d => ?_
    rw [List.any_eq_true]
    constructor
    · rintro ⟨h1, rfl, h2⟩
      exact ⟨h2, .inr ⟨rfl, rfl, h1⟩⟩
    · rintro ⟨h2, ⟨h, _⟩ | ⟨_, rfl, h1⟩⟩
      · cases h
      · exact ⟨h1, rfl, h2⟩
/-- one step from L -/
def Step1 (exits : List Nat) (rs : List Rule) (kinds : List Nat) (ways : List (List (List Nat))) (L : List Nat) (q d : Nat) : Prop :=
  ∃ p, p < kinds.length ∧ ((q = p ∧ ∃ need, Rule.here (kinds.getD p 0) need d ∈ rs ∧ ∀ x ∈ need, (L.getD p 0).testBit x = true) ∨
    ∃ e, e < exits.getD (kinds.getD p 0) 0 ∧ ∃ near far b, Rule.way (kinds.getD p 0) e near far b d ∈ rs ∧ (∀ x ∈ near, (L.getD p 0).testBit x = true) ∧
      ((b = true ∧ q ∈ (ways.getD p []).getD e [] ∧ ∀ x ∈ far, (L.getD q 0).testBit x = true) ∨ (b = false ∧ q = p ∧ ∃ t ∈ (ways.getD p []).getD e [], ∀ x ∈ far, (L.getD t 0).testBit x = true)))
theorem goals_lt (pok : POk exits kinds ways) (p e t : Nat) (h : t ∈ (ways.getD p []).getD e []) : t < kinds.length := by
  by_cases hp : p < ways.length
  · rw [List.getD_eq_getElem?_getD (l := ways), List.getElem?_eq_getElem hp] at h
    simp only [Option.getD_some] at h
    by_cases he : e < (ways[p]).length
    · rw [List.getD_eq_getElem?_getD, List.getElem?_eq_getElem he] at h
      exact (pok.lots _ (List.getElem_mem hp) _ (List.getElem_mem he)).2 t h
    · rw [List.getD_eq_getElem?_getD, List.getElem?_eq_none (by omega)] at h
      cases h
  · rw [List.getD_eq_getElem?_getD (l := ways), List.getElem?_eq_none (by omega)] at h
    cases e <;> cases h
theorem made_iff (pok : POk exits kinds ways) (hL : L.length = kinds.length) : (madeLots exits rs kinds ways L).length = kinds.length ∧ ∀ q, q < kinds.length → ∀ d, ((madeLots exits rs kinds ways L).getD q 0).testBit d = true ↔ Step1 exits rs kinds ways L q d := by
  have A : Adds kinds.length (fun f => (List.range L.length).foldl (placeStep exits rs kinds ways L) f) (fun q d => ∃ p ∈ List.range L.length, ((∃ r ∈ hereOf rs (kinds.getD p 0), sub r.1 (L.getD p 0) = true ∧ q = p ∧ r.2.testBit d = true) ∨
      ∃ e ∈ List.range (exits.getD (kinds.getD p 0) 0), ∃ r ∈ (wayOf rs (kinds.getD p 0) e).filter (fun r => sub r.near (L.getD p 0)), r.bit.testBit d = true ∧ ((r.isFar = true ∧ q ∈ (ways.getD p []).getD e [] ∧ sub r.far (L.getD q 0) = true) ∨ (r.isFar = false ∧ q = p ∧ ∃ t ∈ (ways.getD p []).getD e [], sub r.far (L.getD t 0) = true)))) := by
    refine Adds.fold fun p hp => ?_
    have hp' : p < kinds.length := by rw [← hL]; exact List.mem_range.mp hp
    exact Adds.comp (Adds.fold fun r hr => Adds.ite (Adds.or1 hp')) (Adds.fold fun e he => Adds.fold fun r hr => Adds.rule hp' (goals_lt pok p e))
  have h := A (List.replicate L.length 0) (by simp [hL])
  refine ⟨h.1, fun q hq d => (h.2 q hq d).trans ?_⟩
  have z : ((List.replicate L.length 0).getD q 0).testBit d = false := by
    rw [List.getD_eq_getElem?_getD, List.getElem?_replicate]
    split <;> simp
  rw [z]
  constructor
  · rintro (h | ⟨p, hp, h⟩)
    · cases h
    · refine ⟨p, by rw [← hL]; exact List.mem_range.mp hp, ?_⟩
      rcases h with ⟨r, hr, h1, h2, h3⟩ | ⟨e, he, r, hr, h1, h2⟩
      · obtain ⟨need, d', hm, rfl⟩ := mem_hereOf.mp hr
        cases bit_iff.mp h3
        exact .inl ⟨h2, need, hm, sub_mask.mp h1⟩
      · rw [List.mem_filter] at hr
        obtain ⟨near, far, b, d', hm, rfl⟩ := mem_wayOf.mp hr.1
        cases bit_iff.mp h1
        refine .inr ⟨e, List.mem_range.mp he, near, far, b, hm, sub_mask.mp hr.2, ?_⟩
        rcases h2 with ⟨h2, h3, h4⟩ | ⟨h2, h3, t, ht, h4⟩
        · exact .inl ⟨h2, h3, sub_mask.mp h4⟩
        · exact .inr ⟨h2, h3, t, ht, sub_mask.mp h4⟩
  · rintro ⟨p, hp, h⟩
    refine .inr ⟨p, List.mem_range.mpr (by omega), ?_⟩
    rcases h with ⟨h2, need, hm, h1⟩ | ⟨e, he, near, far, b, hm, h1, h2⟩
    · exact .inl ⟨_, mem_hereOf.mpr ⟨need, d, hm, rfl⟩, sub_mask.mpr h1, h2, bit_iff.mpr rfl⟩
    · refine .inr ⟨e, List.mem_range.mpr he, _, List.mem_filter.mpr ⟨mem_wayOf.mpr ⟨near, far, b, d, hm, rfl⟩, sub_mask.mpr h1⟩, bit_iff.mpr rfl, ?_⟩
      rcases h2 with ⟨h2, h3, h4⟩ | ⟨h2, h3, t, ht, h4⟩
      · exact .inl ⟨h2, h3, sub_mask.mpr h4⟩
      · exact .inr ⟨h2, h3, t, ht, sub_mask.mpr h4⟩
/-- what is made of derived lots is derived -/
theorem Step1.der (pok : POk exits kinds ways) (h : ∀ p, p < kinds.length → ∀ d, (L.getD p 0).testBit d = true → Der exits rs kinds ways p d) {q d : Nat} (hs : Step1 exits rs kinds ways L q d) : Der exits rs kinds ways q d := by
  obtain ⟨p, hp, ⟨rfl, need, hm, hn⟩ | ⟨e, he, near, far, b, hm, hn, ⟨rfl, hq, hf⟩ | ⟨rfl, rfl, t, ht, hf⟩⟩⟩ := hs
  · exact .here hp hm fun x hx => h _ hp x (hn x hx)
  · exact .far hp hm he (fun x hx => h _ hp x (hn x hx)) hq fun x hx => h _ (goals_lt pok p e q hq) x (hf x hx)
  · exact .near hp hm he (fun x hx => h _ hp x (hn x hx)) ht fun x hx => h _ (goals_lt pok q e t ht) x (hf x hx)
/-- closed lots hold all that is derived -/
theorem Der.closed (pok : POk exits kinds ways) (h : ∀ q, q < kinds.length → ∀ d, Step1 exits rs kinds ways L q d → (L.getD q 0).testBit d = true) {q d : Nat} (hd : Der exits rs kinds ways q d) : (L.getD q 0).testBit d = true := by
  induction hd with
  | here hp hm n ih => exact h _ hp _ ⟨_, hp, .inl ⟨rfl, _, hm, ih⟩⟩
  | far hp hm he n ht f ih1 ih2 => exact h _ (goals_lt pok _ _ _ ht) _ ⟨_, hp, .inr ⟨_, he, _, _, true, hm, ih1, .inl ⟨rfl, ht, ih2⟩⟩⟩
  | near hp hm he n ht f ih1 ih2 => exact h _ hp _ ⟨_, hp, .inr ⟨_, he, _, _, false, hm, ih1, .inr ⟨rfl, rfl, _, ht, ih2⟩⟩⟩
theorem Der.lt {D : Nat} (hd : ∀ x ∈ rs, match x with | .here _ _ d => d < D | .way _ _ _ _ _ d => d < D) {q d : Nat} (h : Der exits rs kinds ways q d) : d < D := by
  cases h with
  | here hp hm n => exact hd _ hm
  | far hp hm he n ht f => exact hd _ hm
  | near hp hm he n ht f => exact hd _ hm
end
/-! ### how many bits -/
def cnt (m : Nat) : Nat := (lotOf m).length
theorem cnt_le (m : Nat) : cnt m ≤ 100 := by
  unfold cnt lotOf
  have := List.length_filter_le m.testBit (List.range 100)
  rw [List.length_range] at this
  exact this
theorem cnt_or {a b : Nat} (h : ∀ i, a.testBit i = true → b.testBit i = false) : cnt (a ||| b) = cnt a + cnt b := by
  unfold cnt lotOf
  generalize List.range 100 = l
  induction l with
  | nil => rfl
  | cons i l ih =>
    rw [List.filter_cons, List.filter_cons, List.filter_cons, Nat.testBit_or]
    cases ha : a.testBit i with
    | true => rw [h i ha]; simp [ih]; omega
    | false =>
      cases hb : b.testBit i with
      | true => simp [ih]; omega
      | false => simp [ih]
theorem cnt_pos {m : Nat} (hm : m < 2 ^ 100) (h : 0 < m) : 0 < cnt m := by
  have : ∃ i, m.testBit i = true := by
    apply Classical.byContradiction
    intro hn
    have : m = 0 := Nat.eq_of_testBit_eq fun i => by
      rw [Nat.zero_testBit]
      cases c : m.testBit i
      · rfl
      · exact absurd ⟨i, c⟩ hn
    omega
  obtain ⟨i, hi⟩ := this
  exact List.length_pos_of_mem ((mem_lotOf hm).mpr hi)
def mu (L : List Nat) : Nat := (L.map fun x => 100 - cnt x).sum
theorem mu_set {y c : Nat} : ∀ {L : List Nat} {p : Nat}, p < L.length → cnt y = cnt (L.getD p 0) + c → mu (L.set p y) + c = mu L
  | x :: L, 0, _, h => by
    have := cnt_le y
    show (100 - cnt y + (L.map _).sum) + c = 100 - cnt x + (L.map _).sum
    have e : cnt y = cnt x + c := h
    omega
  | x :: L, p + 1, hp, h => by
    have ih := mu_set (y := y) (c := c) (L := L) (p := p) (by simpa using hp) h
    show (100 - cnt x + mu (L.set p y)) + c = 100 - cnt x + mu L
    omega
theorem mu_le : ∀ {L : List Nat}, mu L ≤ 100 * L.length
  | [] => Nat.zero_le _
  | x :: L => by
    have := mu_le (L := L)
    show 100 - cnt x + mu L ≤ 100 * (L.length + 1)
    omega
end NB
set_option Elab.async false
set_option linter.all false
set_option maxRecDepth 100000
set_option maxHeartbeats 4000000
namespace NB
open PySem PyProof.Rows L2
/-! Which rules the two books hold. -/
theorem getD_lt {α : Type} {l : List (List α)} {k : Nat} {x : α} (h : x ∈ l.getD k []) : k < l.length := by
  apply Decidable.byContradiction
  intro c
  rw [List.getD_eq_getElem?_getD, List.getElem?_eq_none (by omega)] at h
  cases h
theorem mem_startRules {starts : List (List Nat)} {r : Rule} : r ∈ startRules starts ↔ ∃ k s, s ∈ starts.getD k [] ∧ r = .here k [] s := by
  unfold startRules
  simp only [List.mem_flatMap, List.mem_range, List.mem_map]
  constructor
  · rintro ⟨k, hk, s, hs, rfl⟩
    exact ⟨k, s, hs, rfl⟩
  · rintro ⟨k, s, hs, rfl⟩
    exact ⟨k, getD_lt hs, s, hs, rfl⟩
theorem mem_stepRules {steps : List (List (List (Nat × Nat)))} {r : Rule} : r ∈ stepRules steps ↔ ∃ k e q, q ∈ (steps.getD k []).getD e [] ∧ r = .way k e [q.1] [] true q.2 := by
  unfold stepRules
  simp only [List.mem_flatMap, List.mem_range, List.mem_map]
  constructor
  · rintro ⟨k, hk, e, he, q, hq, rfl⟩
    exact ⟨k, e, q, hq, rfl⟩
  · rintro ⟨k, e, q, hq, rfl⟩
    have he := getD_lt hq
    exact ⟨k, getD_lt (List.getElem_mem he), e, he, q, hq, rfl⟩
theorem mem_wantedRules {many : Nat} {wanted : List Nat} {r : Rule} : r ∈ wantedRules many wanted ↔ ∃ k ∈ wanted, r = .here k [] (2 * many) := by
  unfold wantedRules
  simp only [List.mem_map]
  constructor
  · rintro ⟨k, hk, rfl⟩; exact ⟨k, hk, rfl⟩
  · rintro ⟨k, hk, rfl⟩; exact ⟨k, hk, rfl⟩
theorem mem_barredRules {n many : Nat} {barred : List Nat} {r : Rule} : r ∈ barredRules n many barred ↔ ∃ k, k < n ∧ k ∉ barred ∧ ∃ s, s < many ∧ r = .here k [many + s] (2 * many + 1 + s) := by
  unfold barredRules
  simp only [List.mem_flatMap, List.mem_range]
  constructor
  · rintro ⟨k, hk, h⟩
    by_cases c : k ∈ barred
    · rw [if_pos c] at h; cases h
    · rw [if_neg c, List.mem_map] at h
      obtain ⟨s, hs, rfl⟩ := h
      exact ⟨k, hk, c, s, List.mem_range.mp hs, rfl⟩
  · rintro ⟨k, hk, c, s, hs, rfl⟩
    refine ⟨k, hk, ?_⟩
    rw [if_neg c, List.mem_map]
    exact ⟨s, List.mem_range.mpr hs, rfl⟩
theorem mem_nearRules {many : Nat} {steps : List (List (List (Nat × Nat)))} {r : Rule} : r ∈ nearRules many steps ↔ ∃ k e q, q ∈ (steps.getD k []).getD e [] ∧ (r = .way k e [] [2 * many] false (many + q.1) ∨ r = .way k e [] [2 * many + 1 + q.2] false (many + q.1)) := by
  unfold nearRules
  simp only [List.mem_flatMap, List.mem_range, List.mem_cons, List.not_mem_nil, or_false]
  constructor
  · rintro ⟨k, hk, e, he, q, hq, h⟩
    exact ⟨k, e, q, hq, h⟩
  · rintro ⟨k, e, q, hq, h⟩
    have he := getD_lt hq
    exact ⟨k, getD_lt (List.getElem_mem he), e, he, q, hq, h⟩
theorem mem_aheadRules {n : Nat} {m : MM} {wanted barred : List Nat} {r : Rule} : r ∈ aheadRules n m wanted barred ↔ r ∈ startRules m.starts ∨ r ∈ stepRules m.steps ∨ r ∈ wantedRules m.many wanted ∨ r ∈ barredRules n m.many barred ∨ r ∈ nearRules m.many m.steps := by
  unfold aheadRules stateRules
  simp only [List.mem_append]
  constructor
  · rintro ((h | h) | ((h | h) | h))
    · exact .inl h
    · exact .inr (.inl h)
    · exact .inr (.inr (.inl h))
    · exact .inr (.inr (.inr (.inl h)))
    · exact .inr (.inr (.inr (.inr h)))
  · rintro (h | h | h | h | h)
    · exact .inl (.inl h)
    · exact .inl (.inr h)
    · exact .inr (.inl (.inl h))
    · exact .inr (.inl (.inr h))
    · exact .inr (.inr h)
/-- a rule of a book of exits with N digits -/
def RuleOk (exits : List Nat) (N : Nat) : Rule → Prop
  | .here k need d => k < exits.length ∧ (∀ y ∈ need, y < N) ∧ d < N
  | .way k e near far _ d => k < exits.length ∧ e < exits.getD k 0 ∧ (∀ y ∈ near, y < N) ∧ (∀ y ∈ far, y < N) ∧ d < N
section
variable {exits : List Nat} {mm : MM} {wanted barred : List Nat}
theorem start_in (mok : MOk exits mm) {k s : Nat} (h : s ∈ mm.starts.getD k []) : k < exits.length ∧ s < mm.many := by
  have hk := getD_lt h
  refine ⟨by rw [← mok.tlen]; exact hk, ?_⟩
  exact (mok.lots _ (List.mem_of_getElem? (get_of hk []))).2 s h
theorem step_in (mok : MOk exits mm) {k e : Nat} {q : Nat × Nat} (h : q ∈ (mm.steps.getD k []).getD e []) : k < exits.length ∧ e < exits.getD k 0 ∧ q.1 < mm.many ∧ q.2 < mm.many := by
  have he := getD_lt h
  have hk : k < mm.steps.length := getD_lt (List.getElem_mem he)
  have e1 := get_of hk []
  refine ⟨by rw [← mok.slen]; exact hk, ?_, ?_⟩
  · rw [getD_of (mok.elen k _ e1)]; exact he
  · exact (mok.pairs _ (List.mem_of_getElem? e1) _ (List.mem_of_getElem? (get_of he []))).2 q h
theorem stateRules_ok (mok : MOk exits mm) {r : Rule} (h : r ∈ stateRules mm) : RuleOk exits mm.many r := by
  rcases List.mem_append.mp h with h | h
  · obtain ⟨k, s, hs, rfl⟩ := mem_startRules.mp h
    have := start_in mok hs
    exact ⟨this.1, fun y hy => (by cases hy), this.2⟩
  · obtain ⟨k, e, q, hq, rfl⟩ := mem_stepRules.mp h
    have := step_in mok hq
    exact ⟨this.1, this.2.1, fun y hy => by cases List.mem_singleton.mp hy; exact this.2.2.1, fun y hy => (by cases hy), this.2.2.2⟩
theorem aheadRules_ok (mok : MOk exits mm) (hw : Lot exits.length wanted) {r : Rule} (h : r ∈ aheadRules exits.length mm wanted barred) : RuleOk exits (3 * mm.many + 1) r := by
  rcases mem_aheadRules.mp h with h | h | h | h | h
  · obtain ⟨k, s, hs, rfl⟩ := mem_startRules.mp h
    have := start_in mok hs
    exact ⟨this.1, fun y hy => (by cases hy), by omega⟩
  · obtain ⟨k, e, q, hq, rfl⟩ := mem_stepRules.mp h
    have := step_in mok hq
    exact ⟨this.1, this.2.1, fun y hy => by cases List.mem_singleton.mp hy; omega, fun y hy => (by cases hy), by omega⟩
  · obtain ⟨k, hk, rfl⟩ := mem_wantedRules.mp h
    exact ⟨hw.2 k hk, fun y hy => (by cases hy), by omega⟩
  · obtain ⟨k, hk, hb, s, hs, rfl⟩ := mem_barredRules.mp h
    exact ⟨hk, fun y hy => by cases List.mem_singleton.mp hy; omega, by omega⟩
  · obtain ⟨k, e, q, hq, h | h⟩ := mem_nearRules.mp h <;> subst h <;> have := step_in mok hq
    · exact ⟨this.1, this.2.1, fun y hy => (by cases hy), fun y hy => by cases List.mem_singleton.mp hy; omega, by omega⟩
    · exact ⟨this.1, this.2.1, fun y hy => (by cases hy), fun y hy => by cases List.mem_singleton.mp hy; omega, by omega⟩
theorem RuleOk.book {N : Nat} {r : Rule} (hN : N ≤ 1000) : RuleOk exits N r → match r with | .here k need d => k < exits.length ∧ (∀ y ∈ need, y ≤ 1000) ∧ d ≤ 1000 | .way k e near far _ d => k < exits.length ∧ e < exits.getD k 0 ∧ (∀ y ∈ near, y ≤ 1000) ∧ (∀ y ∈ far, y ≤ 1000) ∧ d ≤ 1000 := fun h => by
  cases r with
  | here k need d =>
    obtain ⟨h1, h2, h3⟩ := h
    exact ⟨h1, fun y hy => by have := h2 y hy; omega, by omega⟩
  | way k e near far b d =>
    obtain ⟨h1, h2, h3, h4, h5⟩ := h
    exact ⟨h1, h2, fun y hy => by have := h3 y hy; omega, fun y hy => by have := h4 y hy; omega, by omega⟩
theorem RuleOk.lt {N : Nat} {r : Rule} : RuleOk exits N r → match r with | .here _ _ d => d < N | .way _ _ _ _ _ d => d < N := fun h => by
  cases r with
  | here k need d => exact h.2.2
  | way k e near far b d => exact h.2.2.2.2
end
/-! ### what the ahead book's digits say -/
section
variable {exits : List Nat} {mm : MM} {wanted barred kinds : List Nat} {ways : List (List (List Nat))}
theorem mem_nexts {p s e t u : Nat} : (e, t, u) ∈ nextsM mm kinds ways p s ↔ (s, u) ∈ (mm.steps.getD (kinds.getD p 0) []).getD e [] ∧ t ∈ (ways.getD p []).getD e [] := by
  unfold nextsM nextsAt
  simp only [List.mem_flatMap, List.mem_range]
  constructor
  · rintro ⟨e', he, q, hq, h⟩
    by_cases c : q.1 = s
    · rw [if_pos c, List.mem_map] at h
      obtain ⟨t', ht, h⟩ := h
      cases h
      subst c
      exact ⟨hq, ht⟩
    · rw [if_neg c] at h; cases h
  · rintro ⟨hq, ht⟩
    exact ⟨e, getD_lt hq, (s, u), hq, by rw [if_pos rfl, List.mem_map]; exact ⟨t, ht, rfl⟩⟩
/-- an s-digit: the run comes there -/
theorem far_of (mok : MOk exits mm) {q d : Nat} (h : Der exits (aheadRules exits.length mm wanted barred) kinds ways q d) :
    (d < mm.many → Far mm kinds ways q d) ∧ (∀ s, d = mm.many + s → s < mm.many → On mm kinds ways wanted barred q s) ∧ (d = 2 * mm.many → kinds.getD q 0 ∈ wanted) ∧ (∀ s, d = 2 * mm.many + 1 + s → s < mm.many → kinds.getD q 0 ∉ barred ∧ On mm kinds ways wanted barred q s) := by
  have mlo := mok.lo
  induction h with
  | @here p d need hp hm n ih =>
    rcases mem_aheadRules.mp hm with h | h | h | h | h
    · obtain ⟨k, s, hs, e⟩ := mem_startRules.mp h
      injection e with e1 e2 e3
      subst e1 e2 e3
      have := start_in mok hs
      exact ⟨fun _ => .start hp hs, fun s _ _ => by omega, fun _ => by omega, fun s _ _ => by omega⟩
    · obtain ⟨k, e, q, hq, e⟩ := mem_stepRules.mp h; cases e
    · obtain ⟨k, hk, e⟩ := mem_wantedRules.mp h
      injection e with e1 e2 e3
      subst e1 e2 e3
      exact ⟨fun _ => by omega, fun s _ _ => by omega, fun _ => hk, fun s _ _ => by omega⟩
    · obtain ⟨k, hk, hb, s, hs, e⟩ := mem_barredRules.mp h
      injection e with e1 e2 e3
      subst e1 e2 e3
      refine ⟨fun _ => by omega, fun s' _ _ => by omega, fun _ => by omega, fun s' h1 h2 => ?_⟩
      have : s' = s := by omega
      subst this
      exact ⟨hb, (ih _ List.mem_cons_self).2.1 s' rfl hs⟩
    · obtain ⟨k, e, q, hq, h | h⟩ := mem_nearRules.mp h <;> cases h
  | @far p e t d near far hp hm he n ht f ih1 ih2 =>
    rcases mem_aheadRules.mp hm with h | h | h | h | h
    · obtain ⟨k, s, hs, e⟩ := mem_startRules.mp h; cases e
    · obtain ⟨k, e', q, hq, eq⟩ := mem_stepRules.mp h
      injection eq with e1 e2 e3 e4 e5 e6
      subst e1 e2 e3 e4 e6
      have := step_in mok hq
      refine ⟨fun _ => .step ((ih1 _ List.mem_cons_self).1 this.2.2.1) (mem_nexts.mpr ⟨hq, ht⟩), fun s _ _ => by omega, fun _ => by omega, fun s _ _ => by omega⟩
    · obtain ⟨k, hk, e⟩ := mem_wantedRules.mp h; cases e
    · obtain ⟨k, hk, hb, s, hs, e⟩ := mem_barredRules.mp h; cases e
    · obtain ⟨k, e, q, hq, h | h⟩ := mem_nearRules.mp h <;> cases h
  | @near p e t d near far hp hm he n ht f ih1 ih2 =>
    rcases mem_aheadRules.mp hm with h | h | h | h | h
    · obtain ⟨k, s, hs, e⟩ := mem_startRules.mp h; cases e
    · obtain ⟨k, e', q, hq, eq⟩ := mem_stepRules.mp h; cases eq
    · obtain ⟨k, hk, e⟩ := mem_wantedRules.mp h; cases e
    · obtain ⟨k, hk, hb, s, hs, e⟩ := mem_barredRules.mp h; cases e
    · obtain ⟨k, e', q, hq, h | h⟩ := mem_nearRules.mp h
      · injection h with e1 e2 e3 e4 e5 e6
        subst e1 e2 e3 e4 e6
        have := step_in mok hq
        refine ⟨fun _ => by omega, fun s h1 h2 => ?_, fun _ => by omega, fun s _ _ => by omega⟩
        have hs : q.1 = s := by omega
        subst hs
        exact .now hp h2 (mem_nexts.mpr ⟨hq, ht⟩) ((ih2 _ List.mem_cons_self).2.2.1 rfl)
      · injection h with e1 e2 e3 e4 e5 e6
        subst e1 e2 e3 e4 e6
        have := step_in mok hq
        refine ⟨fun _ => by omega, fun s h1 h2 => ?_, fun _ => by omega, fun s _ _ => by omega⟩
        have hs : q.1 = s := by omega
        subst hs
        have := (ih2 _ List.mem_cons_self).2.2.2 q.2 rfl this.2.2.2
        exact .later hp h2 (mem_nexts.mpr ⟨hq, ht⟩) this.1 this.2
theorem der_far (mok : MOk exits mm) (pok : POk exits kinds ways) {p s : Nat} (h : Far mm kinds ways p s) : p < kinds.length ∧ s < mm.many ∧ Der exits (aheadRules exits.length mm wanted barred) kinds ways p s := by
  induction h with
  | start hp h =>
    have := start_in mok h
    exact ⟨hp, this.2, .here hp (mem_aheadRules.mpr (.inl (mem_startRules.mpr ⟨_, _, h, rfl⟩))) fun x hx => (by cases hx)⟩
  | step h n ih =>
    obtain ⟨hq, ht⟩ := mem_nexts.mp n
    have := step_in mok hq
    refine ⟨goals_lt pok _ _ _ ht, this.2.2.2, ?_⟩
    exact .far (far := []) ih.1 (mem_aheadRules.mpr (.inr (.inl (mem_stepRules.mpr ⟨_, _, _, hq, rfl⟩)))) this.2.1 (fun x hx => by cases List.mem_singleton.mp hx; exact ih.2.2) ht fun x hx => (by cases hx)
theorem der_wanted (mok : MOk exits mm) {p : Nat} (hp : p < kinds.length) (h : kinds.getD p 0 ∈ wanted) : Der exits (aheadRules exits.length mm wanted barred) kinds ways p (2 * mm.many) :=
  .here hp (mem_aheadRules.mpr (.inr (.inr (.inl (mem_wantedRules.mpr ⟨_, h, rfl⟩))))) fun x hx => (by cases hx)
theorem der_on (mok : MOk exits mm) (pok : POk exits kinds ways) {p s : Nat} (h : On mm kinds ways wanted barred p s) : Der exits (aheadRules exits.length mm wanted barred) kinds ways p (mm.many + s) := by
  induction h with
  | now hp hs n h =>
    obtain ⟨hq, ht⟩ := mem_nexts.mp n
    have := step_in mok hq
    exact .near (near := []) hp (mem_aheadRules.mpr (.inr (.inr (.inr (.inr (mem_nearRules.mpr ⟨_, _, _, hq, .inl rfl⟩)))))) this.2.1 (fun x hx => (by cases hx)) ht fun x hx => by
      cases List.mem_singleton.mp hx
      exact der_wanted mok (goals_lt pok _ _ _ ht) h
  | @later p s e t u hp hs n h o ih =>
    obtain ⟨hq, ht⟩ := mem_nexts.mp n
    have hst := step_in mok hq
    have htl := goals_lt pok _ _ _ ht
    refine .near (near := []) hp (mem_aheadRules.mpr (.inr (.inr (.inr (.inr (mem_nearRules.mpr ⟨_, _, _, hq, .inr rfl⟩)))))) hst.2.1 (fun x hx => (by cases hx)) ht fun x hx => ?_
    cases List.mem_singleton.mp hx
    refine .here htl (mem_aheadRules.mpr (.inr (.inr (.inr (.inl (mem_barredRules.mpr ⟨_, ?_, h, _, hst.2.2.2, rfl⟩)))))) fun x hx => ?_
    · have hk : t < kinds.length := htl
      exact pok.kind _ (List.mem_of_getElem? (get_of hk 0))
    · cases List.mem_singleton.mp hx
      exact ih
theorem On.lt {p s : Nat} (h : On mm kinds ways wanted barred p s) : p < kinds.length ∧ s < mm.many := by
  cases h with
  | now hp hs n h => exact ⟨hp, hs⟩
  | later hp hs n h o => exact ⟨hp, hs⟩
/-- the states at which a place looks on, as its lot says -/
theorem looks_iff (mok : MOk exits mm) (pok : POk exits kinds ways) {L : List Nat} (fx : Fix exits (aheadRules exits.length mm wanted barred) kinds ways (3 * mm.many + 1) L) {p : Nat} (hp : p < kinds.length) (s : Nat) :
    s < mm.many → (((L.getD p 0).testBit s = true ↔ Far mm kinds ways p s) ∧ ((L.getD p 0).testBit (mm.many + s) = true ↔ On mm kinds ways wanted barred p s)) := fun hs =>
  ⟨⟨fun h => (far_of mok ((fx.bits p hp s).mp h)).1 hs, fun h => (fx.bits p hp s).mpr (der_far mok pok h).2.2⟩,
   ⟨fun h => (far_of mok ((fx.bits p hp _).mp h)).2.1 s rfl hs, fun h => (fx.bits p hp _).mpr (der_on mok pok h)⟩⟩
theorem onStates_bit {many lot s : Nat} : (onStates many lot).testBit s = (decide (s < many) && lot.testBit s && lot.testBit (many + s)) := by
  unfold onStates
  rw [Nat.testBit_and, Nat.testBit_and, Nat.testBit_div_two_pow, Nat.testBit_two_pow_sub_one, Nat.add_comm s many]
  cases lot.testBit s <;> cases lot.testBit (many + s) <;> cases decide (s < many) <;> rfl
theorem onStates_pos (mok : MOk exits mm) (pok : POk exits kinds ways) {L : List Nat} (fx : Fix exits (aheadRules exits.length mm wanted barred) kinds ways (3 * mm.many + 1) L) {p : Nat} (hp : p < kinds.length) :
    0 < onStates mm.many (L.getD p 0) ↔ LooksOn mm kinds ways wanted barred p := by
  constructor
  · intro h
    have : ∃ i, (onStates mm.many (L.getD p 0)).testBit i = true := by
      apply Classical.byContradiction
      intro hn
      have : onStates mm.many (L.getD p 0) = 0 := Nat.eq_of_testBit_eq fun i => by
        rw [Nat.zero_testBit]
        cases c : (onStates mm.many (L.getD p 0)).testBit i
        · rfl
        · exact absurd ⟨i, c⟩ hn
      omega
    obtain ⟨i, hi⟩ := this
    rw [onStates_bit] at hi
    simp only [Bool.and_eq_true, decide_eq_true_eq] at hi
    have := looks_iff mok pok fx hp i hi.1.1
    exact ⟨i, this.1.mp hi.1.2, this.2.mp hi.2⟩
  · rintro ⟨s, hf, ho⟩
    have hs := ho.lt.2
    have := looks_iff mok pok fx hp s hs
    have b : (onStates mm.many (L.getD p 0)).testBit s = true := by
      rw [onStates_bit, this.1.mpr hf, this.2.mpr ho, decide_eq_true hs]; rfl
    apply Nat.pos_of_ne_zero
    intro z
    rw [z, Nat.zero_testBit] at b
    cases b
end
end NB
set_option Elab.async false
set_option linter.all false
set_option maxRecDepth 100000
set_option maxHeartbeats 4000000
/-! Searches: pairs, keys of pairs, closed sets. -/
namespace NB
open PySem L2
theorem nodup_le {α : Type} [DecidableEq α] : ∀ {l r : List α}, l.Nodup → (∀ x ∈ l, x ∈ r) → l.length ≤ r.length
  | [], _, _, _ => Nat.zero_le _
  | x :: l, r, h, hs => by
    obtain ⟨h1, h2⟩ := List.nodup_cons.mp h
    have hx := hs x List.mem_cons_self
    have ih := nodup_le (l := l) (r := r.erase x) h2 fun y hy => (List.mem_erase_of_ne (fun e => h1 (by rw [← e]; exact hy))).mpr (hs y (List.mem_cons_of_mem _ hy))
    rw [List.length_erase_of_mem hx] at ih
    have : 0 < r.length := List.length_pos_of_mem hx
    rw [List.length_cons]
    omega
def boxes (n m : Nat) : List (Nat × Nat) := (List.range n).flatMap fun p => (List.range m).map fun s => (p, s)
theorem boxes_len (m : Nat) : ∀ n, (boxes n m).length = n * m
  | 0 => by simp [boxes]
  | n + 1 => by
    have ih := boxes_len m n
    unfold boxes at ih ⊢
    rw [List.range_succ, List.flatMap_append, List.length_append, ih, Nat.succ_mul]
    simp
theorem mem_boxes {n m p s : Nat} : (p, s) ∈ boxes n m ↔ p < n ∧ s < m := by
  unfold boxes
  simp only [List.mem_flatMap, List.mem_range, List.mem_map, Prod.mk.injEq]
  constructor
  · rintro ⟨a, ha, b, hb, rfl, rfl⟩; exact ⟨ha, hb⟩
  · rintro ⟨h1, h2⟩; exact ⟨p, h1, s, h2, rfl, rfl⟩
theorem pairs_count {n m : Nat} {l : List (Nat × Nat)} (h : l.Nodup) (hl : ∀ x ∈ l, x.1 < n ∧ x.2 < m) : l.length ≤ n * m := by
  rw [← boxes_len m n]
  exact nodup_le h fun x hx => mem_boxes.mpr (hl x hx)
theorem nodup_snoc {α : Type} {l : List α} {x : α} (h : l.Nodup) (hx : x ∉ l) : (l ++ [x]).Nodup := by
  rw [List.nodup_append]
  exact ⟨h, by simp, fun a ha b hb e => by cases List.mem_singleton.mp hb; exact hx (e ▸ ha)⟩
abbrev kOf (p : Nat × Nat) : List Key := [Sum.inl (p.1 : Int), Sum.inl (p.2 : Int)]
theorem kOf_inj {p q : Nat × Nat} (h : kOf p = kOf q) : p = q := by
  injection h with h1 h2
  injection h2 with h2 _
  injection h1 with h1
  injection h2 with h2
  exact Prod.ext (by omega) (by omega)
/-- the dict's keys are these pairs -/
def KW (kvs : List (List Key × V)) (W : List (Nat × Nat)) : Prop := kvs.map (·.1) = W.map kOf
theorem KW.nil : KW [] [] := rfl
theorem KW.len {kvs : List (List Key × V)} {W : List (Nat × Nat)} (h : KW kvs W) : kvs.length = W.length := by
  have := congrArg List.length h
  rwa [List.length_map, List.length_map] at this
theorem KW.mem {kvs : List (List Key × V)} {W : List (Nat × Nat)} (h : KW kvs W) (p : Nat × Nat) : (valV kvs (kOf p)).isSome = decide (p ∈ W) := by
  by_cases c : p ∈ W
  · rw [decide_eq_true c]
    cases e : valV kvs (kOf p) with
    | some v => rfl
    | none =>
      exfalso
      refine valV_not e ?_
      rw [h]
      exact List.mem_map_of_mem c
  · rw [decide_eq_false c]
    cases e : valV kvs (kOf p) with
    | none => rfl
    | some v =>
      exfalso
      have := valV_in e
      rw [h] at this
      obtain ⟨q, hq, e2⟩ := List.mem_map.mp this
      exact c (kOf_inj e2 ▸ hq)
theorem KW.put {kvs : List (List Key × V)} {W : List (Nat × Nat)} {p : Nat × Nat} (v : V) (h : KW kvs W) (hp : p ∉ W) : KW (putK kvs (kOf p) v) (W ++ [p]) := by
  have e : valV kvs (kOf p) = none := by
    have := h.mem p
    rw [decide_eq_false hp] at this
    cases e : valV kvs (kOf p) with
    | none => rfl
    | some v => rw [e] at this; cases this
  unfold KW at h ⊢
  rw [putK_new v e, List.map_append, List.map_append, h]
  rfl
/-- the dict's values are ints -/
def IntsV (kvs : List (List Key × V)) : Prop := ∀ kv ∈ kvs, ∃ n : Int, kv.2 = .int n
theorem IntsV.put {kvs : List (List Key × V)} {k : List Key} {n : Int} (h : IntsV kvs) : IntsV (putK kvs k (.int n)) := by
  unfold putK
  split
  · intro kv hkv
    obtain ⟨q, hq, e⟩ := List.mem_map.mp hkv
    by_cases c : q.1 = k
    · rw [if_pos c] at e; rw [← e]; exact ⟨n, rfl⟩
    · rw [if_neg c] at e; rw [← e]; exact h q hq
  · intro kv hkv
    rcases List.mem_append.mp hkv with hkv | hkv
    · exact h kv hkv
    · cases List.mem_singleton.mp hkv; exact ⟨n, rfl⟩
theorem IntsV.val {kvs : List (List Key × V)} {k : List Key} {v : V} (h : IntsV kvs) (e : valV kvs k = some v) : ∃ n : Int, v = .int n := by
  unfold valV at e
  obtain ⟨kv, hkv, rfl⟩ := Option.map_eq_some_iff.mp e
  exact h kv (List.mem_of_find?_eq_some hkv)
section
variable {exits kinds : List Nat} {mm : MM} {ways : List (List (List Nat))} {wanted barred : List Nat}
theorem next_in (mok : MOk exits mm) (pok : POk exits kinds ways) {p s e t u : Nat} (h : (e, t, u) ∈ nextsM mm kinds ways p s) : t < kinds.length ∧ u < mm.many := by
  obtain ⟨h1, h2⟩ := mem_nexts.mp h
  exact ⟨goals_lt pok p e t h2, (step_in mok h1).2.2.2⟩
theorem Far.lt (mok : MOk exits mm) (pok : POk exits kinds ways) {p s : Nat} (h : Far mm kinds ways p s) : p < kinds.length ∧ s < mm.many := by
  cases h with
  | start hp h => exact ⟨hp, (start_in mok h).2⟩
  | step h n => exact next_in mok pok n
/-- closed under the steps -/
def ClF (mm : MM) (kinds : List Nat) (ways : List (List (List Nat))) (W : List (Nat × Nat)) (x : Nat × Nat) : Prop := ∀ e t u, (e, t, u) ∈ nextsM mm kinds ways x.1 x.2 → (t, u) ∈ W
theorem far_closed {W : List (Nat × Nat)} (h0 : ∀ p s, p < kinds.length → s ∈ mm.starts.getD (kinds.getD p 0) [] → (p, s) ∈ W) (hc : ∀ x ∈ W, ClF mm kinds ways W x) {p s : Nat} (h : Far mm kinds ways p s) : (p, s) ∈ W := by
  induction h with
  | start hp h => exact h0 _ _ hp h
  | step h n ih => exact hc _ ih _ _ _ n
def goesOn (kinds wanted barred : List Nat) (W : List (Nat × Nat)) (x : Nat × Nat × Nat) : Bool := decide (kinds.getD x.2.1 0 ∈ wanted) || (!decide (kinds.getD x.2.1 0 ∈ barred) && decide ((x.2.1, x.2.2) ∈ W))
theorem on_of {W : List (Nat × Nat)} (hW : ∀ x ∈ W, On mm kinds ways wanted barred x.1 x.2) {p s : Nat} (hp : p < kinds.length) (hs : s < mm.many) (h : (nextsM mm kinds ways p s).any (goesOn kinds wanted barred W) = true) : On mm kinds ways wanted barred p s := by
  obtain ⟨⟨e, t, u⟩, hx, hg⟩ := List.any_eq_true.mp h
  unfold goesOn at hg
  simp only [Bool.or_eq_true, Bool.and_eq_true, decide_eq_true_eq, Bool.not_eq_true', decide_eq_false_iff_not] at hg
  rcases hg with hg | ⟨hg1, hg2⟩
  · exact .now hp hs hx hg
  · exact .later hp hs hx hg1 (hW _ hg2)
theorem on_closed {W : List (Nat × Nat)} (hc : ∀ p s, p < kinds.length → s < mm.many → (nextsM mm kinds ways p s).any (goesOn kinds wanted barred W) = true → (p, s) ∈ W) {p s : Nat} (h : On mm kinds ways wanted barred p s) : (p, s) ∈ W := by
  induction h with
  | now hp hs n h => exact hc _ _ hp hs (List.any_eq_true.mpr ⟨_, n, by simp only [goesOn]; rw [decide_eq_true h]; rfl⟩)
  | later hp hs n h o ih => exact hc _ _ hp hs (List.any_eq_true.mpr ⟨_, n, by simp only [goesOn]; rw [decide_eq_true ih, decide_eq_false h]; simp⟩)
end
end NB
set_option Elab.async false
set_option linter.all false
set_option maxRecDepth 100000
set_option maxHeartbeats 4000000
/-! Defs that raise; the law. -/
namespace NB
open PySem PyProof.Rows L2
def SX2 (φ : V → V → Hp → VK → XK → Prop) : Sp := fun vs H Q E => match vs with | [a, b] => φ a b H Q E | _ => False
def SX3 (φ : V → V → V → Hp → VK → XK → Prop) : Sp := fun vs H Q E => match vs with | [a, b, c] => φ a b c H Q E | _ => False
def SX4 (φ : V → V → V → V → Hp → VK → XK → Prop) : Sp := fun vs H Q E => match vs with | [a, b, c, d] => φ a b c d H Q E | _ => False
section
variable {vs : List V} {H : Hp} {Q : VK} {E : XK}
theorem SX2.op {φ} (h : SX2 φ vs H Q E) : ∃ a b, vs = [a, b] ∧ φ a b H Q E := by
  match vs, h with
  | [a, b], h => exact ⟨a, b, rfl, h⟩
theorem SX3.op {φ} (h : SX3 φ vs H Q E) : ∃ a b c, vs = [a, b, c] ∧ φ a b c H Q E := by
  match vs, h with
  | [a, b, c], h => exact ⟨a, b, c, rfl, h⟩
theorem SX4.op {φ} (h : SX4 φ vs H Q E) : ∃ a b c d, vs = [a, b, c, d] ∧ φ a b c d H Q E := by
  match vs, h with
  | [a, b, c, d], h => exact ⟨a, b, c, d, rfl, h⟩
theorem SX2.len {φ} (h : SX2 φ vs H Q E) : vs.length = 2 := by obtain ⟨_, _, rfl, _⟩ := h.op; rfl
theorem SX3.len {φ} (h : SX3 φ vs H Q E) : vs.length = 3 := by obtain ⟨_, _, _, rfl, _⟩ := h.op; rfl
theorem SX4.len {φ} (h : SX4 φ vs H Q E) : vs.length = 4 := by obtain ⟨_, _, _, _, rfl, _⟩ := h.op; rfl
end
section
variable {X : Cx} {CX : CXT} {k : Nat} {f C : Addr} {ps : List Str} {sp : Sp} {x m : Str} {p pos apos : Pos} {e o : Expr} {es : List Expr} {ta : TE} {t : TA}
theorem pe_callSG {E : L2.St → XK} (G : OkF X.prog X.w X.K X.mg X.base CX k f ps sp) (hr : Room k X.A) (hg : Gl X x) (hm : X.mg x = some (.ref f)) (hx : ∀ σ, PassesAt CX X σ (E σ))
    (ha : PA X (e :: es) t) (hdb : (x == ("__debug__" : Str)) = false := by decide) (he : starEach (e :: es) X.env = (false, eval e X.env) :: starEach es X.env := by rfl) (hpl : (backTo pos (starEach es X.env)).any (·.1) = false := by rfl) :
    PE X (.Call (.Name x p) (e :: es) [] pos) (tCallS sp E t) := by
  obtain ⟨fd, F, b⟩ := G.ex
  exact pe_callS F hr hg hm G.kp b hx ha hdb he hpl
end
abbrev tRaiseN (C : Addr) (E : XK) : TS := fun _ _ H => E (.ref C) none H
abbrev tTry (K : Frag) (c : Value) (tb : WX → TS) (ts : TS) : TS := fun D σ H => tb (wOnly K c (fun _ _ _ => ts) (fun _ _ _ _ => False) D) D σ H
/-! ### bags -/
def RBag (K : Frag) (a b : Addr) (H : Hp) : Prop := ∃ exits, BagAt K H (.ref a) exits ∧ BagAt K H (.ref b) exits
def DBag (K : Frag) : Eqv := DIns (He.ga K "Bag") (RBag K)
theorem op_bagEq {X : Cx} {k : Nat} (T : Txt X.K X.mg) (G : OkF X.prog X.w X.K X.mg X.base CX0 k (He.ma X.K (He.ga X.K "Bag") "__eq__") ["self", "other"] (sp_Bag_eq X.K)) (hr : Room k X.A) : OpR X (compareOp .Eq) (rEqG (DBag X.K)) := by
  obtain ⟨fd, F, b⟩ := G.ex
  have F' : FnOk X.prog X.w X.K X.mg X.base CX0 k (He.ma X.K (He.ga X.K "Bag") "__eq__") fd ["self", "other"] (spEq (RBag X.K)) := F.imp fun vs H Q E h => by
    obtain ⟨a, c, rfl, ⟨exits, h1, h2⟩, q⟩ := h
    exact ⟨exits, h1, h2, q H Ext.rfl'⟩
  exact op_eqG (rcG_ins F' T.m_Bag_eq.at_ T.m_Bag_eq.fn b pass0) hr
theorem BagAt.eq {K : Frag} {H : Hp} {x y : V} {exits : List Nat} (h : BagAt K H x exits) (h' : BagAt K H y exits) : DBag K x y H := by
  obtain ⟨a, dx, v, rfl, h1, h2⟩ := id h.ex
  obtain ⟨b, dy, u, rfl, h3, h4⟩ := id h'.ex
  exact ⟨a, b, dx, dy, _, _, rfl, rfl, h1, h3, exits, h, h'⟩
/-! ### lots that are judged -/
theorem isLotL_nats {n : Nat} : ∀ {l : List (Option Int)} {last : Int}, -1 ≤ last → isLotL (n : Int) last l = true → ∃ m : List Nat, l = m.map (fun (x : Nat) => some (x : Int)) ∧ m.Pairwise (· < ·) ∧ (∀ x ∈ m, x < n) ∧ ∀ x ∈ m, last < (x : Int)
  | [], _, _, _ => ⟨[], rfl, .nil, fun _ h => (by cases h), fun _ h => (by cases h)⟩
  | none :: _, _, _, h => by simp [isLotL] at h
  | some i :: r, last, h0, h => by
    simp only [isLotL, Bool.and_eq_true, decide_eq_true_eq] at h
    obtain ⟨⟨⟨h1, h2⟩, h3⟩, h4⟩ := h
    obtain ⟨m, rfl, k1, k2, k3⟩ := isLotL_nats (n := n) (by omega) h4
    refine ⟨i.toNat :: m, ?_, ?_, ?_, ?_⟩
    · rw [List.map_cons, Int.toNat_of_nonneg h1]
    · refine List.pairwise_cons.mpr ⟨fun x hx => ?_, k1⟩
      have := k3 x hx
      omega
    · intro x hx
      rcases List.mem_cons.mp hx with rfl | hx
      · omega
      · exact k2 x hx
    · intro x hx
      rcases List.mem_cons.mp hx with rfl | hx
      · omega
      · have := k3 x hx; omega
theorem isLotL_ofN {n : Nat} : ∀ {m : List Nat} {last : Int}, m.Pairwise (· < ·) → (∀ x ∈ m, x < n) → (∀ x ∈ m, last < (x : Int)) → isLotL (n : Int) last (m.map fun (x : Nat) => some (x : Int)) = true
  | [], _, _, _, _ => rfl
  | a :: m, last, h1, h2, h3 => by
    obtain ⟨p1, p2⟩ := List.pairwise_cons.mp h1
    have := isLotL_ofN (n := n) (m := m) (last := (a : Int)) p2 (fun x hx => h2 x (List.mem_cons_of_mem _ hx)) fun x hx => by have := p1 x hx; omega
    have h5 := h2 a List.mem_cons_self
    have h6 := h3 a List.mem_cons_self
    rw [List.map_cons]
    show (decide (0 ≤ (a : Int)) && decide ((a : Int) < (n : Int)) && decide (last < (a : Int)) && isLotL (n : Int) (a : Int) (m.map fun (x : Nat) => some (x : Int))) = true
    rw [this, decide_eq_true (by omega : (0 : Int) ≤ (a : Int)), decide_eq_true (by omega : (a : Int) < (n : Int)), decide_eq_true h6]
    rfl
theorem Lot.judged {n : Nat} {l : List Nat} (h : Lot n l) : isLot (n : Int) (some (l.map fun (x : Nat) => some (x : Int))) = true := isLotL_ofN h.1 h.2 fun x _ => by omega
theorem Kn.int_inv {H : Hp} {v : V} {i : Int} (h : Kn H v (some i)) : v = .int i := by
  cases h with
  | int i => rfl
theorem Th.is_lot {n : Nat} {H : Hp} {v : V} {d : Option (List (Option Int))} (h : Th H v d) (e : isLot (n : Int) d = true) : ∃ l : List Nat, Dt H v (eL l) ∧ Lot n l := by
  cases h with
  | tup he hl hx =>
    rename_i a xs l
    obtain ⟨m, rfl, k1, k2, _⟩ := isLotL_nats (n := n) (last := -1) (Int.le_refl _) e
    refine ⟨m, Dt.of_lot ?_, k1, k2⟩
    rw [he]
    congr 2
    apply List.ext_getElem?
    intro i
    by_cases c : i < xs.length
    · have e1 : xs[i]? = some xs[i] := List.getElem?_eq_getElem c
      obtain ⟨o, ho, hk⟩ := hx i _ e1
      rw [List.getElem?_map] at ho ⊢
      cases q : m[i]? with
      | none => rw [q] at ho; cases ho
      | some y =>
        rw [q] at ho
        cases ho
        rw [e1, hk.int_inv]
        rfl
    · rw [List.getElem?_eq_none (by omega), List.getElem?_eq_none (by rw [List.length_map] at hl ⊢; omega)]
  | int i => cases e
  | non => cases e
  | bl b => cases e
  | str x => cases e
  | lst he => cases e
  | dK he => cases e
/-! ### promises -/
def ph_check_kinds (K : Frag) (m t : V) (H : Hp) (Q : VK) (E : XK) : Prop := ∃ exits mm d, MachAt K H m exits mm ∧ XOk exits ∧ Th H t d ∧ (isLot (exits.length : Int) d = true → Q .non H) ∧ (isLot (exits.length : Int) d = false → E (.ref (He.ga K "NoKinds")) none H)
/-- two values that may be lots -/
def lots2 (n : Nat) (d e : Option (List (Option Int))) : Bool := isLot (n : Int) d && isLot (n : Int) e
def ph_ahead_book (K : Frag) (m w b : V) (H : Hp) (Q : VK) (E : XK) : Prop := ∃ exits mm dw db, MachAt K H m exits mm ∧ XOk exits ∧ MOk exits mm ∧ Th H w dw ∧ Th H b db ∧
  (∀ wanted barred, Dt H w (eL wanted) → Dt H b (eL barred) → Lot exits.length wanted → Lot exits.length barred → lots2 exits.length dw db = true → ∀ v H', Same H H' → BookAt K H' v exits (3 * mm.many + 1) (aheadRules exits.length mm wanted barred) → Q v H') ∧ (lots2 exits.length dw db = false → E (.ref (He.ga K "NoKinds")) none H)
def ph_looks_on (K : Frag) (m p w b : V) (H : Hp) (Q : VK) (E : XK) : Prop := ∃ exits mm kinds ways dw db, MachAt K H m exits mm ∧ ProgAt K H p exits kinds ways ∧ XOk exits ∧ MOk exits mm ∧ POk exits kinds ways ∧ Th H w dw ∧ Th H b db ∧
  (∀ wanted barred, Dt H w (eL wanted) → Dt H b (eL barred) → Lot exits.length wanted → Lot exits.length barred → lots2 exits.length dw db = true → ∀ (a : Addr) (l : List Nat) H', Same H H' → H a = none → H' a = some (.lst (l.map nv)) → l.Pairwise (· < ·) → (∀ p, p ∈ l ↔ LooksOn mm kinds ways wanted barred p) → Q (.ref a) H') ∧
  (lots2 exits.length dw db = false → E (.ref (He.ga K "NoKinds")) none H)
def ph_law_refused (K : Frag) (m p w b : V) (H : Hp) (Q : VK) : Prop := ∃ exits mm kinds ways dw db, MachAt K H m exits mm ∧ ProgAt K H p exits kinds ways ∧ XOk exits ∧ MOk exits mm ∧ POk exits kinds ways ∧ Th H w dw ∧ Th H b db ∧
  ∀ (a : Addr) H', Same H H' → H' a = some (.lst [.bl (!lots2 exits.length dw db), .bl (!lots2 exits.length dw db)]) → Q (.ref a) H'
def ph_law_spoiled0 (K : Frag) (h t d : V) (H : Hp) (Q : VK) : Prop := ∃ (a : Addr) (n : Nat), h = .ref a ∧ Hand H a ∧ t = nv n ∧ n < 1000 ∧ d = nv 0 ∧ ∀ v o H', Kn H' v o → HB a H H' → Hand H' a → Q v H'
def ph_law (K : Frag) (s : V) (H : Hp) (Q : VK) : Prop := ∃ (a : Addr) (ns : List Int), s = .ref a ∧ SqL K H a (ns.map V.int) ∧ ns.length ≤ 63 ∧ ∀ H', Q (.bl true) H'
def sp_check_kinds (K : Frag) : Sp := SX2 (ph_check_kinds K)
def sp_ahead_book (K : Frag) : Sp := SX3 (ph_ahead_book K)
def sp_looks_on (K : Frag) : Sp := SX4 (ph_looks_on K)
def sp_law_refused (K : Frag) : Sp := S4 (ph_law_refused K)
def sp_law_spoiled0 (K : Frag) : Sp := S3 (ph_law_spoiled0 K)
def sp_law (K : Frag) : Sp := S1 (ph_law K)
end NB
set_option pp.maxSteps 900
set_option Elab.async false
set_option linter.all false
set_option maxRecDepth 100000
set_option maxHeartbeats 4000000
namespace NB
open PySem PyProof.Rows L2
local macro_rules | `(tactic| walk_at "rd") => `(tactic| dsimp only [De, tSeq, tNext, tAsg, tIfS, tRet, tRetN, tDrop, tBreak, tCont, tAug, ipI, gName, gNil, gCons, gTup, gSub, tVar, tC, tOp, tUn, tTest, tB, tTru, tNot, tAnd, tOr, tNotV, tAndV, tOrV, tChain, tCons, tNil, tCB, tCall, tMeth, tMake, tTup, tLst, tFld, sFld, tDGet, tDIn, tDNotIn, sDPut, tDNewK, tDNewT, tBM, tBM0, tSl, tPart, tNoPart, tYes, iList, iTup, iRng1, iRng2, iEnum, iEnumT, iSeq, RZ.iZipA, rMaxT, rRepA, rIn, tLstRg, tRg1, tRevT, rI0, rI, rU, rAddI, rSubI, rMulI, rDivI, rModI, rPowI, rShlI, rShrI, rAndI, rOrI, rLtI, rLeI, rGtI, rGeI, rNegI, rInvI, rEq, rNe, rLenS, rListS, rTupleS, rInt1, rBool1, rStrI, rAbsI, rAll, rAny, rAppend, rExtend, rPopAt, rRep, rIxL, rIxT, rSetL, rSlL, rSlA, rCatA, rEqD, rNeD, List.cons_append, List.nil_append, List.append_nil])
local macro_rules | `(tactic| walk_at "rs") => `(tactic| dsimp only [De, tSeq, tNext, tAsg, tIfS, tRet, tRetN, tDrop, tBreak, tCont, tAug, ipI, gName, gNil, gCons, gTup, gSub, tVar, tC, tOp, tUn, tTest, tB, tTru, tNot, tAnd, tOr, tNotV, tAndV, tOrV, tChain, tCons, tNil, tCB, tCall, tMeth, tMake, tTup, tLst, tFld, sFld, tDGet, tDIn, tDNotIn, sDPut, tDNewK, tDNewT, tBM, tBM0, tSl, tPart, tNoPart, tYes, iList, iTup, iRng1, iRng2, iEnum, iEnumT, iSeq, RZ.iZipA, rMaxT, rRepA, rIn, tLstRg, tRg1, tRevT, rI0, rI, rU, rAddI, rSubI, rMulI, rDivI, rModI, rPowI, rShlI, rShrI, rAndI, rOrI, rLtI, rLeI, rGtI, rGeI, rNegI, rInvI, rEq, rNe, rLenS, rListS, rTupleS, rInt1, rBool1, rStrI, rAbsI, rAll, rAny, rAppend, rExtend, rPopAt, rRep, rIxL, rIxT, rSetL, rSlL, rCatA, rEqD, rNeD, List.cons_append, List.nil_append, List.append_nil])
theorem sc_is_integer : FnScope ["thing"] ["thing"] (defScope s_is_integer) := ⟨rfl, rfl, rfl, by decide +kernel, rfl, by decide +kernel, by decide +kernel⟩
def t_is_integer (K : PySem.W.Frag) : TS :=
  (tRet (tAndV (tCB (rIsi K) (tCons (tVar 0) (tCons (tC (.ty "int")) tNil))) (tNotV (tCB (rIsi K) (tCons (tVar 0) (tCons (tC (.ty "bool")) tNil))))))
theorem sc_is_between : FnScope ["thing", "least", "most"] ["thing", "least", "most"] (defScope s_is_between) := ⟨rfl, rfl, rfl, by decide +kernel, rfl, by decide +kernel, by decide +kernel⟩
def t_is_between (K : PySem.W.Frag) : TS :=
  (tRet (tAndV (tCall (sp_is_integer K) [] E0 (tCons (tVar 0) tNil)) (tChain rLeI rLeI (tVar 1) (tVar 0) (tVar 2))))
theorem sc_is_index : FnScope ["thing", "many"] ["thing", "many"] (defScope s_is_index) := ⟨rfl, rfl, rfl, by decide +kernel, rfl, by decide +kernel, by decide +kernel⟩
def t_is_index (K : PySem.W.Frag) : TS :=
  (tRet (tCall (sp_is_between K) [] E0 (tCons (tVar 0) (tCons (tC (.int 0)) (tCons (tOp rSubI (tVar 1) (tC (.int 1))) tNil)))))
theorem sc_is_lot : FnScope ["thing", "many", "last", "item"] ["thing", "many"] (defScope s_is_lot) := ⟨rfl, rfl, rfl, by decide +kernel, rfl, by decide +kernel, by decide +kernel⟩
def t_is_lot (K : PySem.W.Frag) : TS :=
  (tSeq (tIfS (tNot (tB (tCB (rIsi K) (tCons (tVar 0) (tCons (tC (.ty "tuple")) tNil))))) (tRet (tC (.bl false))) tNext)
    (tSeq (tAsg (tUn rNegI (tC (.int 1))) (gName 2))
    (tSeq (tFor (iTup K (tVar 0)) (gName 3) (tSeq (tIfS (tOr (tNot (tB (tCall (sp_is_index K) [] E0 (tCons (tVar 3) (tCons (tVar 1) tNil))))) (tTest (tOp rLeI (tVar 3) (tVar 2)))) (tRet (tC (.bl false))) tNext)
    (tAsg (tVar 3) (gName 2))))
    (tRet (tC (.bl true))))))
theorem rd_is_integer {K : Frag} {mg : Str → Option Value} (T : Txt K mg) {v : V} {H : Hp} {Q : VK} (h : ph_is_integer K v H Q) : t_is_integer K (De Q) [some v] H := by
  obtain ⟨o, k, q⟩ := h
  unfold t_is_integer
  walk_at "rd"
  refine ⟨_, rfl, ?_⟩
  refine k.isi fun b eb => ⟨b, rfl, ?_⟩
  subst eb
  cases k with
  | int i => exact iteT ⟨_, rfl, (Kn.int i).isb fun b eb => ⟨b, rfl, by subst eb; exact q⟩⟩
  | bl b => exact iteT ⟨_, rfl, (Kn.bl b).isb fun b eb => ⟨b, rfl, by subst eb; exact q⟩⟩
  | _ => exact iteF q
theorem rd_is_between {K : Frag} {mg : Str → Option Value} (T : Txt K mg) {v l m : V} {H : Hp} {Q : VK} (h : ph_is_between K v l m H Q) : t_is_between K (De Q) [some v, some l, some m] H := by
  obtain ⟨o, lo, hi, k, rfl, rfl, q⟩ := h
  unfold t_is_between
  walk_at "rd"
  refine ⟨_, rfl, o, k, o.isSome, rfl, ?_⟩
  cases k with
  | int i =>
    refine iteT ⟨_, rfl, _, rfl, _, _, rfl, rfl, _, rfl, ?_⟩
    have q' : Q (.bl (decide (lo ≤ i) && decide (i ≤ hi))) H := q
    by_cases c : lo ≤ i
    · rw [decide_eq_true c] at q' ⊢
      exact iteT ⟨_, rfl, _, _, rfl, rfl, q'⟩
    · rw [decide_eq_false c] at q' ⊢
      exact iteF q'
  | _ => exact iteF q
theorem rd_is_index {K : Frag} {mg : Str → Option Value} (T : Txt K mg) {v m : V} {H : Hp} {Q : VK} (h : ph_is_index K v m H Q) : t_is_index K (De Q) [some v, some m] H := by
  obtain ⟨o, n, k, rfl, q⟩ := h
  unfold t_is_index
  walk_at "rd"
  refine ⟨_, rfl, _, rfl, _, _, rfl, rfl, o, 0, n - 1, k, rfl, rfl, ?_⟩
  have e : (o.any fun i => decide (0 ≤ i) && decide (i ≤ n - 1)) = (o.any fun i => decide (0 ≤ i) && decide (i < n)) := by
    congr 1
    funext i
    congr 1
    exact decide_eq_decide.mpr (by omega)
  rw [e]
  exact q
theorem rd_is_lot {K : Frag} {mg : Str → Option Value} (T : Txt K mg) {v m : V} {H : Hp} {Q : VK} (h : ph_is_lot K v m H Q) : t_is_lot K (De Q) [some v, some m, none, none] H := by
  obtain ⟨d, n, k, rfl, q⟩ := h
  unfold t_is_lot
  walk_at "rd"
  refine ⟨_, rfl, k.ist ⟨_, rfl, ?_⟩⟩
  cases k with
  | @tup a xs l e hl hx =>
    refine iteF ⟨_, rfl, ?_⟩
    refine ⟨_, rfl, a, rfl, ⟨xs, SqT.of e⟩, for_tup (K := K) (xs := xs) (fun i σ H' => H' = H ∧ ∃ (last : Int) (it : Option V), σ = [some (.ref a), some (.int n), some (.int last), it] ∧ isLotL n (-1) l = isLotL n last (l.drop i)) ⟨rfl, -1, none, rfl, rfl⟩ (fun i σ H' _ p => by obtain ⟨rfl, _⟩ := p; exact SqT.of e) ?_ ?_⟩
    · rintro i x σ H' hi ⟨rfl, last, it, rfl, el⟩
      obtain ⟨o, ho, kx⟩ := hx i x hi
      obtain ⟨hlt, eo⟩ := List.getElem?_eq_some_iff.mp ho
      have ed : l.drop i = o :: l.drop (i + 1) := by rw [← eo]; exact List.drop_eq_getElem_cons hlt
      rw [ed] at el
      refine ⟨_, rfl, _, rfl, o, n, kx, rfl, _, rfl, ?_⟩
      cases kx with
      | int j =>
        have el' : isLotL n (-1) l = (decide (0 ≤ j) && decide (j < n) && decide (last < j) && isLotL n j (l.drop (i + 1))) := el
        show if (!(decide (0 ≤ j) && decide (j < n))) = true then _ else _
        by_cases c : (decide (0 ≤ j) && decide (j < n)) = true
        · rw [c] at el' ⊢
          refine iteF ⟨_, rfl, _, rfl, _, _, rfl, rfl, _, rfl, ?_⟩
          by_cases c2 : j ≤ last
          · rw [decide_eq_true c2]
            refine iteT ?_
            rw [show decide (last < j) = false from decide_eq_false (by omega)] at el'
            have : isLot n (some l) = false := by show isLotL n (-1) l = false; rw [el']; rfl
            rw [this] at q
            exact q
          · rw [decide_eq_false c2]
            refine iteF ⟨_, rfl, rfl, j, _, rfl, ?_⟩
            rw [show decide (last < j) = true from decide_eq_true (by omega)] at el'
            rw [el']; rfl
        · have c' : (decide (0 ≤ j) && decide (j < n)) = false := by simpa using c
          rw [c'] at el' ⊢
          refine iteT (iteT ?_)
          have : isLot n (some l) = false := by show isLotL n (-1) l = false; rw [el']; rfl
          rw [this] at q
          exact q
      | _ =>
        have : isLot n (some l) = false := el
        rw [this] at q
        exact iteT (iteT q)
    · rintro σ H' ⟨rfl, last, it, rfl, el⟩
      have : isLot n (some l) = true := by
        show isLotL n (-1) l = true
        rw [el, hl, List.drop_length]; rfl
      rw [this] at q
      exact q
  | _ => exact iteT q
end NB
set_option pp.maxSteps 900
set_option Elab.async false
set_option linter.all false
set_option maxRecDepth 100000
set_option maxHeartbeats 4000000
namespace NB
open PySem PyProof.Rows L2
local macro_rules | `(tactic| walk_at "rd") => `(tactic| dsimp only [De, tSeq, tNext, tAsg, tIfS, tRet, tRetN, tDrop, tBreak, tCont, tAug, ipI, gName, gNil, gCons, gTup, gSub, tVar, tC, tOp, tUn, tTest, tB, tTru, tNot, tAnd, tOr, tNotV, tAndV, tOrV, tChain, tCons, tNil, tCB, tCall, tMeth, tMake, tTup, tLst, tFld, sFld, tDGet, tDIn, tDNotIn, sDPut, tDNewK, tDNewT, tBM, tBM0, tSl, tPart, tNoPart, tYes, iList, iTup, iRng1, iRng2, iEnum, iEnumT, iSeq, RZ.iZipA, rMaxT, rRepA, rIn, tLstRg, tRg1, tRevT, rI0, rI, rU, rAddI, rSubI, rMulI, rDivI, rModI, rPowI, rShlI, rShrI, rAndI, rOrI, rLtI, rLeI, rGtI, rGeI, rNegI, rInvI, rEq, rNe, rLenS, rListS, rTupleS, rInt1, rBool1, rStrI, rAbsI, rAll, rAny, rAppend, rExtend, rPopAt, rRep, rIxL, rIxT, rSetL, rSlL, rSlA, rCatA, rEqD, rNeD, List.cons_append, List.nil_append, List.append_nil])
local macro_rules | `(tactic| walk_at "rs") => `(tactic| dsimp only [De, tSeq, tNext, tAsg, tIfS, tRet, tRetN, tDrop, tBreak, tCont, tAug, ipI, gName, gNil, gCons, gTup, gSub, tVar, tC, tOp, tUn, tTest, tB, tTru, tNot, tAnd, tOr, tNotV, tAndV, tOrV, tChain, tCons, tNil, tCB, tCall, tMeth, tMake, tTup, tLst, tFld, sFld, tDGet, tDIn, tDNotIn, sDPut, tDNewK, tDNewT, tBM, tBM0, tSl, tPart, tNoPart, tYes, iList, iTup, iRng1, iRng2, iEnum, iEnumT, iSeq, RZ.iZipA, rMaxT, rRepA, rIn, tLstRg, tRg1, tRevT, rI0, rI, rU, rAddI, rSubI, rMulI, rDivI, rModI, rPowI, rShlI, rShrI, rAndI, rOrI, rLtI, rLeI, rGtI, rGeI, rNegI, rInvI, rEq, rNe, rLenS, rListS, rTupleS, rInt1, rBool1, rStrI, rAbsI, rAll, rAny, rAppend, rExtend, rPopAt, rRep, rIxL, rIxT, rSetL, rSlL, rCatA, rEqD, rNeD, List.cons_append, List.nil_append, List.append_nil])
theorem sc_mask_of : FnScope ["lot", "mask", "item"] ["lot"] (defScope s_mask_of) := ⟨rfl, rfl, rfl, by decide +kernel, rfl, by decide +kernel, by decide +kernel⟩
def t_mask_of (K : PySem.W.Frag) : TS :=
  (tSeq (tAsg (tC (.int 0)) (gName 1))
    (tSeq (tFor (iSeq K (tVar 0)) (gName 2) (tAsg (tOp rOrI (tVar 1) (tOp rShlI (tC (.int 1)) (tVar 2))) (gName 1)))
    (tRet (tVar 1))))
theorem sc_lot_of : FnScope ["mask", "found", "item"] ["mask"] (defScope s_lot_of) := ⟨rfl, rfl, rfl, by decide +kernel, rfl, by decide +kernel, by decide +kernel⟩
def t_lot_of (K : PySem.W.Frag) : TS :=
  (tSeq (tAsg (tLst tNil) (gName 1))
    (tSeq (tAsg (tC (.int 0)) (gName 2))
    (tSeq (tWhile (tTest (tOp rGtI (tVar 0) (tC (.int 0)))) (tSeq (tIfS (tTru K (tOp rAndI (tVar 0) (tC (.int 1)))) (tDrop (tBM K "list" rAppend (tVar 1) (tCons (tVar 2) tNil))) tNext)
    (tSeq (tAsg (tOp rShrI (tVar 0) (tC (.int 1))) (gName 0))
    (tAug 2 (tC (.int 1)) (ipI fun i j => i + j)))))
    (tRet (tCB (rTupleS K) (tCons (tVar 1) tNil))))))
theorem sc_RawBook_bag : FnScope ["self"] ["self"] (defScope s_RawBook_bag) := ⟨rfl, rfl, rfl, by decide +kernel, rfl, by decide +kernel, by decide +kernel⟩
def t_RawBook_bag (K : PySem.W.Frag) : TS :=
  (tRet (tFld K (tVar 0) "kept_bag"))
theorem rd_mask_of {K : Frag} {mg : Str → Option Value} (T : Txt K mg) {v : V} {H : Hp} {Q : VK} (h : ph_mask_of K v H Q) : t_mask_of K (De Q) [some v, none, none] H := by
  obtain ⟨a, l, rfl, hH, hle, q⟩ := h
  unfold t_mask_of
  walk_at "rd"
  have turn : ∀ (D : Ends) (i : Nat) (n : Nat) (it : Option V), l[i]? = some n → (∀ v, D.nx [some (.ref a), some (nv (maskOf (l.take (i + 1)))), v] H) →
      tAsg (tOp rOrI (tVar 1) (tOp rShlI (tC (.int 1)) (tVar 2))) (gName 1) D [some (.ref a), some (nv (maskOf (l.take i))), some (nv n)] H := fun D i n it hn k => by
    have hm : n ≤ 1000 := hle n (List.mem_of_getElem? hn)
    refine ⟨_, rfl, _, rfl, _, _, rfl, rfl, ⟨by omega, by omega, by decide⟩, _, _, rfl, rfl, ?_⟩
    have e : Builtin.bitOr ((maskOf (l.take i) : Nat) : Int) (1 * 2 ^ ((n : Int)).toNat) = ((maskOf (l.take (i + 1)) : Nat) : Int) := by
      rw [take_more hn, maskOf_snoc, Int.one_mul, Int.toNat_natCast, show ((2 : Int) ^ n) = ((2 ^ n : Nat) : Int) by simp]
      exact b_or _ _
    show D.nx [some (V.ref a), some (V.int (Builtin.bitOr ((maskOf (l.take i) : Nat) : Int) (1 * 2 ^ ((n : Int)).toNat))), some (nv n)] H
    rw [e]
    exact k _
  rcases hH with hH | hH
  · refine ⟨_, rfl, a, rfl, .inr ⟨⟨_, SqT.of hH⟩, for_tup (K := K) (xs := l.map nv) (fun i σ H' => H' = H ∧ ∃ it, σ = [some (.ref a), some (nv (maskOf (l.take i))), it]) ⟨rfl, none, rfl⟩ (fun i σ H' _ p => by obtain ⟨rfl, _⟩ := p; exact SqT.of hH) ?_ ?_⟩⟩
    · rintro i x σ H' hi ⟨rfl, it, rfl⟩
      obtain ⟨n, hn, rfl⟩ := of_getElem?_nats hi
      exact turn _ i n it hn fun v => ⟨rfl, v, rfl⟩
    · rintro σ H' ⟨rfl, it, rfl⟩
      rw [List.length_map, List.take_length]
      exact ⟨_, rfl, q⟩
  · refine ⟨_, rfl, a, rfl, .inl ⟨⟨_, SqL.of hH⟩, for_list (K := K) (xs := l.map nv) (fun i σ H' => H' = H ∧ ∃ it, σ = [some (.ref a), some (nv (maskOf (l.take i))), it]) ⟨rfl, none, rfl⟩ (fun i σ H' _ p => by obtain ⟨rfl, _⟩ := p; exact SqL.of hH) ?_ ?_⟩⟩
    · rintro i x σ H' hi ⟨rfl, it, rfl⟩
      obtain ⟨n, hn, rfl⟩ := of_getElem?_nats hi
      exact turn _ i n it hn fun v => ⟨rfl, v, rfl⟩
    · rintro σ H' ⟨rfl, it, rfl⟩
      rw [List.length_map, List.take_length]
      exact ⟨_, rfl, q⟩
theorem lotOf_eq (m k : Nat) (h : m < 2 ^ k) : ∀ j, k + j ≤ 100 → (List.range (k + j)).filter m.testBit = (List.range k).filter m.testBit
  | 0, _ => rfl
  | j + 1, hj => by
    rw [← Nat.add_assoc, List.range_succ, List.filter_append, lotOf_eq m k h j (by omega)]
    have : m.testBit (k + j) = false := Nat.testBit_lt_two_pow (Nat.lt_of_lt_of_le h (Nat.pow_le_pow_right (by decide) (by omega)))
    simp [this]
theorem rd_lot_of {K : Frag} {mg : Str → Option Value} (T : Txt K mg) {v : V} {H : Hp} {Q : VK} (h : ph_lot_of K v H Q) : t_lot_of K (De Q) [some v, none, none] H := by
  obtain ⟨m, rfl, hm, q⟩ := h
  unfold t_lot_of
  walk_at "rd"
  refine ⟨Nat.zero_le _, fun l nl => ?_⟩
  -- the invariant: j digits are read
  refine ⟨fun k σ H' => ∃ j, k = 100 - j ∧ σ = [some (nv (m / 2 ^ j)), some (.ref l), some (nv j)] ∧ j ≤ 100 ∧ Same H H' ∧ H' l = some (.lst (((List.range j).filter m.testBit).map nv)), ⟨100, 0, rfl, by simp, by decide, Same.new nl, upd_same⟩, ?_⟩
  rintro k σ H' ⟨j, rfl, rfl, hj, s, hl⟩
  refine ⟨_, rfl, _, _, rfl, rfl, _, rfl, ?_⟩
  by_cases c : 0 < m / 2 ^ j
  · rw [show decide ((0 : Int) < ((m / 2 ^ j : Nat) : Int)) = true from decide_eq_true (by omega)]
    have hj1 : j < 100 := by
      apply Decidable.byContradiction
      intro hn
      have e100 : j = 100 := by omega
      rw [e100, Nat.div_eq_of_lt hm] at c
      omega
    refine iteT ⟨_, fun σ' H'' n => ⟨100 - (j + 1), by omega, n⟩, ?_⟩
    refine ⟨_, rfl, _, _, rfl, rfl, decide (m.testBit j = true), ?_, ?_⟩
    · show TruV K (.int (Builtin.bitAnd ((m / 2 ^ j : Nat) : Int) ((1 : Nat) : Int))) H' _
      rw [b_and, Nat.and_one_is_mod]
      show decide (m.testBit j = true) = (((m / 2 ^ j % 2 : Nat) : Int) != 0)
      rw [Nat.testBit_eq_decide_div_mod_eq]
      rcases Nat.mod_two_eq_zero_or_one (m / 2 ^ j) with hx | hx <;> rw [hx] <;> rfl
    · have fin : ∀ H2, Same H H2 → H2 l = some (.lst (((List.range (j + 1)).filter m.testBit).map nv)) →
          tSeq (tAsg (tOp rShrI (tVar 0) (tC (.int 1))) (gName 0)) (tAug 2 (tC (.int 1)) (ipI fun i j => i + j)) { nx := fun σ' H' => ∃ j' , 100 - (j + 1) = 100 - j' ∧ σ' = [some (nv (m / 2 ^ j')), some (.ref l), some (nv j')] ∧ j' ≤ 100 ∧ Same H H' ∧ H' l = some (.lst (((List.range j').filter m.testBit).map nv)), rt := Q } [some (nv (m / 2 ^ j)), some (.ref l), some (nv j)] H2 := fun H2 s2 h2 => by
        refine ⟨_, rfl, _, _, rfl, rfl, (by show (0 : Int) ≤ 1; decide), _, rfl, _, _, rfl, rfl, j + 1, rfl, ?_, by omega, s2, h2⟩
        have e1 : ((m / 2 ^ j : Nat) : Int) / 2 ^ (1 : Int).toNat = ((m / 2 ^ (j + 1) : Nat) : Int) := by
          rw [show (2 : Int) ^ (1 : Int).toNat = ((2 : Nat) : Int) by decide, ← Int.natCast_ediv, Nat.div_div_eq_div_mul, Nat.pow_succ]
        show [some (V.int (((m / 2 ^ j : Nat) : Int) / 2 ^ (1 : Int).toNat)), some (V.ref l), some (V.int (((j : Nat) : Int) + 1))] = _
        rw [e1]
        rfl
      have lf : ((List.range (j + 1)).filter m.testBit) = (List.range j).filter m.testBit ++ if m.testBit j = true then [j] else [] := by
        rw [List.range_succ, List.filter_append]
        congr 1
        by_cases b : m.testBit j = true
        · rw [if_pos b, List.filter_cons, if_pos b]; rfl
        · rw [if_neg b, List.filter_cons, if_neg b]; rfl
      have llen : (((List.range j).filter m.testBit).map nv).length < sizeLine := by
        rw [List.length_map]
        have := List.length_filter_le m.testBit (List.range j)
        rw [List.length_range] at this
        exact smaller (by omega)
      by_cases b : m.testBit j = true
      · rw [decide_eq_true b]
        refine iteT ⟨_, rfl, .inl ⟨rfl, _, SqL.of hl⟩, _, rfl, l, _, _, rfl, rfl, hl, llen, ?_⟩
        refine fin _ (s.mut nl) ?_
        rw [lf, if_pos b, List.map_append]
        exact upd_same
      · rw [decide_eq_false b]
        refine iteF (fin _ s ?_)
        rw [lf, if_neg b, List.append_nil]
        exact hl
  · rw [show decide ((0 : Int) < ((m / 2 ^ j : Nat) : Int)) = false from decide_eq_false (by omega)]
    refine iteF ⟨_, rfl, l, _, rfl, .inl ⟨SqL.of hl, fun t nt => ?_⟩⟩
    have hlt : m < 2 ^ j := by
      have := Nat.div_eq_zero_iff.mp (Nat.eq_zero_of_not_pos c)
      rcases this with z | z
      · exact absurd z (Nat.pos_iff_ne_zero.mp (Nat.two_pow_pos j))
      · exact z
    refine q _ _ (s.snew nt) (Dt.of_lot ?_)
    have e : lotOf m = (List.range j).filter m.testBit := by
      have := lotOf_eq m j hlt (100 - j) (by omega)
      rw [show j + (100 - j) = 100 by omega] at this
      exact this
    rw [e]
    exact upd_same
theorem BookAt.fld {K : Frag} {H : Hp} {v : V} {exits : List Nat} {D : Nat} {rs : List Rule} (h : BookAt K H v exits D rs) : ∃ (a dx : Addr) (b o r w hh y : V), v = .ref a ∧ H a = some (.ins (He.ga K "RawBook") dx (fBook b o r w hh y)) ∧ BagAt K H b exits ∧ Dt H o (eL (List.replicate D 0)) ∧ Dt H r (eT eR rs) ∧ Dt H w (.tuple []) ∧ HereAt H hh exits rs ∧ WayAt H y exits rs := h.ex
theorem rd_RawBook_bag {K : Frag} {mg : Str → Option Value} (T : Txt K mg) {v : V} {H : Hp} {Q : VK} (h : ph_RawBook_bag K v H Q) : t_RawBook_bag K (De Q) [some v] H := by
  obtain ⟨exits, D, rs, B, q⟩ := h
  obtain ⟨a, dx, b, o, r, w, hh, y, rfl, h1, h2, h3, h4, h5, h6, h7⟩ := B.ex
  unfold t_RawBook_bag
  walk_at "rd"
  exact ⟨_, rfl, a, _, dx, _, b, rfl, h1, T.c_RawBook, T.n_RawBook_kept_bag, by rfl, q b h2 ⟨_, _, _, _, _, _, _, rfl, h1⟩⟩
end NB
set_option pp.maxSteps 900
set_option Elab.async false
set_option linter.all false
set_option maxRecDepth 100000
set_option maxHeartbeats 4000000
namespace NB
open PySem PyProof.Rows L2
local macro_rules | `(tactic| walk_at "rd") => `(tactic| dsimp only [De, tSeq, tNext, tAsg, tIfS, tRet, tRetN, tDrop, tBreak, tCont, tAug, ipI, gName, gNil, gCons, gTup, gSub, tVar, tC, tOp, tUn, tTest, tB, tTru, tNot, tAnd, tOr, tNotV, tAndV, tOrV, tChain, tCons, tNil, tCB, tCall, tMeth, tMake, tTup, tLst, tFld, sFld, tDGet, tDIn, tDNotIn, sDPut, tDNewK, tDNewT, tBM, tBM0, tSl, tPart, tNoPart, tYes, iList, iTup, iRng1, iRng2, iEnum, iEnumT, iSeq, RZ.iZipA, rMaxT, rRepA, rIn, tLstRg, tRg1, tRevT, rI0, rI, rU, rAddI, rSubI, rMulI, rDivI, rModI, rPowI, rShlI, rShrI, rAndI, rOrI, rLtI, rLeI, rGtI, rGeI, rNegI, rInvI, rEq, rNe, rLenS, rListS, rTupleS, rInt1, rBool1, rStrI, rAbsI, rAll, rAny, rAppend, rExtend, rPopAt, rRep, rIxL, rIxT, rSetL, rSlL, rSlA, rCatA, rEqD, rNeD, List.cons_append, List.nil_append, List.append_nil])
local macro_rules | `(tactic| walk_at "rs") => `(tactic| dsimp only [De, tSeq, tNext, tAsg, tIfS, tRet, tRetN, tDrop, tBreak, tCont, tAug, ipI, gName, gNil, gCons, gTup, gSub, tVar, tC, tOp, tUn, tTest, tB, tTru, tNot, tAnd, tOr, tNotV, tAndV, tOrV, tChain, tCons, tNil, tCB, tCall, tMeth, tMake, tTup, tLst, tFld, sFld, tDGet, tDIn, tDNotIn, sDPut, tDNewK, tDNewT, tBM, tBM0, tSl, tPart, tNoPart, tYes, iList, iTup, iRng1, iRng2, iEnum, iEnumT, iSeq, RZ.iZipA, rMaxT, rRepA, rIn, tLstRg, tRg1, tRevT, rI0, rI, rU, rAddI, rSubI, rMulI, rDivI, rModI, rPowI, rShlI, rShrI, rAndI, rOrI, rLtI, rLeI, rGtI, rGeI, rNegI, rInvI, rEq, rNe, rLenS, rListS, rTupleS, rInt1, rBool1, rStrI, rAbsI, rAll, rAny, rAppend, rExtend, rPopAt, rRep, rIxL, rIxT, rSetL, rSlL, rCatA, rEqD, rNeD, List.cons_append, List.nil_append, List.append_nil])
theorem sc_begin_state : FnScope ["book", "program", "many"] ["book", "program"] (defScope s_begin_state) := ⟨rfl, rfl, rfl, by decide +kernel, rfl, by decide +kernel, by decide +kernel⟩
def t_begin_state (K : PySem.W.Frag) : TS :=
  (tSeq (tAsg (tCB (rLenS K) (tCons (tFld K (tVar 1) "kept_kinds") tNil)) (gName 2))
    (tRet (tMake (He.ga K "State") (sp_State_init K) [] E0 (tCons (tCB (rListS K) (tCons (tFld K (tVar 1) "kept_kinds") tNil)) (tCons (tOp rRep (tLst (tCons (tC (.int 0)) tNil)) (tVar 2)) (tCons (tOp rRep (tLst (tCons (tCall (sp_all_mask K) [] E0 (tCons (tVar 0) tNil)) tNil)) (tVar 2)) tNil))))))
theorem sc_are_lookers : FnScope ["book", "thing"] ["book", "thing"] (defScope s_are_lookers) := ⟨rfl, rfl, rfl, by decide +kernel, rfl, by decide +kernel, by decide +kernel⟩
def t_are_lookers (K : PySem.W.Frag) : TS :=
  (tRet (tAndV (tCall (sp_is_lot K) [] E0 (tCons (tVar 1) (tCons (tOp rAddI (tCB (rMaxT K) (tCons (tFld K (tVar 0) "kept_owners") tNil)) (tC (.int 1))) tNil))) (tOp rGtI (tCB (rLenS K) (tCons (tVar 1) tNil)) (tC (.int 0)))))
theorem rd_begin_state {K : Frag} {mg : Str → Option Value} (T : Txt K mg) {b p : V} {H : Hp} {Q : VK} (h : ph_begin_state K b p H Q) : t_begin_state K (De Q) [some b, some p, none] H := by
  obtain ⟨exits, D, rs, kinds, ways, B, P, hD, hk, q⟩ := h
  obtain ⟨a, dx, b1, k, w, rfl, h1, h2, h3, h4⟩ := P.ex
  obtain ⟨ak, rfl, hak⟩ := h3.lot
  unfold t_begin_state
  walk_at "rd"
  have el : (kinds.map nv).length = kinds.length := by simp
  -- many = len(program.kept_kinds)
  refine ⟨_, rfl, a, _, dx, _, _, rfl, h1, T.c_Program, T.n_Program_kept_kinds, by rfl, ak, _, rfl, .inr (SqT.of hak), ?_⟩
  rw [el]
  -- list(program.kept_kinds)
  refine ⟨_, rfl, a, _, dx, _, _, rfl, h1, T.c_Program, T.n_Program_kept_kinds, by rfl, ak, _, rfl, .inr (SqT.of hak), fun p1 n1 => ?_⟩
  have s1 : Same H (upd H p1 (.lst (kinds.map nv))) := Same.new n1
  have g1 : (upd H p1 (.lst (kinds.map nv))) p1 = some (.lst (kinds.map nv)) := upd_same
  generalize upd H p1 (.lst (kinds.map nv)) = H1 at s1 g1 ⊢
  -- [0] * many
  refine ⟨by show 1 ≤ sizeLine; decide, fun p2 n2 => ⟨_, rfl, p2, _, _, rfl, rfl, upd_same, by omega, by omega, ?_, fun p3 n3 => ?_⟩⟩
  · rw [Int.toNat_natCast]; exact small (by show 1 * kinds.length ≤ 100000; omega)
  have s2 : Same H1 (upd H1 p2 (.lst [nv 0])) := Same.new n2
  have s3 : Same (upd H1 p2 (.lst [nv 0])) (upd (upd H1 p2 (.lst [nv 0])) p3 (.lst (List.replicate ((kinds.length : Int)).toNat [nv 0]).flatten)) := Same.new n3
  have g3 : (upd (upd H1 p2 (.lst [nv 0])) p3 (.lst (List.replicate ((kinds.length : Int)).toNat [nv 0]).flatten)) p3 = some (.lst ((List.replicate kinds.length 0).map nv)) := by
    rw [upd_same, Int.toNat_natCast, rep_one, List.map_replicate]
  have s13 := s2.trans s3
  generalize (upd (upd H1 p2 (.lst [nv 0])) p3 (.lst (List.replicate ((kinds.length : Int)).toNat [nv 0]).flatten)) = H3 at s13 g3 ⊢
  -- [all_mask(book)] * many
  refine ⟨_, rfl, exits, D, rs, B.same (s1.trans s13), hD, by show 1 ≤ sizeLine; decide, fun p4 n4 => ⟨_, rfl, p4, _, _, rfl, rfl, upd_same, by omega, by omega, ?_, fun p5 n5 => ?_⟩⟩
  · rw [Int.toNat_natCast]; exact small (by show 1 * kinds.length ≤ 100000; omega)
  have s4 : Same H3 (upd H3 p4 (.lst [nv (2 ^ D - 1)])) := Same.new n4
  have s5 : Same (upd H3 p4 (.lst [nv (2 ^ D - 1)])) (upd (upd H3 p4 (.lst [nv (2 ^ D - 1)])) p5 (.lst (List.replicate ((kinds.length : Int)).toNat [nv (2 ^ D - 1)]).flatten)) := Same.new n5
  have g5 : (upd (upd H3 p4 (.lst [nv (2 ^ D - 1)])) p5 (.lst (List.replicate ((kinds.length : Int)).toNat [nv (2 ^ D - 1)]).flatten)) p5 = some (.lst ((List.replicate kinds.length (2 ^ D - 1)).map nv)) := by
    rw [upd_same, Int.toNat_natCast, rep_one, List.map_replicate]
  have s35 := s4.trans s5
  generalize (upd (upd H3 p4 (.lst [nv (2 ^ D - 1)])) p5 (.lst (List.replicate ((kinds.length : Int)).toNat [nv (2 ^ D - 1)]).flatten)) = H5 at s35 g5 ⊢
  intro x dx2 nx nd ne
  have s7 := made_at (C := He.ga K "State") nx nd
  exact ⟨x, dx2, p1, p3, p5, kinds, _, _, rfl, upd_same, rfl, rfl, rfl, s7 _ _ (s35 _ _ (s13 _ _ g1)), s7 _ _ (s35 _ _ g3), s7 _ _ g5, fun H' sb hx => ⟨rfl, q _ _ (made_same ((s1.trans s13).trans s35) nx nd sb) (made_state nx nd sb hx (s35 _ _ (s13 _ _ g1)) (s35 _ _ g3) g5)⟩⟩
theorem rd_are_lookers {K : Frag} {mg : Str → Option Value} (T : Txt K mg) {b t : V} {H : Hp} {Q : VK} (h : ph_are_lookers K b t H Q) : t_are_lookers K (De Q) [some b, some t] H := by
  obtain ⟨exits, D, rs, B, hD1, hD, ht, q⟩ := h
  obtain ⟨a, dx, b1, o, r, w, hh, y, rfl, h1, h2, h3, h4, h5, h6, h7⟩ := B.ex
  obtain ⟨ao, rfl, ho⟩ := h3.lot
  have th := Th.lot ht
  obtain ⟨at1, rfl, hat⟩ := ht.lot
  unfold t_are_lookers
  walk_at "rd"
  have el : ((List.replicate D 0).map nv).length = D := by simp
  refine ⟨_, rfl, _, rfl, a, _, dx, _, _, rfl, h1, T.c_RawBook, T.n_RawBook_kept_owners, by rfl, ao, _, 0, rfl, SqT.of ho, by omega, by omega, fun x hx => ?_, ?_⟩
  · obtain ⟨n, hn, rfl⟩ := List.mem_map.mp hx
    rw [(List.mem_replicate.mp hn).2]; rfl
  · refine ⟨_, _, rfl, rfl, _, 1, th, rfl, ?_⟩
    refine ⟨true, by rfl, iteT ⟨_, rfl, at1, _, rfl, .inr (SqT.of hat), _, _, rfl, rfl, q⟩⟩
end NB
set_option pp.maxSteps 900
set_option Elab.async false
set_option linter.all false
set_option maxRecDepth 100000
set_option maxHeartbeats 4000000
namespace NB
open PySem PyProof.Rows L2
local macro_rules | `(tactic| walk_at "rd") => `(tactic| dsimp only [De, tSeq, tNext, tAsg, tIfS, tRet, tRetN, tDrop, tBreak, tCont, tAug, ipI, gName, gNil, gCons, gTup, gSub, tVar, tC, tOp, tUn, tTest, tB, tTru, tNot, tAnd, tOr, tNotV, tAndV, tOrV, tChain, tCons, tNil, tCB, tCall, tMeth, tMake, tTup, tLst, tFld, sFld, tDGet, tDIn, tDNotIn, sDPut, tDNewK, tDNewT, tBM, tBM0, tSl, tPart, tNoPart, tYes, iList, iTup, iRng1, iRng2, iEnum, iEnumT, iSeq, RZ.iZipA, rMaxT, rRepA, rIn, tLstRg, tRg1, tRevT, rI0, rI, rU, rAddI, rSubI, rMulI, rDivI, rModI, rPowI, rShlI, rShrI, rAndI, rOrI, rLtI, rLeI, rGtI, rGeI, rNegI, rInvI, rEq, rNe, rLenS, rListS, rTupleS, rInt1, rBool1, rStrI, rAbsI, rAll, rAny, rAppend, rExtend, rPopAt, rRep, rIxL, rIxT, rSetL, rSlL, rSlA, rCatA, rEqD, rNeD, List.cons_append, List.nil_append, List.append_nil])
local macro_rules | `(tactic| walk_at "rs") => `(tactic| dsimp only [De, tSeq, tNext, tAsg, tIfS, tRet, tRetN, tDrop, tBreak, tCont, tAug, ipI, gName, gNil, gCons, gTup, gSub, tVar, tC, tOp, tUn, tTest, tB, tTru, tNot, tAnd, tOr, tNotV, tAndV, tOrV, tChain, tCons, tNil, tCB, tCall, tMeth, tMake, tTup, tLst, tFld, sFld, tDGet, tDIn, tDNotIn, sDPut, tDNewK, tDNewT, tBM, tBM0, tSl, tPart, tNoPart, tYes, iList, iTup, iRng1, iRng2, iEnum, iEnumT, iSeq, RZ.iZipA, rMaxT, rRepA, rIn, tLstRg, tRg1, tRevT, rI0, rI, rU, rAddI, rSubI, rMulI, rDivI, rModI, rPowI, rShlI, rShrI, rAndI, rOrI, rLtI, rLeI, rGtI, rGeI, rNegI, rInvI, rEq, rNe, rLenS, rListS, rTupleS, rInt1, rBool1, rStrI, rAbsI, rAll, rAny, rAppend, rExtend, rPopAt, rRep, rIxL, rIxT, rSetL, rSlL, rCatA, rEqD, rNeD, List.cons_append, List.nil_append, List.append_nil])
theorem sc_RawBook_owners : FnScope ["self"] ["self"] (defScope s_RawBook_owners) := ⟨rfl, rfl, rfl, by decide +kernel, rfl, by decide +kernel, by decide +kernel⟩
def t_RawBook_owners (K : PySem.W.Frag) : TS :=
  (tRet (tFld K (tVar 0) "kept_owners"))
theorem sc_RawBook_rules : FnScope ["self"] ["self"] (defScope s_RawBook_rules) := ⟨rfl, rfl, rfl, by decide +kernel, rfl, by decide +kernel, by decide +kernel⟩
def t_RawBook_rules (K : PySem.W.Frag) : TS :=
  (tRet (tFld K (tVar 0) "kept_rules"))
theorem sc_RawBook_rewriters : FnScope ["self"] ["self"] (defScope s_RawBook_rewriters) := ⟨rfl, rfl, rfl, by decide +kernel, rfl, by decide +kernel, by decide +kernel⟩
def t_RawBook_rewriters (K : PySem.W.Frag) : TS :=
  (tRet (tFld K (tVar 0) "kept_rewriters"))
theorem sc_all_mask : FnScope ["book"] ["book"] (defScope s_all_mask) := ⟨rfl, rfl, rfl, by decide +kernel, rfl, by decide +kernel, by decide +kernel⟩
def t_all_mask (K : PySem.W.Frag) : TS :=
  (tRet (tOp rSubI (tOp rShlI (tC (.int 1)) (tCB (rLenS K) (tCons (tFld K (tVar 0) "kept_owners") tNil))) (tC (.int 1))))
theorem sc_own_mask : FnScope ["book", "lookers", "doubt", "looker"] ["book", "lookers"] (defScope s_own_mask) := ⟨rfl, rfl, rfl, by decide +kernel, rfl, by decide +kernel, by decide +kernel⟩
def t_own_mask (K : PySem.W.Frag) : TS :=
  (tRet (tCall (sp_mask_of K) [] E0 (tCons (tLc (iEnumT K (tCons (tFld K (tVar 0) "kept_owners") tNil)) (gTup K 2 (gCons (gName 2) (gCons (gName 3) gNil))) (tTest (tOp (rIn K false) (tVar 3) (tVar 1))) (tVar 2) [2, 3]) tNil)))
theorem sc_is_open : FnScope ["state", "place", "exit_number"] ["state", "place", "exit_number"] (defScope s_is_open) := ⟨rfl, rfl, rfl, by decide +kernel, rfl, by decide +kernel, by decide +kernel⟩
def t_is_open (K : PySem.W.Frag) : TS :=
  (tRet (tOp rEq (tOp rAndI (tOp rShrI (tOp (rIxL K) (tFld K (tVar 0) "shut") (tVar 1)) (tVar 2)) (tC (.int 1))) (tC (.int 0))))
theorem sc_Bag_eq : FnScope ["self", "other"] ["self", "other"] (defScope s_Bag_eq) := ⟨rfl, rfl, rfl, by decide +kernel, rfl, by decide +kernel, by decide +kernel⟩
def t_Bag_eq (K : PySem.W.Frag) : TS :=
  (tRet (tAndV (tCB (rIsi K) (tCons (tVar 1) (tCons (tC (.ref (He.ga K "Bag"))) tNil))) (tOp (rEqD K) (tFld K (tVar 0) "kept_exits") (tFld K (tVar 1) "kept_exits"))))
theorem sc_on_states : FnScope ["machine", "lot", "many"] ["machine", "lot"] (defScope s_on_states) := ⟨rfl, rfl, rfl, by decide +kernel, rfl, by decide +kernel, by decide +kernel⟩
def t_on_states (K : PySem.W.Frag) : TS :=
  (tSeq (tAsg (tFld K (tVar 0) "kept_many") (gName 2))
    (tRet (tOp rAndI (tOp rAndI (tVar 1) (tOp rShrI (tVar 1) (tVar 2))) (tOp rSubI (tOp rShlI (tC (.int 1)) (tVar 2)) (tC (.int 1))))))
theorem sc_State_init : FnScope ["self", "kinds", "closed", "lots"] ["self", "kinds", "closed", "lots"] (defScope s_State_init) := ⟨rfl, rfl, rfl, by decide +kernel, rfl, by decide +kernel, by decide +kernel⟩
def t_State_init (K : PySem.W.Frag) : TS :=
  (tSeq (sFld K (tVar 0) (tVar 1) "sorts")
    (tSeq (sFld K (tVar 0) (tVar 2) "shut")
    (sFld K (tVar 0) (tVar 3) "lots")))
theorem sc_Program_keep : FnScope ["self", "bag", "kinds", "ways"] ["self", "bag", "kinds", "ways"] (defScope s_Program_keep) := ⟨rfl, rfl, rfl, by decide +kernel, rfl, by decide +kernel, by decide +kernel⟩
def t_Program_keep (K : PySem.W.Frag) : TS :=
  (tSeq (sFld K (tVar 0) (tVar 1) "kept_bag")
    (tSeq (sFld K (tVar 0) (tVar 2) "kept_kinds")
    (sFld K (tVar 0) (tVar 3) "kept_ways")))
theorem rd_RawBook_owners {K : Frag} {mg : Str → Option Value} (T : Txt K mg) {v : V} {H : Hp} {Q : VK} (h : ph_RawBook_owners K v H Q) : t_RawBook_owners K (De Q) [some v] H := by
  obtain ⟨exits, D, rs, B, q⟩ := h
  obtain ⟨a, dx, b, o, r, w, hh, y, rfl, h1, h2, h3, h4, h5, h6, h7⟩ := B.ex
  unfold t_RawBook_owners
  walk_at "rd"
  exact ⟨_, rfl, a, _, dx, _, o, rfl, h1, T.c_RawBook, T.n_RawBook_kept_owners, by rfl, q o h3⟩
theorem rd_RawBook_rules {K : Frag} {mg : Str → Option Value} (T : Txt K mg) {v : V} {H : Hp} {Q : VK} (h : ph_RawBook_rules K v H Q) : t_RawBook_rules K (De Q) [some v] H := by
  obtain ⟨exits, D, rs, B, q⟩ := h
  obtain ⟨a, dx, b, o, r, w, hh, y, rfl, h1, h2, h3, h4, h5, h6, h7⟩ := B.ex
  unfold t_RawBook_rules
  walk_at "rd"
  exact ⟨_, rfl, a, _, dx, _, r, rfl, h1, T.c_RawBook, T.n_RawBook_kept_rules, by rfl, q r h4⟩
theorem rd_RawBook_rewriters {K : Frag} {mg : Str → Option Value} (T : Txt K mg) {v : V} {H : Hp} {Q : VK} (h : ph_RawBook_rewriters K v H Q) : t_RawBook_rewriters K (De Q) [some v] H := by
  obtain ⟨exits, D, rs, B, q⟩ := h
  obtain ⟨a, dx, b, o, r, w, hh, y, rfl, h1, h2, h3, h4, h5, h6, h7⟩ := B.ex
  unfold t_RawBook_rewriters
  walk_at "rd"
  exact ⟨_, rfl, a, _, dx, _, w, rfl, h1, T.c_RawBook, T.n_RawBook_kept_rewriters, by rfl, q w h5⟩
theorem rd_all_mask {K : Frag} {mg : Str → Option Value} (T : Txt K mg) {v : V} {H : Hp} {Q : VK} (h : ph_all_mask K v H Q) : t_all_mask K (De Q) [some v] H := by
  obtain ⟨exits, D, rs, B, hD, q⟩ := h
  obtain ⟨a, dx, b, o, r, w, hh, y, rfl, h1, h2, h3, h4, h5, h6, h7⟩ := B.ex
  obtain ⟨ao, rfl, ho⟩ := h3.lot
  unfold t_all_mask
  walk_at "rd"
  have el : ((List.replicate D 0).map nv).length = D := by simp
  refine ⟨_, rfl, a, _, dx, _, _, rfl, h1, T.c_RawBook, T.n_RawBook_kept_owners, by rfl, ao, _, rfl, .inr (SqT.of ho), _, _, rfl, rfl, ⟨by omega, by rw [el]; omega, by decide⟩, _, _, rfl, rfl, ?_⟩
  have e : (1 * 2 ^ ((((List.replicate D 0).map nv).length : Nat) : Int).toNat : Int) - 1 = ((2 ^ D - 1 : Nat) : Int) := by
    have := Nat.two_pow_pos D
    rw [el, Int.toNat_natCast, Int.one_mul, show ((2 : Int) ^ D) = ((2 ^ D : Nat) : Int) by simp]
    omega
  show Q (V.int (1 * 2 ^ ((((List.replicate D 0).map nv).length : Nat) : Int).toNat - 1)) H
  rw [e]
  exact q
theorem rd_own_mask {K : Frag} {mg : Str → Option Value} (T : Txt K mg) {v l : V} {H : Hp} {Q : VK} (h : ph_own_mask K v l H Q) : t_own_mask K (De Q) [some v, some l, none, none] H := by
  obtain ⟨exits, D, rs, B, hD, hl, q⟩ := h
  obtain ⟨a, dx, b, o, r, w, hh, y, rfl, h1, h2, h3, h4, h5, h6, h7⟩ := B.ex
  obtain ⟨ao, rfl, ho⟩ := h3.lot
  obtain ⟨al, rfl, hal⟩ := hl.lot
  unfold t_own_mask
  walk_at "rd"
  have el : ((List.replicate D 0).map nv).length = D := by simp
  refine ⟨_, rfl, a, _, dx, _, _, rfl, h1, T.c_RawBook, T.n_RawBook_kept_owners, by rfl, ao, _, rfl, SqT.of ho, fun Dl nD => ?_⟩
  refine lc_it walk_enumT (fun i H' => Same H H' ∧ H' Dl = some (.lst ((List.range i).map nv))) ⟨Same.new nD, upd_same⟩ (fun i H' _ p => SqT.of (p.1 _ _ ho)) ?_ ?_
  · rintro i x H1 H2 hi ⟨s, hDl⟩ ⟨Tt, x1, y1, rfl, nT, rfl, e1, e2⟩
    cases e1
    obtain ⟨n, hn, rfl⟩ := of_getElem?_nats e2
    have hn0 : n = 0 := by
      rw [List.getElem?_replicate] at hn
      split at hn
      · exact (Option.some.inj hn).symm
      · cases hn
    subst hn0
    have nDT : Dl ≠ Tt := ne_of_none hDl nT
    refine ⟨Tt, _, rfl, SqT.of upd_same, rfl, _, _, rfl, _, _, rfl, rfl, rfl, _, rfl, _, rfl, al, _, rfl, .inr (SqT.of ((s.snew nT) _ _ hal)), rfl, by rfl, true, rfl, ?_⟩
    refine iteT ⟨_, rfl, _, Eq.trans (upd_ne nDT) hDl, ?_, ?_, ?_⟩
    · rw [List.length_map, List.length_range]
      have : i < D := by rw [el] at hi; exact hi
      exact smaller (by omega)
    · exact (s.snew nT).mut nD
    · rw [List.range_succ, List.map_append]
      exact upd_same
  · rintro H1 ⟨s, hDl⟩
    rw [el] at hDl
    refine ⟨Dl, List.range D, rfl, .inr hDl, fun x hx => ?_, ?_⟩
    · have := List.mem_range.mp hx; omega
    · rw [maskOf_range]
      exact q _ s
theorem rd_is_open {K : Frag} {mg : Str → Option Value} (T : Txt K mg) {s p e : V} {H : Hp} {Q : VK} (h : ph_is_open K s p e H Q) : t_is_open K (De Q) [some s, some p, some e] H := by
  obtain ⟨kinds, lots, n, i, j, S, rfl, hi, rfl, q⟩ := h
  obtain ⟨a, dx, l1, l2, l3, rfl, h0, h1, h2, h3⟩ := S.ex
  unfold t_is_open
  walk_at "rd"
  have hg : ((List.replicate n 0).map nv)[i]? = some (nv 0) := getElem?_nats (by rw [List.getElem?_replicate, if_pos hi])
  refine ⟨_, rfl, a, _, dx, _, _, rfl, h0, T.c_State, T.n_State_shut, by rfl, _, rfl, l2, _, _, _, rfl, rfl, SqL.of h2, atI_nat hg, _, rfl, _, _, rfl, rfl, Int.natCast_nonneg _, _, _, rfl, rfl, rfl, ?_⟩
  have e : Builtin.bitAnd (((0 : Nat) : Int) / 2 ^ ((j : Nat) : Int).toNat) 1 = 0 := by
    rw [show (((0 : Nat) : Int)) = 0 by rfl, Int.zero_ediv]; decide
  show Q (V.bl (decide (V.int (Builtin.bitAnd (((0 : Nat) : Int) / 2 ^ ((j : Nat) : Int).toNat) 1) = V.int 0))) H
  rw [e]
  exact q
theorem rd_Bag_eq {K : Frag} {mg : Str → Option Value} (T : Txt K mg) {x y : V} {H : Hp} {Q : VK} (h : ph_Bag_eq K x y H Q) : t_Bag_eq K (De Q) [some x, some y] H := by
  obtain ⟨exits, B1, B2, q⟩ := h
  obtain ⟨a1, d1, x1, rfl, h1, g1⟩ := B1.ex
  obtain ⟨a2, d2, x2, rfl, h2, g2⟩ := B2.ex
  unfold t_Bag_eq
  walk_at "rd"
  obtain ⟨gi1, gi2⟩ := T.i_Bag
  have ty : TyX K H (.ref a2) (.ref (He.ga K "Bag")) := .base (.ins h2 T.c_Bag gi1 (by rfl) (by rfl) gi2)
  refine ⟨_, rfl, _, _, _, _, true, rfl, .own _, ty, ?_, true, rfl, iteT ⟨_, rfl, a1, _, d1, _, _, rfl, h1, T.c_Bag, T.n_Bag_kept_exits, by rfl, _, rfl, a2, _, d2, _, _, rfl, h2, T.c_Bag, T.n_Bag_kept_exits, by rfl, _, _, g1.dp, g2.dp, ?_, ?_, ?_⟩⟩
  · unfold PySem.W.kitOne
    rw [if_pos (by simp)]
  · exact Shp.ok (n := 1) Shp.lot
  · exact Shp.ok (n := 1) Shp.lot
  · rw [Shp.eqv (n := 1) Shp.lot]
    exact q
theorem rd_on_states {K : Frag} {mg : Str → Option Value} (T : Txt K mg) {m l : V} {H : Hp} {Q : VK} (h : ph_on_states K m l H Q) : t_on_states K (De Q) [some m, some l, none] H := by
  obtain ⟨exits, mm, x, M, hm, rfl, q⟩ := h
  obtain ⟨a, dx, b, s, t, rfl, h1, h2, h3, h4⟩ := M.ex
  unfold t_on_states
  walk_at "rd"
  refine ⟨_, rfl, a, _, dx, _, _, rfl, h1, T.c_Machine, T.n_Machine_kept_many, by rfl, _, rfl, _, rfl, _, rfl, _, _, rfl, rfl, Int.natCast_nonneg _, _, _, rfl, rfl, _, rfl, _, _, rfl, rfl, ⟨by omega, by omega, by decide⟩, _, _, rfl, rfl, _, _, rfl, rfl, ?_⟩
  have e1 : ((x : Nat) : Int) / 2 ^ ((mm.many : Nat) : Int).toNat = ((x / 2 ^ mm.many : Nat) : Int) := by
    rw [Int.toNat_natCast, show ((2 : Int) ^ mm.many) = ((2 ^ mm.many : Nat) : Int) by simp, ← Int.natCast_ediv]
  have e2 : (1 * 2 ^ ((mm.many : Nat) : Int).toNat : Int) - 1 = ((2 ^ mm.many - 1 : Nat) : Int) := by
    have := Nat.two_pow_pos mm.many
    rw [Int.toNat_natCast, Int.one_mul, show ((2 : Int) ^ mm.many) = ((2 ^ mm.many : Nat) : Int) by simp]
    omega
  show Q (V.int (Builtin.bitAnd (Builtin.bitAnd (x : Int) ((x : Int) / 2 ^ ((mm.many : Nat) : Int).toNat)) (1 * 2 ^ ((mm.many : Nat) : Int).toNat - 1))) H
  rw [e1, e2, b_and, b_and]
  exact q
theorem rd_State_init {K : Frag} {mg : Str → Option Value} (T : Txt K mg) {v k c l : V} {H : Hp} {Q : VK} (h : ph_State_init K v k c l H Q) : t_State_init K (De Q) [some v, some k, some c, some l] H := by
  obtain ⟨a, dx, l1, l2, l3, kinds, shut, lots, rfl, h0, rfl, rfl, rfl, h1, h2, h3, q⟩ := h
  unfold t_State_init
  walk_at "rd"
  refine ⟨_, rfl, _, rfl, a, _, dx, _, rfl, h0, T.c_State, T.n_State_sorts, by decide, _, rfl, _, rfl, a, _, dx, _, rfl, upd_same, T.c_State, T.n_State_shut, lpn (lp lp0), _, rfl, _, rfl, a, _, dx, _, rfl, upd_same, T.c_State, T.n_State_lots, lpn (lp (lp lp0)), ?_⟩
  rw [updupd, updupd]
  have n1 : l1 ≠ a := ne_of h1 h0 (by intro z; cases z)
  have n2 : l2 ≠ a := ne_of h2 h0 (by intro z; cases z)
  have n3 : l3 ≠ a := ne_of h3 h0 (by intro z; cases z)
  exact q _ SameBut.put upd_same
theorem rd_Program_keep {K : Frag} {mg : Str → Option Value} (T : Txt K mg) {v b k w : V} {H : Hp} {Q : VK} (h : ph_Program_keep K v b k w H Q) : t_Program_keep K (De Q) [some v, some b, some k, some w] H := by
  obtain ⟨a, dx, exits, kinds, ways, rfl, h0, B, hk, hw, q⟩ := h
  unfold t_Program_keep
  walk_at "rd"
  refine ⟨_, rfl, _, rfl, a, _, dx, _, rfl, h0, T.c_Program, T.n_Program_kept_bag, by decide, _, rfl, _, rfl, a, _, dx, _, rfl, upd_same, T.c_Program, T.n_Program_kept_kinds, lpn (lp lp0), _, rfl, _, rfl, a, _, dx, _, rfl, upd_same, T.c_Program, T.n_Program_kept_ways, lpn (lp (lp lp0)), ?_⟩
  rw [updupd, updupd]
  have s : SameBut a H (upd H a (.ins (He.ga K "Program") dx (fProg b k w))) := SameBut.put
  have im : Im H (upd H a (.ins (He.ga K "Program") dx (fProg b k w))) := fun c xs e => s _ _ (fun z => by rw [z, h0] at e; cases e) e
  have nb : b ≠ .ref a := by
    obtain ⟨b', d, x, rfl, h1, h2⟩ := B.ex
    intro e
    cases e
    rw [h0] at h1
    injection (Option.some.inj h1) with _ _ e3
    cases e3
  exact q _ s ⟨a, dx, b, k, w, rfl, upd_same, B.but h0 nb s, hk.im im, hw.im im⟩
end NB
set_option pp.maxSteps 900
set_option Elab.async false
set_option linter.all false
set_option maxRecDepth 100000
set_option maxHeartbeats 4000000
namespace NB
open PySem PyProof.Rows L2
local macro_rules | `(tactic| walk_at "rd") => `(tactic| dsimp only [De, tSeq, tNext, tAsg, tIfS, tRet, tRetN, tDrop, tBreak, tCont, tAug, ipI, gName, gNil, gCons, gTup, gSub, tVar, tC, tOp, tUn, tTest, tB, tTru, tNot, tAnd, tOr, tNotV, tAndV, tOrV, tChain, tCons, tNil, tCB, tCall, tMeth, tMake, tTup, tLst, tFld, sFld, tDGet, tDIn, tDNotIn, sDPut, tDNewK, tDNewT, tBM, tBM0, tSl, tPart, tNoPart, tYes, iList, iTup, iRng1, iRng2, iEnum, iEnumT, iSeq, RZ.iZipA, rMaxT, rRepA, rIn, tLstRg, tRg1, tRevT, rI0, rI, rU, rAddI, rSubI, rMulI, rDivI, rModI, rPowI, rShlI, rShrI, rAndI, rOrI, rLtI, rLeI, rGtI, rGeI, rNegI, rInvI, rEq, rNe, rLenS, rListS, rTupleS, rInt1, rBool1, rStrI, rAbsI, rAll, rAny, rAppend, rExtend, rPopAt, rRep, rIxL, rIxT, rSetL, rSlL, rSlA, rCatA, rEqD, rNeD, List.cons_append, List.nil_append, List.append_nil])
local macro_rules | `(tactic| walk_at "rs") => `(tactic| dsimp only [De, tSeq, tNext, tAsg, tIfS, tRet, tRetN, tDrop, tBreak, tCont, tAug, ipI, gName, gNil, gCons, gTup, gSub, tVar, tC, tOp, tUn, tTest, tB, tTru, tNot, tAnd, tOr, tNotV, tAndV, tOrV, tChain, tCons, tNil, tCB, tCall, tMeth, tMake, tTup, tLst, tFld, sFld, tDGet, tDIn, tDNotIn, sDPut, tDNewK, tDNewT, tBM, tBM0, tSl, tPart, tNoPart, tYes, iList, iTup, iRng1, iRng2, iEnum, iEnumT, iSeq, RZ.iZipA, rMaxT, rRepA, rIn, tLstRg, tRg1, tRevT, rI0, rI, rU, rAddI, rSubI, rMulI, rDivI, rModI, rPowI, rShlI, rShrI, rAndI, rOrI, rLtI, rLeI, rGtI, rGeI, rNegI, rInvI, rEq, rNe, rLenS, rListS, rTupleS, rInt1, rBool1, rStrI, rAbsI, rAll, rAny, rAppend, rExtend, rPopAt, rRep, rIxL, rIxT, rSetL, rSlL, rCatA, rEqD, rNeD, List.cons_append, List.nil_append, List.append_nil])
theorem sc_is_move : FnScope ["book", "thing"] ["book", "thing"] (defScope s_is_move) := ⟨rfl, rfl, rfl, by decide +kernel, rfl, by decide +kernel, by decide +kernel⟩
def t_is_move (K : PySem.W.Frag) : TS :=
  (tSeq (tIfS (tOr (tNot (tB (tCB (rIsi K) (tCons (tVar 1) (tCons (tC (.ty "tuple")) tNil))))) (tOr (tTest (tOp (rIn K true) (tCB (rLenS K) (tCons (tVar 1) tNil)) (tTup (tCons (tC (.int 2)) (tCons (tC (.int 3)) tNil))))) (tNot (tB (tCB (rIsi K) (tCons (tOp (rIxT K) (tVar 1) (tC (.int 0))) (tCons (tC (.ty "str")) tNil))))))) (tRet (tC (.bl false))) tNext)
    (tSeq (tIfS (tTest (tOp rEq (tCB (rLenS K) (tCons (tVar 1) tNil)) (tC (.int 2)))) (tRet (tAndV (tOp (rIn K false) (tOp (rIxT K) (tVar 1) (tC (.int 0))) (tTup (tCons (tC (.str "turn")) (tCons (tC (.str "sweep")) tNil)))) (tCall (sp_are_lookers K) [] E0 (tCons (tVar 0) (tCons (tOp (rIxT K) (tVar 1) (tC (.int 1))) tNil))))) tNext)
    tNever))
theorem sc_is_row : FnScope ["book", "thing", "move"] ["book", "thing"] (defScope s_is_row) := ⟨rfl, rfl, rfl, by decide +kernel, rfl, by decide +kernel, by decide +kernel⟩
def t_is_row (K : PySem.W.Frag) : TS :=
  (tSeq (tIfS (tOr (tNot (tB (tCB (rIsi K) (tCons (tVar 1) (tCons (tC (.ty "tuple")) tNil))))) (tTest (tOp rGtI (tCB (rLenS K) (tCons (tVar 1) tNil)) (tC (.int 5))))) (tRet (tC (.bl false))) tNext)
    (tRet (tCB (rAll K) (tCons (tLc (iTup K (tVar 1)) (gName 2) tYes (tCall (sp_is_move K) [] E0 (tCons (tVar 0) (tCons (tVar 2) tNil))) [2]) tNil))))
theorem sc_check_row : FnScope ["book", "thing"] ["book", "thing"] (defScope s_check_row) := ⟨rfl, rfl, rfl, by decide +kernel, rfl, by decide +kernel, by decide +kernel⟩
def t_check_row (K : PySem.W.Frag) : TS :=
  (tIfS (tNot (tB (tCall (sp_is_row K) [] E0 (tCons (tVar 0) (tCons (tVar 1) tNil))))) tNever tNext)
theorem sc_move_on : FnScope ["book", "ways", "state", "move"] ["book", "ways", "state", "move"] (defScope s_move_on) := ⟨rfl, rfl, rfl, by decide +kernel, rfl, by decide +kernel, by decide +kernel⟩
def t_move_on (K : PySem.W.Frag) : TS :=
  (tSeq (tIfS (tTest (tOp rEq (tOp (rIxT K) (tVar 3) (tC (.int 0))) (tC (.str "turn")))) (tRet (tCall (sp_turn_state K) [] E0 (tCons (tVar 0) (tCons (tVar 1) (tCons (tVar 2) (tCons (tCall (sp_own_mask K) [] E0 (tCons (tVar 0) (tCons (tOp (rIxT K) (tVar 3) (tC (.int 1))) tNil))) tNil)))))) tNext)
    tNever)
theorem sc_turn_state : FnScope ["book", "ways", "state", "own"] ["book", "ways", "state", "own"] (defScope s_turn_state) := ⟨rfl, rfl, rfl, by decide +kernel, rfl, by decide +kernel, by decide +kernel⟩
def t_turn_state (K : PySem.W.Frag) : TS :=
  (tRet (tMake (He.ga K "State") (sp_State_init K) [] E0 (tCons (tCB (rListS K) (tCons (tFld K (tVar 2) "sorts") tNil)) (tCons (tCB (rListS K) (tCons (tFld K (tVar 2) "shut") tNil)) (tCons (tOp (rIxT K) (tCall (sp_turn_rounds K) [] E0 (tCons (tVar 0) (tCons (tVar 1) (tCons (tVar 2) (tCons (tVar 3) tNil))))) (tC (.int 0))) tNil)))))
theorem sc_states_of : FnScope ["book", "program", "row", "found", "move"] ["book", "program", "row"] (defScope s_states_of) := ⟨rfl, rfl, rfl, by decide +kernel, rfl, by decide +kernel, by decide +kernel⟩
def t_states_of (K : PySem.W.Frag) : TS :=
  (tSeq (tAsg (tLst (tCons (tCall (sp_begin_state K) [] E0 (tCons (tVar 0) (tCons (tVar 1) tNil))) tNil)) (gName 3))
    (tSeq (tFor (iTup K (tVar 2)) (gName 4) (tDrop (tBM K "list" rAppend (tVar 3) (tCons (tCall (sp_move_on K) [] E0 (tCons (tVar 0) (tCons (tFld K (tVar 1) "kept_ways") (tCons (tOp (rIxL K) (tVar 3) (tUn rNegI (tC (.int 1)))) (tCons (tVar 4) tNil))))) tNil))))
    (tRet (tVar 3))))
theorem move_inv {H : Hp} {t : V} (h : Dt H t eMove) : ∃ a l, t = .ref a ∧ H a = some (.tup [.str "turn", l]) ∧ Dt H l (eL [0]) := by
  obtain ⟨a, xs, rfl, h1, h2⟩ := h.tup_inv
  cases h2 with
  | cons x r =>
    cases x with
    | str =>
      cases r with
      | cons y r =>
        cases r with
        | nil => exact ⟨a, _, rfl, h1, y⟩
theorem row_inv {H : Hp} {t : V} (h : Dt H t (.tuple [eMove])) : ∃ a m, t = .ref a ∧ H a = some (.tup [m]) ∧ Dt H m eMove := by
  obtain ⟨a, xs, rfl, h1, h2⟩ := h.tup_inv
  cases h2 with
  | cons x r =>
    cases r with
    | nil => exact ⟨a, _, rfl, h1, x⟩
theorem isS {K : Frag} {H : Hp} {x : Str} {Q : VK} (q : Q (.bl true) H) : rIsi K [.str x, .ty "str"] H Q := ⟨_, _, _, _, true, rfl, .ty _, .base (.str x), kit_ty (by decide +kernel), q⟩
theorem rd_is_move {K : Frag} {mg : Str → Option Value} (T : Txt K mg) {b t : V} {H : Hp} {Q : VK} (h : ph_is_move K b t H Q) : t_is_move K (De Q) [some b, some t] H := by
  obtain ⟨exits, D, rs, B, hD1, hD, ht, q⟩ := h
  obtain ⟨a, l, rfl, hat, hl⟩ := move_inv ht
  unfold t_is_move
  walk_at "rd"
  refine ⟨_, rfl, isT hat ⟨true, rfl, iteF ?_⟩⟩
  refine ⟨_, rfl, a, _, rfl, .inr (SqT.of hat), by show 2 ≤ sizeLine; decide, fun p1 n1 => ?_⟩
  have s1 : Same H (upd H p1 (.tup [.int 2, .int 3])) := Same.new n1
  refine ⟨p1, _, rfl, .inr (SqT.of upd_same), rfl, by rfl, false, by rfl, iteF ?_⟩
  generalize upd H p1 (.tup [.int 2, .int 3]) = H1 at s1 ⊢
  refine ⟨_, rfl, a, _, _, _, rfl, rfl, SqT.of (s1 _ _ hat), atI_nat (j := 0) rfl, isS ⟨true, rfl, iteF ?_⟩⟩
  refine ⟨_, rfl, a, _, rfl, .inr (SqT.of (s1 _ _ hat)), rfl, true, by rfl, iteT ?_⟩
  refine ⟨_, rfl, a, _, _, _, rfl, rfl, SqT.of (s1 _ _ hat), atI_nat (j := 0) rfl, by show 2 ≤ sizeLine; decide, fun p2 n2 => ?_⟩
  have s2 : Same H1 (upd H1 p2 (.tup [.str "turn", .str "sweep"])) := Same.new n2
  refine ⟨p2, _, rfl, .inr (SqT.of upd_same), rfl, by rfl, true, by rfl, iteT ?_⟩
  generalize upd H1 p2 (.tup [.str "turn", .str "sweep"]) = H2 at s2 ⊢
  have s := s1.trans s2
  refine ⟨_, rfl, _, rfl, a, _, _, _, rfl, rfl, SqT.of (s _ _ hat), atI_nat (j := 1) rfl, exits, D, rs, B.same s, hD1, hD, hl.same s, q _ s⟩
theorem rd_is_row {K : Frag} {mg : Str → Option Value} (T : Txt K mg) {b t : V} {H : Hp} {Q : VK} (h : ph_is_row K b t H Q) : t_is_row K (De Q) [some b, some t, none] H := by
  obtain ⟨exits, D, rs, B, hD1, hD, ht, q⟩ := h
  obtain ⟨a, m, rfl, hat, hm⟩ := row_inv ht
  unfold t_is_row
  walk_at "rd"
  refine ⟨_, rfl, isT hat ⟨true, rfl, iteF ?_⟩⟩
  refine ⟨_, rfl, a, _, rfl, .inr (SqT.of hat), _, _, rfl, rfl, false, by rfl, iteF ?_⟩
  refine ⟨_, rfl, a, rfl, ⟨_, SqT.of hat⟩, fun Dl nD => ?_⟩
  refine lc_rel (walk_tup (K := K) (a := a) (xs := [m])) nD (fun _ y _ => y = .bl true) (by show 1 ≤ 100000; decide) (fun _ _ _ _ _ _ _ h => h) (fun H' s => SqT.of (s _ _ hat)) ?_ ?_
  · rintro i x H1 H2 Kk hi s hne ⟨rfl, hx⟩ hK
    have : x = m := by
      have h0 : i = 0 := by have : i < 1 := hi; omega
      rw [h0] at hx
      exact (Option.some.inj hx).symm
    subst this
    refine ⟨rfl, _, rfl, _, rfl, exits, D, rs, B.same s, hD1, hD, hm.same s, fun H3 s3 => hK _ _ s3 rfl⟩
  · rintro H1 ys s hDl hl hr
    have ey : ys = [V.bl true] := by
      match ys, hl with
      | [y], _ => rw [hr 0 y rfl]
    refine ⟨Dl, [true], rfl, SqL.of (by rw [hDl, ey]; rfl), q _ s⟩
theorem rd_check_row {K : Frag} {mg : Str → Option Value} (T : Txt K mg) {b t : V} {H : Hp} {Q : VK} (h : ph_check_row K b t H Q) : t_check_row K (De Q) [some b, some t] H := by
  obtain ⟨exits, D, rs, B, hD1, hD, ht, q⟩ := h
  unfold t_check_row
  walk_at "rd"
  exact ⟨_, rfl, _, rfl, exits, D, rs, B, hD1, hD, ht, fun H' s => ⟨true, rfl, iteF (q _ s)⟩⟩
theorem rd_move_on {K : Frag} {mg : Str → Option Value} (T : Txt K mg) {b w s o : V} {H : Hp} {Q : VK} (h : ph_move_on K b w s o H Q) : t_move_on K (De Q) [some b, some w, some s, some o] H := by
  obtain ⟨exits, D, rs, kinds, ways, T0, hD, hd, hm, q⟩ := h
  obtain ⟨a, l, rfl, hat, hl⟩ := move_inv hm
  unfold t_move_on
  walk_at "rd"
  refine ⟨_, rfl, a, _, _, _, rfl, rfl, SqT.of hat, atI_nat (j := 0) rfl, by rfl, true, by rfl, iteT ?_⟩
  refine ⟨_, rfl, _, rfl, _, rfl, _, rfl, _, rfl, a, _, _, _, rfl, rfl, SqT.of hat, atI_nat (j := 1) rfl, exits, D, rs, T0.book, by omega, hl, fun H1 s1 => ?_⟩
  exact ⟨exits, D, rs, kinds, ways, ⟨T0.book.same s1, T0.way.same s1, T0.state.same s1, T0.xok, T0.pok, T0.rlen⟩, hD, hd, rfl, fun v L H2 s2 st fx => q v L H2 (s1.trans s2) (st.le s1) fx⟩
theorem rd_turn_state {K : Frag} {mg : Str → Option Value} (T : Txt K mg) {b w s o : V} {H : Hp} {Q : VK} (h : ph_turn_state K b w s o H Q) : t_turn_state K (De Q) [some b, some w, some s, some o] H := by
  obtain ⟨exits, D, rs, kinds, ways, T0, hD, hd, rfl, q⟩ := h
  obtain ⟨a, dx, l1, l2, l3, rfl, h0, h1, h2, h3⟩ := T0.state.ex
  unfold t_turn_state
  walk_at "rd"
  refine ⟨_, rfl, a, _, dx, _, _, rfl, h0, T.c_State, T.n_State_sorts, by rfl, l1, _, rfl, .inl (SqL.of h1), fun p1 n1 => ?_⟩
  have s1 : Same H (upd H p1 (.lst (kinds.map nv))) := Same.new n1
  have g1 : (upd H p1 (.lst (kinds.map nv))) p1 = some (.lst (kinds.map nv)) := upd_same
  generalize upd H p1 (.lst (kinds.map nv)) = H1 at s1 g1 ⊢
  refine ⟨_, rfl, a, _, dx, _, _, rfl, s1 _ _ h0, T.c_State, T.n_State_shut, by rfl, l2, _, rfl, .inl (SqL.of (s1 _ _ h2)), fun p2 n2 => ?_⟩
  have s2 : Same H1 (upd H1 p2 (.lst ((List.replicate kinds.length 0).map nv))) := Same.new n2
  have g2 : (upd H1 p2 (.lst ((List.replicate kinds.length 0).map nv))) p2 = some (.lst ((List.replicate kinds.length 0).map nv)) := upd_same
  generalize upd H1 p2 (.lst ((List.replicate kinds.length 0).map nv)) = H2 at s2 g2 ⊢
  have s12 := s1.trans s2
  refine ⟨_, rfl, _, rfl, _, rfl, _, rfl, exits, D, rs, kinds, ways, ⟨T0.book.same s12, T0.way.same s12, T0.state.same s12, T0.xok, T0.pok, T0.rlen⟩, hD, hd, rfl, fun pa pl r L H3 s3 ha nl hl fx => ?_⟩
  refine ⟨pa, _, _, _, rfl, rfl, SqT.of ha, atI_nat (j := 0) rfl, ?_⟩
  intro x dx2 nx nd ne
  have s7 := made_at (C := He.ga K "State") nx nd
  exact ⟨x, dx2, p1, p2, pl, kinds, _, L, rfl, upd_same, rfl, rfl, rfl, s7 _ _ (s3 _ _ (s2 _ _ g1)), s7 _ _ (s3 _ _ g2), s7 _ _ hl, fun H' sb hx => ⟨rfl, q _ L _ (made_same (s12.trans s3) nx nd sb) (new_state (s12.trans s3) nx nd sb hx (s3 _ _ (s2 _ _ g1)) (s3 _ _ g2) hl n1 (s1.free n2) (s12.free nl)) fx⟩⟩
theorem rd_states_of {K : Frag} {mg : Str → Option Value} (T : Txt K mg) {b p r : V} {H : Hp} {Q : VK} (h : ph_states_of K b p r H Q) : t_states_of K (De Q) [some b, some p, some r, none, none] H := by
  obtain ⟨exits, D, rs, kinds, ways, B, P, xok, pok, hr, hD, hd, ht, q⟩ := h
  obtain ⟨a, m, rfl, hat, hm⟩ := row_inv ht
  have hk12 := pok.hi
  unfold t_states_of
  walk_at "rd"
  refine ⟨_, rfl, _, rfl, exits, D, rs, kinds, ways, B, P, by omega, by omega, fun v0 H1 s1 st0 => ?_⟩
  refine ⟨by show 1 ≤ sizeLine; decide, fun l nl => ?_⟩
  have s2 : Same H1 (upd H1 l (.lst [v0])) := Same.new nl
  have gl : (upd H1 l (.lst [v0])) l = some (.lst [v0]) := upd_same
  have nl0 : H l = none := s1.free nl
  generalize upd H1 l (.lst [v0]) = H2 at s2 gl ⊢
  have s12 := s1.trans s2
  refine ⟨_, rfl, a, rfl, ⟨_, SqT.of (s12 _ _ hat)⟩, for_tup (K := K) (xs := [m]) (fun i σ H' => Same H H' ∧ Same H1 H' ∧ ((i = 0 ∧ ∃ it, σ = [some b, some p, some (.ref a), some (.ref l), it] ∧ H' l = some (.lst [v0])) ∨ (i = 1 ∧ ∃ it v L, σ = [some b, some p, some (.ref a), some (.ref l), it] ∧ H' l = some (.lst [v0, v]) ∧ StateAt K H' v kinds (List.replicate kinds.length 0) L ∧ Fix exits rs kinds ways D L))) ⟨s12, s2, .inl ⟨rfl, none, rfl, gl⟩⟩ (fun i σ H' _ pp => SqT.of (pp.1 _ _ hat)) ?_ ?_⟩
  · rintro i x σ H' hi ⟨s, s1', (⟨rfl, it, rfl, hl⟩ | ⟨rfl, _⟩)⟩
    · have : x = m := (Option.some.inj hi).symm
      subst this
      obtain ⟨pa, pdx, b1, k, w, rfl, g1, g2, g3, g4⟩ := P.ex
      refine ⟨_, rfl, .inl ⟨rfl, _, SqL.of hl⟩, _, rfl, _, rfl, pa, _, pdx, _, _, rfl, s _ _ g1, T.c_Program, T.n_Program_kept_ways, by rfl, _, rfl, _, rfl, l, _, _, v0, rfl, rfl, SqL.of hl, by rfl, _, rfl, ?_⟩
      refine ⟨exits, D, rs, kinds, ways, ⟨B.same s, g4.same s, st0.same s1', xok, pok, hr⟩, hD, hd, hm.same s, fun v L H3 s3 st fx => ?_⟩
      refine ⟨l, _, _, rfl, rfl, s3 _ _ hl, by show 1 < sizeLine; decide, ?_⟩
      have nv' : H1 l = none := nl
      have sb : Same H1 (upd H3 l (.lst ([v0] ++ [v]))) := (s1'.trans s3).mut nv'
      exact ⟨(s.trans s3).mut nl0, sb, .inr ⟨rfl, _, v, L, rfl, upd_same, st.2 l _ (by rw [hl]; intro z; cases z), fx⟩⟩
    · cases hi
  · rintro σ H' ⟨s, s1', (⟨h0, _⟩ | ⟨_, it, v, L, rfl, hl, st, fx⟩)⟩
    · cases h0
    · exact ⟨_, rfl, q _ _ _ L _ s nl0 hl (st0.same s1') st fx⟩
end NB
set_option pp.maxSteps 900
set_option Elab.async false
set_option linter.all false
set_option maxRecDepth 100000
set_option maxHeartbeats 4000000
namespace NB
open PySem PyProof.Rows L2
local macro_rules | `(tactic| walk_at "rd") => `(tactic| dsimp only [De, tSeq, tNext, tAsg, tIfS, tRet, tRetN, tDrop, tBreak, tCont, tAug, ipI, gName, gNil, gCons, gTup, gSub, tVar, tC, tOp, tUn, tTest, tB, tTru, tNot, tAnd, tOr, tNotV, tAndV, tOrV, tChain, tCons, tNil, tCB, tCall, tMeth, tMake, tTup, tLst, tFld, sFld, tDGet, tDIn, tDNotIn, sDPut, tDNewK, tDNewT, tBM, tBM0, tSl, tPart, tNoPart, tYes, iList, iTup, iRng1, iRng2, iEnum, iEnumT, iSeq, RZ.iZipA, rMaxT, rRepA, rIn, tLstRg, tRg1, tRevT, rI0, rI, rU, rAddI, rSubI, rMulI, rDivI, rModI, rPowI, rShlI, rShrI, rAndI, rOrI, rLtI, rLeI, rGtI, rGeI, rNegI, rInvI, rEq, rNe, rLenS, rListS, rTupleS, rInt1, rBool1, rStrI, rAbsI, rAll, rAny, rAppend, rExtend, rPopAt, rRep, rIxL, rIxT, rSetL, rSlL, rSlA, rCatA, rEqD, rNeD, List.cons_append, List.nil_append, List.append_nil])
local macro_rules | `(tactic| walk_at "rs") => `(tactic| dsimp only [De, tSeq, tNext, tAsg, tIfS, tRet, tRetN, tDrop, tBreak, tCont, tAug, ipI, gName, gNil, gCons, gTup, gSub, tVar, tC, tOp, tUn, tTest, tB, tTru, tNot, tAnd, tOr, tNotV, tAndV, tOrV, tChain, tCons, tNil, tCB, tCall, tMeth, tMake, tTup, tLst, tFld, sFld, tDGet, tDIn, tDNotIn, sDPut, tDNewK, tDNewT, tBM, tBM0, tSl, tPart, tNoPart, tYes, iList, iTup, iRng1, iRng2, iEnum, iEnumT, iSeq, RZ.iZipA, rMaxT, rRepA, rIn, tLstRg, tRg1, tRevT, rI0, rI, rU, rAddI, rSubI, rMulI, rDivI, rModI, rPowI, rShlI, rShrI, rAndI, rOrI, rLtI, rLeI, rGtI, rGeI, rNegI, rInvI, rEq, rNe, rLenS, rListS, rTupleS, rInt1, rBool1, rStrI, rAbsI, rAll, rAny, rAppend, rExtend, rPopAt, rRep, rIxL, rIxT, rSetL, rSlL, rCatA, rEqD, rNeD, List.cons_append, List.nil_append, List.append_nil])
theorem sc_make_along : FnScope ["found", "lots", "place", "goals", "rules", "_", "far", "is_far", "bit", "to"] ["found", "lots", "place", "goals", "rules"] (defScope s_make_along) := ⟨rfl, rfl, rfl, by decide +kernel, rfl, by decide +kernel, by decide +kernel⟩
def t_make_along (K : PySem.W.Frag) : TS :=
  (tFor (iList K (tVar 4)) (gTup K 4 (gCons (gName 5) (gCons (gName 6) (gCons (gName 7) (gCons (gName 8) gNil))))) (tIfS (tB (tVar 7)) (tFor (iTup K (tVar 3)) (gName 9) (tIfS (tTest (tOp rEq (tOp rAndI (tVar 6) (tUn rInvI (tOp (rIxL K) (tVar 1) (tVar 9)))) (tC (.int 0)))) (tAsg (tOp rOrI (tOp (rIxL K) (tVar 0) (tVar 9)) (tVar 8)) (gSub (tVar 0) (tVar 9) rSetL)) tNext)) (tIfS (tB (tCB (rAny K) (tCons (tLc (iTup K (tVar 3)) (gName 9) tYes (tOp rEq (tOp rAndI (tVar 6) (tUn rInvI (tOp (rIxL K) (tVar 1) (tVar 9)))) (tC (.int 0))) [9]) tNil))) (tAsg (tOp rOrI (tOp (rIxL K) (tVar 0) (tVar 2)) (tVar 8)) (gSub (tVar 0) (tVar 2) rSetL)) tNext)))
/-- found[t] |= bit -/
theorem rd_make_along {K : Frag} {mg : Str → Option Value} (T : Txt K mg) {fv lv p g r : V} {H : Hp} {Q : VK} (h : ph_make_along K fv lv p g r H Q) : t_make_along K (De Q) [some fv, some lv, some p, some g, some r, none, none, none, none, none] H := by
  obtain ⟨lf, ll, lr, f, L, gs, i, rs, xs, rfl, rfl, rfl, nfl, nfr, hf, hL, rfl, hg, hr, hxs, efl, hi, hgs, hr1, hg1, q⟩ := h
  obtain ⟨ag, rfl, hag⟩ := hg.lot
  have exl := hxs.len
  unfold t_make_along
  walk_at "rd"
  refine ⟨_, rfl, lr, rfl, ⟨_, SqL.of hr⟩, for_list (K := K) (xs := xs) (fun j σ H' => SameBut lf H H' ∧ H' lf = some (.lst (((rs.take j).foldl (ruleStep L i gs) f).map nv)) ∧ ∃ a b c d e, σ = [some (.ref lf), some (.ref ll), some (nv i), some (.ref ag), some (.ref lr), a, b, c, d, e]) ⟨SameBut.refl _ _, hf, _, _, _, _, _, rfl⟩ (fun j σ H' _ pp => SqL.of (pp.1 _ _ nfr.symm hr)) ?_ ?_⟩
  · rintro j x σ H1 hj ⟨s, h1, a0, b0, c0, d0, e0, rfl⟩
    obtain ⟨w, hw, hd⟩ := hxs.at' hj
    obtain ⟨aw, rfl, haw⟩ := wr_inv hd
    have im := s.imL hf
    refine ⟨aw, _, rfl, SqT.of (im _ _ haw), rfl, _, _, rfl, _, _, rfl, _, _, rfl, _, _, rfl, rfl, ?_⟩
    show _
    have lenF : ((rs.take j).foldl (ruleStep L i gs) f).length = L.length := Eq.trans (makeAlong_len (L := L) (p := i) (g := gs)) efl
    have st := foldl_take (f := ruleStep L i gs) (b := f) hw
    generalize (rs.take j).foldl (ruleStep L i gs) f = F at h1 lenF st ⊢
    obtain ⟨wn, wf, wF, wb⟩ := w
    have agne : ag ≠ lf := ne_of hag hf (by intro z; cases z)
    have s1 := s
    refine ⟨_, rfl, wF, rfl, ?_⟩
    cases wF with
    | true =>
      refine iteT ⟨_, rfl, ag, rfl, ⟨_, SqT.of (im _ _ hag)⟩, for_tup (K := K) (xs := gs.map nv) (fun k σ H' => SameBut lf H H' ∧ H' lf = some (.lst (((gs.take k).foldl (goalStep L wf wb) F).map nv)) ∧ ∃ e, σ = [some (.ref lf), some (.ref ll), some (nv i), some (.ref ag), some (.ref lr), some (nv wn), some (nv wf), some (.bl true), some (nv wb), e]) ⟨s, h1, _, rfl⟩ (fun k σ H' _ pp => SqT.of (pp.1.imL hf _ _ hag)) ?_ ?_⟩
      · rintro k x σ H2 hk ⟨s2, h2, e0, rfl⟩
        obtain ⟨t, ht, rfl⟩ := of_getElem?_nats hk
        have tl : t < L.length := hgs t (List.mem_of_getElem? ht)
        have lenG : ((gs.take k).foldl (goalStep L wf wb) F).length = L.length := Eq.trans goalSteps_len lenF
        have st2 := foldl_take (f := goalStep L wf wb) (b := F) ht
        generalize (gs.take k).foldl (goalStep L wf wb) F = G at h2 lenG st2 ⊢
        have hb := eq_sub wf (L.getD t 0)
        refine ⟨_, rfl, _, rfl, _, rfl, ll, _, _, _, rfl, rfl, SqL.of (s2 _ _ nfl.symm hL), atI_nat (nats_at tl), _, rfl, _, _, rfl, rfl, rfl, _, rfl, ?_⟩
        rw [hb]
        cases hs : sub wf (L.getD t 0) with
        | true =>
          refine iteT ⟨_, rfl, _, rfl, lf, _, _, _, rfl, rfl, SqL.of h2, atI_nat (nats_at (by omega)), _, rfl, _, _, rfl, rfl, _, rfl, _, rfl, lf, _, _, _, rfl, rfl, h2, ixN_n (by rw [List.length_map]; omega), ?_⟩
          refine ⟨s2.trans SameBut.put, ?_, _, rfl⟩
          rw [upd_same, set_or, st2]
          unfold goalStep
          rw [hs]; rfl
        | false =>
          refine iteF ⟨s2, ?_, _, rfl⟩
          rw [h2, st2]
          unfold goalStep
          rw [hs]; rfl
      · rintro σ H2 ⟨s2, h2, e0, rfl⟩
        refine ⟨s2, ?_, _, _, _, _, _, rfl⟩
        rw [h2, st, List.length_map, List.take_length]
        rfl
    | false =>
      refine iteF ⟨_, rfl, ag, rfl, ⟨_, SqT.of (im _ _ hag)⟩, fun Dl nD => ?_⟩
      have hL1 := s _ _ nfl.symm hL
      refine lc_rel (walk_tup (K := K) (a := ag) (xs := gs.map nv)) nD (fun k y _ => ∀ t, gs[k]? = some t → y = .bl (sub wf (L.getD t 0))) (by rw [List.length_map]; omega) (fun _ _ _ _ _ _ _ h => h) (fun H' s => SqT.of (s _ _ (im _ _ hag))) ?_ ?_
      · rintro k x H2 H3 Kk hk s2 hne ⟨rfl, hx⟩ hK
        obtain ⟨t, ht, rfl⟩ := of_getElem?_nats hx
        have tl : t < L.length := hgs t (List.mem_of_getElem? ht)
        refine ⟨rfl, _, rfl, _, rfl, _, rfl, ll, _, _, _, rfl, rfl, SqL.of (s2 _ _ hL1), atI_nat (nats_at tl), _, rfl, _, _, rfl, rfl, rfl, hK _ _ (fun _ _ h => h) fun t' ht' => ?_⟩
        rw [ht] at ht'
        cases ht'
        rw [eq_sub]
      · intro H2 ys s2 hD hl hy
        have ey : ys = (gs.map fun t => sub wf (L.getD t 0)).map V.bl := by
          apply List.ext_getElem?
          intro k
          rw [List.map_map, List.getElem?_map]
          rw [List.length_map] at hl
          by_cases c : k < gs.length
          · rw [List.getElem?_eq_getElem c, List.getElem?_eq_getElem (by omega)]
            exact congrArg some (hy k _ (List.getElem?_eq_getElem (by omega)) _ (List.getElem?_eq_getElem c))
          · rw [List.getElem?_eq_none (by omega), List.getElem?_eq_none (by omega)]; rfl
        rw [ey] at hD
        refine ⟨Dl, _, rfl, SqL.of hD, _, rfl, ?_⟩
        have h12 := s2 _ _ h1
        have ea : ((gs.map fun t => sub wf (L.getD t 0)).any id) = gs.any fun t => sub wf (L.getD t 0) := by rw [List.any_map]; rfl
        rw [ea]
        cases hs : gs.any fun t => sub wf (L.getD t 0) with
        | true =>
          refine iteT ⟨_, rfl, _, rfl, lf, _, _, _, rfl, rfl, SqL.of h12, atI_nat (nats_at (by omega)), _, rfl, _, _, rfl, rfl, _, rfl, _, rfl, lf, _, _, _, rfl, rfl, h12, ixN_n (by rw [List.length_map]; omega), ?_⟩
          refine ⟨(s.trans s2.but).trans SameBut.put, ?_, _, _, _, _, _, rfl⟩
          rw [upd_same, set_or, st]
          unfold ruleStep
          rw [hs]; rfl
        | false =>
          refine iteF ⟨s.trans s2.but, ?_, _, _, _, _, _, rfl⟩
          rw [h12, st]
          unfold ruleStep
          rw [hs]; rfl
  · rintro σ H1 ⟨s, h1, a0, b0, c0, d0, e0, rfl⟩
    refine q _ s ?_
    rw [h1, exl, List.take_length]
    rfl
end NB
set_option pp.maxSteps 900
set_option Elab.async false
set_option linter.all false
set_option maxRecDepth 100000
set_option maxHeartbeats 4000000
namespace NB
open PySem PyProof.Rows L2
local macro_rules | `(tactic| walk_at "rd") => `(tactic| dsimp only [De, tSeq, tNext, tAsg, tIfS, tRet, tRetN, tDrop, tBreak, tCont, tAug, ipI, gName, gNil, gCons, gTup, gSub, tVar, tC, tOp, tUn, tTest, tB, tTru, tNot, tAnd, tOr, tNotV, tAndV, tOrV, tChain, tCons, tNil, tCB, tCall, tMeth, tMake, tTup, tLst, tFld, sFld, tDGet, tDIn, tDNotIn, sDPut, tDNewK, tDNewT, tBM, tBM0, tSl, tPart, tNoPart, tYes, iList, iTup, iRng1, iRng2, iEnum, iEnumT, iSeq, RZ.iZipA, rMaxT, rRepA, rIn, tLstRg, tRg1, tRevT, rI0, rI, rU, rAddI, rSubI, rMulI, rDivI, rModI, rPowI, rShlI, rShrI, rAndI, rOrI, rLtI, rLeI, rGtI, rGeI, rNegI, rInvI, rEq, rNe, rLenS, rListS, rTupleS, rInt1, rBool1, rStrI, rAbsI, rAll, rAny, rAppend, rExtend, rPopAt, rRep, rIxL, rIxT, rSetL, rSlL, rSlA, rCatA, rEqD, rNeD, List.cons_append, List.nil_append, List.append_nil])
local macro_rules | `(tactic| walk_at "rs") => `(tactic| dsimp only [De, tSeq, tNext, tAsg, tIfS, tRet, tRetN, tDrop, tBreak, tCont, tAug, ipI, gName, gNil, gCons, gTup, gSub, tVar, tC, tOp, tUn, tTest, tB, tTru, tNot, tAnd, tOr, tNotV, tAndV, tOrV, tChain, tCons, tNil, tCB, tCall, tMeth, tMake, tTup, tLst, tFld, sFld, tDGet, tDIn, tDNotIn, sDPut, tDNewK, tDNewT, tBM, tBM0, tSl, tPart, tNoPart, tYes, iList, iTup, iRng1, iRng2, iEnum, iEnumT, iSeq, RZ.iZipA, rMaxT, rRepA, rIn, tLstRg, tRg1, tRevT, rI0, rI, rU, rAddI, rSubI, rMulI, rDivI, rModI, rPowI, rShlI, rShrI, rAndI, rOrI, rLtI, rLeI, rGtI, rGeI, rNegI, rInvI, rEq, rNe, rLenS, rListS, rTupleS, rInt1, rBool1, rStrI, rAbsI, rAll, rAny, rAppend, rExtend, rPopAt, rRep, rIxL, rIxT, rSetL, rSlL, rCatA, rEqD, rNeD, List.cons_append, List.nil_append, List.append_nil])
theorem sc_made_lots : FnScope ["book", "ways", "state", "lots", "found", "place", "kind", "own", "need", "bit", "exit_number", "rules", "fits", "rule"] ["book", "ways", "state", "lots"] (defScope s_made_lots) := ⟨rfl, rfl, rfl, by decide +kernel, rfl, by decide +kernel, by decide +kernel⟩
def t_made_lots (K : PySem.W.Frag) : TS :=
  (tSeq (tAsg (tOp rRep (tLst (tCons (tC (.int 0)) tNil)) (tCB (rLenS K) (tCons (tVar 3) tNil))) (gName 4))
    (tSeq (tFor (iEnum K (tCons (tFld K (tVar 2) "sorts") tNil)) (gTup K 2 (gCons (gName 5) (gCons (gName 6) gNil))) (tSeq (tAsg (tOp (rIxL K) (tVar 3) (tVar 5)) (gName 7))
    (tSeq (tFor (iList K (tOp (rIxL K) (tFld K (tVar 0) "here_rules") (tVar 6))) (gTup K 2 (gCons (gName 8) (gCons (gName 9) gNil))) (tIfS (tTest (tOp rEq (tOp rAndI (tVar 8) (tUn rInvI (tVar 7))) (tC (.int 0)))) (tAsg (tOp rOrI (tOp (rIxL K) (tVar 4) (tVar 5)) (tVar 9)) (gSub (tVar 4) (tVar 5) rSetL)) tNext))
    (tFor (iEnum K (tCons (tOp (rIxL K) (tFld K (tVar 0) "way_rules") (tVar 6)) tNil)) (gTup K 2 (gCons (gName 10) (gCons (gName 11) gNil))) (tSeq (tAsg (tLc (iList K (tVar 11)) (gName 13) (tTest (tOp rEq (tOp rAndI (tOp (rIxT K) (tVar 13) (tC (.int 0))) (tUn rInvI (tVar 7))) (tC (.int 0)))) (tVar 13) [13]) (gName 12))
    (tIfS (tAnd (tTest (tOp rGtI (tCB (rLenS K) (tCons (tVar 12) tNil)) (tC (.int 0)))) (tB (tCall (sp_is_open K) [] E0 (tCons (tVar 2) (tCons (tVar 5) (tCons (tVar 10) tNil)))))) (tDrop (tCall (sp_make_along K) [] E0 (tCons (tVar 4) (tCons (tVar 3) (tCons (tVar 5) (tCons (tOp (rIxT K) (tOp (rIxT K) (tVar 1) (tVar 5)) (tVar 10)) (tCons (tVar 12) tNil))))))) tNext))))))
    (tRet (tVar 4))))
theorem hereStep_len {own p : Nat} {f : List Nat} {r : Nat × Nat} : (hereStep own p f r).length = f.length := by
  unfold hereStep; split <;> simp
theorem hereSteps_len {own p : Nat} : ∀ {g : List (Nat × Nat)} {f : List Nat}, (g.foldl (hereStep own p) f).length = f.length
  | [], _ => rfl
  | t :: g, f => by rw [List.foldl_cons, hereSteps_len, hereStep_len]
theorem exitSteps_len {rs : List Rule} {ways : List (List (List Nat))} {L : List Nat} {p k : Nat} : ∀ {g f : List Nat}, (g.foldl (exitStep rs ways L p k) f).length = f.length
  | [], _ => rfl
  | t :: g, f => by
    rw [List.foldl_cons, exitSteps_len]
    exact makeAlong_len
theorem placeStep_len {exits : List Nat} {rs : List Rule} {kinds : List Nat} {ways : List (List (List Nat))} {L f : List Nat} {p : Nat} : (placeStep exits rs kinds ways L f p).length = f.length := by
  unfold placeStep
  rw [exitSteps_len, hereSteps_len]
theorem placeSteps_len {exits : List Nat} {rs : List Rule} {kinds : List Nat} {ways : List (List (List Nat))} {L : List Nat} : ∀ {g f : List Nat}, (g.foldl (placeStep exits rs kinds ways L) f).length = f.length
  | [], _ => rfl
  | t :: g, f => by rw [List.foldl_cons, placeSteps_len, placeStep_len]
theorem rd_made_lots {K : Frag} {mg : Str → Option Value} (T : Txt K mg) {b w s l : V} {H : Hp} {Q : VK} (h : ph_made_lots K b w s l H Q) : t_made_lots K (De Q) [some b, some w, some s, some l, none, none, none, none, none, none, none, none, none, none] H := by
  obtain ⟨exits, D, rs, kinds, ways, slots, L, ll, T0, rfl, hL, eL, q⟩ := h
  have hk12 := T0.pok.hi
  unfold t_made_lots
  walk_at "rd"
  refine ⟨by show 1 ≤ sizeLine; decide, fun p1 n1 => ?_⟩
  have s1 : Same H (upd H p1 (.lst [.int 0])) := Same.new n1
  refine ⟨_, rfl, ll, _, rfl, .inl (SqL.of (s1 _ _ hL)), p1, _, _, rfl, rfl, upd_same, by omega, by rw [List.length_map]; omega, ?_, fun pf n2 => ?_⟩
  · rw [Int.toNat_natCast, List.length_map]; exact small (by show 1 * L.length ≤ 100000; omega)
  have s2 := s1.snew (o := .lst (List.replicate (((L.map nv).length : Nat) : Int).toNat [V.int 0]).flatten) n2
  have g2 : (upd (upd H p1 (.lst [.int 0])) pf (.lst (List.replicate (((L.map nv).length : Nat) : Int).toNat [V.int 0]).flatten)) pf = some (.lst ((List.replicate L.length 0).map nv)) := by
    rw [upd_same, Int.toNat_natCast, rep_one, List.map_replicate, List.length_map]; rfl
  have nf : H pf = none := s1.free n2
  generalize upd (upd H p1 (.lst [.int 0])) pf (.lst (List.replicate (((L.map nv).length : Nat) : Int).toNat [V.int 0]).flatten) = H1 at s2 g2 ⊢
  obtain ⟨as, dxs, l1, l2, l3, rfl, hs0, hs1, hs2, hs3⟩ := T0.state.ex
  obtain ⟨ab, dxb, bb, bo, br, bw, bh, by', rfl, hb0, B1, B2, B3, B4, hH, hW⟩ := T0.book.ex
  obtain ⟨lh, hxs, rfl, hlh, elh, hhere⟩ := hH
  obtain ⟨lw, wxs, rfl, hlw, elw, hway⟩ := hW
  obtain ⟨aw, pxs, rfl, haw, hpw⟩ := T0.way.open
  refine ⟨_, rfl, as, _, dxs, _, _, rfl, s2 _ _ hs0, T.c_State, T.n_State_sorts, by rfl, l1, _, rfl, SqL.of (s2 _ _ hs1), ?_⟩
  refine for_it (walk_enum (K := K) (a := l1) (xs := kinds.map nv)) (fun j σ H' => Same H H' ∧ H' pf = some (.lst (((List.range j).foldl (placeStep exits rs kinds ways L) (List.replicate L.length 0)).map nv)) ∧ ∃ a b c d e f g h i, σ = [some (.ref ab), some (.ref aw), some (.ref as), some (.ref ll), some (.ref pf), a, b, c, d, e, f, g, h, i]) ⟨s2, g2, _, _, _, _, _, _, _, _, _, rfl⟩ (fun j σ H' _ pp => SqL.of (pp.1 _ _ hs1)) ?_ ?_
  · rintro j x σ H2 H3 hj ⟨s, hpf, va, vb, vc, vd, ve, vf, vg, vh, vi, rfl⟩ ⟨Tt, x1, y1, rfl, nT, rfl, e1, e2⟩
    cases e1
    obtain ⟨k, hk, rfl⟩ := of_getElem?_nats e2
    rw [List.length_map] at hj
    have sT := s.snew (o := .tup [.int (j : Nat), nv k]) nT
    have gT : (upd H2 Tt (.tup [.int (j : Nat), nv k])) Tt = some (.tup [.int (j : Nat), nv k]) := upd_same
    have hpT : (upd H2 Tt (.tup [.int (j : Nat), nv k])) pf = _ := (Same.new nT) _ _ hpf
    generalize upd H2 Tt (.tup [.int (j : Nat), nv k]) = H4 at sT gT hpT ⊢
    have ek : kinds.getD j 0 = k := getD_of hk
    have hkx : k < exits.length := T0.pok.kind k (List.mem_of_getElem? hk)
    have lenF : ((List.range j).foldl (placeStep exits rs kinds ways L) (List.replicate L.length 0)).length = L.length := by rw [placeSteps_len]; simp
    have stepF : (List.range (j + 1)).foldl (placeStep exits rs kinds ways L) (List.replicate L.length 0) = placeStep exits rs kinds ways L ((List.range j).foldl (placeStep exits rs kinds ways L) (List.replicate L.length 0)) j := by rw [List.range_succ, List.foldl_append]; rfl
    rw [stepF]
    generalize (List.range j).foldl (placeStep exits rs kinds ways L) (List.replicate L.length 0) = F at hpT lenF ⊢
    unfold placeStep
    rw [ek]
    refine ⟨Tt, _, rfl, SqT.of gT, rfl, _, _, rfl, _, _, rfl, rfl, ?_⟩
    have jL : j < L.length := by omega
    refine ⟨_, rfl, _, rfl, ll, _, _, _, rfl, rfl, SqL.of (sT _ _ hL), atI_nat (nats_at jL), ?_⟩
    obtain ⟨xh, hxh⟩ : ∃ x, hxs[k]? = some x := ⟨_, List.getElem?_eq_getElem (by omega)⟩
    obtain ⟨lhk, ys, rfl, hlhk, hys⟩ := hhere k xh hxh
    have own : (List.getD L j 0) = L.getD j 0 := rfl
    refine ⟨_, rfl, ab, _, dxb, _, _, rfl, sT _ _ hb0, T.c_RawBook, T.n_RawBook_here_rules, by rfl, _, rfl, lh, _, _, _, rfl, rfl, SqL.of (sT _ _ hlh), atI_nat hxh, lhk, rfl, ⟨_, SqL.of (sT _ _ hlhk)⟩, ?_⟩
    refine for_list (K := K) (xs := ys) (fun i σ H' => Same H H' ∧ H' pf = some (.lst ((((hereOf rs k).take i).foldl (hereStep (L.getD j 0) j) F).map nv)) ∧ ∃ d e f g h i, σ = [some (.ref ab), some (.ref aw), some (.ref as), some (.ref ll), some (.ref pf), some (nv j), some (nv k), some (nv (L.getD j 0)), d, e, f, g, h, i]) ⟨sT, hpT, _, _, _, _, _, _, rfl⟩ (fun i σ H' _ pp => SqL.of (pp.1 _ _ hlhk)) ?_ ?_
    · rintro i x σ H5 hi ⟨s5, h5, vd, ve, vf, vg, vh, vi, rfl⟩
      obtain ⟨r, hr, hd⟩ := hys.at' hi
      obtain ⟨ar, rfl, har⟩ := pair_inv hd
      have lenG : (((hereOf rs k).take i).foldl (hereStep (L.getD j 0) j) F).length = L.length := by rw [hereSteps_len, lenF]
      have st := foldl_take (f := hereStep (L.getD j 0) j) (b := F) hr
      generalize ((hereOf rs k).take i).foldl (hereStep (L.getD j 0) j) F = G at h5 lenG st ⊢
      refine ⟨ar, _, rfl, SqT.of (s5 _ _ har), rfl, _, _, rfl, _, _, rfl, rfl, ?_⟩
      refine ⟨_, rfl, _, rfl, _, rfl, _, _, rfl, rfl, rfl, _, rfl, ?_⟩
      rw [eq_sub]
      cases hs : sub r.1 (L.getD j 0) with
      | true =>
        refine iteT ⟨_, rfl, _, rfl, pf, _, _, _, rfl, rfl, SqL.of h5, atI_nat (nats_at (by omega)), _, rfl, _, _, rfl, rfl, _, rfl, _, rfl, pf, _, _, _, rfl, rfl, h5, ixN_n (by rw [List.length_map]; omega), ?_⟩
        refine ⟨s5.mut nf, ?_, _, _, _, _, _, _, rfl⟩
        rw [upd_same, set_or, st]
        unfold hereStep
        rw [hs]; rfl
      | false =>
        refine iteF ⟨s5, ?_, _, _, _, _, _, _, rfl⟩
        rw [h5, st]
        unfold hereStep
        rw [hs]; rfl
    · rintro σ H5 ⟨s5, h5, vd, ve, vf, vg, vh, vi, rfl⟩
      rw [hys.len, List.take_length] at h5
      have lenG : ((hereOf rs k).foldl (hereStep (L.getD j 0) j) F).length = L.length := by rw [hereSteps_len, lenF]
      generalize (hereOf rs k).foldl (hereStep (L.getD j 0) j) F = G at h5 lenG ⊢
      obtain ⟨xw, hxw⟩ : ∃ x, wxs[k]? = some x := ⟨_, List.getElem?_eq_getElem (by omega)⟩
      obtain ⟨lwk, ws, rfl, hlwk, ews, hws⟩ := hway k xw hxw
      refine ⟨_, rfl, ab, _, dxb, _, _, rfl, s5 _ _ hb0, T.c_RawBook, T.n_RawBook_way_rules, by rfl, _, rfl, lw, _, _, _, rfl, rfl, SqL.of (s5 _ _ hlw), atI_nat hxw, lwk, _, rfl, SqL.of (s5 _ _ hlwk), ?_⟩
      refine for_it (walk_enum (K := K) (a := lwk) (xs := ws)) (fun i σ H' => Same H H' ∧ H' pf = some (.lst (((List.range i).foldl (exitStep rs ways L j k) G).map nv)) ∧ ∃ d e f g h i, σ = [some (.ref ab), some (.ref aw), some (.ref as), some (.ref ll), some (.ref pf), some (nv j), some (nv k), some (nv (L.getD j 0)), d, e, f, g, h, i]) ⟨s5, h5, _, _, _, _, _, _, rfl⟩ (fun i σ H' _ pp => SqL.of (pp.1 _ _ hlwk)) ?_ ?_
      · rintro i x σ H6 H7 hi ⟨s6, h6, vd, ve, vf, vg, vh, vi, rfl⟩ ⟨T2, x2, y2, rfl, nT2, rfl, e3, e4⟩
        cases e3
        have sT2 := s6.snew (o := .tup [.int (i : Nat), y2]) nT2
        have gT2 : (upd H6 T2 (.tup [.int (i : Nat), y2])) T2 = some (.tup [.int (i : Nat), y2]) := upd_same
        have hpT2 : (upd H6 T2 (.tup [.int (i : Nat), y2])) pf = _ := (Same.new nT2) _ _ h6
        generalize upd H6 T2 (.tup [.int (i : Nat), y2]) = H8 at sT2 gT2 hpT2 ⊢
        obtain ⟨lwe, zs, rfl, hlwe, hzs⟩ := hws i y2 e4
        have lenE : ((List.range i).foldl (exitStep rs ways L j k) G).length = L.length := by rw [exitSteps_len, lenG]
        have stepE : (List.range (i + 1)).foldl (exitStep rs ways L j k) G = makeAlong L j ((ways.getD j []).getD i []) ((wayOf rs k i).filter fun r => sub r.near (L.getD j 0)) ((List.range i).foldl (exitStep rs ways L j k) G) := by rw [List.range_succ, List.foldl_append]; rfl
        rw [stepE]
        generalize (List.range i).foldl (exitStep rs ways L j k) G = E at hpT2 lenE ⊢
        have wlen : (wayOf rs k i).length ≤ 1000 := Nat.le_trans (List.length_filterMap_le _ _) T0.rlen
        generalize wayOf rs k i = R at hzs wlen ⊢
        refine ⟨T2, _, rfl, SqT.of gT2, rfl, _, _, rfl, _, _, rfl, rfl, ?_⟩
        refine ⟨_, rfl, lwe, rfl, ⟨_, SqL.of (sT2 _ _ hlwe)⟩, fun Dl nD => ?_⟩
        refine lc_it (walk_list (K := K) (a := lwe) (xs := zs)) (fun m H' => Same H8 H' ∧ ∃ fs, H' Dl = some (.lst fs) ∧ DtL H' fs (((R.take m).filter fun r => sub r.near (L.getD j 0)).map eW)) ⟨Same.new nD, [], upd_same, .nil⟩ (fun m H' _ pp => SqL.of (pp.1 _ _ (sT2 _ _ hlwe))) ?_ ?_
        · rintro m x H9 H10 hm ⟨s9, fs, hD, hfs⟩ ⟨rfl, hx⟩
          obtain ⟨r, hr, hd⟩ := hzs.at' hx
          obtain ⟨ar, rfl, har⟩ := wr_inv hd
          have s89 := sT2.trans s9
          refine ⟨rfl, _, rfl, ar, _, _, _, rfl, rfl, SqT.of (s89 _ _ har), atI_nat (j := 0) rfl, _, rfl, _, rfl, _, _, rfl, rfl, rfl, _, rfl, ?_⟩
          rw [eq_sub]
          have lf : ((R.take (m + 1)).filter fun r => sub r.near (L.getD j 0)) = ((R.take m).filter fun r => sub r.near (L.getD j 0)) ++ if sub r.near (L.getD j 0) = true then [r] else [] := by
            exact filter_take hr
          have flen : fs.length < 100000 := by
            rw [hfs.len]
            exact Nat.lt_of_le_of_lt filter_take_len (by omega)
          cases hs : sub r.near (L.getD j 0) with
          | true =>
            rw [hs] at lf
            refine iteT ⟨_, rfl, fs, hD, smaller flen, s9.mut nD, _, upd_same, ?_⟩
            rw [lf, if_pos rfl, List.map_append]
            exact (hfs.snoc (hd.same s89)).im (Im.lst hD)
          | false =>
            rw [hs] at lf
            refine iteF ⟨s9, _, hD, ?_⟩
            rw [lf]
            simpa using hfs
        · rintro H9 ⟨s9, fs, hD, hfs⟩
          rw [hzs.len, List.take_length] at hfs
          have flen : fs.length ≤ 1000 := by
            rw [hfs.len]
            have := List.length_filter_le (fun r => sub r.near (L.getD j 0)) R
            omega
          generalize (R.filter fun r => sub r.near (L.getD j 0)) = R2 at hfs ⊢
          have s89 := sT2.trans s9
          refine ⟨_, rfl, Dl, _, rfl, .inl (SqL.of hD), _, _, rfl, rfl, _, rfl, ?_⟩
          have hpf9 := s9 _ _ hpT2
          show if decide ((0 : Int) < ((fs.length : Nat) : Int)) = true then _ else _
          have efl := hfs.len
          by_cases c : 0 < fs.length
          · rw [decide_eq_true (show (0 : Int) < ((fs.length : Nat) : Int) by omega)]
            refine iteT ⟨_, rfl, _, rfl, _, rfl, kinds, slots, kinds.length, j, i, T0.state.same s89, rfl, hj, rfl, true, rfl, iteT ?_⟩
            obtain ⟨wy, hwy⟩ : ∃ y, ways[j]? = some y := ⟨_, List.getElem?_eq_getElem (by have := T0.pok.wlen; omega)⟩
            obtain ⟨xj, hxj, dxj⟩ := hpw.at hwy
            obtain ⟨awj, gxs, rfl, hawj, hgj⟩ := dxj.open
            have hel := T0.pok.elen j wy hwy
            rw [ek] at hel
            have hil : i < wy.length := by
              rw [ews, getD_of hel] at hi; exact hi
            have hge : wy[i]? = some (wy.getD i []) := get_of hil []
            obtain ⟨xg, hxg, dxg⟩ := hgj.at hge
            rw [getD_of hwy]
            have lots := T0.pok.lots wy (List.mem_of_getElem? hwy) (wy.getD i []) (List.mem_of_getElem? hge)
            have glen := lots.len
            refine ⟨_, rfl, _, rfl, _, rfl, _, rfl, _, rfl, aw, _, _, _, rfl, rfl, SqT.of (s89 _ _ haw), atI_nat hxj, _, rfl, awj, _, _, _, rfl, rfl, SqT.of (s89 _ _ hawj), atI_nat hxg, _, rfl, ?_⟩
            refine ⟨pf, ll, Dl, E, L, wy.getD i [], j, R2, fs, rfl, rfl, rfl, (ne_of_none hL nf).symm, ne_of_none hpT2 nD, hpf9, s89 _ _ hL, rfl, dxg.same s89, hD, hfs, lenE, jL, ?_, by omega, by omega, fun H11 s11 h11 => ⟨SameBut.toNew s89 nf s11, h11, _, _, _, _, _, _, rfl⟩⟩
            intro t ht
            rw [eL]
            exact lots.2 t ht
          · rw [decide_eq_false (show ¬ (0 : Int) < ((fs.length : Nat) : Int) by omega)]
            have e0 : R2 = [] := List.length_eq_zero_iff.mp (by omega)
            subst e0
            exact iteF (iteF ⟨s89, hpf9, _, _, _, _, _, _, rfl⟩)
      · rintro σ H6 ⟨s6, h6, vd, ve, vf, vg, vh, vi, rfl⟩
        rw [ews] at h6
        exact ⟨s6, h6, _, _, _, _, _, _, _, _, _, rfl⟩
  · rintro σ H' ⟨s, hpf, _, _, _, _, _, _, _, _, _, rfl⟩
    refine ⟨_, rfl, q _ _ s nf ?_⟩
    rw [hpf, List.length_map, ← eL]
    rfl
end NB
set_option pp.maxSteps 900
set_option Elab.async false
set_option linter.all false
set_option maxRecDepth 100000
set_option maxHeartbeats 4000000
namespace NB
open PySem PyProof.Rows L2
local macro_rules | `(tactic| walk_at "rd") => `(tactic| dsimp only [De, tSeq, tNext, tAsg, tIfS, tRet, tRetN, tDrop, tBreak, tCont, tAug, ipI, gName, gNil, gCons, gTup, gSub, tVar, tC, tOp, tUn, tTest, tB, tTru, tNot, tAnd, tOr, tNotV, tAndV, tOrV, tChain, tCons, tNil, tCB, tCall, tMeth, tMake, tTup, tLst, tFld, sFld, tDGet, tDIn, tDNotIn, sDPut, tDNewK, tDNewT, tBM, tBM0, tSl, tPart, tNoPart, tYes, iList, iTup, iRng1, iRng2, iEnum, iEnumT, iSeq, RZ.iZipA, rMaxT, rRepA, rIn, tLstRg, tRg1, tRevT, rI0, rI, rU, rAddI, rSubI, rMulI, rDivI, rModI, rPowI, rShlI, rShrI, rAndI, rOrI, rLtI, rLeI, rGtI, rGeI, rNegI, rInvI, rEq, rNe, rLenS, rListS, rTupleS, rInt1, rBool1, rStrI, rAbsI, rAll, rAny, rAppend, rExtend, rPopAt, rRep, rIxL, rIxT, rSetL, rSlL, rSlA, rCatA, rEqD, rNeD, List.cons_append, List.nil_append, List.append_nil])
local macro_rules | `(tactic| walk_at "rs") => `(tactic| dsimp only [De, tSeq, tNext, tAsg, tIfS, tRet, tRetN, tDrop, tBreak, tCont, tAug, ipI, gName, gNil, gCons, gTup, gSub, tVar, tC, tOp, tUn, tTest, tB, tTru, tNot, tAnd, tOr, tNotV, tAndV, tOrV, tChain, tCons, tNil, tCB, tCall, tMeth, tMake, tTup, tLst, tFld, sFld, tDGet, tDIn, tDNotIn, sDPut, tDNewK, tDNewT, tBM, tBM0, tSl, tPart, tNoPart, tYes, iList, iTup, iRng1, iRng2, iEnum, iEnumT, iSeq, RZ.iZipA, rMaxT, rRepA, rIn, tLstRg, tRg1, tRevT, rI0, rI, rU, rAddI, rSubI, rMulI, rDivI, rModI, rPowI, rShlI, rShrI, rAndI, rOrI, rLtI, rLeI, rGtI, rGeI, rNegI, rInvI, rEq, rNe, rLenS, rListS, rTupleS, rInt1, rBool1, rStrI, rAbsI, rAll, rAny, rAppend, rExtend, rPopAt, rRep, rIxL, rIxT, rSetL, rSlL, rCatA, rEqD, rNeD, List.cons_append, List.nil_append, List.append_nil])
theorem sc_turn_rounds : FnScope ["book", "ways", "state", "own", "lots", "ranks", "turn", "changed", "made", "place", "mask", "fresh", "doubt", "lot"] ["book", "ways", "state", "own"] (defScope s_turn_rounds) := ⟨rfl, rfl, rfl, by decide +kernel, rfl, by decide +kernel, by decide +kernel⟩
def t_turn_rounds (K : PySem.W.Frag) : TS :=
  (tSeq (tAsg (tLc (iList K (tFld K (tVar 2) "lots")) (gName 13) tYes (tOp rAndI (tVar 13) (tUn rInvI (tVar 3))) [13]) (gName 4))
    (tSeq (tAsg (tLc (iList K (tVar 4)) (gName 13) tYes tDNewK [13]) (gName 5))
    (tSeq (tAsg (tC (.int 0)) (gName 6))
    (tSeq (tAsg (tC (.bl true)) (gName 7))
    (tSeq (tWhile (tB (tVar 7)) (tSeq (tAsg (tC (.bl false)) (gName 7))
    (tSeq (tAsg (tCall (sp_made_lots K) [] E0 (tCons (tVar 0) (tCons (tVar 1) (tCons (tVar 2) (tCons (tVar 4) tNil))))) (gName 8))
    (tSeq (tFor (iEnum K (tCons (tVar 8) tNil)) (gTup K 2 (gCons (gName 9) (gCons (gName 10) gNil))) (tSeq (tAsg (tOp rAndI (tOp rAndI (tOp rAndI (tVar 10) (tVar 3)) (tOp (rIxL K) (tFld K (tVar 2) "lots") (tVar 9))) (tUn rInvI (tOp (rIxL K) (tVar 4) (tVar 9)))) (gName 11))
    (tIfS (tTest (tOp rGtI (tVar 11) (tC (.int 0)))) (tSeq (tAsg (tC (.bl true)) (gName 7))
    (tSeq (tAsg (tOp rOrI (tOp (rIxL K) (tVar 4) (tVar 9)) (tVar 11)) (gSub (tVar 4) (tVar 9) rSetL))
    (tFor (iTup K (tCall (sp_lot_of K) [] E0 (tCons (tVar 11) tNil))) (gName 12) (sDPut (tOp (rIxL K) (tVar 5) (tVar 9)) (tVar 12) (tVar 6))))) tNext)))
    (tAug 6 (tC (.int 1)) (ipI fun i j => i + j))))))
    (tRet (tTup (tCons (tVar 4) (tCons (tVar 5) tNil)))))))))
theorem length_putK' {κ : Type} [DecidableEq κ] (kvs : List (κ × V)) (k : κ) (v : V) : (putK kvs k v).length ≤ kvs.length + 1 := length_putK kvs k v
/-- the ranks' dicts, of no more than their share -/
def Ranks (H0 H : Hp) (pr : Addr) (n c : Nat) : Prop := ∃ ds : List Addr, H pr = some (.lst (ds.map V.ref)) ∧ ds.length = n ∧ ∀ d ∈ ds, H0 d = none ∧ ∃ kvs : List (Key × V), H d = some (.dK kvs) ∧ kvs.length + c ≤ 100 * n
theorem Ranks.same {H0 H H' : Hp} {pr : Addr} {n c : Nat} (s : Same H H') (h : Ranks H0 H pr n c) : Ranks H0 H' pr n c := by
  obtain ⟨ds, h1, h2, h3⟩ := h
  exact ⟨ds, s _ _ h1, h2, fun d hd => ⟨(h3 d hd).1, by obtain ⟨kvs, h4, h5⟩ := (h3 d hd).2; exact ⟨kvs, s _ _ h4, h5⟩⟩⟩
theorem Ranks.lst {H0 H : Hp} {pr l : Addr} {n c : Nat} {xs ys : List V} (h : Ranks H0 H pr n c) (hl : H l = some (.lst xs)) (ne : l ≠ pr) : Ranks H0 (upd H l (.lst ys)) pr n c := by
  obtain ⟨ds, h1, h2, h3⟩ := h
  refine ⟨ds, by rw [upd_ne ne.symm]; exact h1, h2, fun d hd => ⟨(h3 d hd).1, ?_⟩⟩
  obtain ⟨kvs, h4, h5⟩ := (h3 d hd).2
  exact ⟨kvs, by rw [upd_ne (ne_of h4 hl (by intro z; cases z))]; exact h4, h5⟩
theorem Ranks.put {H0 H : Hp} {pr d : Addr} {n c : Nat} {kvs : List (Key × V)} {k : Key} {v : V} (h : Ranks H0 H pr n (c + 1)) (hd : H d = some (.dK kvs)) (hk : kvs.length + (c + 1) ≤ 100 * n) : Ranks H0 (upd H d (.dK (putK kvs k v))) pr n c := by
  obtain ⟨ds, h1, h2, h3⟩ := h
  refine ⟨ds, by rw [upd_ne (ne_of h1 hd (by intro z; cases z))]; exact h1, h2, fun e he => ⟨(h3 e he).1, ?_⟩⟩
  obtain ⟨kv2, h4, h5⟩ := (h3 e he).2
  by_cases c : e = d
  · subst c
    have := length_putK kvs k v
    exact ⟨_, upd_same, by omega⟩
  · exact ⟨kv2, by rw [upd_ne c]; exact h4, by omega⟩
theorem Ranks.mono {H0 H : Hp} {pr : Addr} {n c c' : Nat} (h : Ranks H0 H pr n c) (hc : c' ≤ c) : Ranks H0 H pr n c' := by
  obtain ⟨ds, h1, h2, h3⟩ := h
  exact ⟨ds, h1, h2, fun d hd => ⟨(h3 d hd).1, by obtain ⟨kvs, h4, h5⟩ := (h3 d hd).2; exact ⟨kvs, h4, by omega⟩⟩⟩
theorem lt_of_bits {x D : Nat} (h : ∀ i, x.testBit i = true → i < D) : x < 2 ^ D := Nat.lt_pow_two_of_testBit x fun i hi => by
  cases c : x.testBit i
  · rfl
  · exact absurd (h i c) (by omega)
/-- what a round knows of its lots -/
structure Snd (exits : List Nat) (rs : List Rule) (kinds : List Nat) (ways : List (List (List Nat))) (L : List Nat) : Prop where
  len : L.length = kinds.length
  der : ∀ p, p < kinds.length → ∀ d, (L.getD p 0).testBit d = true → Der exits rs kinds ways p d
theorem Snd.get {exits : List Nat} {rs : List Rule} {kinds : List Nat} {ways : List (List (List Nat))} {L : List Nat} {D : Nat} (h : Snd exits rs kinds ways L) (hd : ∀ x ∈ rs, match x with | .here _ _ d => d < D | .way _ _ _ _ _ d => d < D) {p : Nat} (hp : p < kinds.length) : L.getD p 0 < 2 ^ D :=
  lt_of_bits fun i hi => (h.der p hp i hi).lt hd
theorem rd_turn_rounds {K : Frag} {mg : Str → Option Value} (T : Txt K mg) {b w s o : V} {H : Hp} {Q : VK} (h : ph_turn_rounds K b w s o H Q) : t_turn_rounds K (De Q) [some b, some w, some s, some o, none, none, none, none, none, none, none, none, none, none] H := by
  obtain ⟨exits, D, rs, kinds, ways, T0, hD, hd, rfl, q⟩ := h
  have hk12 := T0.pok.hi
  obtain ⟨as, dxs, l1, l2, l3, rfl, hs0, hs1, hs2, hs3⟩ := T0.state.ex
  unfold t_turn_rounds
  walk_at "rd"
  -- the lots, none yet
  refine ⟨_, rfl, as, _, dxs, _, _, rfl, hs0, T.c_State, T.n_State_lots, by rfl, l3, rfl, ⟨_, SqL.of hs3⟩, fun pl nl => ?_⟩
  refine lc_rel (walk_list (K := K) (a := l3) (xs := (List.replicate kinds.length (2 ^ D - 1)).map nv)) nl (fun k y _ => y = nv 0) (by simp; omega) (fun _ _ _ _ _ _ _ h => h) (fun H' s => SqL.of (s _ _ hs3)) ?_ ?_
  · rintro k x H2 H3 Kk hk s2 hne ⟨rfl, hx⟩ hK
    obtain ⟨t, ht, rfl⟩ := of_getElem?_nats hx
    have e : t = 2 ^ D - 1 := by
      rw [List.getElem?_replicate] at ht
      split at ht
      · exact (Option.some.inj ht).symm
      · cases ht
    subst e
    refine ⟨rfl, _, rfl, _, rfl, _, rfl, _, _, rfl, rfl, hK _ _ (fun _ _ h => h) ?_⟩
    show V.int (Builtin.bitAnd ((2 ^ D - 1 : Nat) : Int) (Builtin.bitNot ((2 ^ D - 1 : Nat) : Int))) = nv 0
    rw [b_andnot]
    unfold ldf
    rw [Nat.and_self, Nat.sub_self]
  intro H1 ys s1 hpl hlen hy
  have ey : ys = (List.replicate kinds.length 0).map nv := by
    rw [List.map_replicate]
    refine List.eq_replicate_iff.mpr ⟨by rw [hlen]; simp, fun y hy' => ?_⟩
    obtain ⟨k, hk⟩ := List.getElem?_of_mem hy'
    exact hy k y hk
  rw [ey] at hpl
  clear hy hlen ey
  -- the ranks, none yet
  refine ⟨_, rfl, pl, rfl, ⟨_, SqL.of hpl⟩, fun pr nr => ?_⟩
  refine lc_rel (walk_list (K := K) (a := pl) (xs := (List.replicate kinds.length 0).map nv)) nr (fun k y H' => ∃ d, y = .ref d ∧ H d = none ∧ H' d = some (.dK [])) (by simp; omega) ?_ (fun H' s => SqL.of (s _ _ hpl)) ?_ ?_
  · rintro j y H2 H3 zs hz sb ⟨d, rfl, h1, h2⟩
    exact ⟨d, rfl, h1, sb _ _ (ne_of h2 hz (by intro z; cases z)) h2⟩
  · rintro k x H2 H3 Kk hk s2 hne ⟨rfl, hx⟩ hK
    refine ⟨rfl, ?_⟩
    intro d nd
    exact hK _ _ (Same.new nd) ⟨d, rfl, (s1.trans s2).free nd, upd_same⟩
  intro H2 ys s2 hpr hlen hy
  have hpl2 := s2 _ _ hpl
  have npr : pl ≠ pr := ne_of_none hpl nr
  have nr0 : H pr = none := s1.free nr
  have hR0 : Ranks H H2 pr kinds.length (mu (List.replicate kinds.length 0)) := by
    have hc : ∃ ds : List Addr, ys = ds.map V.ref := by
      have : ∀ y ∈ ys, ∃ d, y = V.ref d := fun y hy' => by
        obtain ⟨k, hk⟩ := List.getElem?_of_mem hy'
        obtain ⟨d, e, _⟩ := hy k y hk
        exact ⟨d, e⟩
      clear hy hlen hpr
      induction ys with
      | nil => exact ⟨[], rfl⟩
      | cons y ys ih =>
        obtain ⟨d, rfl⟩ := this y List.mem_cons_self
        obtain ⟨ds, rfl⟩ := ih fun y hy => this y (List.mem_cons_of_mem _ hy)
        exact ⟨d :: ds, rfl⟩
    obtain ⟨ds, rfl⟩ := hc
    refine ⟨ds, hpr, by simpa using hlen, fun d hd' => ?_⟩
    obtain ⟨k, hk⟩ := List.getElem?_of_mem hd'
    obtain ⟨d', e, h1, h2⟩ := hy k (.ref d) (by rw [List.getElem?_map, hk]; rfl)
    cases e
    refine ⟨h1, [], h2, ?_⟩
    have := mu_le (L := List.replicate kinds.length 0)
    simpa using this
  have s02 : Same H H2 := s1.trans s2
  clear hy hlen hpr
  -- the rounds
  refine ⟨fun m σ H' => ∃ L ch turn x y z u v ww, σ = [some b, some w, some (.ref as), some (nv (2 ^ D - 1)), some (.ref pl), some (.ref pr), some (nv turn), some (.bl ch), x, y, z, u, v, ww] ∧ m = 2 * mu L + (if ch = true then 1 else 0) ∧ Same H H' ∧ H' pl = some (.lst (L.map nv)) ∧ Ranks H H' pr kinds.length (mu L) ∧ Snd exits rs kinds ways L ∧
      (ch = false → ∀ p, p < kinds.length → ∀ d, ((madeLots exits rs kinds ways L).getD p 0).testBit d = true → (L.getD p 0).testBit d = true), ?_, ?_⟩
  · refine ⟨_, List.replicate kinds.length 0, true, 0, none, none, none, none, none, none, rfl, rfl, s02, hpl2, hR0, ⟨by simp, fun p hp d hb => ?_⟩, fun h => by cases h⟩
    rw [List.getD_eq_getElem?_getD, List.getElem?_replicate] at hb
    split at hb <;> simp at hb
  rintro m σ H3 ⟨L, ch, turn, x, y, z, u, v, ww, rfl, rfl, s3, hL, hR, hS, hcl⟩
  refine ⟨_, rfl, ch, rfl, ?_⟩
  cases ch with
  | false =>
    refine iteF ⟨_, rfl, _, rfl, by show 2 ≤ sizeLine; decide, fun pa na => ?_⟩
    refine q pa pl (.ref pr) L _ (s3.snew na) upd_same nl ((Same.new na) _ _ hL) ⟨hS.len, fun x hx => ?_, fun p hp d => ⟨hS.der p hp d, fun h => ?_⟩⟩
    · obtain ⟨k, hk⟩ := List.getElem?_of_mem hx
      have hk' : k < kinds.length := by rw [← hS.len]; exact (List.getElem?_eq_some_iff.mp hk).1
      have := hS.get hd hk'
      rw [getD_of hk] at this
      exact this
    · exact Der.closed T0.pok (fun q hq d hs => hcl rfl q hq d (((made_iff T0.pok hS.len).2 q hq d).mpr hs)) h
  | true =>
    refine iteT ⟨_, fun σ' H' n => n, ?_⟩
    refine ⟨_, rfl, _, rfl, _, rfl, _, rfl, exits, D, rs, kinds, ways, List.replicate kinds.length (2 ^ D - 1), L, pl, ⟨T0.book.same s3, T0.way.same s3, T0.state.same s3, T0.xok, T0.pok, T0.rlen⟩, rfl, hL, hS.len, fun pm H4 s4 nm hM => ?_⟩
    have mi := made_iff (rs := rs) (L := L) T0.pok hS.len (exits := exits)
    have elM := mi.1
    have derM : ∀ p, p < kinds.length → ∀ d, ((madeLots exits rs kinds ways L).getD p 0).testBit d = true → Der exits rs kinds ways p d := fun p hp d h => Step1.der T0.pok hS.der ((mi.2 p hp d).mp h)
    generalize hMM : madeLots exits rs kinds ways L = M at hM elM derM
    have s34 := s3.trans s4
    have npm : pm ≠ pl := (ne_of_none hL nm).symm
    have nmr : pm ≠ pr := by
      obtain ⟨ds, h1, _⟩ := hR
      exact (ne_of_none h1 nm).symm
    have nm0 : H pm = none := s3.free nm
    refine ⟨_, rfl, pm, _, rfl, SqL.of hM, ?_⟩
    refine for_it (walk_enum (K := K) (a := pm) (xs := M.map nv)) (fun j σ H' => ∃ L' ch x y z u v, σ = [some b, some w, some (.ref as), some (nv (2 ^ D - 1)), some (.ref pl), some (.ref pr), some (nv turn), some (.bl ch), some (.ref pm), x, y, z, u, v] ∧ Same H H' ∧ H' pl = some (.lst (L'.map nv)) ∧ H' pm = some (.lst (M.map nv)) ∧ Ranks H H' pr kinds.length (mu L') ∧ Snd exits rs kinds ways L' ∧
      (∀ p, p < j → ∀ d, (M.getD p 0).testBit d = true → (L'.getD p 0).testBit d = true) ∧ (ch = true → mu L' < mu L) ∧ (ch = false → L' = L)) ?_ (fun j σ H' _ pp => by obtain ⟨_, _, _, _, _, _, _, _, _, _, h, _⟩ := pp; exact SqL.of h) ?_ ?_
    · exact ⟨L, false, _, _, _, _, _, rfl, s34, s4 _ _ hL, hM, hR.same s4, hS, fun p hp => absurd hp (Nat.not_lt_zero _), fun h => absurd h (by decide), fun _ => rfl⟩
    · rintro j xx σ H5 H6 hj ⟨L', ch, x', y', z', u', v', rfl, s5, hL', hM', hR', hS', hin, hch, hnc⟩ ⟨Tt, x1, y1, rfl, nT, rfl, e1, e2⟩
      cases e1
      obtain ⟨k, hk, rfl⟩ := of_getElem?_nats e2
      rw [List.length_map, elM] at hj
      have sT := s5.snew (o := .tup [.int (j : Nat), nv k]) nT
      have gT : (upd H5 Tt (.tup [.int (j : Nat), nv k])) Tt = some (.tup [.int (j : Nat), nv k]) := upd_same
      have sN : Same H5 (upd H5 Tt (.tup [.int (j : Nat), nv k])) := Same.new nT
      have hLT := sN _ _ hL'
      have hMT := sN _ _ hM'
      have hRT := hR'.same sN
      generalize upd H5 Tt (.tup [.int (j : Nat), nv k]) = H7 at sT gT hLT hMT hRT ⊢
      have ek : M.getD j 0 = k := getD_of hk
      have jL : j < L'.length := by rw [hS'.len]; exact hj
      have jS : j < (List.replicate kinds.length (2 ^ D - 1)).length := by simpa using hj
      have eS : (List.replicate kinds.length (2 ^ D - 1)).getD j 0 = 2 ^ D - 1 := by rw [List.getD_eq_getElem?_getD, List.getElem?_replicate, if_pos hj]; rfl
      refine ⟨Tt, _, rfl, SqT.of gT, rfl, _, _, rfl, _, _, rfl, rfl, ?_⟩
      refine ⟨_, rfl, _, rfl, _, _, rfl, rfl, _, rfl, as, _, dxs, _, _, rfl, sT _ _ hs0, T.c_State, T.n_State_lots, by rfl, _, rfl, l3, _, _, _, rfl, rfl, SqL.of (sT _ _ hs3), atI_nat (nats_at jS), _, _, rfl, rfl, _, rfl, _, rfl, pl, _, _, _, rfl, rfl, SqL.of hLT, atI_nat (nats_at jL), _, rfl, _, _, rfl, rfl, ?_⟩
      dsimp only
      rw [eS, b_and, b_and, b_andnot]
      have hf : ∀ i, (ldf (k &&& (2 ^ D - 1) &&& (2 ^ D - 1)) (L'.getD j 0)).testBit i = (k.testBit i && decide (i < D) && !(L'.getD j 0).testBit i) := fun i => by
        rw [testBit_ldf, Nat.testBit_and, Nat.testBit_and, Nat.testBit_two_pow_sub_one]
        cases k.testBit i <;> cases decide (i < D) <;> rfl
      generalize ldf (k &&& (2 ^ D - 1) &&& (2 ^ D - 1)) (L'.getD j 0) = f at hf ⊢
      have fD : f < 2 ^ D := lt_of_bits fun i hi => by
        rw [hf i] at hi
        simp only [Bool.and_eq_true, decide_eq_true_eq] at hi
        exact hi.1.2
      have f100 : f < 2 ^ 100 := Nat.lt_of_lt_of_le fD (Nat.pow_le_pow_right (by decide) (by omega))
      refine ⟨_, rfl, _, _, rfl, rfl, _, rfl, ?_⟩
      show if decide ((0 : Int) < ((f : Nat) : Int)) = true then _ else _
      by_cases c : 0 < f
      · rw [decide_eq_true (show (0 : Int) < ((f : Nat) : Int) by omega)]
        refine iteT ⟨_, rfl, _, rfl, pl, _, _, _, rfl, rfl, SqL.of hLT, atI_nat (nats_at jL), _, rfl, _, _, rfl, rfl, _, rfl, _, rfl, pl, _, _, _, rfl, rfl, hLT, ixN_n (by rw [List.length_map]; exact jL), ?_⟩
        rw [set_or]
        have cor : cnt (L'.getD j 0 ||| f) = cnt (L'.getD j 0) + cnt f := cnt_or fun i hi => by rw [hf i, hi]; simp
        have mus := mu_set (c := cnt f) jL cor
        have cf := cnt_pos f100 c
        have hL8 : (upd H7 pl (.lst ((L'.set j (L'.getD j 0 ||| f)).map nv))) pl = some (.lst ((L'.set j (L'.getD j 0 ||| f)).map nv)) := upd_same
        have s8 : Same H (upd H7 pl (.lst ((L'.set j (L'.getD j 0 ||| f)).map nv))) := sT.mut nl
        have hM8 : (upd H7 pl (.lst ((L'.set j (L'.getD j 0 ||| f)).map nv))) pm = _ := Eq.trans (upd_ne npm) hMT
        have hR8 := hRT.lst (ys := (L'.set j (L'.getD j 0 ||| f)).map nv) hLT npr
        generalize upd H7 pl (.lst ((L'.set j (L'.getD j 0 ||| f)).map nv)) = H8 at hL8 s8 hM8 hR8 ⊢
        have hS8 : Snd exits rs kinds ways (L'.set j (L'.getD j 0 ||| f)) := by
          refine ⟨by rw [List.length_set]; exact hS'.len, fun p hp d hb => ?_⟩
          by_cases e : p = j
          · subst e
            rw [List.getD_eq_getElem?_getD, List.getElem?_set_self jL] at hb
            simp only [Option.getD_some, Nat.testBit_or, Bool.or_eq_true] at hb
            rcases hb with hb | hb
            · exact hS'.der p hp d hb
            · rw [hf d] at hb
              simp only [Bool.and_eq_true] at hb
              exact derM p hp d (by rw [ek]; exact hb.1.1)
          · rw [List.getD_eq_getElem?_getD, List.getElem?_set_ne (fun z => e z.symm), ← List.getD_eq_getElem?_getD] at hb
            exact hS'.der p hp d hb
        have hin8 : ∀ p, p < j + 1 → ∀ d, (M.getD p 0).testBit d = true → ((L'.set j (L'.getD j 0 ||| f)).getD p 0).testBit d = true := by
          intro p hp d hb
          by_cases e : p = j
          · subst e
            rw [List.getD_eq_getElem?_getD, List.getElem?_set_self jL]
            simp only [Option.getD_some, Nat.testBit_or, Bool.or_eq_true]
            have hdD := (derM p hj d hb).lt hd
            rw [ek] at hb
            by_cases c2 : (L'.getD p 0).testBit d = true
            · exact .inl c2
            · rw [hf d, hb, decide_eq_true hdD]
              simp only [Bool.not_eq_true] at c2
              rw [c2]
              exact .inr rfl
          · rw [List.getD_eq_getElem?_getD, List.getElem?_set_ne (fun z => e z.symm), ← List.getD_eq_getElem?_getD]
            exact hin p (by omega) d hb
        refine ⟨_, rfl, f, rfl, f100, fun vv H9 s9 hvv => ?_⟩
        obtain ⟨at1, rfl, hat⟩ := hvv.lot
        refine ⟨at1, rfl, ⟨_, SqT.of hat⟩, ?_⟩
        refine for_tup (K := K) (xs := (lotOf f).map nv) (fun i σ H' => ∃ u v, σ = [some b, some w, some (.ref as), some (nv (2 ^ D - 1)), some (.ref pl), some (.ref pr), some (nv turn), some (.bl true), some (.ref pm), some (nv j), some (nv k), some (nv f), u, v] ∧ Same H H' ∧ Im H9 H' ∧ H' pl = some (.lst ((L'.set j (L'.getD j 0 ||| f)).map nv)) ∧ H' pm = some (.lst (M.map nv)) ∧ Ranks H H' pr kinds.length (mu L' - i)) ⟨_, _, rfl, s8.trans s9, Im.refl _, s9 _ _ hL8, s9 _ _ hM8, hR8.same s9⟩ (fun i σ H' _ pp => by obtain ⟨_, _, _, _, im, _⟩ := pp; exact SqT.of (im _ _ hat)) ?_ ?_
        · rintro i x σ H10 hi ⟨u2, v2, rfl, s10, im10, hL10, hM10, hR10⟩
          obtain ⟨lt, hlt, rfl⟩ := of_getElem?_nats hi
          have hic : i < cnt f := (List.getElem?_eq_some_iff.mp hlt).1
          have em : mu L' - i = (mu L' - (i + 1)) + 1 := by omega
          rw [em] at hR10
          have hRk := hR10
          obtain ⟨ds, hds, eds, hdk⟩ := hRk
          have hdj : ds[j]? = some (ds[j]'(by omega)) := List.getElem?_eq_getElem (by omega)
          generalize ds[j]'(by omega) = d at hdj
          obtain ⟨hn0, kvs, hkv, hkl⟩ := hdk d (List.mem_of_getElem? hdj)
          refine ⟨_, rfl, _, rfl, _, rfl, pr, _, _, _, rfl, rfl, SqL.of hds, atI_nat (v := .ref d) (by rw [List.getElem?_map, hdj]; rfl), _, rfl, d, _, rfl, DPut.k (k := Sum.inl (lt : Int)) hkv (smaller (by omega)), ?_⟩
          exact ⟨_, _, rfl, s10.mut hn0, im10.trans (Im.dK hkv), Eq.trans (upd_ne (ne_of hL10 hkv (by intro z; cases z))) hL10, Eq.trans (upd_ne (ne_of hM10 hkv (by intro z; cases z))) hM10, hR10.put hkv hkl⟩
        · rintro σ H10 ⟨u2, v2, rfl, s10, im10, hL10, hM10, hR10⟩
          rw [List.length_map] at hR10
          refine ⟨_, true, _, _, _, _, _, rfl, s10, hL10, hM10, hR10.mono ?_, hS8, hin8, fun _ => ?_, fun h => by cases h⟩
          · show _ ≤ mu L' - cnt f
            omega
          · cases hb : ch with
            | true => have := hch hb; omega
            | false => rw [hnc hb] at mus ⊢; omega
      · rw [decide_eq_false (show ¬ (0 : Int) < ((f : Nat) : Int) by omega)]
        refine iteF ⟨L', ch, _, _, _, _, _, rfl, sT, hLT, hMT, hRT, hS', fun p hp d hb => ?_, hch, hnc⟩
        by_cases e : p = j
        · subst e
          have hdD := (derM p hj d hb).lt hd
          rw [ek] at hb
          have z := hf d
          rw [show f = 0 by omega, Nat.zero_testBit, hb, decide_eq_true hdD] at z
          cases c2 : (L'.getD p 0).testBit d
          · rw [c2] at z; cases z
          · rfl
        · exact hin p (by omega) d hb
    · rintro σ H5 ⟨L', ch, x', y', z', u', v', rfl, s5, hL', hM', hR', hS', hin, hch, hnc⟩
      rw [List.length_map, elM] at hin
      refine ⟨_, rfl, _, _, rfl, rfl, 2 * mu L' + (if ch = true then 1 else 0), ?_, L', ch, turn + 1, _, _, _, _, _, _, rfl, rfl, s5, hL', hR', hS', fun h => ?_⟩
      · cases hb : ch with
        | true => have := hch hb; simp; omega
        | false => rw [hnc hb]; simp
      · rw [hnc h, hMM]
        rw [hnc h] at hin
        exact hin
end NB
set_option pp.maxSteps 900
set_option Elab.async false
set_option linter.all false
set_option maxRecDepth 100000
set_option maxHeartbeats 4000000
namespace NB
open PySem PyProof.Rows L2
local macro_rules | `(tactic| walk_at "rd") => `(tactic| dsimp only [De, tSeq, tNext, tAsg, tIfS, tRet, tRetN, tDrop, tBreak, tCont, tAug, ipI, gName, gNil, gCons, gTup, gSub, tVar, tC, tOp, tUn, tTest, tB, tTru, tNot, tAnd, tOr, tNotV, tAndV, tOrV, tChain, tCons, tNil, tCB, tCall, tMeth, tMake, tTup, tLst, tFld, sFld, tDGet, tDIn, tDNotIn, sDPut, tDNewK, tDNewT, tBM, tBM0, tSl, tPart, tNoPart, tYes, iList, iTup, iRng1, iRng2, iEnum, iEnumT, iSeq, RZ.iZipA, rMaxT, rRepA, rIn, tLstRg, tRg1, tRevT, rI0, rI, rU, rAddI, rSubI, rMulI, rDivI, rModI, rPowI, rShlI, rShrI, rAndI, rOrI, rLtI, rLeI, rGtI, rGeI, rNegI, rInvI, rEq, rNe, rLenS, rListS, rTupleS, rInt1, rBool1, rStrI, rAbsI, rAll, rAny, rAppend, rExtend, rPopAt, rRep, rIxL, rIxT, rSetL, rSlL, rSlA, rCatA, rEqD, rNeD, List.cons_append, List.nil_append, List.append_nil])
local macro_rules | `(tactic| walk_at "rs") => `(tactic| dsimp only [De, tSeq, tNext, tAsg, tIfS, tRet, tRetN, tDrop, tBreak, tCont, tAug, ipI, gName, gNil, gCons, gTup, gSub, tVar, tC, tOp, tUn, tTest, tB, tTru, tNot, tAnd, tOr, tNotV, tAndV, tOrV, tChain, tCons, tNil, tCB, tCall, tMeth, tMake, tTup, tLst, tFld, sFld, tDGet, tDIn, tDNotIn, sDPut, tDNewK, tDNewT, tBM, tBM0, tSl, tPart, tNoPart, tYes, iList, iTup, iRng1, iRng2, iEnum, iEnumT, iSeq, RZ.iZipA, rMaxT, rRepA, rIn, tLstRg, tRg1, tRevT, rI0, rI, rU, rAddI, rSubI, rMulI, rDivI, rModI, rPowI, rShlI, rShrI, rAndI, rOrI, rLtI, rLeI, rGtI, rGeI, rNegI, rInvI, rEq, rNe, rLenS, rListS, rTupleS, rInt1, rBool1, rStrI, rAbsI, rAll, rAny, rAppend, rExtend, rPopAt, rRep, rIxL, rIxT, rSetL, rSlL, rCatA, rEqD, rNeD, List.cons_append, List.nil_append, List.append_nil])
theorem sc_RawBook_keep : FnScope ["self", "bag", "owners", "rules", "rewriters", "rule", "bit", "told", "many", "exit_number"] ["self", "bag", "owners", "rules", "rewriters"] (defScope s_RawBook_keep) := ⟨rfl, rfl, rfl, by decide +kernel, rfl, by decide +kernel, by decide +kernel⟩
def t_RawBook_keep (K : PySem.W.Frag) : TS :=
  (tSeq (sFld K (tVar 0) (tVar 1) "kept_bag")
    (tSeq (sFld K (tVar 0) (tVar 2) "kept_owners")
    (tSeq (sFld K (tVar 0) (tVar 3) "kept_rules")
    (tSeq (sFld K (tVar 0) (tVar 4) "kept_rewriters")
    (tSeq (sFld K (tVar 0) (tLc (iTup K (tFld K (tVar 1) "kept_exits")) (gName 8) tYes (tLst tNil) [8]) "here_rules")
    (tSeq (sFld K (tVar 0) (tLc (iTup K (tFld K (tVar 1) "kept_exits")) (gName 8) tYes (tLc (iRng1 (tCons (tVar 8) tNil)) (gName 9) tYes (tLst tNil) [9]) [8]) "way_rules")
    (tFor (iTup K (tVar 3)) (gName 5) (tSeq (tAsg (tOp rShlI (tC (.int 1)) (tOp (rIxT K) (tVar 5) (tUn rNegI (tC (.int 1))))) (gName 6))
    (tIfS (tTest (tOp rEq (tOp (rIxT K) (tVar 5) (tC (.int 0))) (tC (.str "here")))) (tDrop (tBM K "list" rAppend (tOp (rIxL K) (tFld K (tVar 0) "here_rules") (tOp (rIxT K) (tVar 5) (tC (.int 1)))) (tCons (tTup (tCons (tCall (sp_mask_of K) [] E0 (tCons (tOp (rIxT K) (tVar 5) (tC (.int 2))) tNil)) (tCons (tVar 6) tNil))) tNil))) (tSeq (tAsg (tTup (tCons (tCall (sp_mask_of K) [] E0 (tCons (tOp (rIxT K) (tVar 5) (tC (.int 3))) tNil)) (tCons (tCall (sp_mask_of K) [] E0 (tCons (tOp (rIxT K) (tVar 5) (tC (.int 4))) tNil)) (tCons (tOp rEq (tOp (rIxT K) (tVar 5) (tC (.int 5))) (tC (.str "far"))) (tCons (tVar 6) tNil))))) (gName 7))
    (tDrop (tBM K "list" rAppend (tOp (rIxL K) (tOp (rIxL K) (tFld K (tVar 0) "way_rules") (tOp (rIxT K) (tVar 5) (tC (.int 1)))) (tOp (rIxT K) (tVar 5) (tC (.int 2)))) (tCons (tVar 7) tNil)))))))))))))
/-- the lists that a book's rules fill -/
abbrev Pl := Nat × Option Nat
def cont (rs : List Rule) : Pl → List PyData
  | (k, none) => (hereOf rs k).map eP
  | (k, some e) => (wayOf rs k e).map eW
def loc (hs : List Addr) (W : List (List Addr)) : Pl → Option Addr
  | (k, none) => hs[k]?
  | (k, some e) => (W[k]?).bind fun as => as[e]?
/-- as many new empty lists, told by the list at D -/
structure New1 (H0 H : Hp) (D : Addr) (as : List Addr) : Prop where
  same : Same H0 H
  top : H D = some (.lst (as.map V.ref))
  dn : D ∉ as
  new : ∀ d ∈ as, H0 d = none
  emp : ∀ d ∈ as, H d = some (.lst [])
  inj : ∀ (i j : Nat) (d : Addr), as[i]? = some d → as[j]? = some d → i = j
theorem snoc_at {α : Type} {as : List α} {d x : α} {i : Nat} (hi : (as ++ [d])[i]? = some x) : (i < as.length ∧ as[i]? = some x) ∨ (i = as.length ∧ x = d) := by
  by_cases c : i < as.length
  · rw [List.getElem?_append_left c] at hi; exact .inl ⟨c, hi⟩
  · rw [List.getElem?_append_right (by omega)] at hi
    have : i - as.length = 0 := by
      have := (List.getElem?_eq_some_iff.mp hi).1
      simp at this; omega
    rw [this] at hi
    exact .inr ⟨by omega, (Option.some.inj hi).symm⟩
theorem New1.start {H0 : Hp} {D : Addr} (h : H0 D = none) : New1 H0 (upd H0 D (.lst [])) D [] := ⟨Same.new h, upd_same, List.not_mem_nil, fun _ h => (List.not_mem_nil h).elim, fun _ h => (List.not_mem_nil h).elim, fun _ _ _ h => by simp at h⟩
theorem New1.snoc {H0 H : Hp} {D d : Addr} {as : List Addr} (h : New1 H0 H D as) (nD : H0 D = none) (nd : H d = none) : New1 H0 (upd (upd H d (.lst [])) D (.lst (as.map V.ref ++ [.ref d]))) D (as ++ [d]) := by
  have hne : d ∉ as := fun hm => by rw [h.emp d hm] at nd; cases nd
  have hD : D ≠ d := ne_of_none h.top nd
  refine ⟨(h.same.snew nd).mut nD, by rw [upd_same, List.map_append]; rfl, fun hm => ?_, fun x hx => ?_, fun x hx => ?_, fun i j x hi hj => ?_⟩
  · rcases List.mem_append.mp hm with hx | hx
    · exact h.dn hx
    · exact hD (List.mem_singleton.mp hx)
  · rcases List.mem_append.mp hx with hx | hx
    · exact h.new x hx
    · cases List.mem_singleton.mp hx
      exact h.same.free nd
  · rcases List.mem_append.mp hx with hx | hx
    · rw [upd_ne (fun z => h.dn (by rw [← z]; exact hx)), upd_ne (fun z => hne (by rw [← z]; exact hx))]
      exact h.emp x hx
    · cases List.mem_singleton.mp hx
      rw [upd_ne hD.symm, upd_same]
  · rcases snoc_at hi with ⟨_, a⟩ | ⟨a, b⟩ <;> rcases snoc_at hj with ⟨_, c⟩ | ⟨c, e⟩
    · exact h.inj i j x a c
    · subst e; exact absurd (List.mem_of_getElem? a) hne
    · subst b; exact absurd (List.mem_of_getElem? c) hne
    · omega
/-- lists of new empty lists -/
structure WSt (H2 H' : Hp) (Dw : Addr) (exits : List Nat) (i : Nat) (ls : List Addr) (W : List (List Addr)) : Prop where
  same : Same H2 H'
  top : H' Dw = some (.lst (ls.map V.ref))
  ll : ls.length = i
  wl : W.length = i
  row : ∀ (k : Nat) l as, ls[k]? = some l → W[k]? = some as → H' l = some (.lst (as.map V.ref)) ∧ as.length = exits.getD k 0
  lnew : ∀ l ∈ ls, H2 l = none ∧ l ≠ Dw ∧ H' l ≠ none
  dnew : ∀ as ∈ W, ∀ d ∈ as, H2 d = none ∧ d ≠ Dw ∧ H' d = some (.lst [])
  sep : ∀ l ∈ ls, ∀ as ∈ W, l ∉ as
  inj : ∀ (k e k' e' : Nat) as as' d, W[k]? = some as → as[e]? = some d → W[k']? = some as' → as'[e']? = some d → k = k' ∧ e = e'
theorem WSt.start {H0 : Hp} {D : Addr} {exits : List Nat} (h : H0 D = none) : WSt H0 (upd H0 D (.lst [])) D exits 0 [] [] :=
  ⟨Same.new h, upd_same, rfl, rfl, fun _ _ _ h => (by simp at h), fun _ h => (List.not_mem_nil h).elim, fun _ h => (List.not_mem_nil h).elim, fun _ h => (List.not_mem_nil h).elim, fun _ _ _ _ _ _ _ h => (by simp at h)⟩
theorem WSt.snoc {H2 H1 H3 : Hp} {Dw l : Addr} {exits : List Nat} {i : Nat} {ls : List Addr} {W : List (List Addr)} {as : List Addr} (h : WSt H2 H1 Dw exits i ls W) (nD : H2 Dw = none) (n : New1 H1 H3 l as) (nl : H1 l = none) (el : as.length = exits.getD i 0) :
    WSt H2 (upd H3 Dw (.lst (ls.map V.ref ++ [.ref l]))) Dw exits (i + 1) (ls ++ [l]) (W ++ [as]) := by
  have hDl : Dw ≠ l := ne_of_none h.top nl
  have hDas : Dw ∉ as := fun hm => by have := n.new _ hm; rw [h.top] at this; cases this
  have hlW : ∀ bs ∈ W, l ∉ bs := fun bs hb hm => by have := (h.dnew bs hb l hm).2.2; rw [nl] at this; cases this
  have hls : ∀ x ∈ ls, x ∉ as := fun x hx hm => (h.lnew x hx).2.2 (n.new x hm)
  have hWW : ∀ bs ∈ W, ∀ d ∈ bs, d ∉ as := fun bs hb d hd hm => by have := n.new d hm; rw [(h.dnew bs hb d hd).2.2] at this; cases this
  refine ⟨(h.same.trans n.same).mut nD, by rw [upd_same, List.map_append]; rfl, by simp [h.ll], by simp [h.wl], fun k x bs hk hb => ?_, fun x hx => ?_, fun bs hb d hd => ?_, fun x hx bs hb => ?_, fun k e k' e' bs bs' d hb he hb' he' => ?_⟩
  · rcases snoc_at hk with ⟨c, a⟩ | ⟨c, rfl⟩ <;> rcases snoc_at hb with ⟨c2, a2⟩ | ⟨c2, rfl⟩
    · have := h.row k x bs a a2
      exact ⟨by rw [upd_ne (h.lnew x (List.mem_of_getElem? a)).2.1]; exact n.same _ _ this.1, this.2⟩
    · rw [h.ll] at c; rw [h.wl] at c2; omega
    · rw [h.ll] at c; rw [h.wl] at c2; omega
    · rw [c, h.ll]
      exact ⟨by rw [upd_ne hDl.symm]; exact n.top, el⟩
  · rcases List.mem_append.mp hx with hx | hx
    · have := h.lnew x hx
      refine ⟨this.1, this.2.1, ?_⟩
      rw [upd_ne this.2.1]
      cases c : H1 x with
      | none => exact absurd c this.2.2
      | some o => rw [n.same _ _ c]; intro z; cases z
    · cases List.mem_singleton.mp hx
      refine ⟨h.same.free nl, hDl.symm, ?_⟩
      rw [upd_ne hDl.symm, n.top]; intro z; cases z
  · rcases List.mem_append.mp hb with hb | hb
    · have := h.dnew bs hb d hd
      exact ⟨this.1, this.2.1, by rw [upd_ne this.2.1]; exact n.same _ _ this.2.2⟩
    · cases List.mem_singleton.mp hb
      have hd' : d ≠ Dw := fun z => hDas (z ▸ hd)
      exact ⟨h.same.free (n.new d hd), hd', by rw [upd_ne hd']; exact n.emp d hd⟩
  · rcases List.mem_append.mp hx with hx | hx <;> rcases List.mem_append.mp hb with hb | hb
    · exact h.sep x hx bs hb
    · cases List.mem_singleton.mp hb; exact hls x hx
    · cases List.mem_singleton.mp hx; exact hlW bs hb
    · cases List.mem_singleton.mp hx; cases List.mem_singleton.mp hb; exact n.dn
  · rcases snoc_at hb with ⟨c, a⟩ | ⟨c, rfl⟩ <;> rcases snoc_at hb' with ⟨c2, a2⟩ | ⟨c2, rfl⟩
    · exact h.inj k e k' e' bs bs' d a he a2 he'
    · exact absurd (List.mem_of_getElem? he') (hWW bs (List.mem_of_getElem? a) d (List.mem_of_getElem? he))
    · exact absurd (List.mem_of_getElem? he) (hWW bs' (List.mem_of_getElem? a2) d (List.mem_of_getElem? he'))
    · exact ⟨by omega, n.inj e e' d he he'⟩
/-- the places of a book's lists -/
structure Locs (H : Hp) (a lh lw : Addr) (exits : List Nat) (hs ls : List Addr) (W : List (List Addr)) : Prop where
  hl : hs.length = exits.length
  ll : ls.length = exits.length
  wl : W.length = exits.length
  el : ∀ (k : Nat) as, W[k]? = some as → as.length = exits.getD k 0
  inj : ∀ p q d, loc hs W p = some d → loc hs W q = some d → p = q
  sep : ∀ p d, loc hs W p = some d → d ≠ a ∧ d ≠ lh ∧ d ≠ lw ∧ d ∉ ls ∧ H d = none
structure BK (K : Frag) (H : Hp) (a dx : Addr) (b o r w : V) (lh lw : Addr) (hs ls : List Addr) (W : List (List Addr)) (rs : List Rule) (Hc : Hp) : Prop where
  but : SameBut a H Hc
  self : Hc a = some (.ins (He.ga K "RawBook") dx (fBook b o r w (.ref lh) (.ref lw)))
  h : Hc lh = some (.lst (hs.map V.ref))
  w : Hc lw = some (.lst (ls.map V.ref))
  row : ∀ (k : Nat) l as, ls[k]? = some l → W[k]? = some as → Hc l = some (.lst (as.map V.ref))
  cont : ∀ p d, loc hs W p = some d → ∃ xs, Hc d = some (.lst xs) ∧ DtL Hc xs (cont rs p)
theorem BK.same {K : Frag} {H : Hp} {a dx : Addr} {b o r w : V} {lh lw : Addr} {hs ls : List Addr} {W : List (List Addr)} {rs : List Rule} {Hc Hd : Hp} (B : BK K H a dx b o r w lh lw hs ls W rs Hc) (s : Same Hc Hd) : BK K H a dx b o r w lh lw hs ls W rs Hd :=
  ⟨B.but.trans s.but, s _ _ B.self, s _ _ B.h, s _ _ B.w, fun k l as h1 h2 => s _ _ (B.row k l as h1 h2), fun p d hp => by obtain ⟨xs, h1, h2⟩ := B.cont p d hp; exact ⟨xs, s _ _ h1, h2.same s⟩⟩
theorem BK.put {K : Frag} {H : Hp} {a dx : Addr} {b o r w : V} {lh lw : Addr} {exits : List Nat} {hs ls : List Addr} {W : List (List Addr)} {rs rs' : List Rule} {Hc : Hp} (B : BK K H a dx b o r w lh lw hs ls W rs Hc) (Lc : Locs H a lh lw exits hs ls W)
    {p : Pl} {d : Addr} (hp : loc hs W p = some d) {xs : List V} (hd : Hc d = some (.lst xs)) (hx : DtL Hc xs (NB.cont rs p)) {x : V} {e : PyData} (he : Dt Hc x e) (hc : ∀ q, NB.cont rs' q = NB.cont rs q ++ if q = p then [e] else []) :
    BK K H a dx b o r w lh lw hs ls W rs' (upd Hc d (.lst (xs ++ [x]))) := by
  obtain ⟨n1, n2, n3, n4, n5⟩ := Lc.sep p d hp
  have im : Im Hc (upd Hc d (.lst (xs ++ [x]))) := Im.lst hd
  refine ⟨fun c u nc hu => ?_, ?_, ?_, ?_, fun k l as h1 h2 => ?_, fun q f hq => ?_⟩
  · rw [upd_ne (ne_of_none hu n5)]; exact B.but c u nc hu
  · rw [upd_ne n1.symm]; exact B.self
  · rw [upd_ne n2.symm]; exact B.h
  · rw [upd_ne n3.symm]; exact B.w
  · rw [upd_ne (fun z => n4 (by rw [← z]; exact List.mem_of_getElem? h1))]; exact B.row k l as h1 h2
  · rw [hc q]
    by_cases c : q = p
    · subst c
      rw [hp] at hq
      cases hq
      exact ⟨_, upd_same, by rw [if_pos rfl]; exact (hx.snoc he).im im⟩
    · have : f ≠ d := fun z => c (Lc.inj q p d (z ▸ hq) hp)
      obtain ⟨ys, h1, h2⟩ := B.cont q f hq
      exact ⟨ys, by rw [upd_ne this]; exact h1, by rw [if_neg c, List.append_nil]; exact h2.im im⟩
theorem BK.book {K : Frag} {H : Hp} {a dx : Addr} {b o r w : V} {lh lw : Addr} {exits : List Nat} {hs ls : List Addr} {W : List (List Addr)} {rs : List Rule} {D : Nat} {Hc : Hp} (B : BK K H a dx b o r w lh lw hs ls W rs Hc) (Lc : Locs H a lh lw exits hs ls W)
    (hb : BagAt K Hc b exits) (ho : Dt Hc o (eL (List.replicate D 0))) (hr : Dt Hc r (eT eR rs)) (hw : Dt Hc w (.tuple [])) : BookAt K Hc (.ref a) exits D rs := by
  refine ⟨a, dx, b, o, r, w, .ref lh, .ref lw, rfl, B.self, hb, ho, hr, hw, ⟨lh, _, rfl, B.h, by rw [List.length_map]; exact Lc.hl, fun k x hx => ?_⟩, lw, _, rfl, B.w, by rw [List.length_map]; exact Lc.ll, fun k x hx => ?_⟩
  · rw [List.getElem?_map] at hx
    cases c : hs[k]? with
    | none => rw [c] at hx; cases hx
    | some d =>
      rw [c] at hx; cases hx
      obtain ⟨xs, h1, h2⟩ := B.cont (k, none) d c
      exact ⟨d, xs, rfl, h1, h2⟩
  · rw [List.getElem?_map] at hx
    cases c : ls[k]? with
    | none => rw [c] at hx; cases hx
    | some l =>
      rw [c] at hx; cases hx
      have hk : k < W.length := by rw [Lc.wl, ← Lc.ll]; exact (List.getElem?_eq_some_iff.mp c).1
      have hW : W[k]? = some W[k] := List.getElem?_eq_getElem hk
      refine ⟨l, _, rfl, B.row k l _ c hW, by rw [List.length_map]; exact Lc.el k _ hW, fun e y hy => ?_⟩
      rw [List.getElem?_map] at hy
      cases c2 : (W[k])[e]? with
      | none => rw [c2] at hy; cases hy
      | some d =>
        rw [c2] at hy; cases hy
        obtain ⟨xs, h1, h2⟩ := B.cont (k, some e) d (by show (W[k]?).bind _ = _; rw [hW]; exact c2)
        exact ⟨d, xs, rfl, h1, h2⟩
theorem cont_here {rs : List Rule} {j : Nat} {k d : Nat} {need : List Nat} (h : rs[j]? = some (.here k need d)) (q : Pl) : cont (rs.take (j + 1)) q = cont (rs.take j) q ++ if q = (k, none) then [eP (maskOf need, 2 ^ d)] else [] := by
  obtain ⟨k', _ | e'⟩ := q
  · show ((hereOf (rs.take (j + 1)) k').map eP) = (hereOf (rs.take j) k').map eP ++ _
    unfold hereOf
    rw [take_more h, List.filterMap_append, List.map_append]
    by_cases c : k' = k
    · subst c; simp
    · have c2 : ¬ k = k' := fun z => c z.symm
      simp [c, c2]
  · show ((wayOf (rs.take (j + 1)) k' e').map eW) = (wayOf (rs.take j) k' e').map eW ++ _
    unfold wayOf
    rw [take_more h, List.filterMap_append, List.map_append]
    simp
theorem cont_way {rs : List Rule} {j : Nat} {k e d : Nat} {near far : List Nat} {b : Bool} (h : rs[j]? = some (.way k e near far b d)) (q : Pl) : cont (rs.take (j + 1)) q = cont (rs.take j) q ++ if q = (k, some e) then [eW ⟨maskOf near, maskOf far, b, 2 ^ d⟩] else [] := by
  obtain ⟨k', _ | e'⟩ := q
  · show ((hereOf (rs.take (j + 1)) k').map eP) = (hereOf (rs.take j) k').map eP ++ _
    unfold hereOf
    rw [take_more h, List.filterMap_append, List.map_append]
    simp
  · show ((wayOf (rs.take (j + 1)) k' e').map eW) = (wayOf (rs.take j) k' e').map eW ++ _
    unfold wayOf
    rw [take_more h, List.filterMap_append, List.map_append]
    by_cases c : k' = k ∧ e' = e
    · obtain ⟨rfl, rfl⟩ := c; simp
    · have c2 : ¬ (k = k' ∧ e = e') := fun z => c ⟨z.1.symm, z.2.symm⟩
      have c3 : ¬ ((k', some e') : Pl) = (k, some e) := fun z => c (by cases z; exact ⟨rfl, rfl⟩)
      rw [if_neg c3]
      simp [c2]
theorem here_inv {H : Hp} {x : V} {k d : Nat} {need : List Nat} (h : Dt H x (eR (.here k need d))) : ∃ ar an, x = .ref ar ∧ H ar = some (.tup [.str "here", nv k, .ref an, nv d]) ∧ H an = some (.tup (need.map nv)) := by
  obtain ⟨a, xs, rfl, h1, h2⟩ := h.tup_inv
  cases h2 with
  | cons x1 h2 => cases h2 with
    | cons x2 h2 => cases h2 with
      | cons x3 h2 => cases h2 with
        | cons x4 h2 => cases h2 with
          | nil =>
            cases x2.int_inv; cases x4.int_inv
            cases x1
            obtain ⟨an, rfl, h3⟩ := Dt.lot x3
            exact ⟨a, an, rfl, h1, h3⟩
theorem way_inv {H : Hp} {x : V} {k e d : Nat} {near far : List Nat} {b : Bool} (h : Dt H x (eR (.way k e near far b d))) : ∃ ar an af, x = .ref ar ∧ H ar = some (.tup [.str "way", nv k, nv e, .ref an, .ref af, .str (if b then "far" else "near"), nv d]) ∧ H an = some (.tup (near.map nv)) ∧ H af = some (.tup (far.map nv)) := by
  obtain ⟨a, xs, rfl, h1, h2⟩ := h.tup_inv
  cases h2 with
  | cons x1 h2 => cases h2 with
    | cons x2 h2 => cases h2 with
      | cons x3 h2 => cases h2 with
        | cons x4 h2 => cases h2 with
          | cons x5 h2 => cases h2 with
            | cons x6 h2 => cases h2 with
              | cons x7 h2 => cases h2 with
                | nil =>
                  cases x2.int_inv; cases x3.int_inv; cases x7.int_inv
                  cases x1
                  cases x6
                  obtain ⟨an, rfl, h3⟩ := Dt.lot x4
                  obtain ⟨af, rfl, h4⟩ := Dt.lot x5
                  exact ⟨a, an, af, rfl, h1, h3, h4⟩
theorem pow_nv {d : Nat} : V.int (1 * 2 ^ ((d : Nat) : Int).toNat) = nv (2 ^ d) := by
  rw [Int.toNat_natCast, Int.one_mul]
  exact congrArg V.int (by simp)
theorem rd_RawBook_keep {K : Frag} {mg : Str → Option Value} (T : Txt K mg) {v b o r w : V} {H : Hp} {Q : VK} (h : ph_RawBook_keep K v b o r w H Q) : t_RawBook_keep K (De Q) [some v, some b, some o, some r, some w, none, none, none, none, none] H := by
  obtain ⟨a, dx, exits, D, rs, rfl, h0, B, xok, ho, hr, hw, hrl, hok, q⟩ := h
  unfold t_RawBook_keep
  walk_at "rd"
  refine ⟨_, rfl, _, rfl, a, _, dx, _, rfl, h0, T.c_RawBook, T.n_RawBook_kept_bag, by decide, ?_⟩
  refine ⟨_, rfl, _, rfl, a, _, dx, _, rfl, upd_same, T.c_RawBook, T.n_RawBook_kept_owners, lpn (lp lp0), ?_⟩
  refine ⟨_, rfl, _, rfl, a, _, dx, _, rfl, upd_same, T.c_RawBook, T.n_RawBook_kept_rules, lpn (lp (lp lp0)), ?_⟩
  refine ⟨_, rfl, _, rfl, a, _, dx, _, rfl, upd_same, T.c_RawBook, T.n_RawBook_kept_rewriters, lpn (lp (lp (lp lp0))), ?_⟩
  rw [updupd, updupd, updupd]
  have nb : b ≠ .ref a := by
    obtain ⟨b', d, x, rfl, h1, h2⟩ := B.ex
    intro e
    cases e
    rw [h0] at h1
    injection (Option.some.inj h1) with _ _ e3
    cases e3
  have sb : SameBut a H (upd H a (.ins (He.ga K "RawBook") dx (putF "kept_rewriters" w (putF "kept_rules" r (putF "kept_owners" o (putF "kept_bag" b [])))))) := SameBut.put
  have g1 : (upd H a (.ins (He.ga K "RawBook") dx (putF "kept_rewriters" w (putF "kept_rules" r (putF "kept_owners" o (putF "kept_bag" b [])))))) a = some (.ins (He.ga K "RawBook") dx (putF "kept_rewriters" w (putF "kept_rules" r (putF "kept_owners" o (putF "kept_bag" b []))))) := upd_same
  have fl : (putF "kept_rewriters" w (putF "kept_rules" r (putF "kept_owners" o (putF "kept_bag" b [])))).length ≤ 4 := lp (lp (lp (lp lp0)))
  generalize upd H a (.ins (He.ga K "RawBook") dx (putF "kept_rewriters" w (putF "kept_rules" r (putF "kept_owners" o (putF "kept_bag" b []))))) = H1 at sb g1 ⊢
  have fresh : ∀ {x : Addr}, H1 x = none → H x = none := fun {x} hx => by
    cases c : H x with
    | none => rfl
    | some u =>
      by_cases e : x = a
      · subst e; rw [g1] at hx; cases hx
      · rw [sb x u e c] at hx; cases hx
  have im1 : Im H H1 := fun c xs e => sb _ _ (fun z => by rw [z, h0] at e; cases e) e
  have B1 := B.but h0 nb sb
  obtain ⟨ab, dxb, x, rfl, hb1, hx1⟩ := B1.ex
  obtain ⟨ax, rfl, hax⟩ := hx1.lot
  have nba : ab ≠ a := fun z => nb (by rw [z])
  -- the lists of the here rules
  refine ⟨_, rfl, ab, _, dxb, _, _, rfl, hb1, T.c_Bag, T.n_Bag_kept_exits, by rfl, ax, rfl, ⟨_, SqT.of hax⟩, fun lh nlh => ?_⟩
  refine lc_it (walk_tup (K := K) (a := ax) (xs := exits.map nv)) (fun i H' => ∃ as, New1 H1 H' lh as ∧ as.length = i) ⟨[], New1.start nlh, rfl⟩ (fun i H' _ p => by obtain ⟨as, n, _⟩ := p; exact SqT.of (n.same _ _ hax)) ?_ ?_
  · rintro i x H2 H3 hi ⟨as, n, el⟩ ⟨rfl, hx⟩
    rw [List.length_map] at hi
    have := xok.hi
    refine ⟨rfl, Nat.zero_le _, fun d nd => ⟨as.map V.ref, ?_, ?_, as ++ [d], n.snoc nlh nd, by simp [el]⟩⟩
    · rw [upd_ne (ne_of_none n.top nd)]; exact n.top
    · rw [List.length_map, el]; exact smaller (by omega)
  rintro H2 ⟨hs, nh, elh⟩
  rw [List.length_map] at elh
  have sa : a ≠ lh := ne_of_none g1 nlh
  refine ⟨_, rfl, a, _, dx, _, rfl, nh.same _ _ g1, T.c_RawBook, T.n_RawBook_here_rules, lpn fl, ?_⟩
  -- the lists of the way rules
  have g2 : (upd H2 a (.ins (He.ga K "RawBook") dx (putF "here_rules" (.ref lh) (putF "kept_rewriters" w (putF "kept_rules" r (putF "kept_owners" o (putF "kept_bag" (.ref ab) []))))))) a = some (.ins (He.ga K "RawBook") dx (putF "here_rules" (.ref lh) (putF "kept_rewriters" w (putF "kept_rules" r (putF "kept_owners" o (putF "kept_bag" (.ref ab) [])))))) := upd_same
  have k2 : ∀ c u, c ≠ a → H2 c = some u → (upd H2 a (.ins (He.ga K "RawBook") dx (putF "here_rules" (.ref lh) (putF "kept_rewriters" w (putF "kept_rules" r (putF "kept_owners" o (putF "kept_bag" (.ref ab) []))))))) c = some u := fun c u n e => by rw [upd_ne n]; exact e
  have fl2 : (putF "here_rules" (.ref lh) (putF "kept_rewriters" w (putF "kept_rules" r (putF "kept_owners" o (putF "kept_bag" (.ref ab) []))))).length ≤ 5 := lp fl
  have alive : ∀ {x : Addr}, (upd H2 a (.ins (He.ga K "RawBook") dx (putF "here_rules" (.ref lh) (putF "kept_rewriters" w (putF "kept_rules" r (putF "kept_owners" o (putF "kept_bag" (.ref ab) []))))))) x = none → H2 x = none := fun {x} hx => by
    by_cases e : x = a
    · subst e; rw [upd_same] at hx; cases hx
    · rw [upd_ne e] at hx; exact hx
  generalize upd H2 a (.ins (He.ga K "RawBook") dx (putF "here_rules" (.ref lh) (putF "kept_rewriters" w (putF "kept_rules" r (putF "kept_owners" o (putF "kept_bag" (.ref ab) [])))))) = H3 at g2 k2 alive ⊢
  have hax3 : H3 ax = some (.tup (exits.map nv)) := k2 _ _ (ne_of hax g1 (by intro z; cases z)) (nh.same _ _ hax)
  refine ⟨_, rfl, ab, _, dxb, _, _, rfl, k2 _ _ nba (nh.same _ _ hb1), T.c_Bag, T.n_Bag_kept_exits, by rfl, ax, rfl, ⟨_, SqT.of hax3⟩, fun lw nlw => ?_⟩
  refine lc_it (walk_tup (K := K) (a := ax) (xs := exits.map nv)) (fun i H' => ∃ ls W, WSt H3 H' lw exits i ls W) ⟨[], [], WSt.start nlw⟩ (fun i H' _ p => by obtain ⟨ls, W, n⟩ := p; exact SqT.of (n.same _ _ hax3)) ?_ ?_
  · rintro i x H4 H5 hi ⟨ls, W, n⟩ ⟨rfl, hx⟩
    obtain ⟨m, hm, rfl⟩ := of_getElem?_nats hx
    have m3 := xok.le m (List.mem_of_getElem? hm)
    have := xok.hi
    rw [List.length_map] at hi
    refine ⟨rfl, _, rfl, (m : Int), rfl, by omega, by omega, fun l nl => ?_⟩
    refine lc_it walk_range (fun i' H' => ∃ as, New1 H5 H' l as ∧ as.length = i') ⟨[], New1.start nl, rfl⟩ (fun _ _ _ _ => trivial) ?_ ?_
    · rintro i' x H6 H7 hi' ⟨as, n5, el⟩ ⟨rfl, rfl⟩
      refine ⟨rfl, Nat.zero_le _, fun d nd => ⟨as.map V.ref, ?_, ?_, as ++ [d], n5.snoc nl nd, by simp [el]⟩⟩
      · rw [upd_ne (ne_of_none n5.top nd)]; exact n5.top
      · rw [List.length_map, el]; exact smaller (by omega)
    · rintro H6 ⟨as, n5, el⟩
      refine ⟨ls.map V.ref, n5.same _ _ n.top, by rw [List.length_map, n.ll]; exact smaller (by omega), ls ++ [l], W ++ [as], n.snoc nlw n5 nl ?_⟩
      rw [el, getD_of hm]; rfl
  rintro H4 ⟨ls, W, n⟩
  rw [List.length_map] at n
  refine ⟨_, rfl, a, _, dx, _, rfl, n.same _ _ g2, T.c_RawBook, T.n_RawBook_way_rules, lpn fl2, ?_⟩
  obtain ⟨arr, xs, rfl, harr, hxs⟩ := hr.open
  have hsa : ∀ d ∈ hs, d ≠ a := fun d hd z => by have := nh.new d hd; rw [z, g1] at this; cases this
  have hs3 : ∀ d ∈ hs, H3 d = some (.lst []) := fun d hd => k2 _ _ (hsa d hd) (nh.emp d hd)
  have lh3 : H3 lh = some (.lst (hs.map V.ref)) := k2 _ _ sa.symm nh.top
  have g3a : a ≠ lw := ne_of_none g2 nlw
  have Wn : ∀ as ∈ W, ∀ d ∈ as, d ≠ a := fun as ha d hd z => by have := (n.dnew as ha d hd).1; rw [z, g2] at this; cases this
  have memL : ∀ {p d}, loc hs W p = some d → (p.2 = none ∧ d ∈ hs) ∨ ∃ as ∈ W, d ∈ as := fun {p d} hp => by
    obtain ⟨k, _ | e⟩ := p
    · exact .inl ⟨rfl, List.mem_of_getElem? hp⟩
    · have hp' : (W[k]?).bind (fun as => as[e]?) = some d := hp
      cases c : W[k]? with
      | none => rw [c] at hp'; cases hp'
      | some as => rw [c] at hp'; exact .inr ⟨as, List.mem_of_getElem? c, List.mem_of_getElem? hp'⟩
  have Lc : Locs H a lh lw exits hs ls W := by
    refine ⟨elh, n.ll, n.wl, fun k as hk => ?_, fun p q d hp hq => ?_, fun p d hp => ?_⟩
    · have hk' : k < ls.length := by rw [n.ll, ← n.wl]; exact (List.getElem?_eq_some_iff.mp hk).1
      exact (n.row k _ as (List.getElem?_eq_getElem hk') hk).2
    · obtain ⟨k, _ | e⟩ := p <;> obtain ⟨k', _ | e'⟩ := q
      · rw [nh.inj k k' d hp hq]
      · rcases memL hq with ⟨c, _⟩ | ⟨as, ha, hd⟩
        · cases c
        · have := (n.dnew as ha d hd).1
          rw [hs3 d (List.mem_of_getElem? hp)] at this; cases this
      · rcases memL hp with ⟨c, _⟩ | ⟨as, ha, hd⟩
        · cases c
        · have := (n.dnew as ha d hd).1
          rw [hs3 d (List.mem_of_getElem? hq)] at this; cases this
      · have hp' : (W[k]?).bind (fun as => as[e]?) = some d := hp
        have hq' : (W[k']?).bind (fun as => as[e']?) = some d := hq
        cases c : W[k]? with
        | none => rw [c] at hp'; cases hp'
        | some as =>
          cases c' : W[k']? with
          | none => rw [c'] at hq'; cases hq'
          | some as' =>
            rw [c] at hp'; rw [c'] at hq'
            obtain ⟨rfl, rfl⟩ := n.inj k e k' e' as as' d c hp' c' hq'
            rfl
    · rcases memL hp with ⟨_, hd⟩ | ⟨as, ha, hd⟩
      · refine ⟨hsa d hd, fun z => nh.dn (by rw [← z]; exact hd), fun z => ?_, fun z => ?_, fresh (nh.new d hd)⟩
        · have := hs3 d hd; rw [z, nlw] at this; cases this
        · have := (n.lnew d z).1; rw [hs3 d hd] at this; cases this
      · have h5 := n.dnew as ha d hd
        refine ⟨Wn as ha d hd, fun z => ?_, h5.2.1, fun z => n.sep d z as ha hd, fresh (nh.same.free (alive h5.1))⟩
        rw [z, lh3] at h5; cases h5.1
  have BK0 : BK K H a dx (.ref ab) o (.ref arr) w lh lw hs ls W (rs.take 0) (upd H4 a (.ins (He.ga K "RawBook") dx (putF "way_rules" (.ref lw) (putF "here_rules" (.ref lh) (putF "kept_rewriters" w (putF "kept_rules" (.ref arr) (putF "kept_owners" o (putF "kept_bag" (.ref ab) [])))))))) := by
    refine ⟨fun c u nc hu => ?_, upd_same, ?_, ?_, fun k l as h1 h2 => ?_, fun p d hp => ⟨[], ?_, ?_⟩⟩
    · rw [upd_ne nc]
      exact n.same _ _ (k2 _ _ nc (nh.same _ _ (sb c u nc hu)))
    · rw [upd_ne sa.symm]; exact n.same _ _ lh3
    · rw [upd_ne g3a.symm]; exact n.top
    · have hl : l ≠ a := fun z => by have := (n.lnew l (List.mem_of_getElem? h1)).1; rw [z, g2] at this; cases this
      rw [upd_ne hl]; exact (n.row k l as h1 h2).1
    · rw [upd_ne (Lc.sep p d hp).1]
      rcases memL hp with ⟨_, hd⟩ | ⟨as, ha, hd⟩
      · exact n.same _ _ (hs3 d hd)
      · exact (n.dnew as ha d hd).2.2
    · obtain ⟨k, _ | e⟩ := p
      · exact .nil
      · exact .nil
  generalize upd H4 a (.ins (He.ga K "RawBook") dx (putF "way_rules" (.ref lw) (putF "here_rules" (.ref lh) (putF "kept_rewriters" w (putF "kept_rules" (.ref arr) (putF "kept_owners" o (putF "kept_bag" (.ref ab) []))))))) = H5 at BK0 ⊢
  have arne : arr ≠ a := ne_of harr h0 (by intro z; cases z)
  have imB : ∀ {Hc : Hp} {rs'}, BK K H a dx (.ref ab) o (.ref arr) w lh lw hs ls W rs' Hc → Im H Hc := fun Bc c xs e => Bc.but _ _ (fun z => by rw [z, h0] at e; cases e) e
  refine ⟨_, rfl, arr, rfl, ⟨_, SqT.of (imB BK0 _ _ harr)⟩, for_tup (K := K) (xs := xs) (fun j σ H' => BK K H a dx (.ref ab) o (.ref arr) w lh lw hs ls W (rs.take j) H' ∧ ∃ s5 s6 s7 s8 s9, σ = [some (.ref a), some (.ref ab), some o, some (.ref arr), some w, s5, s6, s7, s8, s9]) ⟨BK0, _, _, _, _, _, rfl⟩ (fun j σ H' _ pp => SqT.of (imB pp.1 _ _ harr)) ?_ ?_⟩
  · rintro j x σ H6 hj ⟨Bj, s5, s6, s7, s8, s9, rfl⟩
    obtain ⟨ru, hru, hd⟩ := hxs.at' hj
    have hokr := hok ru (List.mem_of_getElem? hru)
    have im6 := imB Bj
    have jl : j < rs.length := (List.getElem?_eq_some_iff.mp hru).1
    cases ru with
    | here k need d =>
      obtain ⟨hk, hn, hd1⟩ := hokr
      obtain ⟨ar, an, rfl, har, han⟩ := here_inv hd
      have har6 := im6 _ _ har
      refine ⟨_, rfl, _, rfl, ar, _, _, _, rfl, rfl, SqT.of har6, rfl, _, _, rfl, rfl, ⟨by omega, by omega, by decide⟩, ?_⟩
      dsimp only
      rw [pow_nv]
      refine ⟨_, rfl, ar, _, _, _, rfl, rfl, SqT.of har6, atI_nat (j := 0) rfl, by rfl, true, by rfl, iteT ?_⟩
      have hkh : k < hs.length := by rw [Lc.hl]; exact hk
      have hd' : hs[k]? = some (hs[k]) := List.getElem?_eq_getElem hkh
      generalize hs[k] = dd at hd'
      obtain ⟨ys, hy1, hy2⟩ := Bj.cont (k, none) dd hd'
      refine ⟨_, rfl, a, _, dx, _, _, rfl, Bj.self, T.c_RawBook, T.n_RawBook_here_rules, by rfl, _, rfl, ar, _, _, _, rfl, rfl, SqT.of har6, atI_nat (j := 1) rfl, lh, _, _, _, rfl, rfl, SqL.of Bj.h, atI_nat (v := .ref dd) (by rw [List.getElem?_map, hd']; rfl), ?_⟩
      refine ⟨.inl ⟨rfl, _, SqL.of hy1⟩, _, rfl, ar, _, _, _, rfl, rfl, SqT.of har6, atI_nat (j := 2) rfl, an, need, rfl, .inl (im6 _ _ han), hn, _, rfl, by show 2 ≤ sizeLine; decide, fun pt nt => ?_⟩
      have st : Same H6 (upd H6 pt (.tup [nv (maskOf need), nv (2 ^ d)])) := Same.new nt
      have gt : (upd H6 pt (.tup [nv (maskOf need), nv (2 ^ d)])) pt = some (.tup [nv (maskOf need), nv (2 ^ d)]) := upd_same
      refine ⟨dd, ys, .ref pt, rfl, rfl, st _ _ hy1, ?_, ?_⟩
      · rw [hy2.length]
        show ((hereOf (rs.take j) k).map eP).length < _
        rw [List.length_map]
        have := List.length_filterMap_le (fun r => match r with | Rule.here k' need d => if k' = k then some (maskOf need, 2 ^ d) else none | Rule.way .. => none) (rs.take j)
        have h2 : (rs.take j).length ≤ rs.length := by rw [List.length_take]; omega
        exact smaller (Nat.lt_of_le_of_lt (Nat.le_trans this h2) (by omega))
      · exact ⟨(Bj.same st).put (p := (k, none)) Lc hd' (st _ _ hy1) (hy2.same st) (.tup gt (.cons (.int _) (.cons (.int _) .nil))) (cont_here hru), _, _, _, _, _, rfl⟩
    | way k e near far bb d =>
      obtain ⟨hk, he, hn, hf, hd1⟩ := hokr
      obtain ⟨ar, an, af, rfl, har, han, haf⟩ := way_inv hd
      have har6 := im6 _ _ har
      refine ⟨_, rfl, _, rfl, ar, _, _, _, rfl, rfl, SqT.of har6, rfl, _, _, rfl, rfl, ⟨by omega, by omega, by decide⟩, ?_⟩
      dsimp only
      rw [pow_nv]
      refine ⟨_, rfl, ar, _, _, _, rfl, rfl, SqT.of har6, atI_nat (j := 0) rfl, by rfl, false, by rfl, iteF ?_⟩
      refine ⟨_, rfl, ar, _, _, _, rfl, rfl, SqT.of har6, atI_nat (j := 3) rfl, an, near, rfl, .inl (im6 _ _ han), hn, ?_⟩
      refine ⟨_, rfl, ar, _, _, _, rfl, rfl, SqT.of har6, atI_nat (j := 4) rfl, af, far, rfl, .inl (im6 _ _ haf), hf, ?_⟩
      refine ⟨_, rfl, ar, _, _, _, rfl, rfl, SqT.of har6, atI_nat (j := 5) rfl, by rfl, _, rfl, by show 4 ≤ sizeLine; decide, fun pt nt => ?_⟩
      have eb : decide (V.str (if bb = true then "far" else "near") = V.str "far") = bb := by cases bb <;> rfl
      rw [eb]
      have st : Same H6 (upd H6 pt (.tup [nv (maskOf near), nv (maskOf far), .bl bb, nv (2 ^ d)])) := Same.new nt
      have gt : (upd H6 pt (.tup [nv (maskOf near), nv (maskOf far), .bl bb, nv (2 ^ d)])) pt = some (.tup [nv (maskOf near), nv (maskOf far), .bl bb, nv (2 ^ d)]) := upd_same
      change gName 7 (V.ref pt) _ (upd H6 pt (.tup [nv (maskOf near), nv (maskOf far), .bl bb, nv (2 ^ d)])) _
      generalize upd H6 pt (.tup [nv (maskOf near), nv (maskOf far), .bl bb, nv (2 ^ d)]) = H7 at st gt ⊢
      have Bk := Bj.same st
      have har7 := st _ _ har6
      have hkl : k < ls.length := by rw [Lc.ll]; exact hk
      have hl' : ls[k]? = some (ls[k]) := List.getElem?_eq_getElem hkl
      generalize ls[k] = ll at hl'
      have hkw : k < W.length := by rw [Lc.wl]; exact hk
      have hw' : W[k]? = some (W[k]) := List.getElem?_eq_getElem hkw
      generalize W[k] = as at hw'
      have hea : e < as.length := by rw [Lc.el k as hw']; exact he
      have hd' : as[e]? = some (as[e]) := List.getElem?_eq_getElem hea
      generalize as[e] = dd at hd'
      have hloc : loc hs W (k, some e) = some dd := by show (W[k]?).bind _ = _; rw [hw']; exact hd'
      have hrow := Bk.row k ll as hl' hw'
      obtain ⟨ys, hy1, hy2⟩ := Bk.cont (k, some e) dd hloc
      refine ⟨_, rfl, a, _, dx, _, _, rfl, Bk.self, T.c_RawBook, T.n_RawBook_way_rules, by rfl, _, rfl, ar, _, _, _, rfl, rfl, SqT.of har7, atI_nat (j := 1) rfl, lw, _, _, _, rfl, rfl, SqL.of Bk.w, atI_nat (v := .ref ll) (by rw [List.getElem?_map, hl']; rfl), _, rfl, ar, _, _, _, rfl, rfl, SqT.of har7, atI_nat (j := 2) rfl, ll, _, _, _, rfl, rfl, SqL.of hrow, atI_nat (v := .ref dd) (by rw [List.getElem?_map, hd']; rfl), ?_⟩
      refine ⟨.inl ⟨rfl, _, SqL.of hy1⟩, _, rfl, dd, ys, .ref pt, rfl, rfl, hy1, ?_, ?_⟩
      · rw [hy2.length]
        show ((wayOf (rs.take j) k e).map eW).length < _
        rw [List.length_map]
        have h2 : (rs.take j).length ≤ rs.length := by rw [List.length_take]; omega
        have := List.length_filterMap_le (fun r => match r with | Rule.way k' e' near far b d => if k' = k ∧ e' = e then some (⟨maskOf near, maskOf far, b, 2 ^ d⟩ : WR) else none | Rule.here .. => none) (rs.take j)
        exact smaller (Nat.lt_of_le_of_lt (Nat.le_trans this h2) (by omega))
      · exact ⟨Bk.put (p := (k, some e)) Lc hloc hy1 hy2 (.tup gt (.cons (.int _) (.cons (.int _) (.cons (.bl _) (.cons (.int _) .nil))))) (cont_way hru), _, _, _, _, _, rfl⟩
  · rintro σ H6 ⟨Bj, s5, s6, s7, s8, s9, rfl⟩
    rw [hxs.len, List.take_length] at Bj
    refine q _ Bj.but (Bj.book Lc ?_ ?_ ?_ ?_)
    · exact B.but h0 (by intro z; cases z; exact nba rfl) Bj.but
    · exact ho.im (imB Bj)
    · exact hr.im (imB Bj)
    · exact hw.im (imB Bj)
end NB
set_option pp.maxSteps 900
set_option Elab.async false
set_option linter.all false
set_option maxRecDepth 100000
set_option maxHeartbeats 4000000
namespace NB
open PySem PyProof.Rows L2
local macro_rules | `(tactic| walk_at "rd") => `(tactic| dsimp only [De, tSeq, tNext, tAsg, tIfS, tRet, tRetN, tDrop, tBreak, tCont, tAug, ipI, gName, gNil, gCons, gTup, gSub, tVar, tC, tOp, tUn, tTest, tB, tTru, tNot, tAnd, tOr, tNotV, tAndV, tOrV, tChain, tCons, tNil, tCB, tCall, tMeth, tMake, tTup, tLst, tFld, sFld, tDGet, tDIn, tDNotIn, sDPut, tDNewK, tDNewT, tBM, tBM0, tSl, tPart, tNoPart, tYes, iList, iTup, iRng1, iRng2, iEnum, iEnumT, iSeq, RZ.iZipA, rMaxT, rRepA, rIn, tLstRg, tRg1, tRevT, rI0, rI, rU, rAddI, rSubI, rMulI, rDivI, rModI, rPowI, rShlI, rShrI, rAndI, rOrI, rLtI, rLeI, rGtI, rGeI, rNegI, rInvI, rEq, rNe, rLenS, rListS, rTupleS, rInt1, rBool1, rStrI, rAbsI, rAll, rAny, rAppend, rExtend, rPopAt, rRep, rIxL, rIxT, rSetL, rSlL, rSlA, rCatA, rEqD, rNeD, List.cons_append, List.nil_append, List.append_nil])
local macro_rules | `(tactic| walk_at "rs") => `(tactic| dsimp only [De, tSeq, tNext, tAsg, tIfS, tRet, tRetN, tDrop, tBreak, tCont, tAug, ipI, gName, gNil, gCons, gTup, gSub, tVar, tC, tOp, tUn, tTest, tB, tTru, tNot, tAnd, tOr, tNotV, tAndV, tOrV, tChain, tCons, tNil, tCB, tCall, tMeth, tMake, tTup, tLst, tFld, sFld, tDGet, tDIn, tDNotIn, sDPut, tDNewK, tDNewT, tBM, tBM0, tSl, tPart, tNoPart, tYes, iList, iTup, iRng1, iRng2, iEnum, iEnumT, iSeq, RZ.iZipA, rMaxT, rRepA, rIn, tLstRg, tRg1, tRevT, rI0, rI, rU, rAddI, rSubI, rMulI, rDivI, rModI, rPowI, rShlI, rShrI, rAndI, rOrI, rLtI, rLeI, rGtI, rGeI, rNegI, rInvI, rEq, rNe, rLenS, rListS, rTupleS, rInt1, rBool1, rStrI, rAbsI, rAll, rAny, rAppend, rExtend, rPopAt, rRep, rIxL, rIxT, rSetL, rSlL, rCatA, rEqD, rNeD, List.cons_append, List.nil_append, List.append_nil])
theorem sc_are_exits : FnScope ["thing", "many"] ["thing"] (defScope s_are_exits) := ⟨rfl, rfl, rfl, by decide +kernel, rfl, by decide +kernel, by decide +kernel⟩
def t_are_exits (K : PySem.W.Frag) : TS :=
  (tSeq (tIfS (tOr (tNot (tB (tCB (rIsi K) (tCons (tVar 0) (tCons (tC (.ty "tuple")) tNil))))) (tNot (tTest (tChain rLeI rLeI (tC (.int 1)) (tCB (rLenS K) (tCons (tVar 0) tNil)) (tC (.int 6)))))) (tRet (tC (.bl false))) tNext)
    (tRet (tCB (rAll K) (tCons (tLc (iTup K (tVar 0)) (gName 1) tYes (tCall (sp_is_between K) [] E0 (tCons (tVar 1) (tCons (tC (.int 0)) (tCons (tC (.int 3)) tNil)))) [1]) tNil))))
theorem sc_Bag_init : FnScope ["self", "exits"] ["self", "exits"] (defScope s_Bag_init) := ⟨rfl, rfl, rfl, by decide +kernel, rfl, by decide +kernel, by decide +kernel⟩
def t_Bag_init (K : PySem.W.Frag) : TS :=
  (tSeq (tIfS (tNot (tB (tCall (sp_are_exits K) [] E0 (tCons (tVar 1) tNil)))) tNever tNext)
    (sFld K (tVar 0) (tVar 1) "kept_exits"))
theorem sc_are_kinds : FnScope ["bag", "thing", "kind"] ["bag", "thing"] (defScope s_are_kinds) := ⟨rfl, rfl, rfl, by decide +kernel, rfl, by decide +kernel, by decide +kernel⟩
def t_are_kinds (K : PySem.W.Frag) : TS :=
  (tRet (tAndV (tCB (rIsi K) (tCons (tVar 1) (tCons (tC (.ty "tuple")) tNil))) (tCB (rAll K) (tCons (tLc (iTup K (tVar 1)) (gName 2) tYes (tCall (sp_is_index K) [] E0 (tCons (tVar 2) (tCons (tCB (rLenS K) (tCons (tFld K (tVar 0) "kept_exits") tNil)) tNil))) [2]) tNil))))
theorem sc_are_ways : FnScope ["bag", "kinds", "thing", "kind", "lots", "lot"] ["bag", "kinds", "thing"] (defScope s_are_ways) := ⟨rfl, rfl, rfl, by decide +kernel, rfl, by decide +kernel, by decide +kernel⟩
def t_are_ways (K : PySem.W.Frag) : TS :=
  (tSeq (tIfS (tOr (tNot (tB (tCB (rIsi K) (tCons (tVar 2) (tCons (tC (.ty "tuple")) tNil))))) (tTest (tOp rNe (tCB (rLenS K) (tCons (tVar 2) tNil)) (tCB (rLenS K) (tCons (tVar 1) tNil))))) (tRet (tC (.bl false))) tNext)
    (tSeq (tFor (RZ.iZipA K (tCons (tVar 1) (tCons (tVar 2) tNil))) (gTup K 2 (gCons (gName 3) (gCons (gName 4) gNil))) (tSeq (tIfS (tOr (tNot (tB (tCB (rIsi K) (tCons (tVar 4) (tCons (tC (.ty "tuple")) tNil))))) (tTest (tOp rNe (tCB (rLenS K) (tCons (tVar 4) tNil)) (tOp (rIxT K) (tFld K (tVar 0) "kept_exits") (tVar 3))))) (tRet (tC (.bl false))) tNext)
    (tIfS (tNot (tB (tCB (rAll K) (tCons (tLc (iTup K (tVar 4)) (gName 5) tYes (tCall (sp_is_lot K) [] E0 (tCons (tVar 5) (tCons (tCB (rLenS K) (tCons (tVar 1) tNil)) tNil))) [5]) tNil)))) (tRet (tC (.bl false))) tNext)))
    (tRet (tC (.bl true)))))
theorem sc_Program_init : FnScope ["self", "bag", "kinds", "ways"] ["self", "bag", "kinds", "ways"] (defScope s_Program_init) := ⟨rfl, rfl, rfl, by decide +kernel, rfl, by decide +kernel, by decide +kernel⟩
def t_Program_init (K : PySem.W.Frag) : TS :=
  (tSeq (tIfS (tOr (tNot (tB (tCall (sp_are_kinds K) [] E0 (tCons (tVar 1) (tCons (tVar 2) tNil))))) (tNot (tTest (tChain rLeI rLeI (tC (.int 1)) (tCB (rLenS K) (tCons (tVar 2) tNil)) (tC (.int 60)))))) tNever tNext)
    (tSeq (tIfS (tNot (tB (tCall (sp_are_ways K) [] E0 (tCons (tVar 1) (tCons (tVar 2) (tCons (tVar 3) tNil)))))) tNever tNext)
    (tDrop (tMeth (He.ga K "Program") "keep" (sp_Program_keep K) [] E0 (tVar 0) (tCons (tVar 1) (tCons (tVar 2) (tCons (tVar 3) tNil)))))))
theorem sc_RawBook_init : FnScope ["self", "bag", "owners", "rules", "rewriters"] ["self", "bag", "owners", "rules", "rewriters"] (defScope s_RawBook_init) := ⟨rfl, rfl, rfl, by decide +kernel, rfl, by decide +kernel, by decide +kernel⟩
def t_RawBook_init (K : PySem.W.Frag) : TS :=
  (tDrop (tMeth (He.ga K "RawBook") "keep" (sp_RawBook_keep K) [] E0 (tVar 0) (tCons (tVar 1) (tCons (tVar 2) (tCons (tVar 3) (tCons (tVar 4) tNil))))))
theorem ys_true {ys : List V} {n : Nat} (hl : ys.length = n) (h : ∀ (j : Nat) y, ys[j]? = some y → y = V.bl true) : ys = (List.replicate n true).map V.bl := by
  rw [List.map_replicate]
  exact List.eq_replicate_iff.mpr ⟨hl, fun y hy => by obtain ⟨k, hk⟩ := List.getElem?_of_mem hy; exact h k y hk⟩
theorem all_rep : ∀ n, (List.replicate n true).all id = true
  | 0 => rfl
  | n + 1 => by rw [List.replicate_succ, List.all_cons, all_rep n]; rfl
theorem lc_all {J : It} {n : Nat} {G : Hp → Prop} {Y : Nat → Hp → V → Hp → Prop} (w : Walk J n G Y) {g : TG} {te : TE} {vs : List Nat} {σ : L2.St} {H0 : Hp} {Dl : Addr} {Qd : Hp → Prop} (nD : H0 Dl = none) (hn : n ≤ 100000)
    (hG : ∀ H', Same H0 H' → G H')
    (hs : ∀ i x H1 H2 (Kk : V → Hp → Prop), i < n → Same H0 H1 → Y i H1 x H2 → (∀ H4, Same H1 H4 → Kk (.bl true) H4) → g x (wipe σ vs) H2 fun σ2 H3 => wipe σ2 vs = wipe σ vs ∧ te σ2 H3 Kk)
    (hd : ∀ H', Same H0 H' → H' Dl = some (.lst ((List.replicate n true).map V.bl)) → Qd H') :
    ∃ W : Nat → Nat → Hp → Prop, (∃ m, W 0 m (upd H0 Dl (.lst []))) ∧ ∀ i m H, W i m H →
      (J.stop i H ∧ Qd H) ∨ (J.go i H ∧ ∃ Nx : Hp → Prop, (∀ H', Nx H' → ∃ m', m' < m ∧ W (i + 1) m' H') ∧ ∀ x H', J.yld i H x H' → g x (wipe σ vs) H' fun σ2 H2 => wipe σ2 vs = wipe σ vs ∧ tYes σ2 H2 fun b H3 =>
        if b = true then te σ2 H3 fun y H4 => ∃ acc, H4 Dl = some (.lst acc) ∧ acc.length < sizeLine ∧ Nx (upd H4 Dl (.lst (acc ++ [y]))) else Nx H3) := by
  refine lc_rel w nD (fun _ y _ => y = .bl true) hn (fun _ _ _ _ _ _ _ h => h) hG ?_ ?_
  · intro i x H1 H2 Kk hi s _ y hK
    exact hs i x H1 H2 Kk hi s y fun H4 s4 => hK _ _ s4 rfl
  · intro H' ys s hD hl hy
    rw [ys_true hl hy] at hD
    exact hd _ s hD
theorem isLotL_of {m : Nat} : ∀ {l : List Nat} {lo : Int}, l.Pairwise (· < ·) → (∀ x ∈ l, x < m ∧ lo < (x : Int)) → isLotL (m : Int) lo (l.map fun (n : Nat) => some (n : Int)) = true
  | [], _, _, _ => rfl
  | a :: l, lo, hp, h => by
    have ha := h a List.mem_cons_self
    have ih := isLotL_of (m := m) (l := l) (lo := (a : Int)) (List.pairwise_cons.mp hp).2 fun x hx => ⟨(h x (List.mem_cons_of_mem _ hx)).1, by have := (List.pairwise_cons.mp hp).1 x hx; omega⟩
    show (decide (0 ≤ (a : Int)) && decide ((a : Int) < (m : Int)) && decide (lo < (a : Int)) && isLotL (m : Int) (a : Int) (l.map fun (n : Nat) => some (n : Int))) = true
    rw [ih, decide_eq_true (Int.natCast_nonneg a), decide_eq_true (show (a : Int) < (m : Int) by omega), decide_eq_true ha.2]
    rfl
theorem Lot.is {m : Nat} {l : List Nat} (h : Lot m l) : isLot (m : Int) (some (l.map fun (n : Nat) => some (n : Int))) = true :=
  isLotL_of h.1 fun x hx => ⟨h.2 x hx, by omega⟩
theorem rd_are_exits {K : Frag} {mg : Str → Option Value} (T : Txt K mg) {t : V} {H : Hp} {Q : VK} (h : ph_are_exits K t H Q) : t_are_exits K (De Q) [some t, none] H := by
  obtain ⟨exits, ht, xok, q⟩ := h
  obtain ⟨a, rfl, hat⟩ := ht.lot
  have lo := xok.lo
  have hi := xok.hi
  unfold t_are_exits
  walk_at "rd"
  refine ⟨_, rfl, isT hat ⟨true, rfl, iteF ?_⟩⟩
  have el : (exits.map nv).length = exits.length := by simp
  refine ⟨_, rfl, a, _, rfl, .inr (SqT.of hat), _, _, rfl, rfl, true, congrArg V.bl (decide_eq_true (by omega)), iteT ⟨_, _, rfl, rfl, true, congrArg V.bl (decide_eq_true (by omega)), iteF ?_⟩⟩
  refine ⟨_, rfl, a, rfl, ⟨_, SqT.of hat⟩, fun Dl nD => ?_⟩
  refine lc_all (walk_tup (K := K) (a := a) (xs := exits.map nv)) nD (by omega) (fun H' s => SqT.of (s _ _ hat)) ?_ fun H' s hD => ⟨Dl, _, rfl, SqL.of hD, by rw [all_rep]; exact q _ s⟩
  rintro i x H1 H2 Kk hi s ⟨rfl, hx⟩ hK
  obtain ⟨n, hn, rfl⟩ := of_getElem?_nats hx
  have h3 := xok.le n (List.mem_of_getElem? hn)
  refine ⟨rfl, _, rfl, some (n : Int), 0, 3, .int _, rfl, rfl, ?_⟩
  have e : (some (n : Int)).any (fun i => decide (0 ≤ i) && decide (i ≤ 3)) = true := by
    show (decide (0 ≤ (n : Int)) && decide ((n : Int) ≤ 3)) = true
    rw [decide_eq_true (by omega), decide_eq_true (by omega)]; rfl
  rw [e]
  exact hK _ (fun _ _ h => h)
theorem rd_Bag_init {K : Frag} {mg : Str → Option Value} (T : Txt K mg) {v x : V} {H : Hp} {Q : VK} (h : ph_Bag_init K v x H Q) : t_Bag_init K (De Q) [some v, some x] H := by
  obtain ⟨a, dx, exits, rfl, h0, hx, xok, q⟩ := h
  unfold t_Bag_init
  walk_at "rd"
  refine ⟨_, rfl, exits, hx, xok, fun H1 s1 => ⟨true, rfl, iteF ⟨_, rfl, _, rfl, a, _, dx, _, rfl, s1 _ _ h0, T.c_Bag, T.n_Bag_kept_exits, by decide, ?_⟩⟩⟩
  have sp : SameBut a H1 (upd H1 a (.ins (He.ga K "Bag") dx (fBag x))) := SameBut.put
  refine q _ (s1.but.trans sp) ⟨a, dx, x, rfl, upd_same, hx.im fun c xs e => sp _ _ (fun z => by rw [z, h0] at e; cases e) (s1 _ _ e)⟩
theorem rd_are_kinds {K : Frag} {mg : Str → Option Value} (T : Txt K mg) {b t : V} {H : Hp} {Q : VK} (h : ph_are_kinds K b t H Q) : t_are_kinds K (De Q) [some b, some t, none] H := by
  obtain ⟨exits, kinds, B, ht, hl, hk, q⟩ := h
  obtain ⟨a, rfl, hat⟩ := ht.lot
  obtain ⟨ab, dxb, x, rfl, hb, hx⟩ := B.ex
  obtain ⟨ax, rfl, hax⟩ := hx.lot
  unfold t_are_kinds
  walk_at "rd"
  refine ⟨_, rfl, isT hat ⟨true, rfl, iteT ?_⟩⟩
  refine ⟨_, rfl, a, rfl, ⟨_, SqT.of hat⟩, fun Dl nD => ?_⟩
  refine lc_all (walk_tup (K := K) (a := a) (xs := kinds.map nv)) nD (by rw [List.length_map]; omega) (fun H' s => SqT.of (s _ _ hat)) ?_ fun H' s hD => ⟨Dl, _, rfl, SqL.of hD, by rw [all_rep]; exact q _ s⟩
  rintro i x1 H1 H2 Kk hi s ⟨rfl, hx1⟩ hK
  obtain ⟨n, hn, rfl⟩ := of_getElem?_nats hx1
  have h3 := hk n (List.mem_of_getElem? hn)
  refine ⟨rfl, _, rfl, _, rfl, ab, _, dxb, _, _, rfl, s _ _ hb, T.c_Bag, T.n_Bag_kept_exits, by rfl, ax, _, rfl, .inr (SqT.of (s _ _ hax)), some (n : Int), _, .int _, rfl, ?_⟩
  have e : (some (n : Int)).any (fun i => decide (0 ≤ i) && decide (i < (((exits.map nv).length : Nat) : Int))) = true := by
    show (decide (0 ≤ (n : Int)) && decide ((n : Int) < _)) = true
    rw [List.length_map, decide_eq_true (by omega), decide_eq_true (by omega)]; rfl
  rw [e]
  exact hK _ (fun _ _ h => h)
theorem rd_are_ways {K : Frag} {mg : Str → Option Value} (T : Txt K mg) {b k t : V} {H : Hp} {Q : VK} (h : ph_are_ways K b k t H Q) : t_are_ways K (De Q) [some b, some k, some t, none, none, none] H := by
  obtain ⟨exits, kinds, ways, B, hk, ht, xok, pok, q⟩ := h
  obtain ⟨ak, rfl, hak⟩ := hk.lot
  obtain ⟨at', xs, rfl, hat, hxs⟩ := ht.open
  obtain ⟨ab, dxb, x, rfl, hb, hx⟩ := B.ex
  obtain ⟨ax, rfl, hax⟩ := hx.lot
  have exl : xs.length = kinds.length := by rw [hxs.len, pok.wlen]
  have hi12 := pok.hi
  unfold t_are_ways
  walk_at "rd"
  refine ⟨_, rfl, isT hat ⟨true, rfl, iteF ?_⟩⟩
  refine ⟨_, rfl, at', _, rfl, .inr (SqT.of hat), _, rfl, ak, _, rfl, .inr (SqT.of hak), by rfl, false, congrArg V.bl (by rw [exl, List.length_map]; simp), iteF ?_⟩
  refine ⟨_, rfl, _, rfl, ak, at', _, _, rfl, .inr ⟨SqT.of hak, SqT.of hat, ?_⟩⟩
  refine for_it (walk_zipT (K := K) (a := ak) (b := at') (xs := kinds.map nv) (ys := xs) (n := kinds.length) (by rw [List.length_map, exl]; omega)) (fun i σ H' => Same H H' ∧ ∃ c d e, σ = [some (.ref ab), some (.ref ak), some (.ref at'), c, d, e]) ⟨fun _ _ h => h, _, _, _, rfl⟩ (fun i σ H' _ p => ⟨SqT.of (p.1 _ _ hak), SqT.of (p.1 _ _ hat)⟩) ?_ ?_
  · rintro i v σ H1 H2 hi ⟨s, c, d, e, rfl⟩ ⟨Tt, x1, y1, rfl, nT, rfl, e1, e2⟩
    obtain ⟨kk, hkk, rfl⟩ := of_getElem?_nats e1
    obtain ⟨l, hl, hd⟩ := hxs.at' e2
    have sT := s.snew (o := .tup [nv kk, y1]) nT
    have gT : (upd H1 Tt (.tup [nv kk, y1])) Tt = some (.tup [nv kk, y1]) := upd_same
    generalize upd H1 Tt (.tup [nv kk, y1]) = H3 at sT gT ⊢
    obtain ⟨al, ys, rfl, hal, hys⟩ := hd.open
    have hel := pok.elen i l hl
    rw [getD_of hkk] at hel
    have hal3 := sT _ _ hal
    refine ⟨Tt, _, rfl, SqT.of gT, rfl, _, _, rfl, _, _, rfl, rfl, ?_⟩
    walk_at "rd"
    refine ⟨_, rfl, isT hal3 ⟨true, rfl, iteF ?_⟩⟩
    refine ⟨_, rfl, al, _, rfl, .inr (SqT.of hal3), _, rfl, ab, _, dxb, _, _, rfl, sT _ _ hb, T.c_Bag, T.n_Bag_kept_exits, by rfl, _, rfl, ax, _, _, _, rfl, rfl, SqT.of (sT _ _ hax), atI_nat (getElem?_nats hel), by rfl, false, congrArg V.bl (by rw [hys.len]; simp), iteF ?_⟩
    refine ⟨_, rfl, al, rfl, ⟨_, SqT.of hal3⟩, fun Dl nD => ?_⟩
    have l3 := hys.len
    refine lc_all (walk_tup (K := K) (a := al) (xs := ys)) nD ?_ (fun H' s => SqT.of (s _ _ hal3)) ?_ ?_
    · have := xok.le _ (List.mem_of_getElem? hel); omega
    · rintro i2 x2 H4 H5 Kk hi2 s2 ⟨rfl, hx2⟩ hK
      obtain ⟨lt, hlt, hd2⟩ := hys.at' hx2
      have lot := pok.lots l (List.mem_of_getElem? hl) lt (List.mem_of_getElem? hlt)
      have s3 := sT.trans s2
      refine ⟨rfl, _, rfl, _, rfl, ak, _, rfl, .inr (SqT.of (s3 _ _ hak)), _, (kinds.length : Int), Th.lot (hd2.same s3), by rw [List.length_map], ?_⟩
      rw [lot.is]
      exact hK _ (fun _ _ h => h)
    · intro H' s2 hD
      refine ⟨Dl, _, rfl, SqL.of hD, ?_⟩
      rw [all_rep]
      exact ⟨true, rfl, iteF ⟨sT.trans s2, _, _, _, rfl⟩⟩
  · rintro σ H1 ⟨s, _, _, _, rfl⟩
    exact q _ s
theorem rd_Program_init {K : Frag} {mg : Str → Option Value} (T : Txt K mg) {v b k w : V} {H : Hp} {Q : VK} (h : ph_Program_init K v b k w H Q) : t_Program_init K (De Q) [some v, some b, some k, some w] H := by
  obtain ⟨a, dx, exits, kinds, ways, rfl, h0, B, hk, hw, xok, pok, q⟩ := h
  obtain ⟨ak, rfl, hak⟩ := hk.lot
  have hlo := pok.lo
  have hhi := pok.hi
  unfold t_Program_init
  walk_at "rd"
  refine ⟨_, rfl, _, rfl, exits, kinds, B, hk, by omega, pok.kind, fun H1 s1 => ⟨true, rfl, iteF ?_⟩⟩
  refine ⟨_, rfl, ak, _, rfl, .inr (SqT.of (s1 _ _ hak)), _, _, rfl, rfl, true, congrArg V.bl (decide_eq_true (by rw [List.length_map]; omega)), iteT ⟨_, _, rfl, rfl, true, congrArg V.bl (decide_eq_true (by rw [List.length_map]; omega)), iteF ?_⟩⟩
  refine ⟨_, rfl, _, rfl, _, rfl, exits, kinds, ways, B.same s1, hk.same s1, hw.same s1, xok, pok, fun H2 s2 => ⟨true, rfl, iteF ?_⟩⟩
  have s12 := s1.trans s2
  exact ⟨_, rfl, a, dx, _, rfl, s12 _ _ h0, by rfl, _, rfl, _, rfl, _, rfl, a, dx, exits, kinds, ways, rfl, s12 _ _ h0, B.same s12, hk.same s12, hw.same s12, fun H' s3 P => q _ (s12.but.trans s3) P⟩
theorem rd_RawBook_init {K : Frag} {mg : Str → Option Value} (T : Txt K mg) {v b o r w : V} {H : Hp} {Q : VK} (h : ph_RawBook_init K v b o r w H Q) : t_RawBook_init K (De Q) [some v, some b, some o, some r, some w] H := by
  have h' := h
  obtain ⟨a, dx, exits, D, rs, rfl, h0, B, xok, ho, hr, hw, hrl, hok, q⟩ := h
  unfold t_RawBook_init
  walk_at "rd"
  exact ⟨_, rfl, a, dx, _, rfl, h0, by rfl, _, rfl, _, rfl, _, rfl, _, rfl, h'⟩
end NB
set_option pp.maxSteps 900
set_option Elab.async false
set_option linter.all false
set_option maxRecDepth 100000
set_option maxHeartbeats 4000000
namespace NB
open PySem PyProof.Rows L2
local macro_rules | `(tactic| walk_at "rd") => `(tactic| dsimp only [De, tSeq, tNext, tAsg, tIfS, tRet, tRetN, tDrop, tBreak, tCont, tAug, ipI, gName, gNil, gCons, gTup, gSub, tVar, tC, tOp, tUn, tTest, tB, tTru, tNot, tAnd, tOr, tNotV, tAndV, tOrV, tChain, tCons, tNil, tCB, tCall, tMeth, tMake, tTup, tLst, tFld, sFld, tDGet, tDIn, tDNotIn, sDPut, tDNewK, tDNewT, tBM, tBM0, tSl, tPart, tNoPart, tYes, iList, iTup, iRng1, iRng2, iEnum, iEnumT, iSeq, RZ.iZipA, rMaxT, rRepA, rIn, tLstRg, tRg1, tRevT, rI0, rI, rU, rAddI, rSubI, rMulI, rDivI, rModI, rPowI, rShlI, rShrI, rAndI, rOrI, rLtI, rLeI, rGtI, rGeI, rNegI, rInvI, rEq, rNe, rLenS, rListS, rTupleS, rInt1, rBool1, rStrI, rAbsI, rAll, rAny, rAppend, rExtend, rPopAt, rRep, rIxL, rIxT, rSetL, rSlL, rSlA, rCatA, rEqD, rNeD, List.cons_append, List.nil_append, List.append_nil])
local macro_rules | `(tactic| walk_at "rs") => `(tactic| dsimp only [De, tSeq, tNext, tAsg, tIfS, tRet, tRetN, tDrop, tBreak, tCont, tAug, ipI, gName, gNil, gCons, gTup, gSub, tVar, tC, tOp, tUn, tTest, tB, tTru, tNot, tAnd, tOr, tNotV, tAndV, tOrV, tChain, tCons, tNil, tCB, tCall, tMeth, tMake, tTup, tLst, tFld, sFld, tDGet, tDIn, tDNotIn, sDPut, tDNewK, tDNewT, tBM, tBM0, tSl, tPart, tNoPart, tYes, iList, iTup, iRng1, iRng2, iEnum, iEnumT, iSeq, RZ.iZipA, rMaxT, rRepA, rIn, tLstRg, tRg1, tRevT, rI0, rI, rU, rAddI, rSubI, rMulI, rDivI, rModI, rPowI, rShlI, rShrI, rAndI, rOrI, rLtI, rLeI, rGtI, rGeI, rNegI, rInvI, rEq, rNe, rLenS, rListS, rTupleS, rInt1, rBool1, rStrI, rAbsI, rAll, rAny, rAppend, rExtend, rPopAt, rRep, rIxL, rIxT, rSetL, rSlL, rCatA, rEqD, rNeD, List.cons_append, List.nil_append, List.append_nil])
theorem sc_are_pairs : FnScope ["many", "thing", "pair", "one", "other", "state"] ["many", "thing"] (defScope s_are_pairs) := ⟨rfl, rfl, rfl, by decide +kernel, rfl, by decide +kernel, by decide +kernel⟩
def t_are_pairs (K : PySem.W.Frag) : TS :=
  (tSeq (tIfS (tNot (tB (tCB (rIsi K) (tCons (tVar 1) (tCons (tC (.ty "tuple")) tNil))))) (tRet (tC (.bl false))) tNext)
    (tSeq (tFor (iTup K (tVar 1)) (gName 2) (tIfS (tOr (tNot (tB (tCB (rIsi K) (tCons (tVar 2) (tCons (tC (.ty "tuple")) tNil))))) (tOr (tTest (tOp rNe (tCB (rLenS K) (tCons (tVar 2) tNil)) (tC (.int 2)))) (tNot (tB (tCB (rAll K) (tCons (tLc (iTup K (tVar 2)) (gName 5) tYes (tCall (sp_is_index K) [] E0 (tCons (tVar 5) (tCons (tVar 0) tNil))) [5]) tNil)))))) (tRet (tC (.bl false))) tNext))
    (tRet (tCB (rAll K) (tCons (tLc (RZ.iZipA K (tCons (tVar 1) (tCons (tSl (rSlA K) (tVar 1) (tPart (tC (.int 1))) tNoPart) tNil))) (gTup K 2 (gCons (gName 3) (gCons (gName 4) gNil))) tYes (tOp (rLtT K) (tVar 3) (tVar 4)) [3, 4]) tNil)))))
theorem sc_are_steps : FnScope ["bag", "many", "thing", "exits", "lots", "pairs"] ["bag", "many", "thing"] (defScope s_are_steps) := ⟨rfl, rfl, rfl, by decide +kernel, rfl, by decide +kernel, by decide +kernel⟩
def t_are_steps (K : PySem.W.Frag) : TS :=
  (tSeq (tIfS (tOr (tNot (tB (tCB (rIsi K) (tCons (tVar 2) (tCons (tC (.ty "tuple")) tNil))))) (tTest (tOp rNe (tCB (rLenS K) (tCons (tVar 2) tNil)) (tCB (rLenS K) (tCons (tFld K (tVar 0) "kept_exits") tNil))))) (tRet (tC (.bl false))) tNext)
    (tSeq (tFor (RZ.iZipA K (tCons (tFld K (tVar 0) "kept_exits") (tCons (tVar 2) tNil))) (gTup K 2 (gCons (gName 3) (gCons (gName 4) gNil))) (tIfS (tOr (tNot (tB (tCB (rIsi K) (tCons (tVar 4) (tCons (tC (.ty "tuple")) tNil))))) (tOr (tTest (tOp rNe (tCB (rLenS K) (tCons (tVar 4) tNil)) (tVar 3))) (tNot (tB (tCB (rAll K) (tCons (tLc (iTup K (tVar 4)) (gName 5) tYes (tCall (sp_are_pairs K) [] E0 (tCons (tVar 1) (tCons (tVar 5) tNil))) [5]) tNil)))))) (tRet (tC (.bl false))) tNext))
    (tRet (tC (.bl true)))))
theorem sc_are_starts : FnScope ["bag", "many", "thing", "lot"] ["bag", "many", "thing"] (defScope s_are_starts) := ⟨rfl, rfl, rfl, by decide +kernel, rfl, by decide +kernel, by decide +kernel⟩
def t_are_starts (K : PySem.W.Frag) : TS :=
  (tSeq (tIfS (tOr (tNot (tB (tCB (rIsi K) (tCons (tVar 2) (tCons (tC (.ty "tuple")) tNil))))) (tTest (tOp rNe (tCB (rLenS K) (tCons (tVar 2) tNil)) (tCB (rLenS K) (tCons (tFld K (tVar 0) "kept_exits") tNil))))) (tRet (tC (.bl false))) tNext)
    (tRet (tCB (rAll K) (tCons (tLc (iTup K (tVar 2)) (gName 3) tYes (tCall (sp_is_lot K) [] E0 (tCons (tVar 3) (tCons (tVar 1) tNil))) [3]) tNil))))
theorem sc_Machine_init : FnScope ["self", "bag", "many", "steps", "starts"] ["self", "bag", "many", "steps", "starts"] (defScope s_Machine_init) := ⟨rfl, rfl, rfl, by decide +kernel, rfl, by decide +kernel, by decide +kernel⟩
def t_Machine_init (K : PySem.W.Frag) : TS :=
  (tSeq (tIfS (tNot (tB (tCall (sp_is_between K) [] E0 (tCons (tVar 2) (tCons (tC (.int 1)) (tCons (tC (.int 4)) tNil)))))) tNever tNext)
    (tSeq (tIfS (tNot (tB (tCall (sp_are_steps K) [] E0 (tCons (tVar 1) (tCons (tVar 2) (tCons (tVar 3) tNil)))))) tNever tNext)
    (tSeq (tIfS (tNot (tB (tCall (sp_are_starts K) [] E0 (tCons (tVar 1) (tCons (tVar 2) (tCons (tVar 4) tNil)))))) tNever tNext)
    (tSeq (sFld K (tVar 0) (tVar 1) "kept_bag")
    (tSeq (sFld K (tVar 0) (tVar 2) "kept_many")
    (tSeq (sFld K (tVar 0) (tVar 3) "kept_steps")
    (sFld K (tVar 0) (tVar 4) "kept_starts")))))))
theorem rSlA_1 {K : Frag} {H : Hp} {a : Addr} {xs : List V} {Q : VK} (h : H a = some (.tup xs)) (q : ∀ p H', Same H H' → H' p = some (.tup (xs.drop 1)) → Q (.ref p) H') : rSlA K (.ref a) (some 1) none H Q := by
  refine ⟨a, xs, rfl, SqT.of h, fun c => ?_, fun _ p np => ?_⟩
  · cases xs with
    | nil => exact q a H (fun _ _ h => h) h
    | cons x r =>
      exfalso
      have := c.1
      simp [HT.sIx] at this
  · have e : cutV xs (some 1) none = xs.drop 1 := by
      unfold cutV
      simp only [HT.sIx]
      cases xs with
      | nil => rfl
      | cons x r => simp
    exact q p _ (Same.new np) (by rw [upd_same, e])
theorem rd_are_pairs {K : Frag} {mg : Str → Option Value} (T : Txt K mg) {m t : V} {H : Hp} {Q : VK} (h : ph_are_pairs K m t H Q) : t_are_pairs K (De Q) [some m, some t, none, none, none, none] H := by
  obtain ⟨n, l, rfl, ht, pl, hl, q⟩ := h
  obtain ⟨a, xs, rfl, hat, hxs⟩ := ht.open
  have exl := hxs.len
  unfold t_are_pairs
  walk_at "rd"
  refine ⟨_, rfl, isT hat ⟨true, rfl, iteF ?_⟩⟩
  refine ⟨_, rfl, a, rfl, ⟨_, SqT.of hat⟩, for_tup (K := K) (xs := xs) (fun i σ H' => Same H H' ∧ ∃ c d e f, σ = [some (nv n), some (.ref a), c, d, e, f]) ⟨fun _ _ h => h, _, _, _, _, rfl⟩ (fun i σ H' _ p => SqT.of (p.1 _ _ hat)) ?_ ?_⟩
  · rintro i x σ H1 hi ⟨s, c, d, e, f, rfl⟩
    obtain ⟨pr, hpr, hd⟩ := hxs.at' hi
    obtain ⟨ap, rfl, hap⟩ := pair_inv hd
    have hap1 := s _ _ hap
    have hlt := pl.2 pr (List.mem_of_getElem? hpr)
    refine ⟨_, rfl, ?_⟩
    walk_at "rd"
    refine isT hap1 ⟨true, rfl, iteF ?_⟩
    refine ⟨_, rfl, ap, _, rfl, .inr (SqT.of hap1), by rfl, false, by rfl, iteF ?_⟩
    refine ⟨_, rfl, ap, rfl, ⟨_, SqT.of hap1⟩, fun Dl nD => ?_⟩
    refine lc_all (walk_tup (K := K) (a := ap) (xs := [nv pr.1, nv pr.2])) nD (by show 2 ≤ 100000; decide) (fun H' s => SqT.of (s _ _ hap1)) ?_ fun H' s2 hD => ⟨Dl, _, rfl, SqL.of hD, by rw [all_rep]; exact ⟨true, rfl, iteF ⟨s.trans s2, _, _, _, _, rfl⟩⟩⟩
    rintro i2 x2 H4 H5 Kk hi2 s2 ⟨rfl, hx2⟩ hK
    have hk : ∃ k : Nat, k < n ∧ x2 = nv k := by
      match i2, hi2, hx2 with
      | 0, _, hx2 => cases Option.some.inj hx2; exact ⟨_, hlt.1, rfl⟩
      | 1, _, hx2 => cases Option.some.inj hx2; exact ⟨_, hlt.2, rfl⟩
    obtain ⟨k, hk, rfl⟩ := hk
    refine ⟨rfl, _, rfl, _, rfl, some (k : Int), (n : Int), .int _, rfl, ?_⟩
    have e : (some (k : Int)).any (fun i => decide (0 ≤ i) && decide (i < (n : Int))) = true := by
      show (decide (0 ≤ (k : Int)) && decide ((k : Int) < _)) = true
      rw [decide_eq_true (by omega), decide_eq_true (by omega)]; rfl
    rw [e]
    exact hK _ (fun _ _ h => h)
  · rintro σ H1 ⟨s, c, d, e, f, rfl⟩
    have hat1 := s _ _ hat
    refine ⟨_, rfl, _, rfl, ?_⟩
    dsimp only [tPart, tNoPart, tC]
    refine ⟨_, rfl, rSlA_1 hat1 fun p H2 s2 hp => ?_⟩
    dsimp only [tCons, tNil]
    have hat2 := s2 _ _ hat1
    refine ⟨a, p, _, _, rfl, .inr ⟨SqT.of hat2, SqT.of hp, fun Dl nD => ?_⟩⟩
    refine lc_all (walk_zipT (K := K) (a := a) (b := p) (xs := xs) (ys := xs.drop 1) (n := xs.length - 1) (by rw [List.length_drop]; omega)) nD (by omega) (fun H' s => ⟨SqT.of (s _ _ hat2), SqT.of (s _ _ hp)⟩) ?_ fun H' s3 hD => ⟨Dl, _, rfl, SqL.of hD, by rw [all_rep]; exact q _ ((s.trans s2).trans s3)⟩
    rintro i v H4 H5 Kk hi s4 ⟨Tt, x1, y1, rfl, nT, rfl, e1, e2⟩ hK
    have e2 : xs[1 + i]? = some y1 := by rw [← List.getElem?_drop]; exact e2
    obtain ⟨p1, hp1, d1⟩ := hxs.at' e1
    obtain ⟨p2, hp2, d2⟩ := hxs.at' e2
    obtain ⟨a1, rfl, ha1⟩ := pair_inv d1
    obtain ⟨a2, rfl, ha2⟩ := pair_inv d2
    have sT : Same H4 (upd H4 Tt (.tup [.ref a1, .ref a2])) := Same.new nT
    have s5 := ((s.trans s2).trans s4).trans sT
    have gT : (upd H4 Tt (.tup [.ref a1, .ref a2])) Tt = some (.tup [.ref a1, .ref a2]) := upd_same
    generalize upd H4 Tt (.tup [.ref a1, .ref a2]) = H6 at sT s5 gT ⊢
    refine ⟨Tt, _, rfl, SqT.of gT, rfl, _, _, rfl, _, _, rfl, rfl, rfl, _, rfl, _, rfl, a1, a2, [(p1.1 : Int), (p1.2 : Int)], [(p2.1 : Int), (p2.2 : Int)], rfl, rfl, SqT.of (s5 _ _ ha1), SqT.of (s5 _ _ ha2), ?_⟩
    have lt : p1.1 < p2.1 ∨ (p1.1 = p2.1 ∧ p1.2 < p2.2) := by
      have h1 : i < l.length := (List.getElem?_eq_some_iff.mp hp1).1
      have h2 : 1 + i < l.length := (List.getElem?_eq_some_iff.mp hp2).1
      have := List.pairwise_iff_getElem.mp pl.1 i (1 + i) h1 h2 (by omega)
      rw [(List.getElem?_eq_some_iff.mp hp1).2, (List.getElem?_eq_some_iff.mp hp2).2] at this
      exact this
    have e : HT.lexLt [(p1.1 : Int), (p1.2 : Int)] [(p2.1 : Int), (p2.2 : Int)] = true := by
      show (if (p1.1 : Int) = (p2.1 : Int) then (if (p1.2 : Int) = (p2.2 : Int) then false else decide ((p1.2 : Int) < (p2.2 : Int))) else decide ((p1.1 : Int) < (p2.1 : Int))) = true
      rcases lt with c | ⟨c1, c2⟩
      · rw [if_neg (by omega)]; exact decide_eq_true (by omega)
      · rw [if_pos (by omega), if_neg (by omega)]; exact decide_eq_true (by omega)
    rw [e]
    exact hK _ sT
theorem plot_len {n : Nat} {l : List (Nat × Nat)} (h : PLot n l) (hn : n ≤ 3) : l.length ≤ 16 := by
  have : (l.map fun p => 4 * p.1 + p.2).length ≤ 16 - 0 := by
    refine asc_len (lo := 0) ?_ fun x hx => ?_
    · rw [List.pairwise_map]
      refine List.Pairwise.imp_of_mem (fun {a b} ha hb r => ?_) h.1
      have := h.2 a ha
      have := h.2 b hb
      omega
    · obtain ⟨p, hp, rfl⟩ := List.mem_map.mp hx
      have := h.2 p hp
      omega
  simpa using this
theorem rd_are_steps {K : Frag} {mg : Str → Option Value} (T : Txt K mg) {b m t : V} {H : Hp} {Q : VK} (h : ph_are_steps K b m t H Q) : t_are_steps K (De Q) [some b, some m, some t, none, none, none] H := by
  obtain ⟨exits, mm, B, rfl, ht, xok, mok, q⟩ := h
  obtain ⟨at', xs, rfl, hat, hxs⟩ := ht.open
  obtain ⟨ab, dxb, x, rfl, hb, hx⟩ := B.ex
  obtain ⟨ax, rfl, hax⟩ := hx.lot
  have exl : xs.length = exits.length := by rw [hxs.len, mok.slen]
  have hm3 := mok.hi
  unfold t_are_steps
  walk_at "rd"
  refine ⟨_, rfl, isT hat ⟨true, rfl, iteF ?_⟩⟩
  refine ⟨_, rfl, at', _, rfl, .inr (SqT.of hat), _, rfl, ab, _, dxb, _, _, rfl, hb, T.c_Bag, T.n_Bag_kept_exits, by rfl, ax, _, rfl, .inr (SqT.of hax), by rfl, false, congrArg V.bl (by rw [exl, List.length_map]; simp), iteF ?_⟩
  refine ⟨_, rfl, ab, _, dxb, _, _, rfl, hb, T.c_Bag, T.n_Bag_kept_exits, by rfl, _, rfl, ax, at', _, _, rfl, .inr ⟨SqT.of hax, SqT.of hat, ?_⟩⟩
  refine for_it (walk_zipT (K := K) (a := ax) (b := at') (xs := exits.map nv) (ys := xs) (n := exits.length) (by rw [List.length_map, exl]; omega)) (fun i σ H' => Same H H' ∧ ∃ c d e, σ = [some (.ref ab), some (nv mm.many), some (.ref at'), c, d, e]) ⟨fun _ _ h => h, _, _, _, rfl⟩ (fun i σ H' _ p => ⟨SqT.of (p.1 _ _ hax), SqT.of (p.1 _ _ hat)⟩) ?_ ?_
  · rintro i v σ H1 H2 hi ⟨s, c, d, e, rfl⟩ ⟨Tt, x1, y1, rfl, nT, rfl, e1, e2⟩
    obtain ⟨kk, hkk, rfl⟩ := of_getElem?_nats e1
    obtain ⟨l, hl, hd⟩ := hxs.at' e2
    have sT := s.snew (o := .tup [nv kk, y1]) nT
    have gT : (upd H1 Tt (.tup [nv kk, y1])) Tt = some (.tup [nv kk, y1]) := upd_same
    generalize upd H1 Tt (.tup [nv kk, y1]) = H3 at sT gT ⊢
    obtain ⟨al, ys, rfl, hal, hys⟩ := hd.open
    have hel := mok.elen i l hl
    rw [hkk] at hel
    cases Option.some.inj hel
    have hal3 := sT _ _ hal
    have l3 := xok.le _ (List.mem_of_getElem? hkk)
    refine ⟨Tt, _, rfl, SqT.of gT, rfl, _, _, rfl, _, _, rfl, rfl, ?_⟩
    walk_at "rd"
    refine ⟨_, rfl, isT hal3 ⟨true, rfl, iteF ?_⟩⟩
    refine ⟨_, rfl, al, _, rfl, .inr (SqT.of hal3), _, rfl, by rfl, false, congrArg V.bl (by rw [hys.len]; simp), iteF ?_⟩
    refine ⟨_, rfl, al, rfl, ⟨_, SqT.of hal3⟩, fun Dl nD => ?_⟩
    refine lc_all (walk_tup (K := K) (a := al) (xs := ys)) nD (by rw [hys.len]; omega) (fun H' s => SqT.of (s _ _ hal3)) ?_ ?_
    · rintro i2 x2 H4 H5 Kk hi2 s2 ⟨rfl, hx2⟩ hK
      obtain ⟨lt, hlt, hd2⟩ := hys.at' hx2
      have lot := mok.pairs l (List.mem_of_getElem? hl) lt (List.mem_of_getElem? hlt)
      have s3 := sT.trans s2
      have := plot_len lot hm3
      exact ⟨rfl, _, rfl, _, rfl, mm.many, lt, rfl, hd2.same s3, lot, by omega, hK⟩
    · intro H' s2 hD
      refine ⟨Dl, _, rfl, SqL.of hD, ?_⟩
      rw [all_rep]
      exact ⟨true, rfl, iteF ⟨sT.trans s2, _, _, _, rfl⟩⟩
  · rintro σ H1 ⟨s, _, _, _, rfl⟩
    exact q _ s
theorem rd_are_starts {K : Frag} {mg : Str → Option Value} (T : Txt K mg) {b m t : V} {H : Hp} {Q : VK} (h : ph_are_starts K b m t H Q) : t_are_starts K (De Q) [some b, some m, some t, none] H := by
  obtain ⟨exits, mm, B, rfl, ht, xok, mok, q⟩ := h
  obtain ⟨at', xs, rfl, hat, hxs⟩ := ht.open
  obtain ⟨ab, dxb, x, rfl, hb, hx⟩ := B.ex
  obtain ⟨ax, rfl, hax⟩ := hx.lot
  have exl : xs.length = exits.length := by rw [hxs.len, mok.tlen]
  have := xok.hi
  unfold t_are_starts
  walk_at "rd"
  refine ⟨_, rfl, isT hat ⟨true, rfl, iteF ?_⟩⟩
  refine ⟨_, rfl, at', _, rfl, .inr (SqT.of hat), _, rfl, ab, _, dxb, _, _, rfl, hb, T.c_Bag, T.n_Bag_kept_exits, by rfl, ax, _, rfl, .inr (SqT.of hax), by rfl, false, congrArg V.bl (by rw [exl, List.length_map]; simp), iteF ?_⟩
  refine ⟨_, rfl, at', rfl, ⟨_, SqT.of hat⟩, fun Dl nD => ?_⟩
  refine lc_all (walk_tup (K := K) (a := at') (xs := xs)) nD (by omega) (fun H' s => SqT.of (s _ _ hat)) ?_ fun H' s2 hD => ⟨Dl, _, rfl, SqL.of hD, by rw [all_rep]; exact q _ s2⟩
  rintro i2 x2 H4 H5 Kk hi2 s2 ⟨rfl, hx2⟩ hK
  obtain ⟨lt, hlt, hd2⟩ := hxs.at' hx2
  have lot := mok.lots lt (List.mem_of_getElem? hlt)
  refine ⟨rfl, _, rfl, _, rfl, _, (mm.many : Int), Th.lot (hd2.same s2), rfl, ?_⟩
  rw [lot.is]
  exact hK _ (fun _ _ h => h)
theorem rd_Machine_init {K : Frag} {mg : Str → Option Value} (T : Txt K mg) {v b n s t : V} {H : Hp} {Q : VK} (h : ph_Machine_init K v b n s t H Q) : t_Machine_init K (De Q) [some v, some b, some n, some s, some t] H := by
  obtain ⟨a, dx, exits, mm, rfl, h0, B, rfl, hs, ht, xok, mok, q⟩ := h
  have := mok.lo
  have := mok.hi
  unfold t_Machine_init
  walk_at "rd"
  refine ⟨_, rfl, some (mm.many : Int), 1, 4, .int _, rfl, rfl, true, congrArg V.bl ?_, iteF ?_⟩
  · show (decide (1 ≤ (mm.many : Int)) && decide ((mm.many : Int) ≤ 4)) = true
    rw [decide_eq_true (by omega), decide_eq_true (by omega)]; rfl
  refine ⟨_, rfl, _, rfl, _, rfl, exits, mm, B, rfl, hs, xok, mok, fun H1 s1 => ⟨true, rfl, iteF ?_⟩⟩
  refine ⟨_, rfl, _, rfl, _, rfl, exits, mm, B.same s1, rfl, ht.same s1, xok, mok, fun H2 s2 => ⟨true, rfl, iteF ?_⟩⟩
  have s12 := s1.trans s2
  have h2 := s12 _ _ h0
  refine ⟨_, rfl, _, rfl, a, _, dx, _, rfl, h2, T.c_Machine, T.n_Machine_kept_bag, by decide, ?_⟩
  refine ⟨_, rfl, _, rfl, a, _, dx, _, rfl, upd_same, T.c_Machine, T.n_Machine_kept_many, lpn (lp lp0), ?_⟩
  refine ⟨_, rfl, _, rfl, a, _, dx, _, rfl, upd_same, T.c_Machine, T.n_Machine_kept_steps, lpn (lp (lp lp0)), ?_⟩
  refine ⟨_, rfl, _, rfl, a, _, dx, _, rfl, upd_same, T.c_Machine, T.n_Machine_kept_starts, lpn (lp (lp (lp lp0))), ?_⟩
  rw [updupd, updupd, updupd]
  have sb : SameBut a H2 (upd H2 a (.ins (He.ga K "Machine") dx (fMach b (nv mm.many) s t))) := SameBut.put
  have nb : b ≠ .ref a := by
    obtain ⟨b', d, x, rfl, h1, h2⟩ := B.ex
    intro e
    cases e
    rw [h0] at h1
    injection (Option.some.inj h1) with _ _ e3
    cases e3
  have im : Im H2 (upd H2 a (.ins (He.ga K "Machine") dx (fMach b (nv mm.many) s t))) := fun c xs e => sb _ _ (fun z => by rw [z, h2] at e; cases e) e
  exact q _ (s12.but.trans sb) ⟨a, dx, b, s, t, rfl, upd_same, (B.same s12).but h2 nb sb, (hs.same s12).im im, (ht.same s12).im im⟩
end NB
set_option pp.maxSteps 900
set_option Elab.async false
set_option linter.all false
set_option maxRecDepth 100000
set_option maxHeartbeats 4000000
namespace NB
open PySem PyProof.Rows L2
local macro_rules | `(tactic| walk_at "rd") => `(tactic| dsimp only [De, tSeq, tNext, tAsg, tIfS, tRet, tRetN, tDrop, tBreak, tCont, tAug, ipI, gName, gNil, gCons, gTup, gSub, tVar, tC, tOp, tUn, tTest, tB, tTru, tNot, tAnd, tOr, tNotV, tAndV, tOrV, tChain, tCons, tNil, tCB, tCall, tMeth, tMake, tTup, tLst, tFld, sFld, tDGet, tDIn, tDNotIn, sDPut, tDNewK, tDNewT, tBM, tBM0, tSl, tPart, tNoPart, tYes, iList, iTup, iRng1, iRng2, iEnum, iEnumT, iSeq, RZ.iZipA, rMaxT, rRepA, rIn, tLstRg, tRg1, tRevT, rI0, rI, rU, rAddI, rSubI, rMulI, rDivI, rModI, rPowI, rShlI, rShrI, rAndI, rOrI, rLtI, rLeI, rGtI, rGeI, rNegI, rInvI, rEq, rNe, rLenS, rListS, rTupleS, rInt1, rBool1, rStrI, rAbsI, rAll, rAny, rAppend, rExtend, rPopAt, rRep, rIxL, rIxT, rSetL, rSlL, rSlA, rCatA, rEqD, rNeD, List.cons_append, List.nil_append, List.append_nil])
local macro_rules | `(tactic| walk_at "rs") => `(tactic| dsimp only [De, tSeq, tNext, tAsg, tIfS, tRet, tRetN, tDrop, tBreak, tCont, tAug, ipI, gName, gNil, gCons, gTup, gSub, tVar, tC, tOp, tUn, tTest, tB, tTru, tNot, tAnd, tOr, tNotV, tAndV, tOrV, tChain, tCons, tNil, tCB, tCall, tMeth, tMake, tTup, tLst, tFld, sFld, tDGet, tDIn, tDNotIn, sDPut, tDNewK, tDNewT, tBM, tBM0, tSl, tPart, tNoPart, tYes, iList, iTup, iRng1, iRng2, iEnum, iEnumT, iSeq, RZ.iZipA, rMaxT, rRepA, rIn, tLstRg, tRg1, tRevT, rI0, rI, rU, rAddI, rSubI, rMulI, rDivI, rModI, rPowI, rShlI, rShrI, rAndI, rOrI, rLtI, rLeI, rGtI, rGeI, rNegI, rInvI, rEq, rNe, rLenS, rListS, rTupleS, rInt1, rBool1, rStrI, rAbsI, rAll, rAny, rAppend, rExtend, rPopAt, rRep, rIxL, rIxT, rSetL, rSlL, rCatA, rEqD, rNeD, List.cons_append, List.nil_append, List.append_nil])
theorem sc_on_lots : FnScope ["machine", "program", "book", "whole", "lots", "lot"] ["machine", "program", "book"] (defScope s_on_lots) := ⟨rfl, rfl, rfl, by decide +kernel, rfl, by decide +kernel, by decide +kernel⟩
def t_on_lots (K : PySem.W.Frag) : TS :=
  (tSeq (tAsg (tOp rSubI (tOp rShlI (tC (.int 1)) (tOp rAddI (tOp rMulI (tC (.int 3)) (tFld K (tVar 0) "kept_many")) (tC (.int 1)))) (tC (.int 1))) (gName 3))
    (tSeq (tAsg (tOp (rIxT K) (tCall (sp_turn_rounds K) [] E0 (tCons (tVar 2) (tCons (tFld K (tVar 1) "kept_ways") (tCons (tCall (sp_begin_state K) [] E0 (tCons (tVar 2) (tCons (tVar 1) tNil))) (tCons (tVar 3) tNil))))) (tC (.int 0))) (gName 4))
    (tRet (tLc (iList K (tVar 4)) (gName 5) tYes (tCall (sp_on_states K) [] E0 (tCons (tVar 0) (tCons (tVar 5) tNil))) [5]))))
theorem sc_states_book : FnScope ["machine", "rules", "kind", "lot", "lots", "exit_number", "pairs", "state", "old", "new"] ["machine"] (defScope s_states_book) := ⟨rfl, rfl, rfl, by decide +kernel, rfl, by decide +kernel, by decide +kernel⟩
def t_states_book (K : PySem.W.Frag) : TS :=
  (tSeq (tAsg (tLst tNil) (gName 1))
    (tSeq (tFor (iEnumT K (tCons (tFld K (tVar 0) "kept_starts") tNil)) (gTup K 2 (gCons (gName 2) (gCons (gName 3) gNil))) (tDrop (tBM K "list" rExtend (tVar 1) (tCons (tLc (iTup K (tVar 3)) (gName 7) tYes (tTup (tCons (tC (.str "here")) (tCons (tVar 2) (tCons (tTup tNil) (tCons (tVar 7) tNil))))) [7]) tNil))))
    (tSeq (tFor (iEnumT K (tCons (tFld K (tVar 0) "kept_steps") tNil)) (gTup K 2 (gCons (gName 2) (gCons (gName 4) gNil))) (tFor (iEnumT K (tCons (tVar 4) tNil)) (gTup K 2 (gCons (gName 5) (gCons (gName 6) gNil))) (tDrop (tBM K "list" rExtend (tVar 1) (tCons (tLc (iTup K (tVar 6)) (gTup K 2 (gCons (gName 8) (gCons (gName 9) gNil))) tYes (tTup (tCons (tC (.str "way")) (tCons (tVar 2) (tCons (tVar 5) (tCons (tTup (tCons (tVar 8) tNil)) (tCons (tTup tNil) (tCons (tC (.str "far")) (tCons (tVar 9) tNil)))))))) [8, 9]) tNil)))))
    (tRet (tMake (He.ga K "RawBook") (sp_RawBook_init K) [] E0 (tCons (tFld K (tVar 0) "kept_bag") (tCons (tOp (rRepA K) (tTup (tCons (tC (.int 0)) tNil)) (tFld K (tVar 0) "kept_many")) (tCons (tCB (rTupleS K) (tCons (tVar 1) tNil)) (tCons (tTup tNil) tNil)))))))))
theorem cmulL {i j : Int} (h : -(2 ^ 64) < i ∧ i < 2 ^ 64) : CMul i j := .inl h
theorem cmul3 {j : Int} : CMul 3 j := .inl (by decide)
theorem cmul2 {j : Int} : CMul 2 j := .inl (by decide)
theorem lc_dt {J : It} {n : Nat} {G : Hp → Prop} {Y : Nat → Hp → V → Hp → Prop} (w : Walk J n G Y) {g : TG} {te : TE} {vs : List Nat} {σ : L2.St} {H0 : Hp} {Dl : Addr} {Qd : Hp → Prop} (nD : H0 Dl = none) (fs : List PyData) (hf : fs.length = n) (hn : n ≤ 100000)
    (hG : ∀ H', Same H0 H' → G H')
    (hs : ∀ i d x H1 H2 (Kk : V → Hp → Prop), fs[i]? = some d → Same H0 H1 → Y i H1 x H2 → (∀ y H4, Same H1 H4 → Dt H4 y d → Kk y H4) → g x (wipe σ vs) H2 fun σ2 H3 => wipe σ2 vs = wipe σ vs ∧ te σ2 H3 Kk)
    (hd : ∀ H' ys, Same H0 H' → H' Dl = some (.lst ys) → DtL H' ys fs → Qd H') :
    ∃ W : Nat → Nat → Hp → Prop, (∃ m, W 0 m (upd H0 Dl (.lst []))) ∧ ∀ i m H, W i m H →
      (J.stop i H ∧ Qd H) ∨ (J.go i H ∧ ∃ Nx : Hp → Prop, (∀ H', Nx H' → ∃ m', m' < m ∧ W (i + 1) m' H') ∧ ∀ x H', J.yld i H x H' → g x (wipe σ vs) H' fun σ2 H2 => wipe σ2 vs = wipe σ vs ∧ tYes σ2 H2 fun b H3 =>
        if b = true then te σ2 H3 fun y H4 => ∃ acc, H4 Dl = some (.lst acc) ∧ acc.length < sizeLine ∧ Nx (upd H4 Dl (.lst (acc ++ [y]))) else Nx H3) := by
  refine lc_rel w nD (fun j y H' => ∀ d, fs[j]? = some d → Dt H' y d) hn (fun j y H1 H2 zs hz sb h d hd => (h d hd).im (sb.imL hz)) hG ?_ ?_
  · intro i x H1 H2 Kk hi s _ y hK
    have hi' : fs[i]? = some (fs[i]'(by omega)) := List.getElem?_eq_getElem (by omega)
    exact hs i _ x H1 H2 Kk hi' s y fun z H4 s4 hz => hK _ _ s4 fun d hd => by rw [hi'] at hd; cases hd; exact hz
  · intro H' ys s hD hl hy
    refine hd H' ys s hD ?_
    have hl2 : ys.length = fs.length := by omega
    clear hd hs hf hD hl
    induction ys generalizing fs with
    | nil =>
      cases fs with
      | nil => exact .nil
      | cons d ds => cases hl2
    | cons y ys ih =>
      cases fs with
      | nil => cases hl2
      | cons d ds => exact .cons (hy 0 y rfl d rfl) (ih ds (fun j y' hj d' hd' => hy (j + 1) y' (by simpa using hj) d' (by simpa using hd')) (by simpa using hl2))
theorem rd_on_lots {K : Frag} {mg : Str → Option Value} (T : Txt K mg) {m p b : V} {H : Hp} {Q : VK} (h : ph_on_lots K m p b H Q) : t_on_lots K (De Q) [some m, some p, some b, none, none, none] H := by
  obtain ⟨exits, mm, rs, kinds, ways, M, P, B, xok, mok, pok, hr, hd, q⟩ := h
  obtain ⟨am, dxm, bm, sm, tm, rfl, hm, M1, M2, M3⟩ := M.ex
  obtain ⟨ap, dxp, bp, kp, wp, rfl, hp, P1, P2, P3⟩ := P.ex
  have m3 := mok.hi
  have k12 := pok.hi
  unfold t_on_lots
  walk_at "rd"
  refine ⟨_, rfl, am, _, dxm, _, _, rfl, hm, T.c_Machine, T.n_Machine_kept_many, by rfl, _, _, rfl, rfl, cmul3, _, _, rfl, rfl, _, _, rfl, rfl, ⟨by omega, by omega, by decide⟩, _, _, rfl, rfl, ?_⟩
  have ew : ((1 : Int) * 2 ^ (3 * (mm.many : Int) + 1).toNat - 1) = ((2 ^ (3 * mm.many + 1) - 1 : Nat) : Int) := by
    have := Nat.two_pow_pos (3 * mm.many + 1)
    rw [show (3 * (mm.many : Int) + 1).toNat = 3 * mm.many + 1 by omega, Int.one_mul, show ((2 : Int) ^ (3 * mm.many + 1)) = ((2 ^ (3 * mm.many + 1) : Nat) : Int) by simp]
    omega
  rw [ew]
  refine ⟨_, rfl, _, rfl, ap, _, dxp, _, _, rfl, hp, T.c_Program, T.n_Program_kept_ways, by rfl, _, rfl, _, rfl, exits, _, rs, kinds, ways, B, P, by omega, by omega, fun v H1 s1 st => ?_⟩
  refine ⟨_, rfl, exits, 3 * mm.many + 1, rs, kinds, ways, ⟨B.same s1, P3.same s1, st, xok, pok, hr⟩, by omega, hd, rfl, fun pa pl r L H2 s2 ha nl hl fx => ?_⟩
  refine ⟨pa, _, _, _, rfl, rfl, SqT.of ha, atI_nat (j := 0) rfl, _, rfl, pl, rfl, ⟨_, SqL.of hl⟩, fun Dl nD => ?_⟩
  have s12 := s1.trans s2
  refine lc_dt (walk_list (K := K) (a := pl) (xs := L.map nv)) nD ((L.map (onStates mm.many)).map eN) (by simp) (by rw [List.length_map, fx.len]; omega) (fun H' s => SqL.of (s _ _ hl)) ?_ ?_
  · rintro i d x H4 H5 Kk hi s4 ⟨rfl, hx⟩ hK
    obtain ⟨n, hn, rfl⟩ := of_getElem?_nats hx
    have e : d = eN (onStates mm.many n) := by
      rw [List.getElem?_map, List.getElem?_map, hn] at hi
      exact (Option.some.inj hi).symm
    subst e
    exact ⟨rfl, _, rfl, _, rfl, exits, mm, n, (M.same (s12.trans s4)), by omega, rfl, hK _ _ (fun _ _ h => h) (.int _)⟩
  · intro H' ys s hD hds
    rw [hds.nats] at hD
    exact q Dl L H' (s12.trans s) (s12.free nD) hD fx
/-- a new list of rules at l -/
structure RL (H0 H : Hp) (l : Addr) (rs : List Rule) : Prop where
  same : Same H0 H
  new : H0 l = none
  ex : ∃ xs, H l = some (.lst xs) ∧ DtL H xs (rs.map eR)
theorem RL.start {H0 : Hp} {l : Addr} (h : H0 l = none) : RL H0 (upd H0 l (.lst [])) l [] := ⟨Same.new h, h, [], upd_same, .nil⟩
theorem RL.step {H0 H H' : Hp} {l : Addr} {rs : List Rule} (R : RL H0 H l rs) (s : Same H H') : RL H0 H' l rs := by
  obtain ⟨xs, h1, h2⟩ := R.ex
  exact ⟨R.same.trans s, R.new, xs, s _ _ h1, h2.same s⟩
theorem RL.ext {H0 H : Hp} {l : Addr} {rs news : List Rule} {ys : List V} (R : RL H0 H l rs) (hy : DtL H ys (news.map eR)) (hb : rs.length + news.length ≤ 100000) :
    ∃ xs, H l = some (.lst xs) ∧ xs.length + ys.length ≤ sizeLine ∧ RL H0 (upd H l (.lst (xs ++ ys))) l (rs ++ news) := by
  obtain ⟨xs, h1, h2⟩ := R.ex
  refine ⟨xs, h1, ?_, R.same.mut R.new, R.new, _, upd_same, ?_⟩
  · rw [h2.len, hy.len]; exact small hb
  · rw [List.map_append]
    exact (h2.append hy).im (Im.lst h1)
theorem RL.app {H0 H : Hp} {l : Addr} {rs : List Rule} {r : Rule} {y : V} (R : RL H0 H l rs) (hy : Dt H y (eR r)) (hb : rs.length < 100000) :
    ∃ xs, H l = some (.lst xs) ∧ xs.length < sizeLine ∧ RL H0 (upd H l (.lst (xs ++ [y]))) l (rs ++ [r]) := by
  obtain ⟨xs, h1, h2⟩ := R.ex
  refine ⟨xs, h1, ?_, R.same.mut R.new, R.new, _, upd_same, ?_⟩
  · rw [h2.len]; exact smaller hb
  · rw [List.map_append]
    exact (h2.snoc hy).im (Im.lst h1)
theorem mk_here {H : Hp} {p1 p2 : Addr} {k d : Nat} {need : List Nat} (n1 : H p1 = none) (n2 : (upd H p1 (.tup (need.map nv))) p2 = none) :
    Same H (upd (upd H p1 (.tup (need.map nv))) p2 (.tup [.str "here", nv k, .ref p1, nv d])) ∧ Dt (upd (upd H p1 (.tup (need.map nv))) p2 (.tup [.str "here", nv k, .ref p1, nv d])) (.ref p2) (eR (.here k need d)) := by
  have s1 : Same H (upd H p1 (.tup (need.map nv))) := Same.new n1
  have s2 : Same (upd H p1 (.tup (need.map nv))) (upd (upd H p1 (.tup (need.map nv))) p2 (.tup [.str "here", nv k, .ref p1, nv d])) := Same.new n2
  exact ⟨s1.trans s2, .tup upd_same (.cons (.str _) (.cons (.int _) (.cons (Dt.of_lot (s2 _ _ upd_same)) (.cons (.int _) .nil))))⟩
theorem mk_way {H : Hp} {p1 p2 p3 : Addr} {k e d : Nat} {near far : List Nat} {b : Bool} (n1 : H p1 = none) (n2 : (upd H p1 (.tup (near.map nv))) p2 = none) (n3 : (upd (upd H p1 (.tup (near.map nv))) p2 (.tup (far.map nv))) p3 = none) :
    Same H (upd (upd (upd H p1 (.tup (near.map nv))) p2 (.tup (far.map nv))) p3 (.tup [.str "way", nv k, nv e, .ref p1, .ref p2, .str (if b then "far" else "near"), nv d])) ∧
    Dt (upd (upd (upd H p1 (.tup (near.map nv))) p2 (.tup (far.map nv))) p3 (.tup [.str "way", nv k, nv e, .ref p1, .ref p2, .str (if b then "far" else "near"), nv d])) (.ref p3) (eR (.way k e near far b d)) := by
  have s1 : Same H (upd H p1 (.tup (near.map nv))) := Same.new n1
  have s2 : Same (upd H p1 (.tup (near.map nv))) (upd (upd H p1 (.tup (near.map nv))) p2 (.tup (far.map nv))) := Same.new n2
  have s3 : Same (upd (upd H p1 (.tup (near.map nv))) p2 (.tup (far.map nv))) (upd (upd (upd H p1 (.tup (near.map nv))) p2 (.tup (far.map nv))) p3 (.tup [.str "way", nv k, nv e, .ref p1, .ref p2, .str (if b then "far" else "near"), nv d])) := Same.new n3
  exact ⟨(s1.trans s2).trans s3, .tup upd_same (.cons (.str _) (.cons (.int _) (.cons (.int _) (.cons (Dt.of_lot ((s2.trans s3) _ _ upd_same)) (.cons (Dt.of_lot (s3 _ _ upd_same)) (.cons (.str _) (.cons (.int _) .nil)))))))⟩
theorem flat_len {α : Type} {f : Nat → List α} {c : Nat} : ∀ {i : Nat}, (∀ k, k < i → (f k).length ≤ c) → ((List.range i).flatMap f).length ≤ i * c
  | 0, _ => Nat.zero_le _
  | i + 1, h => by
    rw [List.range_succ, List.flatMap_append, List.length_append, Nat.succ_mul]
    have a := flat_len (i := i) fun k hk => h k (Nat.lt_succ_of_lt hk)
    have b := h i (Nat.lt_succ_self i)
    simp only [List.flatMap_cons, List.flatMap_nil, List.append_nil]
    omega
theorem flat_succ {α : Type} {f : Nat → List α} {i : Nat} : (List.range (i + 1)).flatMap f = (List.range i).flatMap f ++ f i := by
  rw [List.range_succ, List.flatMap_append]
  simp
theorem fmap_len {α β : Type} {f : α → List β} {c : Nat} : ∀ {l : List α}, (∀ x ∈ l, (f x).length ≤ c) → (l.flatMap f).length ≤ l.length * c
  | [], _ => Nat.zero_le _
  | a :: l, h => by
    rw [List.flatMap_cons, List.length_append, List.length_cons, Nat.succ_mul]
    have x := h a List.mem_cons_self
    have y := fmap_len (l := l) fun z hz => h z (List.mem_cons_of_mem _ hz)
    omega
/-- the rules of one kind -/
def startAt (starts : List (List Nat)) (k : Nat) : List Rule := (starts.getD k []).map fun s => .here k [] s
def stepAt (steps : List (List (List (Nat × Nat)))) (k e : Nat) : List Rule := ((steps.getD k []).getD e []).map fun q => .way k e [q.1] [] true q.2
def stepsAt (steps : List (List (List (Nat × Nat)))) (k : Nat) : List Rule := (List.range (steps.getD k []).length).flatMap (stepAt steps k)
theorem startRules_eq {starts : List (List Nat)} : startRules starts = (List.range starts.length).flatMap (startAt starts) := rfl
theorem stepRules_eq {steps : List (List (List (Nat × Nat)))} : stepRules steps = (List.range steps.length).flatMap (stepsAt steps) := rfl
section
variable {exits : List Nat} {mm : MM}
theorem startAt_len (mok : MOk exits mm) (k : Nat) : (startAt mm.starts k).length ≤ 3 := by
  unfold startAt
  rw [List.length_map]
  by_cases h : k < mm.starts.length
  · have e := get_of h []
    have := (mok.lots _ (List.mem_of_getElem? e)).len
    have := mok.hi
    omega
  · rw [List.getD_eq_getElem?_getD, List.getElem?_eq_none (by omega)]; exact Nat.zero_le _
theorem pairs_len (mok : MOk exits mm) (k e : Nat) : ((mm.steps.getD k []).getD e []).length ≤ 16 := by
  by_cases h : k < mm.steps.length
  · have e1 := get_of h []
    by_cases h2 : e < (mm.steps.getD k []).length
    · have e2 := get_of h2 []
      exact plot_len (mok.pairs _ (List.mem_of_getElem? e1) _ (List.mem_of_getElem? e2)) mok.hi
    · rw [List.getD_eq_getElem?_getD (l := mm.steps.getD k []), List.getElem?_eq_none (by omega)]; exact Nat.zero_le _
  · rw [List.getD_eq_getElem?_getD (l := mm.steps), List.getElem?_eq_none (by omega)]; cases e <;> exact Nat.zero_le _
theorem outs_len (xok : XOk exits) (mok : MOk exits mm) (k : Nat) : (mm.steps.getD k []).length ≤ 3 := by
  by_cases h : k < mm.steps.length
  · have e1 := get_of h []
    have := mok.elen k _ e1
    exact xok.le _ (List.mem_of_getElem? this)
  · rw [List.getD_eq_getElem?_getD (l := mm.steps), List.getElem?_eq_none (by omega)]; exact Nat.zero_le _
theorem stepsAt_len (xok : XOk exits) (mok : MOk exits mm) (k : Nat) : (stepsAt mm.steps k).length ≤ 48 := by
  unfold stepsAt
  have a := flat_len (f := stepAt mm.steps k) (c := 16) (i := (mm.steps.getD k []).length) fun e _ => by unfold stepAt; rw [List.length_map]; exact pairs_len mok k e
  have := outs_len xok mok k
  omega
end
theorem rRepA_n {K : Frag} {H : Hp} {p : Addr} {n : Nat} {Q : VK} (hp : H p = some (.tup [nv 0])) (h1 : 1 ≤ n) (h2 : n ≤ 1000) (q : ∀ p' H', Same H H' → H' p' = some (.tup ((List.replicate n 0).map nv)) → Q (.ref p') H') : rRepA K (.ref p) (nv n) H Q := by
  refine ⟨p, n, [nv 0], rfl, rfl, SqT.of hp, by simp, by omega, by omega, by show 1 ≤ 1000; decide, fun e => ?_, fun e p' np => ?_⟩
  · have : n = 1 := by omega
    subst this
    exact q p H (fun _ _ h => h) hp
  · refine q p' _ (Same.new np) ?_
    rw [upd_same, Int.toNat_natCast, rep_one, List.map_replicate]
theorem rd_states_book {K : Frag} {mg : Str → Option Value} (T : Txt K mg) {m : V} {H : Hp} {Q : VK} (h : ph_states_book K m H Q) : t_states_book K (De Q) [some m, none, none, none, none, none, none, none, none, none] H := by
  obtain ⟨exits, mm, M, xok, mok, q⟩ := h
  obtain ⟨am, dxm, bm, sm, tm, rfl, hm, M1, M2, M3⟩ := M.ex
  obtain ⟨as, sxs, rfl, has, hsx⟩ := M2.open
  obtain ⟨at', txs, rfl, hat, htx⟩ := M3.open
  have m3 := mok.hi
  have x4 := xok.hi
  unfold t_states_book
  walk_at "rd"
  refine ⟨Nat.zero_le _, fun l nl => ?_⟩
  have R0 := RL.start nl
  generalize upd H l (.lst []) = H1 at R0 ⊢
  refine ⟨_, rfl, am, _, dxm, _, _, rfl, R0.same _ _ hm, T.c_Machine, T.n_Machine_kept_starts, by rfl, at', _, rfl, SqT.of (R0.same _ _ hat), ?_⟩
  refine for_it (walk_enumT (K := K) (a := at') (xs := txs)) (fun i σ H' => RL H H' l ((List.range i).flatMap (startAt mm.starts)) ∧ ∃ c d e f g h i j, σ = [some (.ref am), some (.ref l), c, d, e, f, g, h, i, j]) ⟨R0, _, _, _, _, _, _, _, _, rfl⟩ (fun i σ H' _ p => SqT.of (p.1.same _ _ hat)) ?_ ?_
  · rintro i v σ H2 H3 hi ⟨R, c, d, e, f, g, h', i', j', rfl⟩ ⟨Tt, x1, y1, rfl, nT, rfl, e1, e2⟩
    cases e1
    obtain ⟨lt, hlt, hd⟩ := htx.at' e2
    have sT : Same H2 (upd H2 Tt (.tup [.int (i : Nat), y1])) := Same.new nT
    have gT : (upd H2 Tt (.tup [.int (i : Nat), y1])) Tt = some (.tup [.int (i : Nat), y1]) := upd_same
    have RT := R.step sT
    generalize upd H2 Tt (.tup [.int (i : Nat), y1]) = H4 at RT gT ⊢
    obtain ⟨al, rfl, hal⟩ := hd.lot
    have hal4 := RT.same _ _ hal
    refine ⟨Tt, _, rfl, SqT.of gT, rfl, _, _, rfl, _, _, rfl, rfl, ?_⟩
    walk_at "rd"
    have hl4 := RT.ex
    obtain ⟨xs, hx1, hx2⟩ := RT.ex
    refine ⟨_, rfl, .inl ⟨rfl, _, SqL.of hx1⟩, _, rfl, al, rfl, ⟨_, SqT.of hal4⟩, fun Dl nD => ?_⟩
    have llt := (mok.lots lt (List.mem_of_getElem? hlt)).len
    refine lc_dt (walk_tup (K := K) (a := al) (xs := lt.map nv)) nD ((startAt mm.starts i).map eR) (by unfold startAt; rw [getD_of hlt]; simp) (by rw [List.length_map]; omega) (fun H' s => SqT.of (s _ _ hal4)) ?_ ?_
    · rintro i2 d2 x2 H5 H6 Kk hd2 s5 ⟨rfl, hx⟩ hK
      obtain ⟨n, hn, rfl⟩ := of_getElem?_nats hx
      have ed : d2 = eR (.here i [] n) := by
        unfold startAt at hd2
        rw [getD_of hlt, List.getElem?_map, List.getElem?_map, hn] at hd2
        exact (Option.some.inj hd2).symm
      subst ed
      refine ⟨rfl, _, rfl, Nat.zero_le _, fun p1 n1 => ⟨_, rfl, by show 4 ≤ sizeLine; decide, fun p2 n2 => ?_⟩⟩
      have mk := mk_here (k := i) (d := n) (need := []) n1 n2
      exact hK _ _ mk.1 mk.2
    · intro H5 ys s5 hD hds
      have al2 := startAt_len mok i
      have fl := flat_len (f := startAt mm.starts) (c := 3) (i := i) fun k _ => startAt_len mok k
      have til := (List.getElem?_eq_some_iff.mp hlt).1
      rw [mok.tlen] at til
      obtain ⟨xs5, h51, h52, R5⟩ := (RT.step s5).ext hds (by omega)
      refine ⟨l, Dl, xs5, ys, rfl, rfl, h51, hD, h52, ?_⟩
      rw [flat_succ]
      exact ⟨R5, _, _, _, _, _, _, _, _, rfl⟩
  · rintro σ H2 ⟨R, c, d, e, f, g, h', i', j', rfl⟩
    rw [htx.len, ← startRules_eq] at R
    have SL : (startRules mm.starts).length ≤ 12 := by
      have := flat_len (f := startAt mm.starts) (c := 3) (i := mm.starts.length) fun k _ => startAt_len mok k
      rw [← startRules_eq] at this
      have := mok.tlen
      omega
    generalize hS : startRules mm.starts = S at R SL
    walk_at "rd"
    refine ⟨_, rfl, am, _, dxm, _, _, rfl, R.same _ _ hm, T.c_Machine, T.n_Machine_kept_steps, by rfl, as, _, rfl, SqT.of (R.same _ _ has), ?_⟩
    refine for_it (walk_enumT (K := K) (a := as) (xs := sxs)) (fun i σ H' => RL H H' l (S ++ (List.range i).flatMap (stepsAt mm.steps)) ∧ ∃ c d e f g h i j, σ = [some (.ref am), some (.ref l), c, d, e, f, g, h, i, j]) ⟨by simpa using R, _, _, _, _, _, _, _, _, rfl⟩ (fun i σ H' _ p => SqT.of (p.1.same _ _ has)) ?_ ?_
    · rintro i v σ H2 H3 hi ⟨R, c, d, e, f, g, h', i', j', rfl⟩ ⟨Tt, x1, y1, rfl, nT, rfl, e1, e2⟩
      cases e1
      obtain ⟨outs, houts, hd⟩ := hsx.at' e2
      have sT : Same H2 (upd H2 Tt (.tup [.int (i : Nat), y1])) := Same.new nT
      have gT : (upd H2 Tt (.tup [.int (i : Nat), y1])) Tt = some (.tup [.int (i : Nat), y1]) := upd_same
      have RT := R.step sT
      generalize upd H2 Tt (.tup [.int (i : Nat), y1]) = H4 at RT gT ⊢
      obtain ⟨ao, oxs, rfl, hao, hox⟩ := hd.open
      have hao4 := RT.same _ _ hao
      have il := (List.getElem?_eq_some_iff.mp houts).1
      rw [mok.slen] at il
      have fl := flat_len (f := stepsAt mm.steps) (c := 48) (i := i) fun k _ => stepsAt_len xok mok k
      refine ⟨Tt, _, rfl, SqT.of gT, rfl, _, _, rfl, _, _, rfl, rfl, ?_⟩
      walk_at "rd"
      refine ⟨_, rfl, ao, _, rfl, SqT.of hao4, ?_⟩
      rw [flat_succ, ← List.append_assoc]
      have SL2 : (S ++ (List.range i).flatMap (stepsAt mm.steps)).length ≤ 204 := by rw [List.length_append]; omega
      generalize S ++ (List.range i).flatMap (stepsAt mm.steps) = S2 at RT SL2
      refine for_it (walk_enumT (K := K) (a := ao) (xs := oxs)) (fun e σ H' => RL H H' l (S2 ++ (List.range e).flatMap (stepAt mm.steps i)) ∧ ∃ d f g h i' j k, σ = [some (.ref am), some (.ref l), some (nv i), d, some (.ref ao), f, g, h, i', j]) ⟨by simpa using RT, _, _, _, _, _, _, (), rfl⟩ (fun i σ H' _ p => SqT.of (p.1.same _ _ hao)) ?_ ?_
      · rintro e v σ H5 H6 he ⟨R5, d5, f5, g5, h5, i5, j5, _, rfl⟩ ⟨T5, x5, y5, rfl, nT5, rfl, e15, e25⟩
        cases e15
        obtain ⟨prs, hprs, hd5⟩ := hox.at' e25
        have sT5 : Same H5 (upd H5 T5 (.tup [.int (e : Nat), y5])) := Same.new nT5
        have gT5 : (upd H5 T5 (.tup [.int (e : Nat), y5])) T5 = some (.tup [.int (e : Nat), y5]) := upd_same
        have RT5 := R5.step sT5
        generalize upd H5 T5 (.tup [.int (e : Nat), y5]) = H7 at RT5 gT5 ⊢
        obtain ⟨apr, pxs, rfl, hapr, hpx⟩ := hd5.open
        have hapr7 := RT5.same _ _ hapr
        refine ⟨T5, _, rfl, SqT.of gT5, rfl, _, _, rfl, _, _, rfl, rfl, ?_⟩
        walk_at "rd"
        obtain ⟨xs, hx1, hx2⟩ := RT5.ex
        have epr : (mm.steps.getD i []).getD e [] = prs := by rw [getD_of houts, getD_of hprs]
        have pl := pairs_len mok i e
        rw [epr] at pl
        refine ⟨_, rfl, .inl ⟨rfl, _, SqL.of hx1⟩, _, rfl, apr, rfl, ⟨_, SqT.of hapr7⟩, fun Dl nD => ?_⟩
        refine lc_dt (walk_tup (K := K) (a := apr) (xs := pxs)) nD ((stepAt mm.steps i e).map eR) (by unfold stepAt; rw [epr, List.length_map, List.length_map, hpx.len]) (by rw [hpx.len]; omega) (fun H' s => SqT.of (s _ _ hapr7)) ?_ ?_
        · rintro i2 d2 x2 H8 H9 Kk hd2 s5 ⟨rfl, hx⟩ hK
          obtain ⟨pr, hpr, hdp⟩ := hpx.at' hx
          obtain ⟨ap, rfl, hap⟩ := pair_inv hdp
          have ed : d2 = eR (.way i e [pr.1] [] true pr.2) := by
            unfold stepAt at hd2
            rw [epr, List.getElem?_map, List.getElem?_map, hpr] at hd2
            exact (Option.some.inj hd2).symm
          subst ed
          have hap9 := s5 _ _ (RT5.same _ _ hap)
          refine ⟨ap, _, rfl, SqT.of hap9, rfl, _, _, rfl, _, _, rfl, rfl, rfl, ?_⟩
          walk_at "rd"
          refine ⟨_, rfl, _, rfl, _, rfl, by show 1 ≤ sizeLine; decide, fun p1 n1 => ⟨Nat.zero_le _, fun p2 n2 => ⟨_, rfl, by show 7 ≤ sizeLine; decide, fun p3 n3 => ?_⟩⟩⟩
          have mk := mk_way (k := i) (e := e) (d := pr.2) (near := [pr.1]) (far := []) (b := true) n1 n2 n3
          exact hK _ _ mk.1 mk.2
        · intro H8 ys s5 hD hds
          have fl2 := flat_len (f := stepAt mm.steps i) (c := 16) (i := e) fun k _ => by unfold stepAt; rw [List.length_map]; exact pairs_len mok i k
          have ael := (List.getElem?_eq_some_iff.mp hprs).1
          have ol := outs_len xok mok i
          rw [getD_of houts] at ol
          have ll : (stepAt mm.steps i e).length ≤ 16 := by unfold stepAt; rw [List.length_map]; exact pairs_len mok i e
          obtain ⟨xs5, h51, h52, R8⟩ := (RT5.step s5).ext hds (by rw [List.length_append]; omega)
          refine ⟨l, Dl, xs5, ys, rfl, rfl, h51, hD, h52, ?_⟩
          rw [flat_succ, ← List.append_assoc]
          exact ⟨R8, _, _, _, _, _, _, (), rfl⟩
      · rintro σ H5 ⟨R5, d5, f5, g5, h5, i5, j5, _, rfl⟩
        rw [hox.len] at R5
        have ee : stepsAt mm.steps i = (List.range outs.length).flatMap (stepAt mm.steps i) := by unfold stepsAt; rw [getD_of houts]
        rw [ee]
        exact ⟨R5, _, _, _, _, _, _, _, _, rfl⟩
    · rintro σ H2 ⟨R, c, d, e, f, g, h', i', j', rfl⟩
      rw [hsx.len, ← stepRules_eq, ← hS] at R
      change RL H H2 l (stateRules mm) at R
      have SL3 : (stateRules mm).length ≤ 204 := by
        have := flat_len (f := stepsAt mm.steps) (c := 48) (i := mm.steps.length) fun k _ => stepsAt_len xok mok k
        rw [← stepRules_eq] at this
        have := mok.slen
        unfold stateRules
        rw [List.length_append, hS]
        omega
      have mlo := mok.lo
      refine ⟨_, rfl, am, _, dxm, _, _, rfl, R.same _ _ hm, T.c_Machine, T.n_Machine_kept_bag, by rfl, by show 1 ≤ sizeLine; decide, fun p1 n1 => ?_⟩
      have s1 : Same H2 (upd H2 p1 (.tup [.int 0])) := Same.new n1
      have g1 : (upd H2 p1 (.tup [.int 0])) p1 = some (.tup [.int 0]) := upd_same
      generalize upd H2 p1 (.tup [.int 0]) = H3 at s1 g1 ⊢
      refine ⟨_, rfl, am, _, dxm, _, _, rfl, s1 _ _ (R.same _ _ hm), T.c_Machine, T.n_Machine_kept_many, by rfl, ?_⟩
      refine rRepA_n g1 mlo (by omega) fun po H4 s4 hpo => ?_
      have R4 := (R.step s1).step s4
      obtain ⟨xs, hx1, hx2⟩ := R4.ex
      refine ⟨_, rfl, l, xs, rfl, .inl ⟨SqL.of hx1, fun t nt => ⟨Nat.zero_le _, fun pe ne => ?_⟩⟩⟩
      have s5 : Same H4 (upd H4 t (.tup xs)) := Same.new nt
      have g5 : (upd H4 t (.tup xs)) t = some (.tup xs) := upd_same
      generalize upd H4 t (.tup xs) = H5 at s5 g5 ne ⊢
      have s6 : Same H5 (upd H5 pe (.tup [])) := Same.new ne
      have g6 : (upd H5 pe (.tup [])) pe = some (.tup []) := upd_same
      generalize upd H5 pe (.tup []) = H6 at s6 g6 ⊢
      intro x dx nx nd nn
      have s7 := made_at (C := He.ga K "RawBook") nx nd
      have s56 := (s5.trans s6).trans s7
      have s46 := s4.trans s56
      have sAll := R4.same.trans s56
      exact ⟨x, dx, exits, mm.many, stateRules mm, rfl, upd_same, M1.same sAll, xok, (Dt.of_lot hpo).same s56, .tup (s7 _ _ (s6 _ _ g5)) (hx2.same s56), .tup (s7 _ _ g6) .nil, by omega, fun r hr => (stateRules_ok mok hr).book (by omega), fun H' sb hB => ⟨rfl, q _ _ (made_same (R4.same.trans (s5.trans s6)) nx nd sb) hB⟩⟩
end NB
set_option pp.maxSteps 900
set_option Elab.async false
set_option linter.all false
set_option maxRecDepth 100000
set_option maxHeartbeats 4000000
namespace NB
open PySem PyProof.Rows L2
local macro_rules | `(tactic| walk_at "rd") => `(tactic| dsimp only [De, tSeq, tNext, tAsg, tIfS, tRet, tRetN, tDrop, tBreak, tCont, tAug, ipI, gName, gNil, gCons, gTup, gSub, tVar, tC, tOp, tUn, tTest, tB, tTru, tNot, tAnd, tOr, tNotV, tAndV, tOrV, tChain, tCons, tNil, tCB, tCall, tMeth, tMake, tTup, tLst, tFld, sFld, tDGet, tDIn, tDNotIn, sDPut, tDNewK, tDNewT, tBM, tBM0, tSl, tPart, tNoPart, tYes, iList, iTup, iRng1, iRng2, iEnum, iEnumT, iSeq, RZ.iZipA, rMaxT, rRepA, rIn, tLstRg, tRg1, tRevT, rI0, rI, rU, rAddI, rSubI, rMulI, rDivI, rModI, rPowI, rShlI, rShrI, rAndI, rOrI, rLtI, rLeI, rGtI, rGeI, rNegI, rInvI, rEq, rNe, rLenS, rListS, rTupleS, rInt1, rBool1, rStrI, rAbsI, rAll, rAny, rAppend, rExtend, rPopAt, rRep, rIxL, rIxT, rSetL, rSlL, rSlA, rCatA, rEqD, rNeD, List.cons_append, List.nil_append, List.append_nil])
local macro_rules | `(tactic| walk_at "rs") => `(tactic| dsimp only [De, tSeq, tNext, tAsg, tIfS, tRet, tRetN, tDrop, tBreak, tCont, tAug, ipI, gName, gNil, gCons, gTup, gSub, tVar, tC, tOp, tUn, tTest, tB, tTru, tNot, tAnd, tOr, tNotV, tAndV, tOrV, tChain, tCons, tNil, tCB, tCall, tMeth, tMake, tTup, tLst, tFld, sFld, tDGet, tDIn, tDNotIn, sDPut, tDNewK, tDNewT, tBM, tBM0, tSl, tPart, tNoPart, tYes, iList, iTup, iRng1, iRng2, iEnum, iEnumT, iSeq, RZ.iZipA, rMaxT, rRepA, rIn, tLstRg, tRg1, tRevT, rI0, rI, rU, rAddI, rSubI, rMulI, rDivI, rModI, rPowI, rShlI, rShrI, rAndI, rOrI, rLtI, rLeI, rGtI, rGeI, rNegI, rInvI, rEq, rNe, rLenS, rListS, rTupleS, rInt1, rBool1, rStrI, rAbsI, rAll, rAny, rAppend, rExtend, rPopAt, rRep, rIxL, rIxT, rSetL, rSlL, rCatA, rEqD, rNeD, List.cons_append, List.nil_append, List.append_nil])
theorem sc_book_ahead : FnScope ["machine", "wanted", "barred", "many", "states", "kind", "rules", "lots", "exit_number", "pairs", "old", "new", "owners", "state"] ["machine", "wanted", "barred"] (defScope s_book_ahead) := ⟨rfl, rfl, rfl, by decide +kernel, rfl, by decide +kernel, by decide +kernel⟩
def t_book_ahead (K : PySem.W.Frag) : TS :=
  (tSeq (tAsg (tFld K (tVar 0) "kept_many") (gName 3))
    (tSeq (tAsg (tLstRg (tRg1 (tVar 3))) (gName 4))
    (tSeq (tAsg (tLc (iTup K (tVar 1)) (gName 5) tYes (tTup (tCons (tC (.str "here")) (tCons (tVar 5) (tCons (tTup tNil) (tCons (tOp rMulI (tC (.int 2)) (tVar 3)) tNil))))) [5]) (gName 6))
    (tSeq (tFor (iRng1 (tCons (tCB (rLenS K) (tCons (tFld K (tFld K (tVar 0) "kept_bag") "kept_exits") tNil)) tNil)) (gName 5) (tIfS (tTest (tOp (rIn K true) (tVar 5) (tVar 2))) (tDrop (tBM K "list" rExtend (tVar 6) (tCons (tLc (iList K (tVar 4)) (gName 13) tYes (tTup (tCons (tC (.str "here")) (tCons (tVar 5) (tCons (tTup (tCons (tOp rAddI (tVar 3) (tVar 13)) tNil)) (tCons (tOp rAddI (tOp rAddI (tOp rMulI (tC (.int 2)) (tVar 3)) (tC (.int 1))) (tVar 13)) tNil))))) [13]) tNil))) tNext))
    (tSeq (tFor (iEnumT K (tCons (tFld K (tVar 0) "kept_steps") tNil)) (gTup K 2 (gCons (gName 5) (gCons (gName 7) gNil))) (tFor (iEnumT K (tCons (tVar 7) tNil)) (gTup K 2 (gCons (gName 8) (gCons (gName 9) gNil))) (tFor (iTup K (tVar 9)) (gTup K 2 (gCons (gName 10) (gCons (gName 11) gNil))) (tSeq (tDrop (tBM K "list" rAppend (tVar 6) (tCons (tTup (tCons (tC (.str "way")) (tCons (tVar 5) (tCons (tVar 8) (tCons (tTup tNil) (tCons (tTup (tCons (tOp rMulI (tC (.int 2)) (tVar 3)) tNil)) (tCons (tC (.str "near")) (tCons (tOp rAddI (tVar 3) (tVar 10)) tNil)))))))) tNil)))
    (tDrop (tBM K "list" rAppend (tVar 6) (tCons (tTup (tCons (tC (.str "way")) (tCons (tVar 5) (tCons (tVar 8) (tCons (tTup tNil) (tCons (tTup (tCons (tOp rAddI (tOp rAddI (tOp rMulI (tC (.int 2)) (tVar 3)) (tC (.int 1))) (tVar 11)) tNil)) (tCons (tC (.str "near")) (tCons (tOp rAddI (tVar 3) (tVar 10)) tNil)))))))) tNil)))))))
    (tSeq (tAsg (tOp (rRepA K) (tTup (tCons (tC (.int 0)) tNil)) (tOp rAddI (tOp rMulI (tC (.int 3)) (tVar 3)) (tC (.int 1)))) (gName 12))
    (tRet (tMake (He.ga K "RawBook") (sp_RawBook_init K) [] E0 (tCons (tFld K (tVar 0) "kept_bag") (tCons (tVar 12) (tCons (tOp (rCatA K) (tFld K (tCall (sp_states_book K) [] E0 (tCons (tVar 0) tNil)) "kept_rules") (tCB (rTupleS K) (tCons (tVar 6) tNil))) (tCons (tTup tNil) tNil))))))))))))
theorem inV_nats {k : Nat} : ∀ {l : List Nat}, inV (nv k) (l.map nv) = decide (k ∈ l)
  | [] => by rw [decide_eq_false (List.not_mem_nil)]; rfl
  | a :: l => by
    have ih := inV_nats (k := k) (l := l)
    unfold inV at ih ⊢
    rw [List.map_cons, List.any_cons, ih]
    have e : eqV (nv a) (nv k) = decide (k = a) := by
      show ((a : Int) == (k : Int)) = _
      by_cases c : k = a
      · subst c; simp
      · rw [decide_eq_false c]
        exact beq_false_of_ne fun z => c (by omega)
    rw [e]
    by_cases c : k = a
    · subst c; simp
    · by_cases c2 : k ∈ l
      · simp [c2]
      · simp [c, c2]
theorem flat_nats : ∀ {l : List Nat}, (l.map nv).all flatV = true
  | [] => rfl
  | _ :: l => by rw [List.map_cons, List.all_cons, flat_nats (l := l)]; rfl
theorem rCatA_n {K : Frag} {H : Hp} {a b : Addr} {xs ys : List V} {Q : VK} (ha : H a = some (.tup xs)) (hb : H b = some (.tup ys)) (hl : xs.length + ys.length ≤ 100000) (q : ∀ p' H', Same H H' → H' p' = some (.tup (xs ++ ys)) → Q (.ref p') H') : rCatA K (.ref a) (.ref b) H Q := by
  refine ⟨a, b, xs, ys, rfl, rfl, SqT.of ha, SqT.of hb, small hl, fun e => ?_, fun e1 e2 => ?_, fun _ _ p np => ?_⟩
  · subst e; exact q b H (fun _ _ h => h) hb
  · subst e2; exact q a H (fun _ _ h => h) (by rw [List.append_nil]; exact ha)
  · exact q p _ (Same.new np) upd_same
def barredAt (many : Nat) (barred : List Nat) (k : Nat) : List Rule := if k ∈ barred then [] else (List.range many).map fun s => .here k [many + s] (2 * many + 1 + s)
theorem barredRules_eq {n many : Nat} {barred : List Nat} : barredRules n many barred = (List.range n).flatMap (barredAt many barred) := rfl
def near2 (many k e : Nat) (q : Nat × Nat) : List Rule := [.way k e [] [2 * many] false (many + q.1), .way k e [] [2 * many + 1 + q.2] false (many + q.1)]
def nearAt (many : Nat) (steps : List (List (List (Nat × Nat)))) (k e : Nat) : List Rule := ((steps.getD k []).getD e []).flatMap (near2 many k e)
def nearsAt (many : Nat) (steps : List (List (List (Nat × Nat)))) (k : Nat) : List Rule := (List.range (steps.getD k []).length).flatMap (nearAt many steps k)
theorem nearRules_eq {many : Nat} {steps : List (List (List (Nat × Nat)))} : nearRules many steps = (List.range steps.length).flatMap (nearsAt many steps) := rfl
theorem barredAt_len {many k : Nat} {barred : List Nat} : (barredAt many barred k).length ≤ many := by
  unfold barredAt
  split
  · exact Nat.zero_le _
  · rw [List.length_map, List.length_range]; exact Nat.le_refl _
section
variable {exits : List Nat} {mm : MM}
theorem nearAt_len (mok : MOk exits mm) (k e : Nat) : (nearAt mm.many mm.steps k e).length ≤ 32 := by
  unfold nearAt
  have := fmap_len (f := near2 mm.many k e) (c := 2) (l := (mm.steps.getD k []).getD e []) fun x _ => Nat.le_refl _
  have := pairs_len mok k e
  omega
theorem nearsAt_len (xok : XOk exits) (mok : MOk exits mm) (k : Nat) : (nearsAt mm.many mm.steps k).length ≤ 96 := by
  unfold nearsAt
  have a := flat_len (f := nearAt mm.many mm.steps k) (c := 32) (i := (mm.steps.getD k []).length) fun e _ => nearAt_len mok k e
  have := outs_len xok mok k
  omega
theorem stateRules_len (xok : XOk exits) (mok : MOk exits mm) : (stateRules mm).length ≤ 204 := by
  have a := flat_len (f := stepsAt mm.steps) (c := 48) (i := mm.steps.length) fun k _ => stepsAt_len xok mok k
  have b := flat_len (f := startAt mm.starts) (c := 3) (i := mm.starts.length) fun k _ => startAt_len mok k
  rw [← stepRules_eq] at a
  rw [← startRules_eq] at b
  have := mok.slen
  have := mok.tlen
  have := xok.hi
  unfold stateRules
  rw [List.length_append]
  omega
end
theorem rd_book_ahead {K : Frag} {mg : Str → Option Value} (T : Txt K mg) {m w b : V} {H : Hp} {Q : VK} (h : ph_book_ahead K m w b H Q) : t_book_ahead K (De Q) [some m, some w, some b, none, none, none, none, none, none, none, none, none, none, none] H := by
  obtain ⟨exits, mm, wanted, barred, M, xok, mok, hw, hb, lw, lb, q⟩ := h
  obtain ⟨am, dxm, bm, sm, tm, rfl, hm, M1, M2, M3⟩ := M.ex
  obtain ⟨aw, rfl, haw⟩ := hw.lot
  obtain ⟨ab, rfl, hab⟩ := hb.lot
  obtain ⟨abg, dxb, xb, rfl, hbg, hxb⟩ := M1.ex
  obtain ⟨ax, rfl, hax⟩ := hxb.lot
  obtain ⟨as, sxs, rfl, has, hsx⟩ := M2.open
  have m3 := mok.hi
  have x4 := xok.hi
  have lw4 := lw.len
  unfold t_book_ahead
  walk_at "rd"
  refine ⟨_, rfl, am, _, dxm, _, _, rfl, hm, T.c_Machine, T.n_Machine_kept_many, by rfl, ?_⟩
  refine ⟨_, rfl, _, rfl, ⟨by omega, by omega, by omega⟩, fun lr nlr => ?_⟩
  have erg : rgV 0 ((mm.many : Nat) : Int) = (List.range mm.many).map nv := by
    unfold rgV
    rw [show (((mm.many : Nat) : Int) - 0).toNat = mm.many by omega]
    refine List.map_congr_left fun i _ => ?_
    rw [Int.zero_add]
  rw [erg]
  have s1 : Same H (upd H lr (.lst ((List.range mm.many).map nv))) := Same.new nlr
  have g1 : (upd H lr (.lst ((List.range mm.many).map nv))) lr = _ := upd_same
  generalize upd H lr (.lst ((List.range mm.many).map nv)) = H1 at s1 g1 ⊢
  refine ⟨_, rfl, aw, rfl, ⟨_, SqT.of (s1 _ _ haw)⟩, fun l nl => ?_⟩
  refine lc_dt (walk_tup (K := K) (a := aw) (xs := wanted.map nv)) nl ((wantedRules mm.many wanted).map eR) (by unfold wantedRules; simp) (by rw [List.length_map]; omega) (fun H' s => SqT.of (s _ _ (s1 _ _ haw))) ?_ ?_
  · rintro i2 d2 x2 H5 H6 Kk hd2 s5 ⟨rfl, hx⟩ hK
    obtain ⟨n, hn, rfl⟩ := of_getElem?_nats hx
    have ed : d2 = eR (.here n [] (2 * mm.many)) := by
      unfold wantedRules at hd2
      rw [List.getElem?_map, List.getElem?_map, hn] at hd2
      exact (Option.some.inj hd2).symm
    subst ed
    refine ⟨rfl, _, rfl, Nat.zero_le _, fun p1 n1 => ⟨_, rfl, _, _, rfl, rfl, cmul2, by show 4 ≤ sizeLine; decide, fun p2 n2 => ?_⟩⟩
    have mk := mk_here (k := n) (d := 2 * mm.many) (need := []) n1 n2
    exact hK _ _ mk.1 mk.2
  intro H2 ys s2 hl hds
  have R0 : RL H1 H2 l (wantedRules mm.many wanted) := ⟨s2, nl, ys, hl, hds⟩
  have wl : (wantedRules mm.many wanted).length ≤ 4 := by unfold wantedRules; rw [List.length_map]; omega
  generalize hWW : wantedRules mm.many wanted = WW at R0 wl
  walk_at "rd"
  have s12 := s1.trans s2
  refine ⟨_, rfl, am, _, dxm, _, _, rfl, s12 _ _ hm, T.c_Machine, T.n_Machine_kept_bag, by rfl, abg, _, dxb, _, _, rfl, s12 _ _ hbg, T.c_Bag, T.n_Bag_kept_exits, by rfl, ax, _, rfl, .inr (SqT.of (s12 _ _ hax)), _, rfl, by rw [List.length_map]; omega, by rw [List.length_map]; omega, ?_⟩
  have en : (((exits.map nv).length : Nat) : Int).toNat = exits.length := by rw [List.length_map]; omega
  rw [en]
  refine for_range (fun i σ H' => RL H1 H' l (WW ++ (List.range i).flatMap (barredAt mm.many barred)) ∧ ∃ a c d e f g h i, σ = [some (.ref am), some (.ref aw), some (.ref ab), some (nv mm.many), some (.ref lr), a, some (.ref l), c, d, e, f, g, h, i]) ⟨by simpa using R0, _, _, _, _, _, _, _, _, rfl⟩ ?_ ?_
  · rintro i σ H3 hi ⟨R, ca, cc, cd, ce, cf, cg, ch, ci, rfl⟩
    rw [Int.zero_add]
    refine ⟨_, rfl, _, rfl, ab, _, rfl, .inr (SqT.of (R.same _ _ (s1 _ _ hab))), rfl, flat_nats, !decide (i ∈ barred), ?_, ?_⟩
    · rw [inV_nats]; rfl
    have fl := flat_len (f := barredAt mm.many barred) (c := mm.many) (i := i) fun k _ => barredAt_len
    have f12 : i * mm.many ≤ 12 := Nat.le_trans (Nat.mul_le_mul (show i ≤ 4 by omega) m3) (by decide)
    by_cases c : i ∈ barred
    · rw [decide_eq_true c]
      refine iteF ⟨?_, _, _, _, _, _, _, _, _, rfl⟩
      rw [flat_succ]
      have : barredAt mm.many barred i = [] := by unfold barredAt; rw [if_pos c]
      rw [this, List.append_nil]
      exact R
    · rw [decide_eq_false c]
      refine iteT ?_
      walk_at "rd"
      obtain ⟨xs, hx1, hx2⟩ := R.ex
      have hlr := R.same _ _ g1
      refine ⟨_, rfl, .inl ⟨rfl, _, SqL.of hx1⟩, _, rfl, lr, rfl, ⟨_, SqL.of hlr⟩, fun Dl nD => ?_⟩
      have eb : barredAt mm.many barred i = (List.range mm.many).map fun s => .here i [mm.many + s] (2 * mm.many + 1 + s) := by unfold barredAt; rw [if_neg c]
      refine lc_dt (walk_list (K := K) (a := lr) (xs := (List.range mm.many).map nv)) nD ((barredAt mm.many barred i).map eR) (by rw [eb]; simp) (by simp; omega) (fun H' s => SqL.of (s _ _ hlr)) ?_ ?_
      · rintro i2 d2 x2 H5 H6 Kk hd2 s5 ⟨rfl, hx⟩ hK
        obtain ⟨n, hn, rfl⟩ := of_getElem?_nats hx
        have ed : d2 = eR (.here i [mm.many + n] (2 * mm.many + 1 + n)) := by
          rw [eb, List.getElem?_map, List.getElem?_map, hn] at hd2
          exact (Option.some.inj hd2).symm
        subst ed
        refine ⟨rfl, _, rfl, _, rfl, _, rfl, _, _, rfl, rfl, by show 1 ≤ sizeLine; decide, fun p1 n1 => ⟨_, rfl, _, _, rfl, rfl, cmul2, _, _, rfl, rfl, _, rfl, _, _, rfl, rfl, by show 4 ≤ sizeLine; decide, fun p2 n2 => ?_⟩⟩
        have mk := mk_here (k := i) (d := 2 * mm.many + 1 + n) (need := [mm.many + n]) n1 n2
        exact hK _ _ mk.1 mk.2
      · intro H5 ys s5 hD hds
        have al2 := barredAt_len (many := mm.many) (barred := barred) (k := i)
        obtain ⟨xs5, h51, h52, R5⟩ := (R.step s5).ext hds (by rw [List.length_append]; omega)
        refine ⟨l, Dl, xs5, ys, rfl, rfl, h51, hD, h52, ?_⟩
        rw [flat_succ, ← List.append_assoc]
        exact ⟨R5, _, _, _, _, _, _, _, _, rfl⟩
  rintro σ H3 ⟨R, ca, cc, cd, ce, cf, cg, ch, ci, rfl⟩
  rw [← barredRules_eq] at R
  have bl : (barredRules exits.length mm.many barred).length ≤ 12 := by
    have fl := flat_len (f := barredAt mm.many barred) (c := mm.many) (i := exits.length) fun k _ => barredAt_len
    rw [← barredRules_eq] at fl
    have f12 : exits.length * mm.many ≤ 12 := Nat.le_trans (Nat.mul_le_mul x4 m3) (by decide)
    omega
  have SL : (WW ++ barredRules exits.length mm.many barred).length ≤ 16 := by rw [List.length_append]; omega
  generalize hS : WW ++ barredRules exits.length mm.many barred = S at R SL
  walk_at "rd"
  refine ⟨_, rfl, am, _, dxm, _, _, rfl, R.same _ _ (s1 _ _ hm), T.c_Machine, T.n_Machine_kept_steps, by rfl, as, _, rfl, SqT.of (R.same _ _ (s1 _ _ has)), ?_⟩
  refine for_it (walk_enumT (K := K) (a := as) (xs := sxs)) (fun i σ H' => RL H1 H' l (S ++ (List.range i).flatMap (nearsAt mm.many mm.steps)) ∧ ∃ a c d e f g h i, σ = [some (.ref am), some (.ref aw), some (.ref ab), some (nv mm.many), some (.ref lr), a, some (.ref l), c, d, e, f, g, h, i]) ⟨by simpa using R, _, _, _, _, _, _, _, _, rfl⟩ (fun i σ H' _ p => SqT.of (p.1.same _ _ (s1 _ _ has))) ?_ ?_
  · rintro i v σ H4 H5 hi ⟨R, ca, cc, cd, ce, cf, cg, ch, ci, rfl⟩ ⟨Tt, x1, y1, rfl, nT, rfl, e1, e2⟩
    cases e1
    obtain ⟨outs, houts, hd⟩ := hsx.at' e2
    have sT : Same H4 (upd H4 Tt (.tup [.int (i : Nat), y1])) := Same.new nT
    have gT : (upd H4 Tt (.tup [.int (i : Nat), y1])) Tt = some (.tup [.int (i : Nat), y1]) := upd_same
    have RT := R.step sT
    generalize upd H4 Tt (.tup [.int (i : Nat), y1]) = H6 at RT gT ⊢
    obtain ⟨ao, oxs, rfl, hao, hox⟩ := hd.open
    have hao4 := RT.same _ _ (s1 _ _ hao)
    have il := (List.getElem?_eq_some_iff.mp houts).1
    rw [mok.slen] at il
    have fl := flat_len (f := nearsAt mm.many mm.steps) (c := 96) (i := i) fun k _ => nearsAt_len xok mok k
    refine ⟨Tt, _, rfl, SqT.of gT, rfl, _, _, rfl, _, _, rfl, rfl, ?_⟩
    walk_at "rd"
    refine ⟨_, rfl, ao, _, rfl, SqT.of hao4, ?_⟩
    rw [flat_succ, ← List.append_assoc]
    have SL2 : (S ++ (List.range i).flatMap (nearsAt mm.many mm.steps)).length ≤ 500 := by rw [List.length_append]; omega
    generalize S ++ (List.range i).flatMap (nearsAt mm.many mm.steps) = S2 at RT SL2
    refine for_it (walk_enumT (K := K) (a := ao) (xs := oxs)) (fun e σ H' => RL H1 H' l (S2 ++ (List.range e).flatMap (nearAt mm.many mm.steps i)) ∧ ∃ d f g h i' j, σ = [some (.ref am), some (.ref aw), some (.ref ab), some (nv mm.many), some (.ref lr), some (nv i), some (.ref l), some (.ref ao), d, f, g, h, i', j]) ⟨by simpa using RT, _, _, _, _, _, _, rfl⟩ (fun i σ H' _ p => SqT.of (p.1.same _ _ (s1 _ _ hao))) ?_ ?_
    · rintro e v σ H7 H8 he ⟨R5, d5, f5, g5, h5, i5, j5, rfl⟩ ⟨T5, x5, y5, rfl, nT5, rfl, e15, e25⟩
      cases e15
      obtain ⟨prs, hprs, hd5⟩ := hox.at' e25
      have sT5 : Same H7 (upd H7 T5 (.tup [.int (e : Nat), y5])) := Same.new nT5
      have gT5 : (upd H7 T5 (.tup [.int (e : Nat), y5])) T5 = some (.tup [.int (e : Nat), y5]) := upd_same
      have RT5 := R5.step sT5
      generalize upd H7 T5 (.tup [.int (e : Nat), y5]) = H9 at RT5 gT5 ⊢
      obtain ⟨apr, pxs, rfl, hapr, hpx⟩ := hd5.open
      have hapr7 := RT5.same _ _ (s1 _ _ hapr)
      have epr : (mm.steps.getD i []).getD e [] = prs := by rw [getD_of houts, getD_of hprs]
      have pl := pairs_len mok i e
      rw [epr] at pl
      have ol := outs_len xok mok i
      rw [getD_of houts] at ol
      have ael := (List.getElem?_eq_some_iff.mp hprs).1
      have fl2 := flat_len (f := nearAt mm.many mm.steps i) (c := 32) (i := e) fun k _ => nearAt_len mok i k
      refine ⟨T5, _, rfl, SqT.of gT5, rfl, _, _, rfl, _, _, rfl, rfl, ?_⟩
      walk_at "rd"
      refine ⟨_, rfl, apr, rfl, ⟨_, SqT.of hapr7⟩, ?_⟩
      rw [flat_succ, ← List.append_assoc]
      have SL3 : (S2 ++ (List.range e).flatMap (nearAt mm.many mm.steps i)).length ≤ 700 := by rw [List.length_append]; omega
      generalize S2 ++ (List.range e).flatMap (nearAt mm.many mm.steps i) = S3 at RT5 SL3
      have en : nearAt mm.many mm.steps i e = prs.flatMap (near2 mm.many i e) := by unfold nearAt; rw [epr]
      rw [en]
      refine for_tup (K := K) (xs := pxs) (fun j σ H' => RL H1 H' l (S3 ++ (prs.take j).flatMap (near2 mm.many i e)) ∧ ∃ g h i' j, σ = [some (.ref am), some (.ref aw), some (.ref ab), some (nv mm.many), some (.ref lr), some (nv i), some (.ref l), some (.ref ao), some (nv e), some (.ref apr), g, h, i', j]) ⟨by simpa using RT5, _, _, _, _, rfl⟩ (fun j σ H' _ p => SqT.of (p.1.same _ _ (s1 _ _ hapr))) ?_ ?_
      · rintro j x σ H10 hj ⟨R10, g10, h10, i10, j10, rfl⟩
        obtain ⟨pr, hpr, hdp⟩ := hpx.at' hj
        obtain ⟨ap, rfl, hap⟩ := pair_inv hdp
        have hap10 := R10.same _ _ (s1 _ _ hap)
        have tl : ((prs.take j).flatMap (near2 mm.many i e)).length ≤ 32 := by
          have := fmap_len (f := near2 mm.many i e) (c := 2) (l := prs.take j) fun x _ => Nat.le_refl _
          have h2 : (prs.take j).length ≤ prs.length := by rw [List.length_take]; omega
          omega
        refine ⟨ap, _, rfl, SqT.of hap10, rfl, _, _, rfl, _, _, rfl, rfl, ?_⟩
        walk_at "rd"
        rw [take_more hpr, List.flatMap_append, ← List.append_assoc]
        have SL4 : (S3 ++ (prs.take j).flatMap (near2 mm.many i e)).length ≤ 800 := by rw [List.length_append]; omega
        generalize S3 ++ (prs.take j).flatMap (near2 mm.many i e) = S4 at R10 SL4
        obtain ⟨xs, hx1, hx2⟩ := R10.ex
        refine ⟨_, rfl, .inl ⟨rfl, _, SqL.of hx1⟩, _, rfl, _, rfl, Nat.zero_le _, fun p1 n1 => ⟨_, rfl, _, _, rfl, rfl, cmul2, by show 1 ≤ sizeLine; decide, fun p2 n2 => ⟨_, rfl, _, rfl, _, _, rfl, rfl, by show 7 ≤ sizeLine; decide, fun p3 n3 => ?_⟩⟩⟩
        have mk := mk_way (k := i) (e := e) (d := mm.many + pr.1) (near := []) (far := [2 * mm.many]) (b := false) n1 n2 n3
        obtain ⟨xs5, h51, h52, R11⟩ := (R10.step mk.1).app mk.2 (by omega)
        refine ⟨l, xs5, _, rfl, rfl, h51, h52, ?_⟩
        have hap11 := R11.same _ _ (s1 _ _ hap)
        obtain ⟨xs6, hx61, hx62⟩ := R11.ex
        refine ⟨_, rfl, .inl ⟨rfl, _, SqL.of hx61⟩, _, rfl, _, rfl, Nat.zero_le _, fun q1 m1 => ⟨_, rfl, _, _, rfl, rfl, cmul2, _, _, rfl, rfl, _, rfl, _, _, rfl, rfl, by show 1 ≤ sizeLine; decide, fun q2 m2 => ⟨_, rfl, _, rfl, _, _, rfl, rfl, by show 7 ≤ sizeLine; decide, fun q3 m3' => ?_⟩⟩⟩
        have mk2 := mk_way (k := i) (e := e) (d := mm.many + pr.1) (near := []) (far := [2 * mm.many + 1 + pr.2]) (b := false) m1 m2 m3'
        obtain ⟨xs7, h71, h72, R12⟩ := (R11.step mk2.1).app mk2.2 (by rw [List.length_append]; show _ + 1 < _; omega)
        refine ⟨l, xs7, _, rfl, rfl, h71, h72, ?_⟩
        rw [List.append_assoc] at R12
        exact ⟨R12, _, _, _, _, rfl⟩
      · rintro σ H10 ⟨R10, g10, h10, i10, j10, rfl⟩
        rw [hpx.len, List.take_length] at R10
        exact ⟨R10, _, _, _, _, _, _, rfl⟩
    · rintro σ H7 ⟨R5, d5, f5, g5, h5, i5, j5, rfl⟩
      rw [hox.len] at R5
      have ee : nearsAt mm.many mm.steps i = (List.range outs.length).flatMap (nearAt mm.many mm.steps i) := by unfold nearsAt; rw [getD_of houts]
      rw [ee]
      exact ⟨R5, _, _, _, _, _, _, _, _, rfl⟩
  rintro σ H4 ⟨R, ca, cc, cd, ce, cf, cg, ch, ci, rfl⟩
  rw [hsx.len, ← nearRules_eq, ← hS, ← hWW] at R
  have mlo := mok.lo
  have nlen : (nearRules mm.many mm.steps).length ≤ 400 := by
    have fl := flat_len (f := nearsAt mm.many mm.steps) (c := 96) (i := mm.steps.length) fun k _ => nearsAt_len xok mok k
    rw [← nearRules_eq] at fl
    have := mok.slen
    omega
  have wbl : (wantedRules mm.many wanted ++ barredRules exits.length mm.many barred ++ nearRules mm.many mm.steps).length ≤ 500 := by
    rw [hWW, hS, List.length_append]; omega
  have sH : Same H H4 := s1.trans R.same
  refine ⟨by show 1 ≤ sizeLine; decide, fun p1 n1 => ?_⟩
  have s5 : Same H4 (upd H4 p1 (.tup [.int 0])) := Same.new n1
  have g5 : (upd H4 p1 (.tup [.int 0])) p1 = some (.tup [.int 0]) := upd_same
  generalize upd H4 p1 (.tup [.int 0]) = H5 at s5 g5 ⊢
  refine ⟨_, rfl, _, _, rfl, rfl, cmul3, _, _, rfl, rfl, ?_⟩
  refine rRepA_n (n := 3 * mm.many + 1) g5 (by omega) (by omega) fun po H6 s6 hpo => ?_
  have sH6 := (sH.trans s5).trans s6
  refine ⟨_, rfl, am, _, dxm, _, _, rfl, sH6 _ _ hm, T.c_Machine, T.n_Machine_kept_bag, by rfl, _, rfl, _, rfl, exits, mm, M.same sH6, xok, mok, fun bk H7 s7 hB => ?_⟩
  obtain ⟨ak, dxk, kb, ko, kr, kw, kh, ky, rfl, hk0, k1, k2, k3, k4, k5, k6⟩ := hB.ex
  obtain ⟨akr, krx, rfl, hakr, hkrx⟩ := k3.open
  have R7 := ((R.step s5).step s6).step s7
  obtain ⟨xs, hx1, hx2⟩ := R7.ex
  refine ⟨ak, _, dxk, _, _, rfl, hk0, T.c_RawBook, T.n_RawBook_kept_rules, by rfl, _, rfl, l, xs, rfl, .inl ⟨SqL.of hx1, fun t nt => ?_⟩⟩
  have s8 : Same H7 (upd H7 t (.tup xs)) := Same.new nt
  have g8 : (upd H7 t (.tup xs)) t = some (.tup xs) := upd_same
  generalize upd H7 t (.tup xs) = H8 at s8 g8 ⊢
  have stl := stateRules_len xok mok
  refine rCatA_n (s8 _ _ hakr) g8 (by rw [hkrx.len, hx2.len]; omega) fun pr H9 s9 hpr => ?_
  refine ⟨Nat.zero_le _, fun pe ne => ?_⟩
  have s10 : Same H9 (upd H9 pe (.tup [])) := Same.new ne
  have g10 : (upd H9 pe (.tup [])) pe = some (.tup []) := upd_same
  generalize upd H9 pe (.tup []) = H10 at s10 g10 ⊢
  intro x dx nx nd nn
  have s11 := made_at (C := He.ga K "RawBook") nx nd
  have s710 := ((s8.trans s9).trans s10)
  have s711 := s710.trans s11
  have sAll := (sH6.trans s7).trans s711
  refine ⟨x, dx, exits, 3 * mm.many + 1, aheadRules exits.length mm wanted barred, rfl, upd_same, M1.same sAll, xok, (Dt.of_lot hpo).same (s7.trans s711), .tup (s11 _ _ (s10 _ _ hpr)) ?_, .tup (s11 _ _ g10) .nil, ?_, fun r hr => (aheadRules_ok mok lw hr).book (by omega), fun H' sb hB => ⟨rfl, q _ _ (made_same ((sH6.trans s7).trans s710) nx nd sb) hB⟩⟩
  · unfold aheadRules
    rw [List.map_append]
    exact (hkrx.same s711).append (hx2.same s711)
  · unfold aheadRules
    rw [List.length_append]; omega
end NB
set_option pp.maxSteps 900
set_option Elab.async false
set_option linter.all false
set_option maxRecDepth 100000
set_option maxHeartbeats 4000000
namespace NB
open PySem PyProof.Rows L2
local macro_rules | `(tactic| walk_at "rd") => `(tactic| dsimp only [De, tSeq, tNext, tAsg, tIfS, tRet, tRetN, tDrop, tBreak, tCont, tAug, ipI, gName, gNil, gCons, gTup, gSub, tVar, tC, tOp, tUn, tTest, tB, tTru, tNot, tAnd, tOr, tNotV, tAndV, tOrV, tChain, tCons, tNil, tCB, tCall, tMeth, tMake, tTup, tLst, tFld, sFld, tDGet, tDIn, tDNotIn, sDPut, tDNewK, tDNewT, tBM, tBM0, tSl, tPart, tNoPart, tYes, iList, iTup, iRng1, iRng2, iEnum, iEnumT, iSeq, RZ.iZipA, rMaxT, rRepA, rIn, tLstRg, tRg1, tRevT, rI0, rI, rU, rAddI, rSubI, rMulI, rDivI, rModI, rPowI, rShlI, rShrI, rAndI, rOrI, rLtI, rLeI, rGtI, rGeI, rNegI, rInvI, rEq, rNe, rLenS, rListS, rTupleS, rInt1, rBool1, rStrI, rAbsI, rAll, rAny, rAppend, rExtend, rPopAt, rRep, rIxL, rIxT, rSetL, rSlL, rSlA, rCatA, rEqD, rNeD, List.cons_append, List.nil_append, List.append_nil])
local macro_rules | `(tactic| walk_at "rs") => `(tactic| dsimp only [De, tSeq, tNext, tAsg, tIfS, tRet, tRetN, tDrop, tBreak, tCont, tAug, ipI, gName, gNil, gCons, gTup, gSub, tVar, tC, tOp, tUn, tTest, tB, tTru, tNot, tAnd, tOr, tNotV, tAndV, tOrV, tChain, tCons, tNil, tCB, tCall, tMeth, tMake, tTup, tLst, tFld, sFld, tDGet, tDIn, tDNotIn, sDPut, tDNewK, tDNewT, tBM, tBM0, tSl, tPart, tNoPart, tYes, iList, iTup, iRng1, iRng2, iEnum, iEnumT, iSeq, RZ.iZipA, rMaxT, rRepA, rIn, tLstRg, tRg1, tRevT, rI0, rI, rU, rAddI, rSubI, rMulI, rDivI, rModI, rPowI, rShlI, rShrI, rAndI, rOrI, rLtI, rLeI, rGtI, rGeI, rNegI, rInvI, rEq, rNe, rLenS, rListS, rTupleS, rInt1, rBool1, rStrI, rAbsI, rAll, rAny, rAppend, rExtend, rPopAt, rRep, rIxL, rIxT, rSetL, rSlL, rCatA, rEqD, rNeD, List.cons_append, List.nil_append, List.append_nil])
theorem sc_law_ahead_rules : FnScope ["_law_exits_here", "_law_machine_here", "_law_wanted", "_law_barred", "_law_many", "_law_steps_here", "_law_starts_here", "_law_rules", "_law_kind", "_law_k", "_law_old", "_law_new", "_law_state"] ["_law_exits_here", "_law_machine_here", "_law_wanted", "_law_barred"] (defScope s_law_ahead_rules) := ⟨rfl, rfl, rfl, by decide +kernel, rfl, by decide +kernel, by decide +kernel⟩
def t_law_ahead_rules (K : PySem.W.Frag) : TS :=
  (tSeq (tAsg (tVar 1) (gTup K 3 (gCons (gName 4) (gCons (gName 5) (gCons (gName 6) gNil)))))
    (tSeq (tAsg (tLst tNil) (gName 7))
    (tSeq (tFor (iRng1 (tCons (tCB (rLenS K) (tCons (tVar 0) tNil)) tNil)) (gName 8) (tDrop (tBM K "list" rExtend (tVar 7) (tCons (tLc (iTup K (tOp (rIxT K) (tVar 6) (tVar 8))) (gName 12) tYes (tTup (tCons (tC (.str "here")) (tCons (tVar 8) (tCons (tTup tNil) (tCons (tVar 12) tNil))))) [12]) tNil))))
    (tSeq (tFor (iRng1 (tCons (tCB (rLenS K) (tCons (tVar 0) tNil)) tNil)) (gName 8) (tFor (iRng1 (tCons (tOp (rIxT K) (tVar 0) (tVar 8)) tNil)) (gName 9) (tDrop (tBM K "list" rExtend (tVar 7) (tCons (tLc (iTup K (tOp (rIxT K) (tOp (rIxT K) (tVar 5) (tVar 8)) (tVar 9))) (gTup K 2 (gCons (gName 10) (gCons (gName 11) gNil))) tYes (tTup (tCons (tC (.str "way")) (tCons (tVar 8) (tCons (tVar 9) (tCons (tTup (tCons (tVar 10) tNil)) (tCons (tTup tNil) (tCons (tC (.str "far")) (tCons (tVar 11) tNil)))))))) [10, 11]) tNil)))))
    (tSeq (tDrop (tBM K "list" rExtend (tVar 7) (tCons (tLc (iTup K (tVar 2)) (gName 8) tYes (tTup (tCons (tC (.str "here")) (tCons (tVar 8) (tCons (tTup tNil) (tCons (tOp rMulI (tC (.int 2)) (tVar 4)) tNil))))) [8]) tNil)))
    (tSeq (tFor (iRng1 (tCons (tCB (rLenS K) (tCons (tVar 0) tNil)) tNil)) (gName 8) (tIfS (tTest (tOp (rIn K true) (tVar 8) (tVar 3))) (tDrop (tBM K "list" rExtend (tVar 7) (tCons (tLc (iRng1 (tCons (tVar 4) tNil)) (gName 12) tYes (tTup (tCons (tC (.str "here")) (tCons (tVar 8) (tCons (tTup (tCons (tOp rAddI (tVar 4) (tVar 12)) tNil)) (tCons (tOp rAddI (tOp rAddI (tOp rMulI (tC (.int 2)) (tVar 4)) (tC (.int 1))) (tVar 12)) tNil))))) [12]) tNil))) tNext))
    (tSeq (tFor (iRng1 (tCons (tCB (rLenS K) (tCons (tVar 0) tNil)) tNil)) (gName 8) (tFor (iRng1 (tCons (tOp (rIxT K) (tVar 0) (tVar 8)) tNil)) (gName 9) (tFor (iTup K (tOp (rIxT K) (tOp (rIxT K) (tVar 5) (tVar 8)) (tVar 9))) (gTup K 2 (gCons (gName 10) (gCons (gName 11) gNil))) (tSeq (tDrop (tBM K "list" rAppend (tVar 7) (tCons (tTup (tCons (tC (.str "way")) (tCons (tVar 8) (tCons (tVar 9) (tCons (tTup tNil) (tCons (tTup (tCons (tOp rMulI (tC (.int 2)) (tVar 4)) tNil)) (tCons (tC (.str "near")) (tCons (tOp rAddI (tVar 4) (tVar 10)) tNil)))))))) tNil)))
    (tDrop (tBM K "list" rAppend (tVar 7) (tCons (tTup (tCons (tC (.str "way")) (tCons (tVar 8) (tCons (tVar 9) (tCons (tTup tNil) (tCons (tTup (tCons (tOp rAddI (tOp rAddI (tOp rMulI (tC (.int 2)) (tVar 4)) (tC (.int 1))) (tVar 11)) tNil)) (tCons (tC (.str "near")) (tCons (tOp rAddI (tVar 4) (tVar 10)) tNil)))))))) tNil)))))))
    (tRet (tCB (rTupleS K) (tCons (tVar 7) tNil))))))))))
theorem mach_inv {H : Hp} {m : V} {mm : MM} (h : Dt H m (eM mm)) : ∃ a s t, m = .ref a ∧ H a = some (.tup [nv mm.many, s, t]) ∧ Dt H s (eSteps mm.steps) ∧ Dt H t (eStarts mm.starts) := by
  obtain ⟨a, xs, rfl, h1, h2⟩ := h.tup_inv
  cases h2 with
  | cons x1 h2 => cases h2 with
    | cons x2 h2 => cases h2 with
      | cons x3 h2 => cases h2 with
        | nil =>
          cases x1.int_inv
          exact ⟨a, _, _, rfl, h1, x2, x3⟩
theorem rd_law_ahead_rules {K : Frag} {mg : Str → Option Value} (T : Txt K mg) {x m w b : V} {H : Hp} {Q : VK} (h : ph_law_ahead_rules K x m w b H Q) : t_law_ahead_rules K (De Q) [some x, some m, some w, some b, none, none, none, none, none, none, none, none, none] H := by
  obtain ⟨exits, mm, wanted, barred, hx, hm, xok, mok, hw, hb, lw, lb, q⟩ := h
  obtain ⟨ax, rfl, hax⟩ := hx.lot
  obtain ⟨am, sm, tm, rfl, ham, M2, M3⟩ := mach_inv hm
  obtain ⟨aw, rfl, haw⟩ := hw.lot
  obtain ⟨ab, rfl, hab⟩ := hb.lot
  obtain ⟨as, sxs, rfl, has, hsx⟩ := M2.open
  obtain ⟨at', txs, rfl, hat, htx⟩ := M3.open
  have m3 := mok.hi
  have x4 := xok.hi
  have lw4 := lw.len
  unfold t_law_ahead_rules
  walk_at "rd"
  refine ⟨_, rfl, am, _, rfl, SqT.of ham, rfl, _, _, rfl, _, _, rfl, _, _, rfl, rfl, Nat.zero_le _, fun l nl => ?_⟩
  have R0 := RL.start nl
  generalize upd H l (.lst []) = H1 at R0 ⊢
  have en : (((exits.map nv).length : Nat) : Int).toNat = exits.length := by rw [List.length_map]; omega
  have bnd1 : -2 ^ 62 ≤ (((exits.map nv).length : Nat) : Int) := by rw [List.length_map]; omega
  have bnd2 : (((exits.map nv).length : Nat) : Int) < 2 ^ 62 := by rw [List.length_map]; omega
  refine ⟨_, rfl, ax, _, rfl, .inr (SqT.of (R0.same _ _ hax)), _, rfl, bnd1, bnd2, ?_⟩
  rw [en]
  refine for_range (fun i σ H' => RL H H' l ((List.range i).flatMap (startAt mm.starts)) ∧ ∃ c d e f g, σ = [some (.ref ax), some (.ref am), some (.ref aw), some (.ref ab), some (nv mm.many), some (.ref as), some (.ref at'), some (.ref l), c, d, e, f, g]) ⟨R0, _, _, _, _, _, rfl⟩ ?_ ?_
  · rintro i σ H2 hi ⟨R, cc, cd, ce, cf, cg, rfl⟩
    rw [Int.zero_add]
    refine ⟨_, rfl, ?_⟩
    walk_at "rd"
    obtain ⟨xs, hx1, hx2⟩ := R.ex
    have hlt : mm.starts[i]? = some (mm.starts.getD i []) := get_of (by rw [mok.tlen]; exact hi) []
    obtain ⟨y1, e2, hd⟩ := htx.at hlt
    obtain ⟨al, rfl, hal⟩ := hd.lot
    have hal4 := R.same _ _ hal
    refine ⟨.inl ⟨rfl, _, SqL.of hx1⟩, _, rfl, _, rfl, at', _, _, _, rfl, rfl, SqT.of (R.same _ _ hat), atI_nat e2, al, rfl, ⟨_, SqT.of hal4⟩, fun Dl nD => ?_⟩
    have llt := (mok.lots _ (List.mem_of_getElem? hlt)).len
    refine lc_dt (walk_tup (K := K) (a := al) (xs := (mm.starts.getD i []).map nv)) nD ((startAt mm.starts i).map eR) (by unfold startAt; simp) (by rw [List.length_map]; omega) (fun H' s => SqT.of (s _ _ hal4)) ?_ ?_
    · rintro i2 d2 x2 H5 H6 Kk hd2 s5 ⟨rfl, hx⟩ hK
      obtain ⟨n, hn, rfl⟩ := of_getElem?_nats hx
      have ed : d2 = eR (.here i [] n) := by
        unfold startAt at hd2
        rw [List.getElem?_map, List.getElem?_map, hn] at hd2
        exact (Option.some.inj hd2).symm
      subst ed
      refine ⟨rfl, _, rfl, Nat.zero_le _, fun p1 n1 => ⟨_, rfl, by show 4 ≤ sizeLine; decide, fun p2 n2 => ?_⟩⟩
      have mk := mk_here (k := i) (d := n) (need := []) n1 n2
      exact hK _ _ mk.1 mk.2
    · intro H5 ys s5 hD hds
      have al2 := startAt_len mok i
      have fl := flat_len (f := startAt mm.starts) (c := 3) (i := i) fun k _ => startAt_len mok k
      obtain ⟨xs5, h51, h52, R5⟩ := (R.step s5).ext hds (by omega)
      refine ⟨l, Dl, xs5, ys, rfl, rfl, h51, hD, h52, ?_⟩
      rw [flat_succ]
      exact ⟨R5, _, _, _, _, _, rfl⟩
  rintro σ H2 ⟨R, cc, cd, ce, cf, cg, rfl⟩
  rw [← mok.tlen, ← startRules_eq] at R
  have SL : (startRules mm.starts).length ≤ 12 := by
    have := flat_len (f := startAt mm.starts) (c := 3) (i := mm.starts.length) fun k _ => startAt_len mok k
    rw [← startRules_eq] at this
    have := mok.tlen
    omega
  generalize hS : startRules mm.starts = S at R SL
  walk_at "rd"
  refine ⟨_, rfl, ax, _, rfl, .inr (SqT.of (R.same _ _ hax)), _, rfl, bnd1, bnd2, ?_⟩
  rw [en]
  refine for_range (fun i σ H' => RL H H' l (S ++ (List.range i).flatMap (stepsAt mm.steps)) ∧ ∃ c d e f g, σ = [some (.ref ax), some (.ref am), some (.ref aw), some (.ref ab), some (nv mm.many), some (.ref as), some (.ref at'), some (.ref l), c, d, e, f, g]) ⟨by simpa using R, _, _, _, _, _, rfl⟩ ?_ ?_
  · rintro i σ H2 hi ⟨R, cc, cd, ce, cf, cg, rfl⟩
    rw [Int.zero_add]
    have houts : mm.steps[i]? = some (mm.steps.getD i []) := get_of (by rw [mok.slen]; exact hi) []
    obtain ⟨y1, e2, hd⟩ := hsx.at houts
    obtain ⟨ao, oxs, rfl, hao, hox⟩ := hd.open
    have hel := mok.elen i _ houts
    have fl := flat_len (f := stepsAt mm.steps) (c := 48) (i := i) fun k _ => stepsAt_len xok mok k
    have ol := outs_len xok mok i
    refine ⟨_, rfl, _, rfl, ax, _, _, _, rfl, rfl, SqT.of (R.same _ _ hax), atI_nat (getElem?_nats hel), _, rfl, by omega, by omega, ?_⟩
    rw [flat_succ, ← List.append_assoc, Int.toNat_natCast]
    have SL2 : (S ++ (List.range i).flatMap (stepsAt mm.steps)).length ≤ 204 := by rw [List.length_append]; omega
    generalize S ++ (List.range i).flatMap (stepsAt mm.steps) = S2 at R SL2
    refine for_range (fun e σ H' => RL H H' l (S2 ++ (List.range e).flatMap (stepAt mm.steps i)) ∧ ∃ d e f g, σ = [some (.ref ax), some (.ref am), some (.ref aw), some (.ref ab), some (nv mm.many), some (.ref as), some (.ref at'), some (.ref l), some (nv i), d, e, f, g]) ⟨by simpa using R, _, _, _, _, rfl⟩ ?_ ?_
    · rintro e σ H5 he ⟨R5, d5, f5, g5, h5, rfl⟩
      rw [Int.zero_add]
      refine ⟨_, rfl, ?_⟩
      walk_at "rd"
      have hprs : (mm.steps.getD i [])[e]? = some ((mm.steps.getD i []).getD e []) := get_of he []
      obtain ⟨y5, e25, hd5⟩ := hox.at hprs
      obtain ⟨apr, pxs, rfl, hapr, hpx⟩ := hd5.open
      have hapr7 := R5.same _ _ hapr
      obtain ⟨xs, hx1, hx2⟩ := R5.ex
      have pl := pairs_len mok i e
      refine ⟨.inl ⟨rfl, _, SqL.of hx1⟩, _, rfl, _, rfl, as, _, _, _, rfl, rfl, SqT.of (R5.same _ _ has), atI_nat e2, _, rfl, ao, _, _, _, rfl, rfl, SqT.of (R5.same _ _ hao), atI_nat e25, apr, rfl, ⟨_, SqT.of hapr7⟩, fun Dl nD => ?_⟩
      refine lc_dt (walk_tup (K := K) (a := apr) (xs := pxs)) nD ((stepAt mm.steps i e).map eR) (by unfold stepAt; rw [List.length_map, List.length_map, hpx.len]) (by rw [hpx.len]; omega) (fun H' s => SqT.of (s _ _ hapr7)) ?_ ?_
      · rintro i2 d2 x2 H8 H9 Kk hd2 s5 ⟨rfl, hx⟩ hK
        obtain ⟨pr, hpr, hdp⟩ := hpx.at' hx
        obtain ⟨ap, rfl, hap⟩ := pair_inv hdp
        have ed : d2 = eR (.way i e [pr.1] [] true pr.2) := by
          unfold stepAt at hd2
          rw [List.getElem?_map, List.getElem?_map, hpr] at hd2
          exact (Option.some.inj hd2).symm
        subst ed
        have hap9 := s5 _ _ (R5.same _ _ hap)
        refine ⟨ap, _, rfl, SqT.of hap9, rfl, _, _, rfl, _, _, rfl, rfl, rfl, ?_⟩
        walk_at "rd"
        refine ⟨_, rfl, _, rfl, _, rfl, by show 1 ≤ sizeLine; decide, fun p1 n1 => ⟨Nat.zero_le _, fun p2 n2 => ⟨_, rfl, by show 7 ≤ sizeLine; decide, fun p3 n3 => ?_⟩⟩⟩
        have mk := mk_way (k := i) (e := e) (d := pr.2) (near := [pr.1]) (far := []) (b := true) n1 n2 n3
        exact hK _ _ mk.1 mk.2
      · intro H8 ys s5 hD hds
        have fl2 := flat_len (f := stepAt mm.steps i) (c := 16) (i := e) fun k _ => by unfold stepAt; rw [List.length_map]; exact pairs_len mok i k
        have ll : (stepAt mm.steps i e).length ≤ 16 := by unfold stepAt; rw [List.length_map]; exact pairs_len mok i e
        obtain ⟨xs5, h51, h52, R8⟩ := (R5.step s5).ext hds (by rw [List.length_append]; omega)
        refine ⟨l, Dl, xs5, ys, rfl, rfl, h51, hD, h52, ?_⟩
        rw [flat_succ, ← List.append_assoc]
        exact ⟨R8, _, _, _, _, rfl⟩
    · rintro σ H5 ⟨R5, d5, f5, g5, h5, rfl⟩
      exact ⟨R5, _, _, _, _, _, rfl⟩
  rintro σ H2 ⟨R, cc, cd, ce, cf, cg, rfl⟩
  rw [← mok.slen, ← stepRules_eq, ← hS] at R
  change RL H H2 l (stateRules mm) at R
  have stl := stateRules_len xok mok
  generalize hST : stateRules mm = ST at R stl
  -- the wanted
  walk_at "rd"
  obtain ⟨xs, hx1, hx2⟩ := R.ex
  have haw2 := R.same _ _ haw
  refine ⟨_, rfl, .inl ⟨rfl, _, SqL.of hx1⟩, _, rfl, aw, rfl, ⟨_, SqT.of haw2⟩, fun Dl nD => ?_⟩
  have wl : (wantedRules mm.many wanted).length ≤ 4 := by unfold wantedRules; rw [List.length_map]; omega
  refine lc_dt (walk_tup (K := K) (a := aw) (xs := wanted.map nv)) nD ((wantedRules mm.many wanted).map eR) (by unfold wantedRules; simp) (by rw [List.length_map]; omega) (fun H' s => SqT.of (s _ _ haw2)) ?_ ?_
  · rintro i2 d2 x2 H5 H6 Kk hd2 s5 ⟨rfl, hx⟩ hK
    obtain ⟨n, hn, rfl⟩ := of_getElem?_nats hx
    have ed : d2 = eR (.here n [] (2 * mm.many)) := by
      unfold wantedRules at hd2
      rw [List.getElem?_map, List.getElem?_map, hn] at hd2
      exact (Option.some.inj hd2).symm
    subst ed
    refine ⟨rfl, _, rfl, Nat.zero_le _, fun p1 n1 => ⟨_, rfl, _, _, rfl, rfl, cmul2, by show 4 ≤ sizeLine; decide, fun p2 n2 => ?_⟩⟩
    have mk := mk_here (k := n) (d := 2 * mm.many) (need := []) n1 n2
    exact hK _ _ mk.1 mk.2
  intro H3 ys s3 hD hds
  obtain ⟨xs5, h51, h52, R5⟩ := (R.step s3).ext hds (by omega)
  refine ⟨l, Dl, xs5, ys, rfl, rfl, h51, hD, h52, ?_⟩
  generalize upd H3 l (.lst (xs5 ++ ys)) = H4 at R5 ⊢
  have WL : (ST ++ wantedRules mm.many wanted).length ≤ 210 := by rw [List.length_append]; omega
  generalize hWW : ST ++ wantedRules mm.many wanted = WW at R5 WL
  -- the barred
  refine ⟨_, rfl, ax, _, rfl, .inr (SqT.of (R5.same _ _ hax)), _, rfl, bnd1, bnd2, ?_⟩
  rw [en]
  refine for_range (fun i σ H' => RL H H' l (WW ++ (List.range i).flatMap (barredAt mm.many barred)) ∧ ∃ c d e f g, σ = [some (.ref ax), some (.ref am), some (.ref aw), some (.ref ab), some (nv mm.many), some (.ref as), some (.ref at'), some (.ref l), c, d, e, f, g]) ⟨by simpa using R5, _, _, _, _, _, rfl⟩ ?_ ?_
  · rintro i σ H3 hi ⟨R, cc, cd, ce, cf, cg, rfl⟩
    rw [Int.zero_add]
    refine ⟨_, rfl, _, rfl, ab, _, rfl, .inr (SqT.of (R.same _ _ hab)), rfl, flat_nats, !decide (i ∈ barred), ?_, ?_⟩
    · rw [inV_nats]; rfl
    have fl := flat_len (f := barredAt mm.many barred) (c := mm.many) (i := i) fun k _ => barredAt_len
    have f12 : i * mm.many ≤ 12 := Nat.le_trans (Nat.mul_le_mul (show i ≤ 4 by omega) m3) (by decide)
    by_cases c : i ∈ barred
    · rw [decide_eq_true c]
      refine iteF ⟨?_, _, _, _, _, _, rfl⟩
      rw [flat_succ]
      have : barredAt mm.many barred i = [] := by unfold barredAt; rw [if_pos c]
      rw [this, List.append_nil]
      exact R
    · rw [decide_eq_false c]
      refine iteT ?_
      walk_at "rd"
      obtain ⟨xs, hx1, hx2⟩ := R.ex
      refine ⟨_, rfl, .inl ⟨rfl, _, SqL.of hx1⟩, _, rfl, _, rfl, by omega, by omega, fun Dl nD => ?_⟩
      have eb : barredAt mm.many barred i = (List.range mm.many).map fun s => .here i [mm.many + s] (2 * mm.many + 1 + s) := by unfold barredAt; rw [if_neg c]
      refine lc_dt walk_range nD ((barredAt mm.many barred i).map eR) (by rw [eb]; simp) (by omega) (fun H' s => trivial) ?_ ?_
      · rintro i2 d2 x2 H5 H6 Kk hd2 s5 ⟨rfl, rfl⟩ hK
        have ed : d2 = eR (.here i [mm.many + i2] (2 * mm.many + 1 + i2)) := by
          rw [eb, List.getElem?_map, List.getElem?_map] at hd2
          have hl2 : i2 < mm.many := by
            apply Decidable.byContradiction
            intro c2
            rw [List.getElem?_eq_none (by rw [List.length_range]; omega)] at hd2
            cases hd2
          rw [List.getElem?_range hl2] at hd2
          exact (Option.some.inj hd2).symm
        subst ed
        dsimp only
        rw [Int.zero_add]
        refine ⟨rfl, _, rfl, _, rfl, _, rfl, _, _, rfl, rfl, by show 1 ≤ sizeLine; decide, fun p1 n1 => ⟨_, rfl, _, _, rfl, rfl, cmul2, _, _, rfl, rfl, _, rfl, _, _, rfl, rfl, by show 4 ≤ sizeLine; decide, fun p2 n2 => ?_⟩⟩
        have mk := mk_here (k := i) (d := 2 * mm.many + 1 + i2) (need := [mm.many + i2]) n1 n2
        exact hK _ _ mk.1 mk.2
      · intro H5 ys s5 hD hds
        have al2 := barredAt_len (many := mm.many) (barred := barred) (k := i)
        obtain ⟨xs5, h51, h52, R5⟩ := (R.step s5).ext hds (by rw [List.length_append]; omega)
        refine ⟨l, Dl, xs5, ys, rfl, rfl, h51, hD, h52, ?_⟩
        rw [flat_succ, ← List.append_assoc]
        exact ⟨R5, _, _, _, _, _, rfl⟩
  rintro σ H6 ⟨R, cc, cd, ce, cf, cg, rfl⟩
  rw [← barredRules_eq] at R
  have bl : (barredRules exits.length mm.many barred).length ≤ 12 := by
    have fl := flat_len (f := barredAt mm.many barred) (c := mm.many) (i := exits.length) fun k _ => barredAt_len
    rw [← barredRules_eq] at fl
    have f12 : exits.length * mm.many ≤ 12 := Nat.le_trans (Nat.mul_le_mul x4 m3) (by decide)
    omega
  have SL : (WW ++ barredRules exits.length mm.many barred).length ≤ 250 := by rw [List.length_append]; omega
  generalize hS2 : WW ++ barredRules exits.length mm.many barred = S at R SL
  -- the near
  walk_at "rd"
  refine ⟨_, rfl, ax, _, rfl, .inr (SqT.of (R.same _ _ hax)), _, rfl, bnd1, bnd2, ?_⟩
  rw [en]
  refine for_range (fun i σ H' => RL H H' l (S ++ (List.range i).flatMap (nearsAt mm.many mm.steps)) ∧ ∃ c d e f g, σ = [some (.ref ax), some (.ref am), some (.ref aw), some (.ref ab), some (nv mm.many), some (.ref as), some (.ref at'), some (.ref l), c, d, e, f, g]) ⟨by simpa using R, _, _, _, _, _, rfl⟩ ?_ ?_
  · rintro i σ H2 hi ⟨R, cc, cd, ce, cf, cg, rfl⟩
    rw [Int.zero_add]
    have houts : mm.steps[i]? = some (mm.steps.getD i []) := get_of (by rw [mok.slen]; exact hi) []
    obtain ⟨y1, e2, hd⟩ := hsx.at houts
    obtain ⟨ao, oxs, rfl, hao, hox⟩ := hd.open
    have hel := mok.elen i _ houts
    have fl := flat_len (f := nearsAt mm.many mm.steps) (c := 96) (i := i) fun k _ => nearsAt_len xok mok k
    have ol := outs_len xok mok i
    refine ⟨_, rfl, _, rfl, ax, _, _, _, rfl, rfl, SqT.of (R.same _ _ hax), atI_nat (getElem?_nats hel), _, rfl, by omega, by omega, ?_⟩
    rw [flat_succ, ← List.append_assoc, Int.toNat_natCast]
    have SL2 : (S ++ (List.range i).flatMap (nearsAt mm.many mm.steps)).length ≤ 700 := by rw [List.length_append]; omega
    generalize S ++ (List.range i).flatMap (nearsAt mm.many mm.steps) = S2 at R SL2
    refine for_range (fun e σ H' => RL H H' l (S2 ++ (List.range e).flatMap (nearAt mm.many mm.steps i)) ∧ ∃ d e f g, σ = [some (.ref ax), some (.ref am), some (.ref aw), some (.ref ab), some (nv mm.many), some (.ref as), some (.ref at'), some (.ref l), some (nv i), d, e, f, g]) ⟨by simpa using R, _, _, _, _, rfl⟩ ?_ ?_
    · rintro e σ H5 he ⟨R5, d5, f5, g5, h5, rfl⟩
      rw [Int.zero_add]
      have hprs : (mm.steps.getD i [])[e]? = some ((mm.steps.getD i []).getD e []) := get_of he []
      obtain ⟨y5, e25, hd5⟩ := hox.at hprs
      obtain ⟨apr, pxs, rfl, hapr, hpx⟩ := hd5.open
      have hapr7 := R5.same _ _ hapr
      have pl := pairs_len mok i e
      have fl2 := flat_len (f := nearAt mm.many mm.steps i) (c := 32) (i := e) fun k _ => nearAt_len mok i k
      refine ⟨_, rfl, _, rfl, as, _, _, _, rfl, rfl, SqT.of (R5.same _ _ has), atI_nat e2, _, rfl, ao, _, _, _, rfl, rfl, SqT.of (R5.same _ _ hao), atI_nat e25, apr, rfl, ⟨_, SqT.of hapr7⟩, ?_⟩
      rw [flat_succ, ← List.append_assoc]
      have SL3 : (S2 ++ (List.range e).flatMap (nearAt mm.many mm.steps i)).length ≤ 900 := by rw [List.length_append]; omega
      generalize S2 ++ (List.range e).flatMap (nearAt mm.many mm.steps i) = S3 at R5 SL3
      have en2 : nearAt mm.many mm.steps i e = ((mm.steps.getD i []).getD e []).flatMap (near2 mm.many i e) := rfl
      rw [en2]
      generalize (mm.steps.getD i []).getD e [] = prs at hpx pl
      refine for_tup (K := K) (xs := pxs) (fun j σ H' => RL H H' l (S3 ++ (prs.take j).flatMap (near2 mm.many i e)) ∧ ∃ e' f g, σ = [some (.ref ax), some (.ref am), some (.ref aw), some (.ref ab), some (nv mm.many), some (.ref as), some (.ref at'), some (.ref l), some (nv i), some (nv e), e', f, g]) ⟨by simpa using R5, _, _, _, rfl⟩ (fun j σ H' _ p => SqT.of (p.1.same _ _ hapr)) ?_ ?_
      · rintro j x σ H10 hj ⟨R10, g10, h10, i10, rfl⟩
        obtain ⟨pr, hpr, hdp⟩ := hpx.at' hj
        obtain ⟨ap, rfl, hap⟩ := pair_inv hdp
        have hap10 := R10.same _ _ hap
        have tl : ((prs.take j).flatMap (near2 mm.many i e)).length ≤ 32 := by
          have := fmap_len (f := near2 mm.many i e) (c := 2) (l := prs.take j) fun x _ => Nat.le_refl _
          have h2 : (prs.take j).length ≤ prs.length := by rw [List.length_take]; omega
          omega
        refine ⟨ap, _, rfl, SqT.of hap10, rfl, _, _, rfl, _, _, rfl, rfl, ?_⟩
        walk_at "rd"
        rw [take_more hpr, List.flatMap_append, ← List.append_assoc]
        have SL4 : (S3 ++ (prs.take j).flatMap (near2 mm.many i e)).length ≤ 1000 := by rw [List.length_append]; omega
        generalize S3 ++ (prs.take j).flatMap (near2 mm.many i e) = S4 at R10 SL4
        obtain ⟨xs, hx1, hx2⟩ := R10.ex
        refine ⟨_, rfl, .inl ⟨rfl, _, SqL.of hx1⟩, _, rfl, _, rfl, Nat.zero_le _, fun p1 n1 => ⟨_, rfl, _, _, rfl, rfl, cmul2, by show 1 ≤ sizeLine; decide, fun p2 n2 => ⟨_, rfl, _, rfl, _, _, rfl, rfl, by show 7 ≤ sizeLine; decide, fun p3 n3 => ?_⟩⟩⟩
        have mk := mk_way (k := i) (e := e) (d := mm.many + pr.1) (near := []) (far := [2 * mm.many]) (b := false) n1 n2 n3
        obtain ⟨xs5, h51, h52, R11⟩ := (R10.step mk.1).app mk.2 (by omega)
        refine ⟨l, xs5, _, rfl, rfl, h51, h52, ?_⟩
        obtain ⟨xs6, hx61, hx62⟩ := R11.ex
        refine ⟨_, rfl, .inl ⟨rfl, _, SqL.of hx61⟩, _, rfl, _, rfl, Nat.zero_le _, fun q1 m1 => ⟨_, rfl, _, _, rfl, rfl, cmul2, _, _, rfl, rfl, _, rfl, _, _, rfl, rfl, by show 1 ≤ sizeLine; decide, fun q2 m2 => ⟨_, rfl, _, rfl, _, _, rfl, rfl, by show 7 ≤ sizeLine; decide, fun q3 m3' => ?_⟩⟩⟩
        have mk2 := mk_way (k := i) (e := e) (d := mm.many + pr.1) (near := []) (far := [2 * mm.many + 1 + pr.2]) (b := false) m1 m2 m3'
        obtain ⟨xs7, h71, h72, R12⟩ := (R11.step mk2.1).app mk2.2 (by rw [List.length_append]; show _ + 1 < _; omega)
        refine ⟨l, xs7, _, rfl, rfl, h71, h72, ?_⟩
        rw [List.append_assoc] at R12
        exact ⟨R12, _, _, _, rfl⟩
      · rintro σ H10 ⟨R10, g10, h10, i10, rfl⟩
        rw [hpx.len, List.take_length] at R10
        exact ⟨R10, _, _, _, _, rfl⟩
    · rintro σ H5 ⟨R5, d5, f5, g5, h5, rfl⟩
      exact ⟨R5, _, _, _, _, _, rfl⟩
  rintro σ H7 ⟨R, cc, cd, ce, cf, cg, rfl⟩
  rw [← mok.slen, ← nearRules_eq, ← hS2, ← hWW, ← hST, List.append_assoc, List.append_assoc, ← List.append_assoc (wantedRules mm.many wanted)] at R
  change RL H H7 l (aheadRules exits.length mm wanted barred) at R
  obtain ⟨ys, h1, h2⟩ := R.ex
  exact ⟨_, rfl, l, ys, rfl, .inl ⟨SqL.of h1, fun t nt => q _ _ (R.same.snew nt) (.tup upd_same (h2.same (Same.new nt)))⟩⟩
end NB
set_option pp.maxSteps 900
set_option Elab.async false
set_option linter.all false
set_option maxRecDepth 100000
set_option maxHeartbeats 4000000
namespace NB
open PySem PyProof.Rows L2
local macro_rules | `(tactic| walk_at "rd") => `(tactic| dsimp only [De, tSeq, tNext, tAsg, tIfS, tRet, tRetN, tDrop, tBreak, tCont, tAug, ipI, gName, gNil, gCons, gTup, gSub, tVar, tC, tOp, tUn, tTest, tB, tTru, tNot, tAnd, tOr, tNotV, tAndV, tOrV, tChain, tCons, tNil, tCB, tCall, tMeth, tMake, tTup, tLst, tFld, sFld, tDGet, tDIn, tDNotIn, sDPut, tDNewK, tDNewT, tBM, tBM0, tSl, tPart, tNoPart, tYes, iList, iTup, iRng1, iRng2, iEnum, iEnumT, iSeq, RZ.iZipA, rMaxT, rRepA, rIn, tLstRg, tRg1, tRevT, rI0, rI, rU, rAddI, rSubI, rMulI, rDivI, rModI, rPowI, rShlI, rShrI, rAndI, rOrI, rLtI, rLeI, rGtI, rGeI, rNegI, rInvI, rEq, rNe, rLenS, rListS, rTupleS, rInt1, rBool1, rStrI, rAbsI, rAll, rAny, rAppend, rExtend, rPopAt, rRep, rIxL, rIxT, rSetL, rSlL, rSlA, rCatA, rEqD, rNeD, List.cons_append, List.nil_append, List.append_nil])
local macro_rules | `(tactic| walk_at "rs") => `(tactic| dsimp only [De, tSeq, tNext, tAsg, tIfS, tRet, tRetN, tDrop, tBreak, tCont, tAug, ipI, gName, gNil, gCons, gTup, gSub, tVar, tC, tOp, tUn, tTest, tB, tTru, tNot, tAnd, tOr, tNotV, tAndV, tOrV, tChain, tCons, tNil, tCB, tCall, tMeth, tMake, tTup, tLst, tFld, sFld, tDGet, tDIn, tDNotIn, sDPut, tDNewK, tDNewT, tBM, tBM0, tSl, tPart, tNoPart, tYes, iList, iTup, iRng1, iRng2, iEnum, iEnumT, iSeq, RZ.iZipA, rMaxT, rRepA, rIn, tLstRg, tRg1, tRevT, rI0, rI, rU, rAddI, rSubI, rMulI, rDivI, rModI, rPowI, rShlI, rShrI, rAndI, rOrI, rLtI, rLeI, rGtI, rGeI, rNegI, rInvI, rEq, rNe, rLenS, rListS, rTupleS, rInt1, rBool1, rStrI, rAbsI, rAll, rAny, rAppend, rExtend, rPopAt, rRep, rIxL, rIxT, rSetL, rSlL, rCatA, rEqD, rNeD, List.cons_append, List.nil_append, List.append_nil])
theorem sc_law_is_int : FnScope ["_law_thing"] ["_law_thing"] (defScope s_law_is_int) := ⟨rfl, rfl, rfl, by decide +kernel, rfl, by decide +kernel, by decide +kernel⟩
def t_law_is_int (K : PySem.W.Frag) : TS :=
  (tRet (tAndV (tCB (rIsi K) (tCons (tVar 0) (tCons (tC (.ty "int")) tNil))) (tNotV (tCB (rIsi K) (tCons (tVar 0) (tCons (tC (.ty "bool")) tNil))))))
theorem sc_law_is_index : FnScope ["_law_thing", "_law_many"] ["_law_thing", "_law_many"] (defScope s_law_is_index) := ⟨rfl, rfl, rfl, by decide +kernel, rfl, by decide +kernel, by decide +kernel⟩
def t_law_is_index (K : PySem.W.Frag) : TS :=
  (tRet (tAndV (tCall (sp_law_is_int K) [] E0 (tCons (tVar 0) tNil)) (tChain rLeI rLtI (tC (.int 0)) (tVar 0) (tVar 1))))
theorem sc_law_is_lot : FnScope ["_law_thing", "_law_many", "_law_one", "_law_other", "_law_item"] ["_law_thing", "_law_many"] (defScope s_law_is_lot) := ⟨rfl, rfl, rfl, by decide +kernel, rfl, by decide +kernel, by decide +kernel⟩
def t_law_is_lot (K : PySem.W.Frag) : TS :=
  (tSeq (tIfS (tOr (tNot (tB (tCB (rIsi K) (tCons (tVar 0) (tCons (tC (.ty "tuple")) tNil))))) (tNot (tB (tCB (rAll K) (tCons (tLc (iTup K (tVar 0)) (gName 4) tYes (tCall (sp_law_is_index K) [] E0 (tCons (tVar 4) (tCons (tVar 1) tNil))) [4]) tNil))))) (tRet (tC (.bl false))) tNext)
    (tRet (tCB (rAll K) (tCons (tLc (RZ.iZipA K (tCons (tVar 0) (tCons (tSl (rSlA K) (tVar 0) (tPart (tC (.int 1))) tNoPart) tNil))) (gTup K 2 (gCons (gName 2) (gCons (gName 3) gNil))) tYes (tOp rLtI (tVar 2) (tVar 3)) [2, 3]) tNil))))
theorem lc_bools {J : It} {n : Nat} {G : Hp → Prop} {Y : Nat → Hp → V → Hp → Prop} (w : Walk J n G Y) {g : TG} {te : TE} {vs : List Nat} {σ : L2.St} {H0 : Hp} {Dl : Addr} {Qd : Hp → Prop} (nD : H0 Dl = none) (bs : List Bool) (hl : bs.length = n) (hn : n ≤ 100000)
    (hG : ∀ H', Same H0 H' → G H')
    (hs : ∀ i b x H1 H2 (Kk : V → Hp → Prop), bs[i]? = some b → Same H0 H1 → Y i H1 x H2 → (∀ H4, Same H1 H4 → Kk (.bl b) H4) → g x (wipe σ vs) H2 fun σ2 H3 => wipe σ2 vs = wipe σ vs ∧ te σ2 H3 Kk)
    (hd : ∀ H', Same H0 H' → H' Dl = some (.lst (bs.map V.bl)) → Qd H') :
    ∃ W : Nat → Nat → Hp → Prop, (∃ m, W 0 m (upd H0 Dl (.lst []))) ∧ ∀ i m H, W i m H →
      (J.stop i H ∧ Qd H) ∨ (J.go i H ∧ ∃ Nx : Hp → Prop, (∀ H', Nx H' → ∃ m', m' < m ∧ W (i + 1) m' H') ∧ ∀ x H', J.yld i H x H' → g x (wipe σ vs) H' fun σ2 H2 => wipe σ2 vs = wipe σ vs ∧ tYes σ2 H2 fun b H3 =>
        if b = true then te σ2 H3 fun y H4 => ∃ acc, H4 Dl = some (.lst acc) ∧ acc.length < sizeLine ∧ Nx (upd H4 Dl (.lst (acc ++ [y]))) else Nx H3) := by
  refine lc_rel w nD (fun j y _ => ∀ b, bs[j]? = some b → y = .bl b) hn (fun _ _ _ _ _ _ _ h => h) hG ?_ ?_
  · intro i x H1 H2 Kk hi s _ y hK
    have hi' : bs[i]? = some (bs[i]'(by omega)) := List.getElem?_eq_getElem (by omega)
    exact hs i _ x H1 H2 Kk hi' s y fun H4 s4 => hK _ _ s4 fun b hb => by rw [hi'] at hb; cases hb; rfl
  · intro H' ys s hD hl2 hy
    have ey : ys = bs.map V.bl := by
      apply List.ext_getElem?
      intro k
      rw [List.getElem?_map]
      by_cases c : k < bs.length
      · rw [List.getElem?_eq_getElem c, List.getElem?_eq_getElem (show k < ys.length by omega)]
        exact congrArg some (hy k _ (List.getElem?_eq_getElem (by omega)) _ (List.getElem?_eq_getElem c))
      · rw [List.getElem?_eq_none (by omega), List.getElem?_eq_none (by omega)]; rfl
    rw [ey] at hD
    exact hd _ s hD
theorem rd_law_is_int {K : Frag} {mg : Str → Option Value} (T : Txt K mg) {v : V} {H : Hp} {Q : VK} (h : ph_law_is_int K v H Q) : t_law_is_int K (De Q) [some v] H := by
  obtain ⟨o, kn, q⟩ := h
  unfold t_law_is_int
  dsimp only [De, tRet, tAndV, tNotV, tCB, tCons, tNil, tVar, tC]
  refine ⟨_, rfl, kn.isi fun b hb => ⟨b, rfl, ?_⟩⟩
  cases kn with
  | int i => subst hb; exact iteT ⟨_, rfl, (Kn.int i).isb fun b hb => ⟨b, rfl, by subst hb; exact q⟩⟩
  | bl b' => subst hb; exact iteT ⟨_, rfl, (Kn.bl b').isb fun b hb => ⟨b, rfl, by subst hb; exact q⟩⟩
  | non => subst hb; exact iteF q
  | str x => subst hb; exact iteF q
  | lst e => subst hb; exact iteF q
  | tup e => subst hb; exact iteF q
  | dK e => subst hb; exact iteF q
theorem rd_law_is_index {K : Frag} {mg : Str → Option Value} (T : Txt K mg) {v m : V} {H : Hp} {Q : VK} (h : ph_law_is_index K v m H Q) : t_law_is_index K (De Q) [some v, some m] H := by
  obtain ⟨o, n, kn, rfl, q⟩ := h
  unfold t_law_is_index
  walk_at "rd"
  refine ⟨_, rfl, o, kn, o.isSome, rfl, ?_⟩
  cases kn with
  | int i =>
    refine iteT ⟨_, rfl, _, _, rfl, rfl, decide (0 ≤ i), rfl, ?_⟩
    have e : (some i).any (fun i => decide (0 ≤ i) && decide (i < n)) = (decide (0 ≤ i) && decide (i < n)) := rfl
    rw [e] at q
    by_cases c : 0 ≤ i
    · rw [decide_eq_true c] at q ⊢
      exact iteT ⟨_, rfl, _, _, rfl, rfl, q⟩
    · rw [decide_eq_false c] at q ⊢
      exact iteF q
  | _ => exact iteF q
def okI (n : Int) (o : Option Int) : Bool := o.any fun i => decide (0 ≤ i) && decide (i < n)
theorem isLotL_true {n : Int} : ∀ {l : List (Option Int)} {lo : Int}, isLotL n lo l = true → l.all (okI n) = true
  | [], _, _ => rfl
  | none :: l, lo, h => by cases h
  | some i :: l, lo, h => by
    have h' : (decide (0 ≤ i) && decide (i < n) && decide (lo < i) && isLotL n i l) = true := h
    simp only [Bool.and_eq_true] at h'
    rw [List.all_cons, isLotL_true h'.2]
    show ((decide (0 ≤ i) && decide (i < n)) && true) = true
    rw [h'.1.1.1, h'.1.1.2]; rfl
def adj : List Int → Bool
  | [] => true
  | [_] => true
  | x :: y :: r => decide (x < y) && adj (y :: r)
theorem isLotL_adj {n : Int} : ∀ {l : List Int} {lo : Int}, (l.map some).all (okI n) = true → isLotL n lo (l.map some) = (match l with | [] => true | x :: _ => decide (lo < x) && adj l)
  | [], _, _ => rfl
  | [x], lo, h => by
    have hx : (decide (0 ≤ x) && decide (x < n)) = true := by
      rw [List.map_cons, List.all_cons, Bool.and_eq_true] at h
      exact h.1
    show (decide (0 ≤ x) && decide (x < n) && decide (lo < x) && true) = (decide (lo < x) && true)
    rw [hx]; rfl
  | x :: y :: r, lo, h => by
    rw [List.map_cons, List.all_cons, Bool.and_eq_true] at h
    have hx : (decide (0 ≤ x) && decide (x < n)) = true := h.1
    have ih := isLotL_adj (l := y :: r) (lo := x) h.2
    show (decide (0 ≤ x) && decide (x < n) && decide (lo < x) && isLotL n x ((y :: r).map some)) = (decide (lo < x) && (decide (x < y) && adj (y :: r)))
    rw [hx, ih]; simp
theorem adj_zip : ∀ {l : List Int}, ((l.zip (l.drop 1)).all fun p => decide (p.1 < p.2)) = adj l
  | [] => rfl
  | [_] => rfl
  | x :: y :: r => by
    have ih := adj_zip (l := y :: r)
    show (decide (x < y) && (((y :: r).zip r).all fun p => decide (p.1 < p.2))) = (decide (x < y) && adj (y :: r))
    rw [← ih]; rfl
theorem kn_ints {H : Hp} {n : Int} : ∀ {xs : List V} {l : List (Option Int)}, xs.length = l.length → (∀ (i : Nat) x, xs[i]? = some x → ∃ o, l[i]? = some o ∧ Kn H x o) → l.all (okI n) = true → ∃ is : List Int, xs = is.map V.int ∧ l = is.map some
  | [], [], _, _, _ => ⟨[], rfl, rfl⟩
  | x :: xs, o :: l, hl, h, ha => by
    rw [List.all_cons, Bool.and_eq_true] at ha
    obtain ⟨is, e1, e2⟩ := kn_ints (xs := xs) (l := l) (by simpa using hl) (fun i y hy => by simpa using h (i + 1) y (by simpa using hy)) ha.2
    obtain ⟨o', ho, kn⟩ := h 0 x rfl
    cases Option.some.inj ho
    cases kn with
    | int i => exact ⟨i :: is, by rw [e1]; rfl, by rw [e2]; rfl⟩
    | _ => cases ha.1
  | [], _ :: _, hl, _, _ => by cases hl
  | _ :: _, [], hl, _, _ => by cases hl
theorem rd_law_is_lot {K : Frag} {mg : Str → Option Value} (T : Txt K mg) {v m : V} {H : Hp} {Q : VK} (h : ph_law_is_lot K v m H Q) : t_law_is_lot K (De Q) [some v, some m, none, none, none] H := by
  obtain ⟨d, n, th, hlen, rfl, q⟩ := h
  unfold t_law_is_lot
  dsimp only [tSeq, tIfS, tOr, tNot, tB, tCB, tCons, tNil, tVar, tC, De, tRet, tNext]
  refine ⟨_, rfl, th.ist ⟨d.isSome, rfl, ?_⟩⟩
  cases th with
  | @tup a xs l e hl hk =>
    have hl1 := hlen l rfl
    refine iteF ?_
    refine ⟨_, rfl, a, rfl, ⟨_, SqT.of e⟩, fun Dl nD => ?_⟩
    refine lc_bools (walk_tup (K := K) (a := a) (xs := xs)) nD (l.map (okI n)) (by rw [List.length_map, hl]) (by omega) (fun H' s => SqT.of (s _ _ e)) ?_ ?_
    · rintro i b x H1 H2 Kk hb s ⟨rfl, hx⟩ hK
      obtain ⟨o, ho, kn⟩ := hk i x hx
      rw [List.getElem?_map, ho] at hb
      cases Option.some.inj hb
      exact ⟨rfl, _, rfl, _, rfl, o, n, kn.same s, rfl, hK _ (fun _ _ h => h)⟩
    · intro H1 s1 hD
      refine ⟨Dl, _, rfl, SqL.of hD, _, rfl, ?_⟩
      have ea : (l.map (okI n)).all id = l.all (okI n) := by rw [List.all_map]; rfl
      rw [ea]
      cases ha : l.all (okI n) with
      | false =>
        have : isLot n (some l) = false := by
          cases c : isLot n (some l)
          · rfl
          · rw [isLotL_true c] at ha; cases ha
        rw [this] at q
        exact iteT (q _ s1)
      | true =>
        obtain ⟨is, rfl, rfl⟩ := kn_ints hl hk ha
        have e1 := s1 _ _ e
        have el : isLot n (some (is.map some)) = adj is := by
          show isLotL n (-1) (is.map some) = _
          rw [isLotL_adj ha]
          cases is with
          | nil => rfl
          | cons x r =>
            rw [List.map_cons, List.all_cons, Bool.and_eq_true] at ha
            have hx : (decide (0 ≤ x) && decide (x < n)) = true := ha.1
            simp only [Bool.and_eq_true, decide_eq_true_eq] at hx
            show (decide (-1 < x) && adj (x :: r)) = _
            rw [decide_eq_true (show -1 < x by omega)]; rfl
        rw [el] at q
        refine iteF ⟨_, rfl, _, rfl, ?_⟩
        dsimp only [tPart, tNoPart, tC]
        refine ⟨_, rfl, rSlA_1 e1 fun p H2 s2 hp => ?_⟩
        dsimp only [tCons, tNil]
        have e2 := s2 _ _ e1
        refine ⟨a, p, _, _, rfl, .inr ⟨SqT.of e2, SqT.of hp, fun Dl2 nD2 => ?_⟩⟩
        refine lc_bools (walk_zipT (K := K) (a := a) (b := p) (xs := is.map V.int) (ys := (is.map V.int).drop 1) (n := is.length - 1) (by rw [List.length_drop, List.length_map]; omega)) nD2 ((is.zip (is.drop 1)).map fun p => decide (p.1 < p.2)) (by rw [List.length_map, List.length_zip, List.length_drop]; omega) (by rw [List.length_map] at hl1; omega) (fun H' s => ⟨SqT.of (s _ _ e2), SqT.of (s _ _ hp)⟩) ?_ ?_
        · rintro i b v H4 H5 Kk hb s4 ⟨Tt, x1, y1, rfl, nT, rfl, f1, f2⟩ hK
          have f1 : (is.map V.int)[i]? = some x1 := f1
          have f2 : (is.map V.int)[1 + i]? = some y1 := by rw [← List.getElem?_drop]; exact f2
          rw [List.getElem?_map] at f1 f2
          cases g1 : is[i]? with
          | none => rw [g1] at f1; cases f1
          | some u =>
            cases g2 : is[1 + i]? with
            | none => rw [g2] at f2; cases f2
            | some w =>
              rw [g1] at f1; rw [g2] at f2
              cases f1; cases f2
              have eb : b = decide (u < w) := by
                rw [List.getElem?_map, (List.getElem?_zip_eq_some (z := (u, w))).mpr ⟨g1, by rw [List.getElem?_drop]; exact g2⟩] at hb
                exact (Option.some.inj hb).symm
              subst eb
              refine ⟨Tt, _, rfl, SqT.of upd_same, rfl, _, _, rfl, _, _, rfl, rfl, rfl, _, rfl, _, rfl, _, _, rfl, rfl, hK _ (Same.new nT)⟩
        · intro H3 s3 hD3
          refine ⟨Dl2, _, rfl, SqL.of hD3, ?_⟩
          have ez : ((is.zip (is.drop 1)).map fun p => decide (p.1 < p.2)).all id = adj is := by rw [List.all_map]; exact adj_zip
          rw [ez]
          exact q _ ((s1.trans s2).trans s3)
  | int i => exact iteT (iteT (q _ (fun _ _ h => h)))
  | non => exact iteT (iteT (q _ (fun _ _ h => h)))
  | bl b => exact iteT (iteT (q _ (fun _ _ h => h)))
  | str x => exact iteT (iteT (q _ (fun _ _ h => h)))
  | lst e => exact iteT (iteT (q _ (fun _ _ h => h)))
  | dK e => exact iteT (iteT (q _ (fun _ _ h => h)))
end NB
set_option pp.maxSteps 900
set_option Elab.async false
set_option linter.all false
set_option maxRecDepth 100000
set_option maxHeartbeats 4000000
namespace NB
open PySem PyProof.Rows L2
local macro_rules | `(tactic| walk_at "rd") => `(tactic| dsimp only [De, tSeq, tNext, tAsg, tIfS, tRet, tRetN, tDrop, tBreak, tCont, tAug, ipI, gName, gNil, gCons, gTup, gSub, tVar, tC, tOp, tUn, tTest, tB, tTru, tNot, tAnd, tOr, tNotV, tAndV, tOrV, tChain, tCons, tNil, tCB, tCall, tMeth, tMake, tTup, tLst, tFld, sFld, tDGet, tDIn, tDNotIn, sDPut, tDNewK, tDNewT, tBM, tBM0, tSl, tPart, tNoPart, tYes, iList, iTup, iRng1, iRng2, iEnum, iEnumT, iSeq, RZ.iZipA, rMaxT, rRepA, rIn, tLstRg, tRg1, tRevT, rI0, rI, rU, rAddI, rSubI, rMulI, rDivI, rModI, rPowI, rShlI, rShrI, rAndI, rOrI, rLtI, rLeI, rGtI, rGeI, rNegI, rInvI, rEq, rNe, rLenS, rListS, rTupleS, rInt1, rBool1, rStrI, rAbsI, rAll, rAny, rAppend, rExtend, rPopAt, rRep, rIxL, rIxT, rSetL, rSlL, rSlA, rCatA, rEqD, rNeD, List.cons_append, List.nil_append, List.append_nil])
local macro_rules | `(tactic| walk_at "rs") => `(tactic| dsimp only [De, tSeq, tNext, tAsg, tIfS, tRet, tRetN, tDrop, tBreak, tCont, tAug, ipI, gName, gNil, gCons, gTup, gSub, tVar, tC, tOp, tUn, tTest, tB, tTru, tNot, tAnd, tOr, tNotV, tAndV, tOrV, tChain, tCons, tNil, tCB, tCall, tMeth, tMake, tTup, tLst, tFld, sFld, tDGet, tDIn, tDNotIn, sDPut, tDNewK, tDNewT, tBM, tBM0, tSl, tPart, tNoPart, tYes, iList, iTup, iRng1, iRng2, iEnum, iEnumT, iSeq, RZ.iZipA, rMaxT, rRepA, rIn, tLstRg, tRg1, tRevT, rI0, rI, rU, rAddI, rSubI, rMulI, rDivI, rModI, rPowI, rShlI, rShrI, rAndI, rOrI, rLtI, rLeI, rGtI, rGeI, rNegI, rInvI, rEq, rNe, rLenS, rListS, rTupleS, rInt1, rBool1, rStrI, rAbsI, rAll, rAny, rAppend, rExtend, rPopAt, rRep, rIxL, rIxT, rSetL, rSlL, rCatA, rEqD, rNeD, List.cons_append, List.nil_append, List.append_nil])
theorem sc_law_nexts : FnScope ["_law_machine_here", "_law_kinds", "_law_ways", "_law_place", "_law_state", "_law_found", "_law_steps_here", "_law_k", "_law_old", "_law_new", "_law_to"] ["_law_machine_here", "_law_kinds", "_law_ways", "_law_place", "_law_state"] (defScope s_law_nexts) := ⟨rfl, rfl, rfl, by decide +kernel, rfl, by decide +kernel, by decide +kernel⟩
def t_law_nexts (K : PySem.W.Frag) : TS :=
  (tSeq (tAsg (tLst tNil) (gName 5))
    (tSeq (tAsg (tOp (rIxT K) (tOp (rIxT K) (tVar 0) (tC (.int 1))) (tOp (rIxT K) (tVar 1) (tVar 3))) (gName 6))
    (tSeq (tFor (iRng1 (tCons (tCB (rLenS K) (tCons (tVar 6) tNil)) tNil)) (gName 7) (tFor (iTup K (tOp (rIxT K) (tVar 6) (tVar 7))) (gTup K 2 (gCons (gName 8) (gCons (gName 9) gNil))) (tIfS (tTest (tOp rEq (tVar 8) (tVar 4))) (tDrop (tBM K "list" rExtend (tVar 5) (tCons (tLc (iTup K (tOp (rIxT K) (tOp (rIxT K) (tVar 2) (tVar 3)) (tVar 7))) (gName 10) tYes (tTup (tCons (tVar 7) (tCons (tVar 10) (tCons (tVar 9) tNil)))) [10]) tNil))) tNext)))
    (tRet (tVar 5)))))
/-- a new list of data at l, all else as it was -/
structure RD (H0 H : Hp) (l : Addr) (ds : List PyData) : Prop where
  same : Same H0 H
  new : H0 l = none
  ex : ∃ xs, H l = some (.lst xs) ∧ DtL H xs ds
theorem RD.start {H0 : Hp} {l : Addr} (h : H0 l = none) : RD H0 (upd H0 l (.lst [])) l [] := ⟨Same.new h, h, [], upd_same, .nil⟩
theorem RD.step {H0 H H' : Hp} {l : Addr} {ds : List PyData} (R : RD H0 H l ds) (s : Same H H') : RD H0 H' l ds := by
  obtain ⟨xs, h1, h2⟩ := R.ex
  exact ⟨R.same.trans s, R.new, xs, s _ _ h1, h2.same s⟩
theorem RD.ext {H0 H : Hp} {l : Addr} {ds news : List PyData} {ys : List V} (R : RD H0 H l ds) (hy : DtL H ys news) (hb : ds.length + news.length ≤ 100000) :
    ∃ xs, H l = some (.lst xs) ∧ xs.length + ys.length ≤ sizeLine ∧ RD H0 (upd H l (.lst (xs ++ ys))) l (ds ++ news) := by
  obtain ⟨xs, h1, h2⟩ := R.ex
  refine ⟨xs, h1, ?_, R.same.mut R.new, R.new, _, upd_same, (h2.append hy).im (Im.lst h1)⟩
  rw [h2.length, hy.length]; exact small hb
theorem RD.app {H0 H : Hp} {l : Addr} {ds : List PyData} {d : PyData} {y : V} (R : RD H0 H l ds) (hy : Dt H y d) (hb : ds.length < 100000) :
    ∃ xs, H l = some (.lst xs) ∧ xs.length < sizeLine ∧ RD H0 (upd H l (.lst (xs ++ [y]))) l (ds ++ [d]) := by
  obtain ⟨xs, h1, h2⟩ := R.ex
  refine ⟨xs, h1, ?_, R.same.mut R.new, R.new, _, upd_same, (h2.snoc hy).im (Im.lst h1)⟩
  rw [h2.length]; exact smaller hb
def nextOf (ts : List Nat) (e s : Nat) (q : Nat × Nat) : List (Nat × Nat × Nat) := if q.1 = s then ts.map fun t => (e, t, q.2) else []
theorem nextOf_len {ts : List Nat} {e s : Nat} {q : Nat × Nat} (h : ts.length ≤ 12) : (nextOf ts e s q).length ≤ 12 := by
  unfold nextOf
  split
  · rw [List.length_map]; exact h
  · exact Nat.zero_le _
theorem POk.ts_len {exits kinds : List Nat} {ways : List (List (List Nat))} (pok : POk exits kinds ways) (p e : Nat) : ((ways.getD p []).getD e []).length ≤ 12 := by
  by_cases h : p < ways.length
  · have e1 := get_of h []
    by_cases h2 : e < (ways.getD p []).length
    · have e2 := get_of h2 []
      exact Nat.le_trans (pok.lots _ (List.mem_of_getElem? e1) _ (List.mem_of_getElem? e2)).len pok.hi
    · rw [List.getD_eq_getElem?_getD (l := ways.getD p []), List.getElem?_eq_none (by omega)]; exact Nat.zero_le _
  · rw [List.getD_eq_getElem?_getD (l := ways), List.getElem?_eq_none (by omega)]; exact Nat.zero_le _
theorem nextsAt_len {exits kinds : List Nat} {mm : MM} {ways : List (List (List Nat))} (mok : MOk exits mm) (pok : POk exits kinds ways) (p k s e : Nat) : (nextsAt mm ways p k s e).length ≤ 192 := by
  have a := fmap_len (f := nextOf ((ways.getD p []).getD e []) e s) (c := 12) (l := (mm.steps.getD k []).getD e []) fun x _ => nextOf_len (pok.ts_len p e)
  have b := pairs_len mok k e
  show (((mm.steps.getD k []).getD e []).flatMap (nextOf ((ways.getD p []).getD e []) e s)).length ≤ 192
  omega
theorem rd_law_nexts {K : Frag} {mg : Str → Option Value} (T : Txt K mg) {m k w p s : V} {H : Hp} {Q : VK} (h : ph_law_nexts K m k w p s H Q) : t_law_nexts K (De Q) [some m, some k, some w, some p, some s, none, none, none, none, none, none] H := by
  obtain ⟨exits, mm, kinds, ways, i, j, S, rfl, hi, rfl, q⟩ := h
  obtain ⟨am, sm, tm, rfl, ham, M2, M3⟩ := mach_inv S.mach
  obtain ⟨as, sxs, rfl, has, hsx⟩ := M2.open
  obtain ⟨ak, rfl, hak⟩ := S.kind.lot
  obtain ⟨aw, wxs, rfl, haw, hwx⟩ := S.way.open
  have hkd : kinds[i]? = some (kinds.getD i 0) := get_of hi 0
  have kdl := S.pok.kind _ (List.mem_of_getElem? hkd)
  have qq : ∀ (a : Addr) (xs : List V) (H' : Hp), Same H H' → H a = none → H' a = some (.lst xs) → DtL H' xs ((nextsM mm kinds ways i j).map e3) → Q (.ref a) H' := q
  unfold nextsM at qq
  have hel2 := S.pok.elen i _ (get_of (by rw [S.pok.wlen]; exact hi) [])
  generalize kinds.getD i 0 = kd at hkd kdl qq hel2
  have hst : mm.steps[kd]? = some (mm.steps.getD kd []) := get_of (by rw [S.mok.slen]; exact kdl) []
  obtain ⟨v6, e6, hd6⟩ := hsx.at hst
  obtain ⟨a6, x6, rfl, h6, hx6⟩ := hd6.open
  have hel := S.mok.elen _ _ hst
  have hwy : ways[i]? = some (ways.getD i []) := get_of (by rw [S.pok.wlen]; exact hi) []
  obtain ⟨vw, ew, hdw⟩ := hwx.at hwy
  obtain ⟨awi, wix, rfl, hawi, hwix⟩ := hdw.open
  have ell : (mm.steps.getD kd []).length = (ways.getD i []).length := by
    rw [hel] at hel2; exact Option.some.inj hel2
  have ol := outs_len S.xok S.mok kd
  unfold t_law_nexts
  walk_at "rd"
  refine ⟨Nat.zero_le _, fun l nl => ?_⟩
  have R0 := RD.start nl
  generalize upd H l (.lst []) = H1 at R0 ⊢
  refine ⟨_, rfl, am, _, _, _, rfl, rfl, SqT.of (R0.same _ _ ham), atI_nat (j := 1) rfl, _, rfl, _, rfl, ak, _, _, _, rfl, rfl, SqT.of (R0.same _ _ hak), atI_nat (getElem?_nats hkd), as, _, _, _, rfl, rfl, SqT.of (R0.same _ _ has), atI_nat e6, ?_⟩
  refine ⟨_, rfl, a6, _, rfl, .inr (SqT.of (R0.same _ _ h6)), _, rfl, by rw [hx6.len]; omega, by rw [hx6.len]; omega, ?_⟩
  rw [hx6.len, Int.toNat_natCast]
  refine for_range (fun e σ H' => RD H H' l (((List.range e).flatMap (nextsAt mm ways i kd j)).map e3) ∧ ∃ c d f g, σ = [some (.ref am), some (.ref ak), some (.ref aw), some (nv i), some (nv j), some (.ref l), some (.ref a6), c, d, f, g]) ⟨R0, _, _, _, _, rfl⟩ ?_ ?_
  · rintro e σ H2 he ⟨R, cc, cd, ce, cf, rfl⟩
    rw [Int.zero_add]
    have hprs : (mm.steps.getD kd [])[e]? = some ((mm.steps.getD kd []).getD e []) := get_of he []
    obtain ⟨y5, e25, hd5⟩ := hx6.at hprs
    obtain ⟨apr, pxs, rfl, hapr, hpx⟩ := hd5.open
    have hts : (ways.getD i [])[e]? = some ((ways.getD i []).getD e []) := get_of (by omega) []
    obtain ⟨yt, et, hdt⟩ := hwix.at hts
    obtain ⟨at', rfl, hat⟩ := hdt.lot
    have pl := pairs_len S.mok kd e
    have tl := S.pok.ts_len i e
    have fl := flat_len (f := nextsAt mm ways i kd j) (c := 192) (i := e) fun x _ => nextsAt_len S.mok S.pok i kd j x
    refine ⟨_, rfl, _, rfl, a6, _, _, _, rfl, rfl, SqT.of (R.same _ _ h6), atI_nat e25, apr, rfl, ⟨_, SqT.of (R.same _ _ hapr)⟩, ?_⟩
    rw [flat_succ]
    rw [show nextsAt mm ways i kd j e = ((mm.steps.getD kd []).getD e []).flatMap (nextOf ((ways.getD i []).getD e []) e j) from rfl]
    have SL3 : ((List.range e).flatMap (nextsAt mm ways i kd j)).length ≤ 600 := by omega
    generalize (List.range e).flatMap (nextsAt mm ways i kd j) = S3 at R SL3
    generalize (mm.steps.getD kd []).getD e [] = prs at hpx pl
    generalize (ways.getD i []).getD e [] = ts at hat tl
    refine for_tup (K := K) (xs := pxs) (fun jj σ H' => RD H H' l ((S3 ++ (prs.take jj).flatMap (nextOf ts e j)).map e3) ∧ ∃ d f g, σ = [some (.ref am), some (.ref ak), some (.ref aw), some (nv i), some (nv j), some (.ref l), some (.ref a6), some (nv e), d, f, g]) ⟨by simpa using R, _, _, _, rfl⟩ (fun jj σ H' _ p => SqT.of (p.1.same _ _ hapr)) ?_ ?_
    · rintro jj x σ H10 hj ⟨R10, g10, h10, i10, rfl⟩
      obtain ⟨pr, hpr, hdp⟩ := hpx.at' hj
      obtain ⟨ap, rfl, hap⟩ := pair_inv hdp
      have hap10 := R10.same _ _ hap
      have tl2 : ((prs.take jj).flatMap (nextOf ts e j)).length ≤ 192 := by
        have := fmap_len (f := nextOf ts e j) (c := 12) (l := prs.take jj) fun x _ => nextOf_len tl
        have h2 : (prs.take jj).length ≤ prs.length := by rw [List.length_take]; omega
        omega
      refine ⟨ap, _, rfl, SqT.of hap10, rfl, _, _, rfl, _, _, rfl, rfl, ?_⟩
      walk_at "rd"
      rw [take_more hpr, List.flatMap_append, ← List.append_assoc]
      have SL4 : (S3 ++ (prs.take jj).flatMap (nextOf ts e j)).length ≤ 800 := by rw [List.length_append]; omega
      generalize S3 ++ (prs.take jj).flatMap (nextOf ts e j) = S4 at R10 SL4
      rw [show [pr].flatMap (nextOf ts e j) = nextOf ts e j pr by simp]
      obtain ⟨xs, hx1, hx2⟩ := R10.ex
      refine ⟨_, rfl, _, rfl, rfl, decide (pr.1 = j), ?_, ?_⟩
      · show V.bl (decide (V.int (pr.1 : Int) = V.int (j : Int))) = _
        congr 1
        by_cases c : pr.1 = j
        · rw [c]; simp
        · rw [decide_eq_false c]; exact decide_eq_false fun z => by injection z with z; omega
      by_cases c : pr.1 = j
      · rw [decide_eq_true c]
        have hat10 := R10.same _ _ hat
        refine iteT ⟨_, rfl, .inl ⟨rfl, _, SqL.of hx1⟩, _, rfl, _, rfl, aw, _, _, _, rfl, rfl, SqT.of (R10.same _ _ haw), atI_nat ew, _, rfl, awi, _, _, _, rfl, rfl, SqT.of (R10.same _ _ hawi), atI_nat et, at', rfl, ⟨_, SqT.of hat10⟩, fun Dl nD => ?_⟩
        have en : nextOf ts e j pr = ts.map fun t => (e, t, pr.2) := by unfold nextOf; rw [if_pos c]
        refine lc_dt (walk_tup (K := K) (a := at') (xs := ts.map nv)) nD ((nextOf ts e j pr).map e3) (by rw [en]; simp) (by rw [List.length_map]; omega) (fun H' s => SqT.of (s _ _ hat10)) ?_ ?_
        · rintro i2 d2 x2 H8 H9 Kk hd2 s5 ⟨rfl, hx⟩ hK
          obtain ⟨t, ht, rfl⟩ := of_getElem?_nats hx
          have ed : d2 = e3 (e, t, pr.2) := by
            rw [en, List.getElem?_map, List.getElem?_map, ht] at hd2
            exact (Option.some.inj hd2).symm
          subst ed
          exact ⟨rfl, _, rfl, _, rfl, _, rfl, by show 3 ≤ sizeLine; decide, fun p np => hK _ _ (Same.new np) (.tup upd_same (.cons (.int _) (.cons (.int _) (.cons (.int _) .nil))))⟩
        · intro H8 ys s5 hD hds
          have := nextOf_len (e := e) (s := j) (q := pr) tl
          obtain ⟨xs5, h51, h52, R8⟩ := (R10.step s5).ext hds (by rw [List.length_map, List.length_map]; omega)
          refine ⟨l, Dl, xs5, ys, rfl, rfl, h51, hD, h52, ?_⟩
          rw [List.map_append]
          exact ⟨R8, _, _, _, rfl⟩
      · rw [decide_eq_false c]
        have en : nextOf ts e j pr = [] := by unfold nextOf; rw [if_neg c]
        rw [en, List.append_nil]
        exact iteF ⟨R10, _, _, _, rfl⟩
    · rintro σ H10 ⟨R10, g10, h10, i10, rfl⟩
      rw [hpx.len, List.take_length] at R10
      exact ⟨R10, _, _, _, _, rfl⟩
  · rintro σ H5 ⟨R5, d5, f5, g5, h5, rfl⟩
    obtain ⟨ys, h1, h2⟩ := R5.ex
    exact ⟨_, rfl, qq l ys _ R5.same R5.new h1 h2⟩
end NB
set_option pp.maxSteps 900
set_option Elab.async false
set_option linter.all false
set_option maxRecDepth 100000
set_option maxHeartbeats 4000000
namespace NB
open PySem PyProof.Rows L2
local macro_rules | `(tactic| walk_at "rd") => `(tactic| dsimp only [De, tSeq, tNext, tAsg, tIfS, tRet, tRetN, tDrop, tBreak, tCont, tAug, ipI, gName, gNil, gCons, gTup, gSub, tVar, tC, tOp, tUn, tTest, tB, tTru, tNot, tAnd, tOr, tNotV, tAndV, tOrV, tChain, tCons, tNil, tCB, tCall, tMeth, tMake, tTup, tLst, tFld, sFld, tDGet, tDIn, tDNotIn, sDPut, tDNewK, tDNewT, tBM, tBM0, tSl, tPart, tNoPart, tYes, iList, iTup, iRng1, iRng2, iEnum, iEnumT, iSeq, RZ.iZipA, rMaxT, rRepA, rIn, tLstRg, tRg1, tRevT, rI0, rI, rU, rAddI, rSubI, rMulI, rDivI, rModI, rPowI, rShlI, rShrI, rAndI, rOrI, rLtI, rLeI, rGtI, rGeI, rNegI, rInvI, rEq, rNe, rLenS, rListS, rTupleS, rInt1, rBool1, rStrI, rAbsI, rAll, rAny, rAppend, rExtend, rPopAt, rRep, rIxL, rIxT, rSetL, rSlL, rSlA, rCatA, rEqD, rNeD, List.cons_append, List.nil_append, List.append_nil])
local macro_rules | `(tactic| walk_at "rs") => `(tactic| dsimp only [De, tSeq, tNext, tAsg, tIfS, tRet, tRetN, tDrop, tBreak, tCont, tAug, ipI, gName, gNil, gCons, gTup, gSub, tVar, tC, tOp, tUn, tTest, tB, tTru, tNot, tAnd, tOr, tNotV, tAndV, tOrV, tChain, tCons, tNil, tCB, tCall, tMeth, tMake, tTup, tLst, tFld, sFld, tDGet, tDIn, tDNotIn, sDPut, tDNewK, tDNewT, tBM, tBM0, tSl, tPart, tNoPart, tYes, iList, iTup, iRng1, iRng2, iEnum, iEnumT, iSeq, RZ.iZipA, rMaxT, rRepA, rIn, tLstRg, tRg1, tRevT, rI0, rI, rU, rAddI, rSubI, rMulI, rDivI, rModI, rPowI, rShlI, rShrI, rAndI, rOrI, rLtI, rLeI, rGtI, rGeI, rNegI, rInvI, rEq, rNe, rLenS, rListS, rTupleS, rInt1, rBool1, rStrI, rAbsI, rAll, rAny, rAppend, rExtend, rPopAt, rRep, rIxL, rIxT, rSetL, rSlL, rCatA, rEqD, rNeD, List.cons_append, List.nil_append, List.append_nil])
theorem sc_law_far : FnScope ["_law_machine_here", "_law_kinds", "_law_ways", "_law_far_here", "_law_now", "_law_place", "_law_state", "_law_at", "_law_here", "_law_told"] ["_law_machine_here", "_law_kinds", "_law_ways"] (defScope s_law_far) := ⟨rfl, rfl, rfl, by decide +kernel, rfl, by decide +kernel, by decide +kernel⟩
def t_law_far (K : PySem.W.Frag) : TS :=
  (tSeq (tAsg tDNewT (gName 3))
    (tSeq (tAsg (tLst tNil) (gName 4))
    (tSeq (tFor (iRng1 (tCons (tCB (rLenS K) (tCons (tVar 1) tNil)) tNil)) (gName 5) (tFor (iTup K (tOp (rIxT K) (tOp (rIxT K) (tVar 0) (tC (.int 2))) (tOp (rIxT K) (tVar 1) (tVar 5)))) (gName 6) (tSeq (sDPut (tVar 3) (tTup (tCons (tVar 5) (tCons (tVar 6) tNil))) (tC (.int 1)))
    (tDrop (tBM K "list" rAppend (tVar 4) (tCons (tTup (tCons (tVar 5) (tCons (tVar 6) tNil))) tNil))))))
    (tSeq (tFor (iRng1 (tCons (tOp rMulI (tCB (rLenS K) (tCons (tVar 1) tNil)) (tOp (rIxT K) (tVar 0) (tC (.int 0)))) tNil)) (gName 7) (tIfS (tTest (tOp rLtI (tVar 7) (tCB (rLenS K) (tCons (tVar 4) tNil)))) (tSeq (tAsg (tOp (rIxL K) (tVar 4) (tVar 7)) (gName 8))
    (tFor (iList K (tCall (sp_law_nexts K) [] E0 (tCons (tVar 0) (tCons (tVar 1) (tCons (tVar 2) (tCons (tOp (rIxT K) (tVar 8) (tC (.int 0))) (tCons (tOp (rIxT K) (tVar 8) (tC (.int 1))) tNil))))))) (gName 9) (tIfS (tB (tDNotIn (tSl (rSlA K) (tVar 9) (tPart (tC (.int 1))) tNoPart) (tVar 3))) (tSeq (sDPut (tVar 3) (tSl (rSlA K) (tVar 9) (tPart (tC (.int 1))) tNoPart) (tOp rAddI (tDGet (tVar 3) (tVar 8)) (tC (.int 1))))
    (tDrop (tBM K "list" rAppend (tVar 4) (tCons (tSl (rSlA K) (tVar 9) (tPart (tC (.int 1))) tNoPart) tNil)))) tNext))) tNext))
    (tRet (tVar 3))))))
/-- a dict of pairs and a list of pairs, both new -/
structure SG (H0 H : Hp) (ad ln : Addr) (Wd Wl : List (Nat × Nat)) : Prop where
  same : Same H0 H
  nd : H0 ad = none
  nl : H0 ln = none
  ne : ad ≠ ln
  dict : ∃ kvs, H ad = some (.dT kvs) ∧ KW kvs Wd ∧ IntsV kvs
  now : ∃ xs, H ln = some (.lst xs) ∧ DtL H xs (Wl.map eP)
section
variable {H0 H H' : Hp} {ad ln : Addr} {Wd Wl : List (Nat × Nat)}
theorem SG.step (S : SG H0 H ad ln Wd Wl) (s : Same H H') : SG H0 H' ad ln Wd Wl := by
  obtain ⟨kvs, h1, h2, h3⟩ := S.dict
  obtain ⟨xs, h4, h5⟩ := S.now
  exact ⟨S.same.trans s, S.nd, S.nl, S.ne, ⟨kvs, s _ _ h1, h2, h3⟩, ⟨xs, s _ _ h4, h5.same s⟩⟩
theorem SG.put {p : Nat × Nat} (S : SG H0 H ad ln Wd Wl) (hp : p ∉ Wd) (hl : Wd.length < 100000) : ∃ kvs, H ad = some (.dT kvs) ∧ kvs.length < sizeLine ∧ ∀ n : Int, SG H0 (upd H ad (.dT (putK kvs (kOf p) (.int n)))) ad ln (Wd ++ [p]) Wl := by
  obtain ⟨kvs, h1, h2, h3⟩ := S.dict
  obtain ⟨xs, h4, h5⟩ := S.now
  exact ⟨kvs, h1, by rw [h2.len]; exact smaller hl, fun n => ⟨S.same.mut S.nd, S.nd, S.nl, S.ne, ⟨_, upd_same, h2.put _ hp, h3.put⟩, ⟨xs, by rw [upd_ne S.ne.symm]; exact h4, h5.im (Im.dT h1)⟩⟩⟩
theorem SG.app {p : Nat × Nat} (S : SG H0 H ad ln Wd Wl) (hl : Wl.length < 100000) : ∃ xs, H ln = some (.lst xs) ∧ xs.length < sizeLine ∧ ∀ b, H b = some (.tup [nv p.1, nv p.2]) → SG H0 (upd H ln (.lst (xs ++ [.ref b]))) ad ln Wd (Wl ++ [p]) := by
  obtain ⟨kvs, h1, h2, h3⟩ := S.dict
  obtain ⟨xs, h4, h5⟩ := S.now
  refine ⟨xs, h4, by rw [h5.len]; exact smaller hl, fun b hb => ⟨S.same.mut S.nl, S.nd, S.nl, S.ne, ⟨kvs, by rw [upd_ne S.ne]; exact h1, h2, h3⟩, ⟨_, upd_same, ?_⟩⟩⟩
  rw [List.map_append]
  exact (h5.snoc (.tup hb (.cons (.int _) (.cons (.int _) .nil)))).im (Im.lst h4)
end
theorem tri_inv {H : Hp} {x : V} {r : Nat × Nat × Nat} (h : Dt H x (e3 r)) : ∃ a, x = .ref a ∧ H a = some (.tup [nv r.1, nv r.2.1, nv r.2.2]) := by
  obtain ⟨a, xs, rfl, h1, h2⟩ := h.tup_inv
  cases h2 with
  | cons x1 h2 => cases h2 with
    | cons x2 h2 => cases h2 with
      | cons x3 h2 => cases h2 with
        | nil =>
          cases x1.int_inv
          cases x2.int_inv
          cases x3.int_inv
          exact ⟨a, rfl, h1⟩
theorem not_take {s : Nat} : ∀ {ts : List Nat} {j : Nat}, ts.Pairwise (· < ·) → ts[j]? = some s → s ∉ ts.take j
  | [], j, _, h => by simp at h
  | x :: ts, 0, _, _ => by simp
  | x :: ts, j + 1, hp, h => by
    obtain ⟨h1, h2⟩ := List.pairwise_cons.mp hp
    rw [List.getElem?_cons_succ] at h
    rw [List.take_succ_cons]
    intro hm
    rcases List.mem_cons.mp hm with e | hm
    · have := h1 s (List.mem_of_getElem? h)
      omega
    · exact not_take h2 h hm
/-- pairs that are far -/
structure FW (mm : MM) (kinds : List Nat) (ways : List (List (List Nat))) (W : List (Nat × Nat)) : Prop where
  nodup : W.Nodup
  far : ∀ x ∈ W, Far mm kinds ways x.1 x.2
theorem FW.snoc {mm : MM} {kinds : List Nat} {ways : List (List (List Nat))} {W : List (Nat × Nat)} (h : FW mm kinds ways W) {x : Nat × Nat} (hn : x ∉ W) (f : Far mm kinds ways x.1 x.2) : FW mm kinds ways (W ++ [x]) :=
  ⟨nodup_snoc h.nodup hn, fun y hy => by
    rcases List.mem_append.mp hy with hy | hy
    · exact h.far y hy
    · cases List.mem_singleton.mp hy; exact f⟩
theorem FW.count {exits kinds : List Nat} {mm : MM} {ways : List (List (List Nat))} {W : List (Nat × Nat)} (h : FW mm kinds ways W) (mok : MOk exits mm) (pok : POk exits kinds ways) : W.length ≤ kinds.length * mm.many :=
  pairs_count h.nodup fun x hx => (h.far x hx).lt mok pok
theorem Srch.same {H H' : Hp} {m k w : V} {exits : List Nat} {mm : MM} {kinds : List Nat} {ways : List (List (List Nat))} (S : Srch H m k w exits mm kinds ways) (s : Same H H') : Srch H' m k w exits mm kinds ways := ⟨S.mach.same s, S.kind.same s, S.way.same s, S.xok, S.mok, S.pok⟩
theorem rd_law_far {K : Frag} {mg : Str → Option Value} (T : Txt K mg) {m k w : V} {H : Hp} {Q : VK} (h : ph_law_far K m k w H Q) : t_law_far K (De Q) [some m, some k, some w, none, none, none, none, none, none, none] H := by
  obtain ⟨exits, mm, kinds, ways, S, q⟩ := h
  have qq : ∀ (a : Addr) kvs H', Same H H' → H a = none → H' a = some (.dT kvs) → (∀ p s, (valV kvs (kPS p s)).isSome = true ↔ Far mm kinds ways p s) → Q (.ref a) H' := q
  obtain ⟨am, sm, tm, rfl, ham, M2, M3⟩ := mach_inv S.mach
  obtain ⟨at', txs, rfl, hat, htx⟩ := M3.open
  obtain ⟨ak, rfl, hak⟩ := S.kind.lot
  have k12 := S.pok.hi
  have m3 := S.mok.hi
  have nm36 : kinds.length * mm.many ≤ 36 := Nat.le_trans (Nat.mul_le_mul k12 m3) (by decide)
  unfold t_law_far
  walk_at "rs"
  intro ad nad
  refine ⟨Nat.zero_le _, fun ln nln => ?_⟩
  have G0 : SG H (upd (upd H ad (.dT [])) ln (.lst [])) ad ln [] [] := by
    have ne : ad ≠ ln := fun e => by rw [← e, upd_same] at nln; cases nln
    exact ⟨(Same.new nad).snew nln, nad, (Same.new nad).free nln, ne, ⟨[], by rw [upd_ne ne]; exact upd_same, KW.nil, fun kv h => (by cases h)⟩, ⟨[], upd_same, .nil⟩⟩
  generalize upd (upd H ad (.dT [])) ln (.lst []) = H1 at G0 ⊢
  refine ⟨_, rfl, ak, _, rfl, .inr (SqT.of (G0.same _ _ hak)), _, rfl, by rw [List.length_map]; omega, by rw [List.length_map]; omega, ?_⟩
  rw [List.length_map, Int.toNat_natCast]
  refine for_range (fun i σ H' => ∃ W, SG H H' ad ln W W ∧ FW mm kinds ways W ∧ (∀ x ∈ W, x.1 < i) ∧ (∀ p s, p < i → s ∈ mm.starts.getD (kinds.getD p 0) [] → (p, s) ∈ W) ∧ ∃ c d e f g, σ = [some (.ref am), some (.ref ak), some w, some (.ref ad), some (.ref ln), c, d, e, f, g]) ⟨[], G0, ⟨List.nodup_nil, fun x h => (by cases h)⟩, fun x h => (by cases h), fun p s h => absurd h (Nat.not_lt_zero _), _, _, _, _, _, rfl⟩ ?_ ?_
  · rintro i σ H2 hi ⟨W, G, fw, wl, ws, c, d, e, f, g, rfl⟩
    rw [Int.zero_add]
    have hkd : kinds[i]? = some (kinds.getD i 0) := get_of hi 0
    have kdl := S.pok.kind _ (List.mem_of_getElem? hkd)
    have hst : mm.starts[kinds.getD i 0]? = some (mm.starts.getD (kinds.getD i 0) []) := get_of (by rw [S.mok.tlen]; exact kdl) []
    obtain ⟨y1, e2, hd⟩ := htx.at hst
    obtain ⟨al, rfl, hal⟩ := hd.lot
    have lot := S.mok.lots _ (List.mem_of_getElem? hst)
    refine ⟨_, rfl, am, _, _, _, rfl, rfl, SqT.of (G.same _ _ ham), atI_nat (j := 2) rfl, _, rfl, _, rfl, ak, _, _, _, rfl, rfl, SqT.of (G.same _ _ hak), atI_nat (getElem?_nats hkd), at', _, _, _, rfl, rfl, SqT.of (G.same _ _ hat), atI_nat e2, al, rfl, ⟨_, SqT.of (G.same _ _ hal)⟩, ?_⟩
    generalize hts : mm.starts.getD (kinds.getD i 0) [] = ts at hal lot
    refine for_tup (K := K) (xs := ts.map nv) (fun j σ H' => ∃ W, SG H H' ad ln W W ∧ FW mm kinds ways W ∧ (∀ x ∈ W, x.1 < i ∨ (x.1 = i ∧ x.2 ∈ ts.take j)) ∧ (∀ p s, p < i → s ∈ mm.starts.getD (kinds.getD p 0) [] → (p, s) ∈ W) ∧ (∀ s ∈ ts.take j, (i, s) ∈ W) ∧ ∃ d e f g, σ = [some (.ref am), some (.ref ak), some w, some (.ref ad), some (.ref ln), some (nv i), d, e, f, g]) ⟨W, G, fw, fun x hx => .inl (wl x hx), ws, fun s h => (by simp at h), _, _, _, _, rfl⟩ (fun j σ H' _ p => by obtain ⟨W, G, _⟩ := p; exact SqT.of (G.same _ _ hal)) ?_ ?_
    · rintro j x σ H3 hj ⟨W, G, fw, wl, ws, wj, d', e', f', g', rfl⟩
      obtain ⟨s, hs, rfl⟩ := of_getElem?_nats hj
      have hn : (i, s) ∉ W := fun hm => by
        rcases wl _ hm with h | ⟨_, h⟩
        · exact Nat.lt_irrefl _ h
        · exact not_take lot.1 hs h
      have wc := fw.count S.mok S.pok
      refine ⟨_, rfl, _, rfl, _, rfl, by show 2 ≤ sizeLine; decide, fun b nb => ?_⟩
      obtain ⟨kvs, g1, g2, g3⟩ := (G.step (Same.new (o := .tup [nv i, nv s]) nb)).put hn (by omega)
      refine ⟨ad, _, rfl, DPut.t (k := kOf (i, s)) g1 upd_same g2, ?_⟩
      have G2 := g3 1
      generalize upd (upd H3 b (.tup [nv i, nv s])) ad (.dT (putK kvs (kOf (i, s)) (.int 1))) = H4 at G2 ⊢
      obtain ⟨xs, hx1, hx2⟩ := G2.now
      refine ⟨_, rfl, .inl ⟨rfl, _, SqL.of hx1⟩, _, rfl, _, rfl, by show 2 ≤ sizeLine; decide, fun b2 nb2 => ?_⟩
      obtain ⟨xs', k1, k2, k3⟩ := (G2.step (Same.new (o := .tup [nv i, nv s]) nb2)).app (p := (i, s)) (by omega)
      refine ⟨ln, xs', _, rfl, rfl, k1, k2, W ++ [(i, s)], k3 b2 upd_same, fw.snoc hn (.start hi (by rw [hts]; exact List.mem_of_getElem? hs)), ?_, fun p s' hp h => List.mem_append_left _ (ws p s' hp h), ?_, _, _, _, _, rfl⟩
      · intro x hx
        rw [take_more hs]
        rcases List.mem_append.mp hx with hx | hx
        · rcases wl x hx with h | ⟨h1, h2⟩
          · exact .inl h
          · exact .inr ⟨h1, List.mem_append_left _ h2⟩
        · cases List.mem_singleton.mp hx
          exact .inr ⟨rfl, List.mem_append_right _ (List.mem_singleton.mpr rfl)⟩
      · intro s' hs'
        rw [take_more hs] at hs'
        rcases List.mem_append.mp hs' with h | h
        · exact List.mem_append_left _ (wj s' h)
        · cases List.mem_singleton.mp h
          exact List.mem_append_right _ (List.mem_singleton.mpr rfl)
    · rintro σ H3 ⟨W, G, fw, wl, ws, wj, d', e', f', g', rfl⟩
      rw [List.length_map, List.take_length] at wj
      refine ⟨W, G, fw, fun x hx => ?_, fun p s hp h => ?_, _, _, _, _, _, rfl⟩
      · rcases wl x hx with h | ⟨h, _⟩ <;> omega
      · by_cases c : p < i
        · exact ws p s c h
        · rw [show p = i by omega] at h ⊢
          rw [hts] at h
          exact wj s h
  · rintro σ H2 ⟨W, G, fw, wl, ws, c, d, e, f, g, rfl⟩
    have ws0 : ∀ p s, p < kinds.length → s ∈ mm.starts.getD (kinds.getD p 0) [] → (p, s) ∈ W := ws
    refine ⟨_, rfl, ak, _, rfl, .inr (SqT.of (G.same _ _ hak)), _, rfl, am, _, _, _, rfl, rfl, SqT.of (G.same _ _ ham), atI_nat (j := 0) rfl, _, _, rfl, rfl, .inl (by rw [List.length_map]; omega), ?_⟩
    have en : (((kinds.map nv).length : Nat) : Int) * (mm.many : Int) = ((kinds.length * mm.many : Nat) : Int) := by rw [List.length_map, Int.natCast_mul]
    refine ⟨((kinds.length * mm.many : Nat) : Int), congrArg (fun z => [V.int z]) en, by omega, by omega, ?_⟩
    rw [Int.toNat_natCast]
    refine for_range (fun i σ H' => ∃ W, SG H H' ad ln W W ∧ FW mm kinds ways W ∧ (∀ p s, p < kinds.length → s ∈ mm.starts.getD (kinds.getD p 0) [] → (p, s) ∈ W) ∧ (∀ (i' : Nat) x, i' < i → W[i']? = some x → ClF mm kinds ways W x) ∧ ∃ c d e f g, σ = [some (.ref am), some (.ref ak), some w, some (.ref ad), some (.ref ln), c, d, e, f, g]) ⟨W, G, fw, ws0, fun i' x h => absurd h (Nat.not_lt_zero _), _, _, _, _, _, rfl⟩ ?_ ?_
    · rintro i σ H3 hi ⟨W, G, fw, ws, cl, c, d, e, f, g, rfl⟩
      rw [Int.zero_add]
      obtain ⟨xs, hx1, hx2⟩ := G.now
      refine ⟨_, rfl, _, rfl, ln, _, rfl, .inl (SqL.of hx1), _, _, rfl, rfl, _, rfl, ?_⟩
      by_cases c1 : (i : Int) < (xs.length : Int)
      · rw [decide_eq_true c1]
        have iw : i < W.length := by rw [hx2.len] at c1; omega
        obtain ⟨pi, hpi⟩ : ∃ x, W[i]? = some x := ⟨_, List.getElem?_eq_getElem iw⟩
        obtain ⟨v8, e8, d8⟩ := hx2.at hpi
        obtain ⟨a8, rfl, h8⟩ := pair_inv d8
        have fpi := (fw.far _ (List.mem_of_getElem? hpi))
        have lpi := fpi.lt S.mok S.pok
        refine iteT ⟨_, rfl, _, rfl, ln, _, _, _, rfl, rfl, SqL.of hx1, atI_nat e8, ?_⟩
        refine ⟨_, rfl, _, rfl, _, rfl, _, rfl, a8, _, _, _, rfl, rfl, SqT.of h8, atI_nat (j := 0) rfl, _, rfl, a8, _, _, _, rfl, rfl, SqT.of h8, atI_nat (j := 1) rfl, exits, mm, kinds, ways, pi.1, pi.2, S.same G.same, rfl, lpi.1, rfl, fun a9 xs9 H9 s9 n9 h9 d9 => ⟨a9, rfl, ⟨_, SqL.of h9⟩, ?_⟩⟩
        have G9 := G.step s9
        have n9d : a9 ≠ ad := fun e => by
          obtain ⟨kvs, g1, _⟩ := G.dict
          rw [e, g1] at n9; cases n9
        have n9l : a9 ≠ ln := fun e => by rw [e, hx1] at n9; cases n9
        have h8' := s9 _ _ h8
        generalize hnx : nextsM mm kinds ways pi.1 pi.2 = nx at d9
        refine for_list (K := K) (a := a9) (xs := xs9) (fun jj σ H' => ∃ V, SG H H' ad ln (W ++ V) (W ++ V) ∧ FW mm kinds ways (W ++ V) ∧ (∀ (j' : Nat) x, j' < jj → nx[j']? = some x → (x.2.1, x.2.2) ∈ W ++ V) ∧ Im H9 H' ∧ H' a9 = some (.lst xs9) ∧ ∃ g, σ = [some (.ref am), some (.ref ak), some w, some (.ref ad), some (.ref ln), c, d, some (nv i), some (.ref a8), g]) ⟨[], by rw [List.append_nil]; exact G9, by rw [List.append_nil]; exact fw, fun j' x h => absurd h (Nat.not_lt_zero _), Im.refl _, h9, _, rfl⟩ (fun j σ H' _ p => by obtain ⟨V, _, _, _, _, h, _⟩ := p; exact SqL.of h) ?_ ?_
        · rintro jj x σ H10 hj ⟨V, G, fw', seen, im, h9', g', rfl⟩
          obtain ⟨⟨e0, t, u⟩, hy, dy⟩ := (d9.im im).at' hj
          obtain ⟨a10, rfl, h10⟩ := tri_inv dy
          refine ⟨_, rfl, 1, rfl, ?_⟩
          dsimp only [tNoPart]
          refine rSlA_1 h10 fun p H11 s11 hp => ?_
          have G11 := G.step s11
          obtain ⟨kvs, hd11, kw, iv⟩ := G11.dict
          refine ⟨_, rfl, ad, _, rfl, DGet.t (k := kOf (t, u)) hd11 hp, _, rfl, ?_⟩
          rw [kw.mem]
          have far2 : Far mm kinds ways t u := .step fpi (by rw [hnx]; exact List.mem_of_getElem? hy)
          have wc := fw'.count S.mok S.pok
          by_cases c2 : (t, u) ∈ W ++ V
          · rw [decide_eq_true c2]
            refine iteF ⟨V, G11, fw', fun j' x hj' hx => ?_, im.trans s11.im, s11 _ _ h9', _, rfl⟩
            by_cases c3 : j' < jj
            · exact seen j' x c3 hx
            · rw [show j' = jj by omega, hy] at hx
              cases hx; exact c2
          · rw [decide_eq_false c2]
            have hm : (valV kvs (kOf pi)).isSome = true := by rw [kw.mem]; exact decide_eq_true (List.mem_append_left _ (List.mem_of_getElem? hpi))
            obtain ⟨v, hv⟩ := Option.isSome_iff_exists.mp hm
            obtain ⟨n8, rfl⟩ := iv.val hv
            have h8b := s11 _ _ (im _ _ h8')
            refine iteT ⟨_, rfl, _, rfl, ad, .int n8, rfl, ?_, _, _, rfl, rfl, _, rfl, _, rfl, 1, rfl, ?_⟩
            · rw [← hv]
              exact DGet.t (k := kOf pi) hd11 h8b
            dsimp only [tNoPart]
            refine rSlA_1 (s11 _ _ h10) fun p2 H12 s12 hp2 => ?_
            obtain ⟨kvs2, g1, g2, g3⟩ := (G11.step s12).put c2 (by omega)
            refine ⟨ad, _, rfl, DPut.t (k := kOf (t, u)) g1 hp2 g2, ?_⟩
            have G2 := g3 (n8 + 1)
            have im13 : Im H12 (upd H12 ad (.dT (putK kvs2 (kOf (t, u)) (.int (n8 + 1))))) := Im.dT g1
            have h913 : (upd H12 ad (.dT (putK kvs2 (kOf (t, u)) (.int (n8 + 1))))) a9 = some (.lst xs9) := by rw [upd_ne n9d]; exact s12 _ _ (s11 _ _ h9')
            generalize upd H12 ad (.dT (putK kvs2 (kOf (t, u)) (.int (n8 + 1)))) = H13 at G2 im13 h913 ⊢
            obtain ⟨xs, hx1, hx2⟩ := G2.now
            refine ⟨_, rfl, .inl ⟨rfl, _, SqL.of hx1⟩, _, rfl, 1, rfl, ?_⟩
            dsimp only [tNoPart]
            refine rSlA_1 (im13 _ _ (s12 _ _ (s11 _ _ h10))) fun p3 H14 s14 hp3 => ?_
            obtain ⟨xs', k1, k2, k3⟩ := (G2.step s14).app (p := (t, u)) (by omega)
            refine ⟨ln, xs', _, rfl, rfl, k1, k2, V ++ [(t, u)], by rw [← List.append_assoc]; exact k3 p3 hp3, by rw [← List.append_assoc]; exact fw'.snoc c2 far2, fun j' x hj' hx => ?_, (((im.trans s11.im).trans s12.im).trans im13).trans (s14.im.trans (Im.lst k1)), by rw [upd_ne n9l]; exact s14 _ _ h913, _, rfl⟩
            rw [← List.append_assoc]
            by_cases c3 : j' < jj
            · exact List.mem_append_left _ (seen j' x c3 hx)
            · rw [show j' = jj by omega, hy] at hx
              cases hx; exact List.mem_append_right _ (List.mem_singleton.mpr rfl)
        · rintro σ H10 ⟨V, G, fw', seen, im, h9', g', rfl⟩
          refine ⟨W ++ V, G, fw', fun p s hp h => List.mem_append_left _ (ws p s hp h), fun i' x hi' hx => ?_, _, _, _, _, _, rfl⟩
          by_cases c3 : i' < i
          · rw [List.getElem?_append_left (by omega)] at hx
            exact fun e t u h => List.mem_append_left _ (cl i' x c3 hx e t u h)
          · rw [show i' = i by omega, List.getElem?_append_left iw, hpi] at hx
            cases hx
            intro e t u h
            rw [hnx] at h
            obtain ⟨j', hj'⟩ := List.getElem?_of_mem h
            exact seen j' _ (by rw [d9.len]; exact (List.getElem?_eq_some_iff.mp hj').1) hj'
      · rw [decide_eq_false c1]
        refine iteF ⟨W, G, fw, ws, fun i' x hi' hx => ?_, _, _, _, _, _, rfl⟩
        have : i' < W.length := (List.getElem?_eq_some_iff.mp hx).1
        rw [hx2.len] at c1
        exact cl i' x (by omega) hx
    · rintro σ H3 ⟨W, G, fw, ws, cl, c, d, e, f, g, rfl⟩
      obtain ⟨kvs, g1, kw, iv⟩ := G.dict
      refine ⟨_, rfl, qq ad kvs _ G.same G.nd g1 fun p s => ?_⟩
      show (valV kvs (kOf (p, s))).isSome = true ↔ _
      rw [kw.mem, decide_eq_true_eq]
      constructor
      · exact fun h => fw.far _ h
      · refine far_closed ws fun x hx => ?_
        obtain ⟨i', hi'⟩ := List.getElem?_of_mem hx
        have := fw.count S.mok S.pok
        exact cl i' x (by have := (List.getElem?_eq_some_iff.mp hi').1; omega) hi'
end NB
set_option pp.maxSteps 900
set_option Elab.async false
set_option linter.all false
set_option maxRecDepth 100000
set_option maxHeartbeats 4000000
namespace NB
open PySem PyProof.Rows L2
local macro_rules | `(tactic| walk_at "rd") => `(tactic| dsimp only [De, tSeq, tNext, tAsg, tIfS, tRet, tRetN, tDrop, tBreak, tCont, tAug, ipI, gName, gNil, gCons, gTup, gSub, tVar, tC, tOp, tUn, tTest, tB, tTru, tNot, tAnd, tOr, tNotV, tAndV, tOrV, tChain, tCons, tNil, tCB, tCall, tMeth, tMake, tTup, tLst, tFld, sFld, tDGet, tDIn, tDNotIn, sDPut, tDNewK, tDNewT, tBM, tBM0, tSl, tPart, tNoPart, tYes, iList, iTup, iRng1, iRng2, iEnum, iEnumT, iSeq, RZ.iZipA, rMaxT, rRepA, rIn, tLstRg, tRg1, tRevT, rI0, rI, rU, rAddI, rSubI, rMulI, rDivI, rModI, rPowI, rShlI, rShrI, rAndI, rOrI, rLtI, rLeI, rGtI, rGeI, rNegI, rInvI, rEq, rNe, rLenS, rListS, rTupleS, rInt1, rBool1, rStrI, rAbsI, rAll, rAny, rAppend, rExtend, rPopAt, rRep, rIxL, rIxT, rSetL, rSlL, rSlA, rCatA, rEqD, rNeD, List.cons_append, List.nil_append, List.append_nil])
local macro_rules | `(tactic| walk_at "rs") => `(tactic| dsimp only [De, tSeq, tNext, tAsg, tIfS, tRet, tRetN, tDrop, tBreak, tCont, tAug, ipI, gName, gNil, gCons, gTup, gSub, tVar, tC, tOp, tUn, tTest, tB, tTru, tNot, tAnd, tOr, tNotV, tAndV, tOrV, tChain, tCons, tNil, tCB, tCall, tMeth, tMake, tTup, tLst, tFld, sFld, tDGet, tDIn, tDNotIn, sDPut, tDNewK, tDNewT, tBM, tBM0, tSl, tPart, tNoPart, tYes, iList, iTup, iRng1, iRng2, iEnum, iEnumT, iSeq, RZ.iZipA, rMaxT, rRepA, rIn, tLstRg, tRg1, tRevT, rI0, rI, rU, rAddI, rSubI, rMulI, rDivI, rModI, rPowI, rShlI, rShrI, rAndI, rOrI, rLtI, rLeI, rGtI, rGeI, rNegI, rInvI, rEq, rNe, rLenS, rListS, rTupleS, rInt1, rBool1, rStrI, rAbsI, rAll, rAny, rAppend, rExtend, rPopAt, rRep, rIxL, rIxT, rSetL, rSlL, rCatA, rEqD, rNeD, List.cons_append, List.nil_append, List.append_nil])
theorem sc_law_on : FnScope ["_law_machine_here", "_law_kinds", "_law_ways", "_law_wanted", "_law_barred", "_law_on_here", "_law_turn", "_law_grown", "_law_place", "_law_state", "_law_goals", "_law_goes", "_law_k", "_law_to", "_law_new"] ["_law_machine_here", "_law_kinds", "_law_ways", "_law_wanted", "_law_barred"] (defScope s_law_on) := ⟨rfl, rfl, rfl, by decide +kernel, rfl, by decide +kernel, by decide +kernel⟩
def t_law_on (K : PySem.W.Frag) : TS :=
  (tSeq (tAsg tDNewT (gName 5))
    (tSeq (tFor (iRng1 (tCons (tOp rAddI (tOp rMulI (tCB (rLenS K) (tCons (tVar 1) tNil)) (tOp (rIxT K) (tVar 0) (tC (.int 0)))) (tC (.int 1))) tNil)) (gName 6) (tSeq (tAsg (tC (.bl false)) (gName 7))
    (tSeq (tFor (iRng1 (tCons (tCB (rLenS K) (tCons (tVar 1) tNil)) tNil)) (gName 8) (tFor (iRng1 (tCons (tOp (rIxT K) (tVar 0) (tC (.int 0))) tNil)) (gName 9) (tSeq (tAsg (tCall (sp_law_nexts K) [] E0 (tCons (tVar 0) (tCons (tVar 1) (tCons (tVar 2) (tCons (tVar 8) (tCons (tVar 9) tNil)))))) (gName 10))
    (tSeq (tAsg (tLc (iList K (tVar 10)) (gTup K 3 (gCons (gName 12) (gCons (gName 13) (gCons (gName 14) gNil)))) tYes (tOrV (tOp (rIn K false) (tOp (rIxT K) (tVar 1) (tVar 13)) (tVar 3)) (tAndV (tOp (rIn K true) (tOp (rIxT K) (tVar 1) (tVar 13)) (tVar 4)) (tDIn (tTup (tCons (tVar 13) (tCons (tVar 14) tNil))) (tVar 5)))) [12, 13, 14]) (gName 11))
    (tIfS (tAnd (tB (tCB (rAny K) (tCons (tVar 11) tNil))) (tB (tDNotIn (tTup (tCons (tVar 8) (tCons (tVar 9) tNil))) (tVar 5)))) (tSeq (sDPut (tVar 5) (tTup (tCons (tVar 8) (tCons (tVar 9) tNil))) (tC (.bl true)))
    (tAsg (tC (.bl true)) (gName 7))) tNext)))))
    (tIfS (tNot (tB (tVar 7))) tBreak tNext))))
    (tRet (tVar 5))))
/-- a dict of pairs, new -/
structure SD (H0 H : Hp) (ad : Addr) (W : List (Nat × Nat)) : Prop where
  same : Same H0 H
  nd : H0 ad = none
  dict : ∃ kvs, H ad = some (.dT kvs) ∧ KW kvs W
section
variable {H0 H H' : Hp} {ad : Addr} {W : List (Nat × Nat)}
theorem SD.step (S : SD H0 H ad W) (s : Same H H') : SD H0 H' ad W := by
  obtain ⟨kvs, h1, h2⟩ := S.dict
  exact ⟨S.same.trans s, S.nd, kvs, s _ _ h1, h2⟩
theorem SD.put {p : Nat × Nat} (S : SD H0 H ad W) (hp : p ∉ W) (hl : W.length < 100000) : ∃ kvs, H ad = some (.dT kvs) ∧ kvs.length < sizeLine ∧ ∀ v, SD H0 (upd H ad (.dT (putK kvs (kOf p) v))) ad (W ++ [p]) := by
  obtain ⟨kvs, h1, h2⟩ := S.dict
  exact ⟨kvs, h1, by rw [h2.len]; exact smaller hl, fun v => ⟨S.same.mut S.nd, S.nd, _, upd_same, h2.put _ hp⟩⟩
end
/-- pairs from which one looks on -/
structure OW (mm : MM) (kinds : List Nat) (ways : List (List (List Nat))) (wanted barred : List Nat) (W : List (Nat × Nat)) : Prop where
  nodup : W.Nodup
  on : ∀ x ∈ W, On mm kinds ways wanted barred x.1 x.2
theorem OW.snoc {mm : MM} {kinds wanted barred : List Nat} {ways : List (List (List Nat))} {W : List (Nat × Nat)} (h : OW mm kinds ways wanted barred W) {x : Nat × Nat} (hn : x ∉ W) (f : On mm kinds ways wanted barred x.1 x.2) : OW mm kinds ways wanted barred (W ++ [x]) :=
  ⟨nodup_snoc h.nodup hn, fun y hy => by
    rcases List.mem_append.mp hy with hy | hy
    · exact h.on y hy
    · cases List.mem_singleton.mp hy; exact f⟩
theorem OW.count {kinds wanted barred : List Nat} {mm : MM} {ways : List (List (List Nat))} {W : List (Nat × Nat)} (h : OW mm kinds ways wanted barred W) : W.length ≤ kinds.length * mm.many :=
  pairs_count h.nodup fun x hx => (h.on x hx).lt
theorem rd_law_on {K : Frag} {mg : Str → Option Value} (T : Txt K mg) {m k w wd bd : V} {H : Hp} {Q : VK} (h : ph_law_on K m k w wd bd H Q) : t_law_on K (De Q) [some m, some k, some w, some wd, some bd, none, none, none, none, none, none, none, none, none, none] H := by
  obtain ⟨exits, mm, kinds, ways, wanted, barred, S, hwd, hbd, q⟩ := h
  have qq : ∀ (a : Addr) kvs H', Same H H' → H a = none → H' a = some (.dT kvs) → (∀ p s, (valV kvs (kPS p s)).isSome = true ↔ On mm kinds ways wanted barred p s) → Q (.ref a) H' := q
  obtain ⟨am, sm, tm, rfl, ham, M2, M3⟩ := mach_inv S.mach
  obtain ⟨ak, rfl, hak⟩ := S.kind.lot
  obtain ⟨awd, rfl, hawd⟩ := hwd.lot
  obtain ⟨abd, rfl, habd⟩ := hbd.lot
  have k12 := S.pok.hi
  have m3 := S.mok.hi
  have nm36 : kinds.length * mm.many ≤ 36 := Nat.le_trans (Nat.mul_le_mul k12 m3) (by decide)
  unfold t_law_on
  walk_at "rs"
  intro ad nad
  have G0 : SD H (upd H ad (.dT [])) ad [] := ⟨Same.new nad, nad, [], upd_same, KW.nil⟩
  generalize upd H ad (.dT []) = H1 at G0 ⊢
  have en : (((kinds.map nv).length : Nat) : Int) * (mm.many : Int) + 1 = ((kinds.length * mm.many + 1 : Nat) : Int) := by rw [List.length_map, Int.natCast_add, Int.natCast_mul]; rfl
  refine ⟨_, rfl, ak, _, rfl, .inr (SqT.of (G0.same _ _ hak)), _, rfl, am, _, _, _, rfl, rfl, SqT.of (G0.same _ _ ham), atI_nat (j := 0) rfl, _, _, rfl, rfl, .inl (by rw [List.length_map]; omega), _, _, rfl, rfl, ((kinds.length * mm.many + 1 : Nat) : Int), congrArg (fun z => [V.int z]) en, by omega, by omega, ?_⟩
  rw [Int.toNat_natCast]
  refine for_range (fun tau σ H' => ∃ W, SD H H' ad W ∧ OW mm kinds ways wanted barred W ∧ tau ≤ W.length ∧ ∃ c d e f g h i j l, σ = [some (.ref am), some (.ref ak), some w, some (.ref awd), some (.ref abd), some (.ref ad), c, d, e, f, g, h, i, j, l]) ⟨[], G0, ⟨List.nodup_nil, fun x h => (by cases h)⟩, Nat.zero_le _, _, _, _, _, _, _, _, _, _, rfl⟩ ?_ ?_
  · rintro tau σ H2 htau ⟨W, G, ow, wt, c, d, e, f, g, h, i, j, l, rfl⟩
    rw [Int.zero_add]
    walk_at "rs"
    refine ⟨_, rfl, ak, _, rfl, .inr (SqT.of (G.same _ _ hak)), _, rfl, by rw [List.length_map]; omega, by rw [List.length_map]; omega, ?_⟩
    rw [List.length_map, Int.toNat_natCast]
    refine for_range (fun p σ H' => ∃ W gr, SD H H' ad W ∧ OW mm kinds ways wanted barred W ∧ (gr = true → tau + 1 ≤ W.length) ∧ (gr = false → tau ≤ W.length ∧ ∀ p' s', p' < p → s' < mm.many → (nextsM mm kinds ways p' s').any (goesOn kinds wanted barred W) = true → (p', s') ∈ W) ∧ ∃ e f g h i j l, σ = [some (.ref am), some (.ref ak), some w, some (.ref awd), some (.ref abd), some (.ref ad), some (nv tau), some (.bl gr), e, f, g, h, i, j, l]) ⟨W, false, G, ow, fun h => (by cases h), fun _ => ⟨wt, fun p' s' h => absurd h (Nat.not_lt_zero _)⟩, _, _, _, _, _, _, _, rfl⟩ ?_ ?_
    · rintro p σ H3 hp ⟨W, gr, G, ow, wg, wn, e, f, g, h, i, j, l, rfl⟩
      rw [Int.zero_add]
      refine ⟨_, rfl, am, _, _, _, rfl, rfl, SqT.of (G.same _ _ ham), atI_nat (j := 0) rfl, _, rfl, by omega, by omega, ?_⟩
      rw [Int.toNat_natCast]
      refine for_range (fun s σ H' => ∃ W gr, SD H H' ad W ∧ OW mm kinds ways wanted barred W ∧ (gr = true → tau + 1 ≤ W.length) ∧ (gr = false → tau ≤ W.length ∧ ∀ p' s', (p' < p ∨ (p' = p ∧ s' < s)) → s' < mm.many → (nextsM mm kinds ways p' s').any (goesOn kinds wanted barred W) = true → (p', s') ∈ W) ∧ ∃ f g h i j l, σ = [some (.ref am), some (.ref ak), some w, some (.ref awd), some (.ref abd), some (.ref ad), some (nv tau), some (.bl gr), some (nv p), f, g, h, i, j, l]) ⟨W, gr, G, ow, wg, fun hg => ⟨(wn hg).1, fun p' s' h => (wn hg).2 p' s' (by omega)⟩, _, _, _, _, _, _, rfl⟩ ?_ ?_
      · rintro s σ H4 hs ⟨W, gr, G, ow, wg, wn, f, g, h, i, j, l, rfl⟩
        rw [Int.zero_add]
        refine ⟨_, rfl, _, rfl, _, rfl, _, rfl, _, rfl, exits, mm, kinds, ways, p, s, S.same G.same, rfl, hp, rfl, fun a9 xs9 H9 s9 n9 h9 d9 => ?_⟩
        have G9 := G.step s9
        have nl : (nextsM mm kinds ways p s).length ≤ 600 := by
          have := flat_len (f := nextsAt mm ways p (kinds.getD p 0) s) (c := 192) (i := (mm.steps.getD (kinds.getD p 0) []).length) fun x _ => nextsAt_len S.mok S.pok p _ s x
          have := outs_len S.xok S.mok (kinds.getD p 0)
          show ((List.range (mm.steps.getD (kinds.getD p 0) []).length).flatMap (nextsAt mm ways p (kinds.getD p 0) s)).length ≤ 600
          omega
        have tin : ∀ y ∈ nextsM mm kinds ways p s, y.2.1 < kinds.length := fun y hy => (next_in S.mok S.pok (e := y.1) (t := y.2.1) (u := y.2.2) hy).1
        have onp := fun (a : (nextsM mm kinds ways p s).any (goesOn kinds wanted barred W) = true) => on_of ow.on hp hs a
        generalize hnx : nextsM mm kinds ways p s = nx at d9 nl tin onp
        refine ⟨_, rfl, a9, rfl, ⟨_, SqL.of h9⟩, fun Dl nD => ?_⟩
        refine lc_bools (walk_list (K := K) (a := a9) (xs := xs9)) nD (nx.map (goesOn kinds wanted barred W)) (by rw [List.length_map, d9.len]) (by rw [d9.len]; omega) (fun H' s => SqL.of (s _ _ h9)) ?_ ?_
        · rintro i2 b x H5 H6 Kk hb s5 ⟨rfl, hx⟩ hK
          have G6 := G9.step s5
          obtain ⟨⟨e0, t, u⟩, hy, dy⟩ := (d9.same s5).at' hx
          obtain ⟨a10, rfl, h10⟩ := tri_inv dy
          have eb : b = goesOn kinds wanted barred W (e0, t, u) := by
            rw [List.getElem?_map, hy] at hb
            exact (Option.some.inj hb).symm
          have hkt : kinds[t]? = some (kinds.getD t 0) := get_of (tin _ (List.mem_of_getElem? hy)) 0
          refine ⟨a10, _, rfl, SqT.of h10, rfl, _, _, rfl, _, _, rfl, _, _, rfl, rfl, rfl, ?_⟩
          walk_at "rs"
          refine ⟨_, rfl, _, rfl, ak, _, _, _, rfl, rfl, SqT.of (G6.same _ _ hak), atI_nat (getElem?_nats hkt), _, rfl, awd, _, rfl, .inr (SqT.of (G6.same _ _ hawd)), rfl, flat_nats, decide (kinds.getD t 0 ∈ wanted), ?_, ?_⟩
          · rw [inV_nats]; rfl
          unfold goesOn at eb
          by_cases c1 : kinds.getD t 0 ∈ wanted
          · rw [decide_eq_true c1]
            refine iteT ?_
            rw [eb] at hK
            simp only [decide_eq_true c1, Bool.true_or] at hK
            exact hK _ (fun _ _ h => h)
          · rw [decide_eq_false c1]
            refine iteF ⟨_, rfl, _, rfl, ak, _, _, _, rfl, rfl, SqT.of (G6.same _ _ hak), atI_nat (getElem?_nats hkt), _, rfl, abd, _, rfl, .inr (SqT.of (G6.same _ _ habd)), rfl, flat_nats, !decide (kinds.getD t 0 ∈ barred), ?_, ?_⟩
            · rw [inV_nats]; rfl
            rw [eb] at hK
            simp only [decide_eq_false c1, Bool.false_or] at hK
            by_cases c2 : kinds.getD t 0 ∈ barred
            · rw [decide_eq_true c2] at hK ⊢
              exact iteF (hK _ (fun _ _ h => h))
            · rw [decide_eq_false c2] at hK ⊢
              refine iteT ⟨_, rfl, _, rfl, by show 2 ≤ sizeLine; decide, fun b1 nb1 => ⟨_, rfl, ?_⟩⟩
              have G7 := G6.step (Same.new (o := .tup [nv t, nv u]) nb1)
              obtain ⟨kvs, g1, kw⟩ := G7.dict
              refine ⟨ad, _, rfl, DGet.t (k := kOf (t, u)) g1 upd_same, ?_⟩
              rw [kw.mem]
              exact hK _ (Same.new nb1)
        · intro H5 s5 hD
          have G5 := G9.step s5
          have ea : (nx.map (goesOn kinds wanted barred W)).any id = nx.any (goesOn kinds wanted barred W) := by rw [List.any_map]; rfl
          refine ⟨_, rfl, Dl, _, rfl, SqL.of hD, _, rfl, ?_⟩
          rw [ea]
          have wc := ow.count
          have keep : (gr = false → tau ≤ W.length ∧ ∀ p' s', (p' < p ∨ (p' = p ∧ s' < s)) → s' < mm.many → (nextsM mm kinds ways p' s').any (goesOn kinds wanted barred W) = true → (p', s') ∈ W) → (nx.any (goesOn kinds wanted barred W) = true → (p, s) ∈ W) → (gr = false → tau ≤ W.length ∧ ∀ p' s', (p' < p ∨ (p' = p ∧ s' < s + 1)) → s' < mm.many → (nextsM mm kinds ways p' s').any (goesOn kinds wanted barred W) = true → (p', s') ∈ W) := by
            intro w1 w2 hg
            refine ⟨(w1 hg).1, fun p' s' hps hs' ha => ?_⟩
            by_cases c : p' < p ∨ (p' = p ∧ s' < s)
            · exact (w1 hg).2 p' s' c hs' ha
            · have e1 : p' = p := by omega
              have e2 : s' = s := by omega
              subst e1 e2
              rw [hnx] at ha
              exact w2 ha
          cases ca : nx.any (goesOn kinds wanted barred W) with
          | false =>
            exact iteF (iteF ⟨W, gr, G5, ow, wg, keep wn (fun h => by rw [ca] at h; cases h), _, _, _, _, _, _, rfl⟩)
          | true =>
            refine iteT ⟨_, rfl, _, rfl, by show 2 ≤ sizeLine; decide, fun b1 nb1 => ⟨_, rfl, ?_⟩⟩
            have G7 := G5.step (Same.new (o := .tup [nv p, nv s]) nb1)
            obtain ⟨kvs, g1, kw⟩ := G7.dict
            refine ⟨ad, _, rfl, DGet.t (k := kOf (p, s)) g1 upd_same, _, rfl, ?_⟩
            rw [kw.mem]
            by_cases c2 : (p, s) ∈ W
            · rw [decide_eq_true c2]
              exact iteF ⟨W, gr, G7, ow, wg, keep wn (fun _ => c2), _, _, _, _, _, _, rfl⟩
            · rw [decide_eq_false c2]
              refine iteT ⟨_, rfl, _, rfl, _, rfl, by show 2 ≤ sizeLine; decide, fun b2 nb2 => ?_⟩
              obtain ⟨kvs2, g1, g2, g3⟩ := (G7.step (Same.new (o := .tup [nv p, nv s]) nb2)).put c2 (by omega)
              refine ⟨ad, _, rfl, DPut.t (k := kOf (p, s)) g1 upd_same g2, ?_⟩
              refine ⟨W ++ [(p, s)], true, g3 _, ow.snoc c2 (onp ca), fun _ => ?_, fun h => (by cases h), _, _, _, _, _, _, rfl⟩
              rw [List.length_append]
              show tau + 1 ≤ W.length + 1
              cases gr with
              | false => have := (wn rfl).1; omega
              | true => have := wg rfl; omega
      · rintro σ H4 ⟨W, gr, G, ow, wg, wn, f, g, h, i, j, l, rfl⟩
        exact ⟨W, gr, G, ow, wg, fun hg => ⟨(wn hg).1, fun p' s' hp' hs' => (wn hg).2 p' s' (by omega) hs'⟩, _, _, _, _, _, _, _, rfl⟩
    · rintro σ H3 ⟨W, gr, G, ow, wg, wn, e, f, g, h, i, j, l, rfl⟩
      refine ⟨_, rfl, gr, rfl, ?_⟩
      cases gr with
      | true =>
        exact iteF ⟨W, G, ow, wg rfl, _, _, _, _, _, _, _, _, _, rfl⟩
      | false =>
        obtain ⟨kvs, g1, kw⟩ := G.dict
        refine iteT ⟨_, rfl, qq ad kvs _ G.same G.nd g1 fun p s => ?_⟩
        show (valV kvs (kOf (p, s))).isSome = true ↔ _
        rw [kw.mem, decide_eq_true_eq]
        exact ⟨fun h => ow.on _ h, fun h => on_closed (fun p' s' hp' hs' ha => (wn rfl).2 p' s' hp' hs' ha) h⟩
  · rintro σ H2 ⟨W, G, ow, wt, _⟩
    exfalso
    have := ow.count
    omega
end NB
set_option pp.maxSteps 900
set_option Elab.async false
set_option linter.all false
set_option maxRecDepth 100000
set_option maxHeartbeats 4000000
namespace NB
open PySem PyProof.Rows L2
local macro_rules | `(tactic| walk_at "rd") => `(tactic| dsimp only [De, tSeq, tNext, tAsg, tIfS, tRet, tRetN, tDrop, tBreak, tCont, tAug, ipI, gName, gNil, gCons, gTup, gSub, tVar, tC, tOp, tUn, tTest, tB, tTru, tNot, tAnd, tOr, tNotV, tAndV, tOrV, tChain, tCons, tNil, tCB, tCall, tMeth, tMake, tTup, tLst, tFld, sFld, tDGet, tDIn, tDNotIn, sDPut, tDNewK, tDNewT, tBM, tBM0, tSl, tPart, tNoPart, tYes, iList, iTup, iRng1, iRng2, iEnum, iEnumT, iSeq, RZ.iZipA, rMaxT, rRepA, rIn, tLstRg, tRg1, tRevT, rI0, rI, rU, rAddI, rSubI, rMulI, rDivI, rModI, rPowI, rShlI, rShrI, rAndI, rOrI, rLtI, rLeI, rGtI, rGeI, rNegI, rInvI, rEq, rNe, rLenS, rListS, rTupleS, rInt1, rBool1, rStrI, rAbsI, rAll, rAny, rAppend, rExtend, rPopAt, rRep, rIxL, rIxT, rSetL, rSlL, rSlA, rCatA, rEqD, rNeD, List.cons_append, List.nil_append, List.append_nil])
local macro_rules | `(tactic| walk_at "rs") => `(tactic| dsimp only [De, tSeq, tNext, tAsg, tIfS, tRet, tRetN, tDrop, tBreak, tCont, tAug, ipI, gName, gNil, gCons, gTup, gSub, tVar, tC, tOp, tUn, tTest, tB, tTru, tNot, tAnd, tOr, tNotV, tAndV, tOrV, tChain, tCons, tNil, tCB, tCall, tMeth, tMake, tTup, tLst, tFld, sFld, tDGet, tDIn, tDNotIn, sDPut, tDNewK, tDNewT, tBM, tBM0, tSl, tPart, tNoPart, tYes, iList, iTup, iRng1, iRng2, iEnum, iEnumT, iSeq, RZ.iZipA, rMaxT, rRepA, rIn, tLstRg, tRg1, tRevT, rI0, rI, rU, rAddI, rSubI, rMulI, rDivI, rModI, rPowI, rShlI, rShrI, rAndI, rOrI, rLtI, rLeI, rGtI, rGeI, rNegI, rInvI, rEq, rNe, rLenS, rListS, rTupleS, rInt1, rBool1, rStrI, rAbsI, rAll, rAny, rAppend, rExtend, rPopAt, rRep, rIxL, rIxT, rSetL, rSlL, rCatA, rEqD, rNeD, List.cons_append, List.nil_append, List.append_nil])
theorem sc_law_looking : FnScope ["_law_machine_here", "_law_kinds", "_law_ways", "_law_wanted", "_law_barred", "_law_far_here", "_law_on_here", "_law_found", "_law_place", "_law_state"] ["_law_machine_here", "_law_kinds", "_law_ways", "_law_wanted", "_law_barred"] (defScope s_law_looking) := ⟨rfl, rfl, rfl, by decide +kernel, rfl, by decide +kernel, by decide +kernel⟩
def t_law_looking (K : PySem.W.Frag) : TS :=
  (tSeq (tAsg (tCall (sp_law_far K) [] E0 (tCons (tVar 0) (tCons (tVar 1) (tCons (tVar 2) tNil)))) (gName 5))
    (tSeq (tAsg (tCall (sp_law_on K) [] E0 (tCons (tVar 0) (tCons (tVar 1) (tCons (tVar 2) (tCons (tVar 3) (tCons (tVar 4) tNil)))))) (gName 6))
    (tSeq (tAsg (tLst tNil) (gName 7))
    (tSeq (tFor (iRng1 (tCons (tCB (rLenS K) (tCons (tVar 1) tNil)) tNil)) (gName 8) (tIfS (tB (tCB (rAny K) (tCons (tLc (iRng1 (tCons (tOp (rIxT K) (tVar 0) (tC (.int 0))) tNil)) (gName 9) tYes (tAndV (tDIn (tTup (tCons (tVar 8) (tCons (tVar 9) tNil))) (tVar 5)) (tDIn (tTup (tCons (tVar 8) (tCons (tVar 9) tNil))) (tVar 6))) [9]) tNil))) (tDrop (tBM K "list" rAppend (tVar 7) (tCons (tVar 8) tNil))) tNext))
    (tRet (tVar 7))))))
theorem rd_law_looking {K : Frag} {mg : Str → Option Value} (T : Txt K mg) {m k w wd bd : V} {H : Hp} {Q : VK} (h : ph_law_looking K m k w wd bd H Q) : t_law_looking K (De Q) [some m, some k, some w, some wd, some bd, none, none, none, none, none] H := by
  obtain ⟨exits, mm, kinds, ways, wanted, barred, S, hwd, hbd, q⟩ := h
  have qq : ∀ (a : Addr) (l : List Nat) H', Same H H' → H a = none → H' a = some (.lst (l.map nv)) → l.Pairwise (· < ·) → (∀ p, p ∈ l ↔ LooksOn mm kinds ways wanted barred p) → Q (.ref a) H' := q
  obtain ⟨am, sm, tm, rfl, ham, M2, M3⟩ := mach_inv S.mach
  obtain ⟨ak, rfl, hak⟩ := S.kind.lot
  have k12 := S.pok.hi
  have m3 := S.mok.hi
  unfold t_law_looking
  walk_at "rs"
  refine ⟨_, rfl, _, rfl, _, rfl, exits, mm, kinds, ways, S, fun aF kF H1 s1 n1 hF fF => ?_⟩
  refine ⟨_, rfl, _, rfl, _, rfl, _, rfl, _, rfl, exits, mm, kinds, ways, wanted, barred, S.same s1, hwd.same s1, hbd.same s1, fun aO kO H2 s2 n2 hO fO => ?_⟩
  have hF2 := s2 _ _ hF
  have s02 := s1.trans s2
  refine ⟨Nat.zero_le _, fun l nl => ?_⟩
  have R0 := RD.start nl
  generalize upd H2 l (.lst []) = H3 at R0 ⊢
  refine ⟨_, rfl, ak, _, rfl, .inr (SqT.of (R0.same _ _ (s02 _ _ hak))), _, rfl, by rw [List.length_map]; omega, by rw [List.length_map]; omega, ?_⟩
  rw [List.length_map, Int.toNat_natCast]
  refine for_range (fun i σ H' => ∃ f : List Nat, RD H2 H' l (f.map eN) ∧ f.Pairwise (· < ·) ∧ (∀ x ∈ f, x < i) ∧ (∀ p, p < i → (p ∈ f ↔ LooksOn mm kinds ways wanted barred p)) ∧ ∃ c d, σ = [some (.ref am), some (.ref ak), some w, some wd, some bd, some (.ref aF), some (.ref aO), some (.ref l), c, d]) ⟨[], R0, .nil, fun x h => (by cases h), fun p h => absurd h (Nat.not_lt_zero _), _, _, rfl⟩ ?_ ?_
  · rintro i σ H4 hi ⟨f, R, fp, fl, fi, c, d, rfl⟩
    rw [Int.zero_add]
    refine ⟨_, rfl, am, _, _, _, rfl, rfl, SqT.of (R.same _ _ (s02 _ _ ham)), atI_nat (j := 0) rfl, _, rfl, by omega, by omega, fun Dl nD => ?_⟩
    rw [Int.toNat_natCast]
    have hF4 := R.same _ _ hF2
    have hO4 := R.same _ _ hO
    refine lc_bools walk_range nD ((List.range mm.many).map fun s => (valV kF (kOf (i, s))).isSome && (valV kO (kOf (i, s))).isSome) (by simp) (by omega) (fun _ _ => trivial) ?_ ?_
    · rintro s b x H5 H6 Kk hb s5 ⟨rfl, rfl⟩ hK
      have eb : b = ((valV kF (kOf (i, s))).isSome && (valV kO (kOf (i, s))).isSome) := by
        rw [List.getElem?_map] at hb
        have hs : s < mm.many := by
          apply Decidable.byContradiction
          intro c2
          rw [List.getElem?_eq_none (by rw [List.length_range]; omega)] at hb
          cases hb
        rw [List.getElem?_range hs] at hb
        exact (Option.some.inj hb).symm
      dsimp only
      rw [Int.zero_add]
      refine ⟨rfl, _, rfl, _, rfl, by show 2 ≤ sizeLine; decide, fun b1 nb1 => ⟨_, rfl, aF, _, rfl, DGet.t (k := kOf (i, s)) (Same.new nb1 _ _ (s5 _ _ hF4)) upd_same, _, rfl, ?_⟩⟩
      have sb1 : Same H6 (upd H6 b1 (.tup [nv i, nv s])) := Same.new nb1
      cases cF : (valV kF (kOf (i, s))).isSome with
      | false =>
        rw [cF] at eb
        subst eb
        exact iteF (hK _ sb1)
      | true =>
        rw [cF] at eb
        refine iteT ⟨_, rfl, _, rfl, by show 2 ≤ sizeLine; decide, fun b2 nb2 => ⟨_, rfl, aO, _, rfl, DGet.t (k := kOf (i, s)) (Same.new nb2 _ _ (sb1 _ _ (s5 _ _ hO4))) upd_same, ?_⟩⟩
        rw [Bool.true_and] at eb
        subst eb
        exact hK _ (sb1.snew nb2)
    · intro H5 s5 hD
      refine ⟨Dl, _, rfl, SqL.of hD, _, rfl, ?_⟩
      have R5 := R.step s5
      have hany : (((List.range mm.many).map fun s => (valV kF (kOf (i, s))).isSome && (valV kO (kOf (i, s))).isSome).any id = true) ↔ LooksOn mm kinds ways wanted barred i := by
        rw [List.any_map, List.any_eq_true]
        constructor
        · rintro ⟨s, hs, h⟩
          have h : ((valV kF (kOf (i, s))).isSome && (valV kO (kOf (i, s))).isSome) = true := h
          rw [Bool.and_eq_true] at h
          exact ⟨s, (fF i s).mp h.1, (fO i s).mp h.2⟩
        · rintro ⟨s, h1, h2⟩
          refine ⟨s, List.mem_range.mpr h2.lt.2, ?_⟩
          show ((valV kF (kOf (i, s))).isSome && (valV kO (kOf (i, s))).isSome) = true
          rw [Bool.and_eq_true]
          exact ⟨(fF i s).mpr h1, (fO i s).mpr h2⟩
      have fll : f.length ≤ 12 := Nat.le_trans (Lot.len (m := kinds.length) ⟨fp, fun x hx => by have := fl x hx; omega⟩) k12
      by_cases c1 : LooksOn mm kinds ways wanted barred i
      · rw [hany.mpr c1]
        obtain ⟨xs, k1, k2, k3⟩ := R5.app (.int (i : Int)) (by rw [List.length_map]; omega)
        refine iteT ⟨_, rfl, .inl ⟨rfl, _, SqL.of k1⟩, _, rfl, l, xs, _, rfl, rfl, k1, k2, f ++ [i], by rw [List.map_append]; exact k3, ?_, ?_, ?_, _, _, rfl⟩
        · rw [List.pairwise_append]
          exact ⟨fp, List.pairwise_singleton _ _, fun x hx y hy => by cases List.mem_singleton.mp hy; exact fl x hx⟩
        · intro x hx
          rcases List.mem_append.mp hx with hx | hx
          · have := fl x hx; omega
          · cases List.mem_singleton.mp hx; omega
        · intro p hp
          by_cases c2 : p < i
          · rw [← fi p c2, List.mem_append]
            exact ⟨fun h => h.elim id fun h => by cases List.mem_singleton.mp h; omega, .inl⟩
          · rw [show p = i by omega]
            exact ⟨fun _ => c1, fun _ => List.mem_append_right _ (List.mem_singleton.mpr rfl)⟩
      · have hf : ((List.range mm.many).map fun s => (valV kF (kOf (i, s))).isSome && (valV kO (kOf (i, s))).isSome).any id = false := by
          cases e : ((List.range mm.many).map fun s => (valV kF (kOf (i, s))).isSome && (valV kO (kOf (i, s))).isSome).any id with
          | false => rfl
          | true => exact absurd (hany.mp e) c1
        rw [hf]
        refine iteF ⟨f, R5, fp, fun x hx => by have := fl x hx; omega, fun p hp => ?_, _, _, rfl⟩
        by_cases c2 : p < i
        · exact fi p c2
        · rw [show p = i by omega]
          exact ⟨fun h => absurd (fl i h) (Nat.lt_irrefl _), fun h => absurd h c1⟩
  · rintro σ H4 ⟨f, R, fp, fl, fi, c, d, rfl⟩
    obtain ⟨xs, h1, h2⟩ := R.ex
    rw [h2.nats] at h1
    refine ⟨_, rfl, qq l f _ (s02.trans R.same) (s02.free R.new) h1 fp fun p => ?_⟩
    by_cases c2 : p < kinds.length
    · exact fi p c2
    · constructor
      · exact fun h => absurd (fl p h) c2
      · rintro ⟨s, _, h⟩
        exact absurd h.lt.1 c2
end NB
set_option pp.maxSteps 900
set_option Elab.async false
set_option linter.all false
set_option maxRecDepth 100000
set_option maxHeartbeats 4000000
namespace NB
open PySem PyProof.Rows L2
local macro_rules | `(tactic| walk_at "rd") => `(tactic| dsimp only [De, tSeq, tNext, tAsg, tIfS, tRet, tRetN, tDrop, tBreak, tCont, tAug, ipI, gName, gNil, gCons, gTup, gSub, tVar, tC, tOp, tUn, tTest, tB, tTru, tNot, tAnd, tOr, tNotV, tAndV, tOrV, tChain, tCons, tNil, tCB, tCall, tMeth, tMake, tTup, tLst, tFld, sFld, tDGet, tDIn, tDNotIn, sDPut, tDNewK, tDNewT, tBM, tBM0, tSl, tPart, tNoPart, tYes, iList, iTup, iRng1, iRng2, iEnum, iEnumT, iSeq, RZ.iZipA, rMaxT, rRepA, rIn, tLstRg, tRg1, tRevT, rI0, rI, rU, rAddI, rSubI, rMulI, rDivI, rModI, rPowI, rShlI, rShrI, rAndI, rOrI, rLtI, rLeI, rGtI, rGeI, rNegI, rInvI, rEq, rNe, rLenS, rListS, rTupleS, rInt1, rBool1, rStrI, rAbsI, rAll, rAny, rAppend, rExtend, rPopAt, rRep, rIxL, rIxT, rSetL, rSlL, rSlA, rCatA, rEqD, rNeD, List.cons_append, List.nil_append, List.append_nil])
local macro_rules | `(tactic| walk_at "rs") => `(tactic| dsimp only [De, tSeq, tNext, tAsg, tIfS, tRet, tRetN, tDrop, tBreak, tCont, tAug, ipI, gName, gNil, gCons, gTup, gSub, tVar, tC, tOp, tUn, tTest, tB, tTru, tNot, tAnd, tOr, tNotV, tAndV, tOrV, tChain, tCons, tNil, tCB, tCall, tMeth, tMake, tTup, tLst, tFld, sFld, tDGet, tDIn, tDNotIn, sDPut, tDNewK, tDNewT, tBM, tBM0, tSl, tPart, tNoPart, tYes, iList, iTup, iRng1, iRng2, iEnum, iEnumT, iSeq, RZ.iZipA, rMaxT, rRepA, rIn, tLstRg, tRg1, tRevT, rI0, rI, rU, rAddI, rSubI, rMulI, rDivI, rModI, rPowI, rShlI, rShrI, rAndI, rOrI, rLtI, rLeI, rGtI, rGeI, rNegI, rInvI, rEq, rNe, rLenS, rListS, rTupleS, rInt1, rBool1, rStrI, rAbsI, rAll, rAny, rAppend, rExtend, rPopAt, rRep, rIxL, rIxT, rSetL, rSlL, rCatA, rEqD, rNeD, List.cons_append, List.nil_append, List.append_nil])
theorem sc_law_hand : FnScope ["_law_script", "_law_cells", "_law_cell"] ["_law_script"] (defScope s_law_hand) := ⟨rfl, rfl, rfl, by decide +kernel, rfl, by decide +kernel, by decide +kernel⟩
def t_law_hand (K : PySem.W.Frag) : TS :=
  (tSeq (tAsg (tLc (iList K (tSl (rSlL K) (tVar 0) tNoPart (tPart (tC (.int 63))))) (gName 2) tYes (tCB rAbsI (tCons (tCB rInt1 (tCons (tVar 2) tNil)) tNil)) [2]) (gName 1))
    (tRet (tLst (tCons (tVar 1) (tCons (tC (.int 0)) (tCons (tC (.int 0)) (tCons (tOp rAddI (tC (.int 1)) (tCB (rLenS K) (tCons (tVar 1) tNil))) (tCons (tC (.int 0)) tNil))))))))
theorem sc_law_draw : FnScope ["_law_hand_here", "_law_many", "_law_cell", "_law_digit", "_law_number"] ["_law_hand_here", "_law_many"] (defScope s_law_draw) := ⟨rfl, rfl, rfl, by decide +kernel, rfl, by decide +kernel, by decide +kernel⟩
def t_law_draw (K : PySem.W.Frag) : TS :=
  (tSeq (tIfS (tAnd (tTest (tOp rEq (tOp (rIxL K) (tVar 0) (tC (.int 2))) (tC (.int 0)))) (tTest (tOp rLtI (tOp (rIxL K) (tVar 0) (tC (.int 1))) (tCB (rLenS K) (tCons (tOp (rIxL K) (tVar 0) (tC (.int 0))) tNil))))) (tSeq (tAsg (tOp (rIxL K) (tOp (rIxL K) (tVar 0) (tC (.int 0))) (tOp (rIxL K) (tVar 0) (tC (.int 1)))) (gName 2))
    (tSeq (tAsg (tOp rAddI (tOp (rIxL K) (tVar 0) (tC (.int 1))) (tC (.int 1))) (gSub (tVar 0) (tC (.int 1)) rSetL))
    (tSeq (tAsg (tOp rModI (tCB rInt1 (tCons (tOp rAddI (tOp rAddI (tOp rMulI (tOp (rIxL K) (tVar 0) (tC (.int 3))) (tC (.int 69621))) (tVar 2)) (tC (.int 11))) tNil)) (tC (.int 2147483629))) (gSub (tVar 0) (tC (.int 3)) rSetL))
    (tIfS (tTest (tOp rGeI (tVar 2) (tOp rPowI (tC (.int 10)) (tC (.int 18))))) (tAsg (tVar 2) (gSub (tVar 0) (tC (.int 2)) rSetL)) tNext)))) tNext)
    (tSeq (tIfS (tTest (tOp rGtI (tOp (rIxL K) (tVar 0) (tC (.int 2))) (tC (.int 0)))) (tSeq (tAsg (tOp rModI (tCB rInt1 (tCons (tOp (rIxL K) (tVar 0) (tC (.int 2))) tNil)) (tVar 1)) (gName 3))
    (tSeq (tAsg (tOp rDivI (tOp (rIxL K) (tVar 0) (tC (.int 2))) (tVar 1)) (gSub (tVar 0) (tC (.int 2)) rSetL))
    (tRet (tVar 3)))) tNext)
    (tSeq (tAsg (tOp rAddI (tOp (rIxL K) (tVar 0) (tC (.int 4))) (tC (.int 1))) (gSub (tVar 0) (tC (.int 4)) rSetL))
    (tSeq (tAsg (tOp rModI (tCB rInt1 (tCons (tOp rMulI (tCB rInt1 (tCons (tOp rAddI (tOp (rIxL K) (tVar 0) (tC (.int 3))) (tOp rMulI (tC (.int 7919)) (tOp (rIxL K) (tVar 0) (tC (.int 4))))) tNil)) (tC (.int 48271))) tNil)) (tC (.int 2147483647))) (gName 4))
    (tSeq (tAsg (tOp rModI (tCB rInt1 (tCons (tOp rMulI (tVar 4) (tOp rAddI (tOp rDivI (tVar 4) (tC (.int 1009))) (tC (.int 69621)))) tNil)) (tC (.int 2147483647))) (gName 4))
    (tSeq (tAsg (tOp rModI (tCB rInt1 (tCons (tOp rMulI (tVar 4) (tOp rAddI (tOp rDivI (tVar 4) (tC (.int 2003))) (tC (.int 40692)))) tNil)) (tC (.int 2147483399))) (gName 4))
    (tRet (tOp rModI (tCB rInt1 (tCons (tOp rDivI (tVar 4) (tC (.int 16))) tNil)) (tVar 1)))))))))
theorem cut63 {xs : List V} (h : xs.length ≤ 63) : cutV xs none (some 63) = xs := by
  unfold cutV
  simp only [HT.sIx]
  rw [if_neg (by decide)]
  rw [show min (63 : Int).toNat xs.length = xs.length by have : (63 : Int).toNat = 63 := rfl; omega, Nat.sub_zero, List.drop_zero, List.take_length]
theorem rd_law_hand {K : Frag} {mg : Str → Option Value} (T : Txt K mg) {s : V} {H : Hp} {Q : VK} (h : ph_law_hand K s H Q) : t_law_hand K (De Q) [some s, none, none] H := by
  obtain ⟨a, ns, rfl, hs, hl, q⟩ := h
  unfold t_law_hand
  walk_at "rd"
  refine ⟨_, rfl, _, rfl, a, _, rfl, hs, fun p1 n1 => ?_⟩
  rw [cut63 (by rw [List.length_map]; exact hl)]
  have s1 : Same H (upd H p1 (.lst (ns.map V.int))) := Same.new n1
  have g1 : (upd H p1 (.lst (ns.map V.int))) p1 = some (.lst (ns.map V.int)) := upd_same
  generalize upd H p1 (.lst (ns.map V.int)) = H1 at s1 g1 ⊢
  refine ⟨p1, rfl, ⟨_, SqL.of g1⟩, fun Dl nD => ?_⟩
  refine lc_rel (walk_list (K := K) (a := p1) (xs := ns.map V.int)) nD (fun _ y _ => ∃ i, y = V.int i) (by rw [List.length_map]; omega) (fun _ _ _ _ _ _ _ h => h) (fun H' s => SqL.of (s _ _ g1)) ?_ ?_
  · rintro i x H2 H3 Kk hi s2 _ ⟨rfl, hx⟩ hK
    rw [List.getElem?_map] at hx
    cases c : ns[i]? with
    | none => rw [c] at hx; cases hx
    | some k =>
      rw [c] at hx; cases hx
      refine ⟨rfl, _, rfl, .inl ⟨_, rfl, _, rfl, hK _ _ (fun _ _ h => h) ⟨_, rfl⟩⟩⟩
  · intro H2 ys s2 hD hl2 hy
    have : ∃ cells : List Int, ys = cells.map V.int := by
      clear hD hl2
      induction ys with
      | nil => exact ⟨[], rfl⟩
      | cons y ys ih =>
        obtain ⟨i, rfl⟩ := hy 0 y rfl
        obtain ⟨cs, rfl⟩ := ih fun j z hz => hy (j + 1) z (by simpa using hz)
        exact ⟨i :: cs, rfl⟩
    obtain ⟨cells, rfl⟩ := this
    refine ⟨_, rfl, _, rfl, Dl, _, rfl, .inl (SqL.of hD), _, _, rfl, rfl, by show 5 ≤ sizeLine; decide, fun p np => ?_⟩
    refine q p _ ((s1.trans s2).snew np) ((s1.trans s2).free np) ⟨Dl, 0, 0, _, 0, cells, upd_same, ?_, Int.le_refl _, (ne_of_none hD np).symm⟩
    rw [upd_ne (ne_of_none hD np)]
    exact hD
/-- what stands of a hand at a -/
structure HandX (H0 H : Hp) (a c : Addr) (cells : List Int) (i dg s n : Int) : Prop where
  hb : HB a H0 H
  at' : H a = some (.lst [.ref c, .int i, .int dg, .int s, .int n])
  cell : H c = some (.lst (cells.map V.int))
  i0 : 0 ≤ i
  ne : a ≠ c
theorem HandX.hand {H0 H : Hp} {a c : Addr} {cells : List Int} {i dg s n : Int} (h : HandX H0 H a c cells i dg s n) : Hand H a := ⟨c, i, dg, s, n, cells, h.at', h.cell, h.i0, h.ne⟩
theorem HandX.upd {H0 H : Hp} {a c : Addr} {cells : List Int} {i dg s n i' dg' s' n' : Int} (h : HandX H0 H a c cells i dg s n) (hi : 0 ≤ i') : HandX H0 (L2.upd H a (.lst [.ref c, .int i', .int dg', .int s', .int n'])) a c cells i' dg' s' n' :=
  ⟨h.hb.trans ⟨SameBut.put, fun c' xs hc => by rw [h.at'] at hc; cases hc; exact ⟨_, upd_same⟩⟩, upd_same, by rw [upd_ne h.ne.symm]; exact h.cell, hi, h.ne⟩
theorem Hand.x {H : Hp} {a : Addr} (h : Hand H a) : ∃ c cells i dg s n, HandX H H a c cells i dg s n := by
  obtain ⟨c, i, dg, s, n, cells, h1, h2, h3, h4⟩ := h.ex
  exact ⟨c, cells, i, dg, s, n, HB.refl _ _, h1, h2, h3, h4⟩
def t_draw_rest (K : PySem.W.Frag) : TS :=
    (tSeq (tIfS (tTest (tOp rGtI (tOp (rIxL K) (tVar 0) (tC (.int 2))) (tC (.int 0)))) (tSeq (tAsg (tOp rModI (tCB rInt1 (tCons (tOp (rIxL K) (tVar 0) (tC (.int 2))) tNil)) (tVar 1)) (gName 3))
    (tSeq (tAsg (tOp rDivI (tOp (rIxL K) (tVar 0) (tC (.int 2))) (tVar 1)) (gSub (tVar 0) (tC (.int 2)) rSetL))
    (tRet (tVar 3)))) tNext)
    (tSeq (tAsg (tOp rAddI (tOp (rIxL K) (tVar 0) (tC (.int 4))) (tC (.int 1))) (gSub (tVar 0) (tC (.int 4)) rSetL))
    (tSeq (tAsg (tOp rModI (tCB rInt1 (tCons (tOp rMulI (tCB rInt1 (tCons (tOp rAddI (tOp (rIxL K) (tVar 0) (tC (.int 3))) (tOp rMulI (tC (.int 7919)) (tOp (rIxL K) (tVar 0) (tC (.int 4))))) tNil)) (tC (.int 48271))) tNil)) (tC (.int 2147483647))) (gName 4))
    (tSeq (tAsg (tOp rModI (tCB rInt1 (tCons (tOp rMulI (tVar 4) (tOp rAddI (tOp rDivI (tVar 4) (tC (.int 1009))) (tC (.int 69621)))) tNil)) (tC (.int 2147483647))) (gName 4))
    (tSeq (tAsg (tOp rModI (tCB rInt1 (tCons (tOp rMulI (tVar 4) (tOp rAddI (tOp rDivI (tVar 4) (tC (.int 2003))) (tC (.int 40692)))) tNil)) (tC (.int 2147483399))) (gName 4))
    (tRet (tOp rModI (tCB rInt1 (tCons (tOp rDivI (tVar 4) (tC (.int 16))) tNil)) (tVar 1))))))))
theorem draw_rest {K : Frag} {H0 H : Hp} {a c : Addr} {cells : List Int} {i dg s n : Int} {m : Nat} {x2 : Option V} {Q : VK} (hx : HandX H0 H a c cells i dg s n) (hm : 0 < m) (hm2 : m < 1000000) (q : ∀ (r : Nat) H', r < m → HB a H0 H' → Hand H' a → Q (nv r) H') :
    t_draw_rest K (De Q) [some (.ref a), some (nv m), x2, none, none] H := by
  have md : ∀ x : Int, ∃ r : Nat, r < m ∧ V.int (x % (m : Int)) = nv r := fun x => by
    have h1 := Int.emod_nonneg x (show (m : Int) ≠ 0 by omega)
    have h2 := Int.emod_lt_of_pos x (show (0 : Int) < m by omega)
    exact ⟨(x % (m : Int)).toNat, by omega, by show V.int _ = V.int _; congr 1; omega⟩
  unfold t_draw_rest
  walk_at "rd"
  refine ⟨_, rfl, a, _, _, _, rfl, rfl, SqL.of hx.at', atI_nat (j := 2) rfl, _, _, rfl, rfl, decide (0 < dg), rfl, ?_⟩
  by_cases cd : 0 < dg
  · rw [decide_eq_true cd]
    refine iteT ⟨_, rfl, a, _, _, _, rfl, rfl, SqL.of hx.at', atI_nat (j := 2) rfl, .inl ⟨_, rfl, _, rfl, _, _, rfl, rfl, by show (0 : Int) < _; omega, ?_⟩⟩
    obtain ⟨r, hr, er⟩ := md dg
    rw [er]
    refine ⟨_, rfl, a, _, _, _, rfl, rfl, SqL.of hx.at', atI_nat (j := 2) rfl, _, rfl, _, _, rfl, rfl, ⟨by omega, by omega⟩, _, rfl, a, _, _, _, rfl, rfl, hx.at', ixN_n (j := 2) (by show 2 < 5; decide), ?_⟩
    have h2 := hx.upd (i' := i) (dg' := dg / (m : Int)) (s' := s) (n' := n) hx.i0
    exact ⟨_, rfl, q r _ hr h2.hb h2.hand⟩
  · rw [decide_eq_false cd]
    refine iteF ?_
    refine ⟨_, rfl, a, _, _, _, rfl, rfl, SqL.of hx.at', atI_nat (j := 4) rfl, _, _, rfl, rfl, _, rfl, a, _, _, _, rfl, rfl, hx.at', ixN_n (j := 4) (by show 4 < 5; decide), ?_⟩
    have h2 := hx.upd (i' := i) (dg' := dg) (s' := s) (n' := n + 1) hx.i0
    have bnd : ∀ x : Int, 0 ≤ x % 2147483647 ∧ x % 2147483647 < 2147483647 := fun x => ⟨Int.emod_nonneg x (by decide), Int.emod_lt_of_pos x (by decide)⟩
    refine ⟨_, rfl, a, _, _, _, rfl, rfl, SqL.of h2.at', atI_nat (j := 3) rfl, _, rfl, a, _, _, _, rfl, rfl, SqL.of h2.at', atI_nat (j := 4) rfl, _, _, rfl, rfl, .inl (by decide), _, _, rfl, rfl, .inl ⟨_, rfl, _, _, rfl, rfl, .inr (by decide), .inl ⟨_, rfl, _, _, rfl, rfl, by show (0 : Int) < 2147483647; decide, ?_⟩⟩⟩
    have b1 := bnd ((s + 7919 * (n + 1)) * 48271)
    generalize ((s + 7919 * (n + 1)) * 48271) % 2147483647 = y1 at b1
    refine ⟨_, rfl, _, rfl, _, _, rfl, rfl, ⟨by decide, by decide⟩, _, _, rfl, rfl, _, _, rfl, rfl, .inl ⟨by omega, by omega⟩, .inl ⟨_, rfl, _, _, rfl, rfl, by show (0 : Int) < 2147483647; decide, ?_⟩⟩
    have b2 := bnd (y1 * (y1 / 1009 + 69621))
    generalize (y1 * (y1 / 1009 + 69621)) % 2147483647 = y2 at b2
    refine ⟨_, rfl, _, rfl, _, _, rfl, rfl, ⟨by decide, by decide⟩, _, _, rfl, rfl, _, _, rfl, rfl, .inl ⟨by omega, by omega⟩, .inl ⟨_, rfl, _, _, rfl, rfl, by show (0 : Int) < 2147483399; decide, ?_⟩⟩
    generalize (y2 * (y2 / 2003 + 40692)) % 2147483399 = y3
    refine ⟨_, rfl, _, _, rfl, rfl, ⟨by decide, by decide⟩, .inl ⟨_, rfl, _, rfl, _, _, rfl, rfl, by show (0 : Int) < _; omega, ?_⟩⟩
    obtain ⟨r, hr, er⟩ := md (y3 / 16)
    rw [er]
    exact q r _ hr h2.hb h2.hand
theorem rd_law_draw {K : Frag} {mg : Str → Option Value} (T : Txt K mg) {h m : V} {H : Hp} {Q : VK} (hh : ph_law_draw K h m H Q) : t_law_draw K (De Q) [some h, some m, none, none, none] H := by
  obtain ⟨a, n, rfl, hd, rfl, hn, hn2, q⟩ := hh
  obtain ⟨c, cells, i, dg, s, k, hx⟩ := hd.x
  have rest : ∀ {H' : Hp} {i dg s k : Int} {x2 : Option V}, HandX H H' a c cells i dg s k → t_draw_rest K (De Q) [some (.ref a), some (nv n), x2, none, none] H' := fun h => draw_rest h hn hn2 q
  unfold t_law_draw
  dsimp only [tSeq, tIfS, tAnd, tTest, tOp, tCB, tCons, tNil, tVar, tC, tAsg, gName, gSub, tNext, rIxL, rEq, rI, rI0, rInt1]
  refine ⟨_, rfl, a, _, _, _, rfl, rfl, SqL.of hx.at', atI_nat (j := 2) rfl, rfl, decide (V.int dg = V.int 0), rfl, ?_⟩
  by_cases c1 : dg = 0
  · rw [decide_eq_true (show V.int dg = V.int 0 by rw [c1])]
    refine iteT ⟨_, rfl, a, _, _, _, rfl, rfl, SqL.of hx.at', atI_nat (j := 1) rfl, _, rfl, a, _, _, _, rfl, rfl, SqL.of hx.at', atI_nat (j := 0) rfl, c, _, rfl, .inl (SqL.of hx.cell), _, _, rfl, rfl, decide (i < (((cells.map V.int).length : Nat) : Int)), rfl, ?_⟩
    by_cases c2 : i < (((cells.map V.int).length : Nat) : Int)
    · rw [decide_eq_true c2]
      have hi0 := hx.i0
      have hcell : atI (cells.map V.int) i = some (V.int (cells.getD i.toNat 0)) := by
        have e := atI_nat (xs := cells.map V.int) (j := i.toNat) (v := V.int (cells.getD i.toNat 0)) (by
          rw [List.getElem?_map, get_of (by rw [List.length_map] at c2; omega) 0]; rfl)
        rw [show ((i.toNat : Nat) : Int) = i by omega] at e
        exact e
      refine iteT ⟨_, rfl, a, _, _, _, rfl, rfl, SqL.of hx.at', atI_nat (j := 0) rfl, _, rfl, a, _, _, _, rfl, rfl, SqL.of hx.at', atI_nat (j := 1) rfl, c, _, _, _, rfl, rfl, SqL.of hx.cell, hcell, ?_⟩
      generalize cells.getD i.toNat 0 = cv
      refine ⟨_, rfl, a, _, _, _, rfl, rfl, SqL.of hx.at', atI_nat (j := 1) rfl, _, _, rfl, rfl, _, rfl, a, _, _, _, rfl, rfl, hx.at', ixN_n (j := 1) (by show 1 < 5; decide), ?_⟩
      have h2 := hx.upd (i' := i + 1) (dg' := dg) (s' := s) (n' := k) (by omega)
      refine ⟨_, rfl, a, _, _, _, rfl, rfl, SqL.of h2.at', atI_nat (j := 3) rfl, _, _, rfl, rfl, .inr (by decide), _, rfl, _, _, rfl, rfl, _, _, rfl, rfl, .inl ⟨_, rfl, _, _, rfl, rfl, by show (0 : Int) < 2147483629; decide, _, rfl, a, _, _, _, rfl, rfl, h2.at', ixN_n (j := 3) (by show 3 < 5; decide), ?_⟩⟩
      have h3 := h2.upd (i' := i + 1) (dg' := dg) (s' := (s * 69621 + cv + 11) % 2147483629) (n' := k) (by omega)
      refine ⟨_, rfl, _, _, rfl, rfl, ⟨by decide, by decide, by decide⟩, _, _, rfl, rfl, decide ((10 : Int) ^ (18 : Int).toNat ≤ cv), rfl, ?_⟩
      by_cases c3 : (10 : Int) ^ (18 : Int).toNat ≤ cv
      · rw [decide_eq_true c3]
        refine iteT ⟨_, rfl, _, rfl, a, _, _, _, rfl, rfl, h3.at', ixN_n (j := 2) (by show 2 < 5; decide), ?_⟩
        exact rest (h3.upd (i' := i + 1) (dg' := cv) (s' := (s * 69621 + cv + 11) % 2147483629) (n' := k) (by omega))
      · rw [decide_eq_false c3]
        exact iteF (rest h3)
    · rw [decide_eq_false c2]
      exact iteF (rest hx)
  · rw [decide_eq_false (show ¬ V.int dg = V.int 0 by intro z; injection z with z; exact c1 z)]
    exact iteF (iteF (rest hx))
end NB
set_option pp.maxSteps 900
set_option Elab.async false
set_option linter.all false
set_option maxRecDepth 100000
set_option maxHeartbeats 4000000
namespace NB
open PySem PyProof.Rows L2
local macro_rules | `(tactic| walk_at "rd") => `(tactic| dsimp only [De, tSeq, tNext, tAsg, tIfS, tRet, tRetN, tDrop, tBreak, tCont, tAug, ipI, gName, gNil, gCons, gTup, gSub, tVar, tC, tOp, tUn, tTest, tB, tTru, tNot, tAnd, tOr, tNotV, tAndV, tOrV, tChain, tCons, tNil, tCB, tCall, tMeth, tMake, tTup, tLst, tFld, sFld, tDGet, tDIn, tDNotIn, sDPut, tDNewK, tDNewT, tBM, tBM0, tSl, tPart, tNoPart, tYes, iList, iTup, iRng1, iRng2, iEnum, iEnumT, iSeq, RZ.iZipA, rMaxT, rRepA, rIn, tLstRg, tRg1, tRevT, rI0, rI, rU, rAddI, rSubI, rMulI, rDivI, rModI, rPowI, rShlI, rShrI, rAndI, rOrI, rLtI, rLeI, rGtI, rGeI, rNegI, rInvI, rEq, rNe, rLenS, rListS, rTupleS, rInt1, rBool1, rStrI, rAbsI, rAll, rAny, rAppend, rExtend, rPopAt, rRep, rIxL, rIxT, rSetL, rSlL, rSlA, rCatA, rEqD, rNeD, List.cons_append, List.nil_append, List.append_nil])
local macro_rules | `(tactic| walk_at "rs") => `(tactic| dsimp only [De, tSeq, tNext, tAsg, tIfS, tRet, tRetN, tDrop, tBreak, tCont, tAug, ipI, gName, gNil, gCons, gTup, gSub, tVar, tC, tOp, tUn, tTest, tB, tTru, tNot, tAnd, tOr, tNotV, tAndV, tOrV, tChain, tCons, tNil, tCB, tCall, tMeth, tMake, tTup, tLst, tFld, sFld, tDGet, tDIn, tDNotIn, sDPut, tDNewK, tDNewT, tBM, tBM0, tSl, tPart, tNoPart, tYes, iList, iTup, iRng1, iRng2, iEnum, iEnumT, iSeq, RZ.iZipA, rMaxT, rRepA, rIn, tLstRg, tRg1, tRevT, rI0, rI, rU, rAddI, rSubI, rMulI, rDivI, rModI, rPowI, rShlI, rShrI, rAndI, rOrI, rLtI, rLeI, rGtI, rGeI, rNegI, rInvI, rEq, rNe, rLenS, rListS, rTupleS, rInt1, rBool1, rStrI, rAbsI, rAll, rAny, rAppend, rExtend, rPopAt, rRep, rIxL, rIxT, rSetL, rSlL, rCatA, rEqD, rNeD, List.cons_append, List.nil_append, List.append_nil])
theorem sc_law_some : FnScope ["_law_hand_here", "_law_many", "_law_share", "_law_k"] ["_law_hand_here", "_law_many", "_law_share"] (defScope s_law_some) := ⟨rfl, rfl, rfl, by decide +kernel, rfl, by decide +kernel, by decide +kernel⟩
def t_law_some (K : PySem.W.Frag) : TS :=
  (tRet (tCB (rTupleS K) (tCons (tLc (iRng1 (tCons (tVar 1) tNil)) (gName 3) (tTest (tOp rEq (tCall (sp_law_draw K) [] E0 (tCons (tVar 0) (tCons (tVar 2) tNil))) (tC (.int 0)))) (tVar 3) [3]) tNil)))
theorem rd_law_some {K : Frag} {mg : Str → Option Value} (T : Txt K mg) {h m s : V} {H : Hp} {Q : VK} (hh : ph_law_some K h m s H Q) : t_law_some K (De Q) [some h, some m, some s, none] H := by
  obtain ⟨a, n, k, rfl, hd, rfl, hn, rfl, hk, hk2, q⟩ := hh
  unfold t_law_some
  walk_at "rd"
  refine ⟨_, rfl, _, rfl, by omega, by omega, fun Dl nD => ?_⟩
  refine lc_it walk_range (fun i H' => HS H H' a ∧ ∃ l, H' Dl = some (.lst (l.map nv)) ∧ l.Pairwise (· < ·) ∧ (∀ x ∈ l, x < i) ∧ l.length ≤ i) ⟨(HS.start hd).new nD, [], upd_same, List.Pairwise.nil, fun x h => (by cases h), Nat.le_refl _⟩ (fun _ _ _ _ => trivial) ?_ ?_
  · rintro i x H1 H2 hi ⟨hs, l, hD, lp, lt, ll⟩ ⟨rfl, rfl⟩
    have hi' : i < n := by omega
    dsimp only
    rw [Int.zero_add]
    refine ⟨rfl, _, rfl, _, rfl, a, k, rfl, hs.hand, rfl, hk, by omega, fun r H3 hr hb3 hd3 => ?_⟩
    have hs3 := hs.draw hb3 hd3
    have hD3 : H3 Dl = _ := hb3.1 Dl _ (fun z => by
      obtain ⟨c, i0, dg, s0, n0, cells, h1, h2, h3, h4⟩ := hs.hand.ex
      rw [z, h1] at hD
      cases l with
      | nil => cases hD
      | cons x r => cases hD) hD
    refine ⟨rfl, decide (r = 0), ?_, ?_⟩
    · show V.bl (decide (V.int (r : Int) = V.int 0)) = _
      congr 1
      by_cases c : r = 0
      · subst c; rfl
      · rw [decide_eq_false c]; exact decide_eq_false fun z => by injection z with z; omega
    · by_cases c : r = 0
      · rw [decide_eq_true c]
        refine iteT ⟨_, rfl, _, hD3, by rw [List.length_map]; exact smaller (by omega), hs3.mut nD, l ++ [i], by rw [upd_same, List.map_append]; rfl, ?_, ?_, by rw [List.length_append]; show l.length + 1 ≤ _; omega⟩
        · rw [List.pairwise_append]
          exact ⟨lp, List.pairwise_singleton _ _, fun x hx y hy => by cases List.mem_singleton.mp hy; exact lt x hx⟩
        · intro x hx
          rcases List.mem_append.mp hx with hx | hx
          · have := lt x hx; omega
          · cases List.mem_singleton.mp hx; omega
      · rw [decide_eq_false c]
        exact iteF ⟨hs3, l, hD3, lp, fun x hx => by have := lt x hx; omega, by omega⟩
  · rintro H1 ⟨hs, l, hD, lp, lt, ll⟩
    refine ⟨Dl, _, rfl, .inl ⟨SqL.of hD, fun t nt => ?_⟩⟩
    have hs2 := hs.new (o := .tup (l.map nv)) nt
    exact q l _ _ ⟨lp, fun x hx => by have := lt x hx; omega⟩ hs2.hb hs2.hand (Dt.of_lot upd_same)
end NB
set_option pp.maxSteps 900
set_option Elab.async false
set_option linter.all false
set_option maxRecDepth 100000
set_option maxHeartbeats 4000000
namespace NB
open PySem PyProof.Rows L2
local macro_rules | `(tactic| walk_at "rd") => `(tactic| dsimp only [De, tSeq, tNext, tAsg, tIfS, tRet, tRetN, tDrop, tBreak, tCont, tAug, ipI, gName, gNil, gCons, gTup, gSub, tVar, tC, tOp, tUn, tTest, tB, tTru, tNot, tAnd, tOr, tNotV, tAndV, tOrV, tChain, tCons, tNil, tCB, tCall, tMeth, tMake, tTup, tLst, tFld, sFld, tDGet, tDIn, tDNotIn, sDPut, tDNewK, tDNewT, tBM, tBM0, tSl, tPart, tNoPart, tYes, iList, iTup, iRng1, iRng2, iEnum, iEnumT, iSeq, RZ.iZipA, rMaxT, rRepA, rIn, tLstRg, tRg1, tRevT, rI0, rI, rU, rAddI, rSubI, rMulI, rDivI, rModI, rPowI, rShlI, rShrI, rAndI, rOrI, rLtI, rLeI, rGtI, rGeI, rNegI, rInvI, rEq, rNe, rLenS, rListS, rTupleS, rInt1, rBool1, rStrI, rAbsI, rAll, rAny, rAppend, rExtend, rPopAt, rRep, rIxL, rIxT, rSetL, rSlL, rSlA, rCatA, rEqD, rNeD, List.cons_append, List.nil_append, List.append_nil])
local macro_rules | `(tactic| walk_at "rs") => `(tactic| dsimp only [De, tSeq, tNext, tAsg, tIfS, tRet, tRetN, tDrop, tBreak, tCont, tAug, ipI, gName, gNil, gCons, gTup, gSub, tVar, tC, tOp, tUn, tTest, tB, tTru, tNot, tAnd, tOr, tNotV, tAndV, tOrV, tChain, tCons, tNil, tCB, tCall, tMeth, tMake, tTup, tLst, tFld, sFld, tDGet, tDIn, tDNotIn, sDPut, tDNewK, tDNewT, tBM, tBM0, tSl, tPart, tNoPart, tYes, iList, iTup, iRng1, iRng2, iEnum, iEnumT, iSeq, RZ.iZipA, rMaxT, rRepA, rIn, tLstRg, tRg1, tRevT, rI0, rI, rU, rAddI, rSubI, rMulI, rDivI, rModI, rPowI, rShlI, rShrI, rAndI, rOrI, rLtI, rLeI, rGtI, rGeI, rNegI, rInvI, rEq, rNe, rLenS, rListS, rTupleS, rInt1, rBool1, rStrI, rAbsI, rAll, rAny, rAppend, rExtend, rPopAt, rRep, rIxL, rIxT, rSetL, rSlL, rCatA, rEqD, rNeD, List.cons_append, List.nil_append, List.append_nil])
theorem sc_law_exits : FnScope ["_law_hand_here", "_law_kinds", "_law_most", "_law_rest", "_law_k", "_law_found"] ["_law_hand_here", "_law_kinds", "_law_most"] (defScope s_law_exits) := ⟨rfl, rfl, rfl, by decide +kernel, rfl, by decide +kernel, by decide +kernel⟩
def t_law_exits (K : PySem.W.Frag) : TS :=
  (tSeq (tAsg (tLst (tCons (tOp rAddI (tC (.int 1)) (tCall (sp_law_draw K) [] E0 (tCons (tVar 0) (tCons (tVar 2) tNil)))) tNil)) (gName 3))
    (tSeq (tFor (iRng1 (tCons (tCall (sp_law_draw K) [] E0 (tCons (tVar 0) (tCons (tVar 1) tNil))) tNil)) (gName 4) (tDrop (tBM K "list" rAppend (tVar 3) (tCons (tCall (sp_law_draw K) [] E0 (tCons (tVar 0) (tCons (tOp rAddI (tVar 2) (tC (.int 1))) tNil))) tNil))))
    (tSeq (tAsg (tLst tNil) (gName 5))
    (tSeq (tFor (iRng1 (tCons (tCB (rLenS K) (tCons (tVar 3) tNil)) tNil)) (gName 4) (tDrop (tBM K "list" rAppend (tVar 5) (tCons (tBM K "list" rPopAt (tVar 3) (tCons (tCall (sp_law_draw K) [] E0 (tCons (tVar 0) (tCons (tCB (rLenS K) (tCons (tVar 3) tNil)) tNil))) tNil)) tNil))))
    (tRet (tCB (rTupleS K) (tCons (tVar 5) tNil)))))))
theorem HS.free {H0 H : Hp} {a x : Addr} (h : HS H0 H a) (hx : H x = none) : H0 x = none := by
  obtain ⟨c, i, dg, s, n, cells, h1, _⟩ := h.hand.ex
  cases e : H0 x with
  | none => rfl
  | some o =>
    have : x ≠ a := fun z => by rw [z, h1] at hx; cases hx
    rw [h.hb.1 x o this e] at hx; cases hx
theorem HS.ne {H0 H : Hp} {a x : Addr} (h : HS H0 H a) (hx : H0 x = none) : x ≠ a := by
  obtain ⟨c, i, dg, s, n, cells, h1, _⟩ := h.hand0.ex
  intro z
  rw [z, h1] at hx; cases hx
theorem pop_nats : ∀ {l : List Nat} {k : Nat}, (l.map nv).eraseIdx k = (l.eraseIdx k).map nv
  | [], k => rfl
  | _ :: _, 0 => rfl
  | x :: l, k + 1 => by
    show nv x :: (l.map nv).eraseIdx k = nv x :: (l.eraseIdx k).map nv
    rw [pop_nats]
theorem seqI {n k : Nat} (h : k < n) : seqIndex? (k : Int) n = some k := (ixN_seq (ixN_n h)).1
theorem rd_law_exits {K : Frag} {mg : Str → Option Value} (T : Txt K mg) {h k m : V} {H : Hp} {Q : VK} (hh : ph_law_exits K h k m H Q) : t_law_exits K (De Q) [some h, some k, some m, none, none, none] H := by
  obtain ⟨a, rfl, hd, rfl, rfl, q⟩ := hh
  unfold t_law_exits
  walk_at "rd"
  refine ⟨_, rfl, _, rfl, a, 3, rfl, hd, rfl, by decide, by decide, fun r0 H1 hr0 hb1 hd1 => ?_⟩
  have hs1 := (HS.start hd).draw hb1 hd1
  refine ⟨_, _, rfl, rfl, by show 1 ≤ sizeLine; decide, fun lr nlr => ?_⟩
  have nlr0 := hs1.free nlr
  have hs2 := hs1.new (o := .lst [.int (1 + (r0 : Int))]) nlr
  have g2 : (upd H1 lr (.lst [.int (1 + (r0 : Int))])) lr = some (.lst ([1 + r0].map nv)) := by
    rw [upd_same]
    show some (HO.lst [V.int (1 + (r0 : Int))]) = some (HO.lst [V.int ((1 + r0 : Nat) : Int)])
    rw [show (1 + (r0 : Int)) = ((1 + r0 : Nat) : Int) by omega]
  generalize upd H1 lr (.lst [.int (1 + (r0 : Int))]) = H2 at hs2 g2 ⊢
  refine ⟨_, rfl, _, rfl, a, 4, rfl, hs2.hand, rfl, by decide, by decide, fun r1 H3 hr1 hb3 hd3 => ?_⟩
  have hs3 := hs2.draw hb3 hd3
  have g3 : H3 lr = _ := hb3.1 lr _ (hs1.ne nlr0) g2
  refine ⟨_, rfl, by omega, by omega, ?_⟩
  rw [Int.toNat_natCast]
  refine for_range (fun i σ H' => HS H H' a ∧ ∃ l : List Nat, H' lr = some (.lst (l.map nv)) ∧ l.length = 1 + i ∧ (∀ x ∈ l, x ≤ 3) ∧ ∃ c d, σ = [some (.ref a), some (nv 4), some (nv 3), some (.ref lr), c, d]) ⟨hs3, [1 + r0], g3, rfl, fun x hx => by cases List.mem_singleton.mp hx; omega, _, _, rfl⟩ ?_ ?_
  · rintro i σ H4 hi ⟨hs, l, hl, ll, lt, c, d, rfl⟩
    refine ⟨_, rfl, .inl ⟨rfl, _, SqL.of hl⟩, _, rfl, _, rfl, _, _, rfl, rfl, a, 4, rfl, hs.hand, rfl, by decide, by decide, fun r H5 hr hb5 hd5 => ?_⟩
    have hs5 := hs.draw hb5 hd5
    have hl5 : H5 lr = _ := hb5.1 lr _ (hs.ne nlr0) hl
    refine ⟨lr, _, _, rfl, rfl, hl5, by rw [List.length_map]; exact smaller (by omega), hs5.mut nlr0, l ++ [r], by rw [upd_same, List.map_append]; rfl, by rw [List.length_append]; show l.length + 1 = _; omega, fun x hx => ?_, _, _, rfl⟩
    rcases List.mem_append.mp hx with hx | hx
    · exact lt x hx
    · cases List.mem_singleton.mp hx; omega
  rintro σ H4 ⟨hs4, l, hl, ll, lt, c, d, rfl⟩
  refine ⟨Nat.zero_le _, fun lf nlf => ?_⟩
  have nlf0 := hs4.free nlf
  have hs5 := hs4.new (o := .lst []) nlf
  have g5 : (upd H4 lf (.lst [])) lf = some (.lst (([] : List Nat).map nv)) := upd_same
  have nfr : lf ≠ lr := (ne_of_none hl nlf).symm
  have hl5 : (upd H4 lf (.lst [])) lr = _ := Eq.trans (upd_ne nfr.symm) hl
  generalize upd H4 lf (.lst []) = H5 at hs5 g5 hl5 ⊢
  refine ⟨_, rfl, lr, _, rfl, .inl (SqL.of hl5), _, rfl, by rw [List.length_map]; omega, by rw [List.length_map]; omega, ?_⟩
  rw [Int.toNat_natCast, List.length_map]
  refine for_range (fun i σ H' => HS H H' a ∧ ∃ l2 f : List Nat, H' lr = some (.lst (l2.map nv)) ∧ H' lf = some (.lst (f.map nv)) ∧ l2.length + i = l.length ∧ f.length = i ∧ (∀ x ∈ l2, x ≤ 3) ∧ (∀ x ∈ f, x ≤ 3) ∧ ∃ c, σ = [some (.ref a), some (nv 4), some (nv 3), some (.ref lr), c, some (.ref lf)]) ⟨hs5, l, [], hl5, g5, rfl, rfl, lt, fun x hx => (by cases hx), _, rfl⟩ ?_ ?_
  · rintro i σ H6 hi ⟨hs, l2, f, h1, h2, e1, e2, lt1, lt2, c, rfl⟩
    refine ⟨_, rfl, .inl ⟨rfl, _, SqL.of h2⟩, _, rfl, .inl ⟨rfl, _, SqL.of h1⟩, _, rfl, _, rfl, lr, _, rfl, .inl (SqL.of h1), a, l2.length, rfl, hs.hand, by rw [List.length_map], by omega, by omega, fun r H7 hr hb7 hd7 => ?_⟩
    have hs7 := hs.draw hb7 hd7
    have k1 : H7 lr = _ := hb7.1 lr _ (hs.ne nlr0) h1
    have k2 : H7 lf = _ := hb7.1 lf _ (hs.ne nlf0) h2
    have hg : (l2.map nv)[r]? = some (nv (l2.getD r 0)) := nats_at hr
    refine ⟨lr, _, _, r, _, rfl, rfl, k1, by omega, by omega, seqI (by rw [List.length_map]; exact hr), hg, ?_⟩
    have hs8 := hs7.mut (o := .lst ((l2.map nv).eraseIdx r)) nlr0
    have m1 : (upd H7 lr (.lst ((l2.map nv).eraseIdx r))) lr = some (.lst ((l2.eraseIdx r).map nv)) := by rw [upd_same, pop_nats]
    have m2 : (upd H7 lr (.lst ((l2.map nv).eraseIdx r))) lf = _ := Eq.trans (upd_ne nfr) k2
    refine ⟨lf, _, _, rfl, rfl, m2, by rw [List.length_map]; exact smaller (by omega), hs8.mut nlf0, l2.eraseIdx r, f ++ [l2.getD r 0], Eq.trans (upd_ne nfr.symm) m1, by rw [upd_same, List.map_append]; rfl, by rw [List.length_eraseIdx_of_lt hr]; omega, by rw [List.length_append]; show f.length + 1 = _; omega, fun x hx => lt1 x (List.mem_of_mem_eraseIdx hx), fun x hx => ?_, _, rfl⟩
    rcases List.mem_append.mp hx with hx | hx
    · exact lt2 x hx
    · cases List.mem_singleton.mp hx
      exact lt1 _ (List.mem_of_getElem? (get_of hr 0))
  · rintro σ H6 ⟨hs, l2, f, h1, h2, e1, e2, lt1, lt2, c, rfl⟩
    refine ⟨_, rfl, lf, _, rfl, .inl ⟨SqL.of h2, fun t nt => ?_⟩⟩
    have hs7 := hs.new (o := .tup (f.map nv)) nt
    exact q f _ _ ⟨by omega, by omega, lt2⟩ hs7.hb hs7.hand (Dt.of_lot upd_same)
end NB
set_option pp.maxSteps 900
set_option Elab.async false
set_option linter.all false
set_option maxRecDepth 100000
set_option maxHeartbeats 4000000
namespace NB
open PySem PyProof.Rows L2
local macro_rules | `(tactic| walk_at "rd") => `(tactic| dsimp only [De, tSeq, tNext, tAsg, tIfS, tRet, tRetN, tDrop, tBreak, tCont, tAug, ipI, gName, gNil, gCons, gTup, gSub, tVar, tC, tOp, tUn, tTest, tB, tTru, tNot, tAnd, tOr, tNotV, tAndV, tOrV, tChain, tCons, tNil, tCB, tCall, tMeth, tMake, tTup, tLst, tFld, sFld, tDGet, tDIn, tDNotIn, sDPut, tDNewK, tDNewT, tBM, tBM0, tSl, tPart, tNoPart, tYes, iList, iTup, iRng1, iRng2, iEnum, iEnumT, iSeq, RZ.iZipA, rMaxT, rRepA, rIn, tLstRg, tRg1, tRevT, rI0, rI, rU, rAddI, rSubI, rMulI, rDivI, rModI, rPowI, rShlI, rShrI, rAndI, rOrI, rLtI, rLeI, rGtI, rGeI, rNegI, rInvI, rEq, rNe, rLenS, rListS, rTupleS, rInt1, rBool1, rStrI, rAbsI, rAll, rAny, rAppend, rExtend, rPopAt, rRep, rIxL, rIxT, rSetL, rSlL, rSlA, rCatA, rEqD, rNeD, List.cons_append, List.nil_append, List.append_nil])
local macro_rules | `(tactic| walk_at "rs") => `(tactic| dsimp only [De, tSeq, tNext, tAsg, tIfS, tRet, tRetN, tDrop, tBreak, tCont, tAug, ipI, gName, gNil, gCons, gTup, gSub, tVar, tC, tOp, tUn, tTest, tB, tTru, tNot, tAnd, tOr, tNotV, tAndV, tOrV, tChain, tCons, tNil, tCB, tCall, tMeth, tMake, tTup, tLst, tFld, sFld, tDGet, tDIn, tDNotIn, sDPut, tDNewK, tDNewT, tBM, tBM0, tSl, tPart, tNoPart, tYes, iList, iTup, iRng1, iRng2, iEnum, iEnumT, iSeq, RZ.iZipA, rMaxT, rRepA, rIn, tLstRg, tRg1, tRevT, rI0, rI, rU, rAddI, rSubI, rMulI, rDivI, rModI, rPowI, rShlI, rShrI, rAndI, rOrI, rLtI, rLeI, rGtI, rGeI, rNegI, rInvI, rEq, rNe, rLenS, rListS, rTupleS, rInt1, rBool1, rStrI, rAbsI, rAll, rAny, rAppend, rExtend, rPopAt, rRep, rIxL, rIxT, rSetL, rSlL, rCatA, rEqD, rNeD, List.cons_append, List.nil_append, List.append_nil])
theorem sc_law_starts : FnScope ["_law_hand_here", "_law_exits_here", "_law_many", "_law_begin", "_law_starts_here", "_law_kind", "_law_lot"] ["_law_hand_here", "_law_exits_here", "_law_many"] (defScope s_law_starts) := ⟨rfl, rfl, rfl, by decide +kernel, rfl, by decide +kernel, by decide +kernel⟩
def t_law_starts (K : PySem.W.Frag) : TS :=
  (tSeq (tAsg (tCall (sp_law_draw K) [] E0 (tCons (tVar 0) (tCons (tOp rAddI (tCB (rLenS K) (tCons (tVar 1) tNil)) (tC (.int 1))) tNil))) (gName 3))
    (tSeq (tAsg (tLst tNil) (gName 4))
    (tSeq (tFor (iRng1 (tCons (tCB (rLenS K) (tCons (tVar 1) tNil)) tNil)) (gName 5) (tSeq (tAsg (tCall (sp_law_some K) [] E0 (tCons (tVar 0) (tCons (tVar 2) (tCons (tC (.int 3)) tNil)))) (gName 6))
    (tSeq (tIfS (tAnd (tTest (tOp rEq (tVar 5) (tVar 3))) (tTest (tOp rEq (tCB (rLenS K) (tCons (tVar 6) tNil)) (tC (.int 0))))) (tAsg (tTup (tCons (tCall (sp_law_draw K) [] E0 (tCons (tVar 0) (tCons (tVar 2) tNil))) tNil)) (gName 6)) tNext)
    (tDrop (tBM K "list" rAppend (tVar 4) (tCons (tVar 6) tNil))))))
    (tRet (tCB (rTupleS K) (tCons (tVar 4) tNil))))))
/-- a new list of data at l -/
structure LD (H0 H : Hp) (l : Addr) (ds : List PyData) : Prop where
  new : H0 l = none
  ex : ∃ xs, H l = some (.lst xs) ∧ DtL H xs ds
theorem LD.keep {H0 H H' : Hp} {l : Addr} {ds : List PyData} (h : LD H0 H l ds) (k : ∀ o, H l = some o → H' l = some o) (im : Im H H') : LD H0 H' l ds := by
  obtain ⟨xs, h1, h2⟩ := h.ex
  exact ⟨h.new, xs, k _ h1, h2.im im⟩
theorem LD.same {H0 H H' : Hp} {l : Addr} {ds : List PyData} (h : LD H0 H l ds) (s : Same H H') : LD H0 H' l ds := h.keep (fun o e => s _ _ e) s.im
theorem LD.draw {H0 H H' : Hp} {a l : Addr} {ds : List PyData} (h : LD H0 H l ds) (hs : HS H0 H a) (hb : HB a H H') : LD H0 H' l ds := h.keep (fun o e => hb.1 _ _ (hs.ne h.new) e) (hb.1.im hs.hand)
theorem LD.app {H0 H : Hp} {l : Addr} {ds : List PyData} {v : V} {d : PyData} (h : LD H0 H l ds) (hv : Dt H v d) (hl : ds.length < 100000) : ∃ xs, H l = some (.lst xs) ∧ xs.length < sizeLine ∧ LD H0 (upd H l (.lst (xs ++ [v]))) l (ds ++ [d]) := by
  obtain ⟨xs, h1, h2⟩ := h.ex
  exact ⟨xs, h1, by rw [h2.length]; exact smaller hl, h.new, _, upd_same, (h2.snoc hv).im (Im.lst h1)⟩
theorem LD.mut {H0 H : Hp} {l l' : Addr} {ds : List PyData} {xs ys : List V} (h : LD H0 H l ds) (hl : H l' = some (.lst xs)) (ne : l ≠ l') : LD H0 (upd H l' (.lst ys)) l ds := h.keep (fun o e => by rw [upd_ne ne]; exact e) (Im.lst hl)
theorem rd_law_starts {K : Frag} {mg : Str → Option Value} (T : Txt K mg) {h x m : V} {H : Hp} {Q : VK} (hh : ph_law_starts K h x m H Q) : t_law_starts K (De Q) [some h, some x, some m, none, none, none, none] H := by
  obtain ⟨a, exits, n, rfl, hd, hx, xok, rfl, hn1, hn3, q⟩ := hh
  obtain ⟨ax, rfl, hax⟩ := hx.lot
  have x4 := xok.hi
  unfold t_law_starts
  walk_at "rd"
  refine ⟨_, rfl, _, rfl, ax, _, rfl, .inr (SqT.of hax), _, _, rfl, rfl, a, exits.length + 1, rfl, hd, ?_, by omega, by omega, fun bg H1 hbg hb1 hd1 => ?_⟩
  · rw [List.length_map]; rfl
  have hs1 := (HS.start hd).draw hb1 hd1
  refine ⟨Nat.zero_le _, fun l nl => ?_⟩
  have nl0 := hs1.free nl
  have hs2 := hs1.new (o := .lst []) nl
  have L2 : LD H (upd H1 l (.lst [])) l [] := ⟨nl0, [], upd_same, .nil⟩
  generalize upd H1 l (.lst []) = H2 at hs2 L2 ⊢
  have hax2 := hs2.im _ _ hax
  refine ⟨_, rfl, ax, _, rfl, .inr (SqT.of hax2), _, rfl, by rw [List.length_map]; omega, by rw [List.length_map]; omega, ?_⟩
  rw [Int.toNat_natCast, List.length_map]
  refine for_range (fun i σ H' => HS H H' a ∧ ∃ st : List (List Nat), LD H H' l (st.map eL) ∧ st.length = i ∧ (∀ x ∈ st, Lot n x) ∧ ∃ c d, σ = [some (.ref a), some (.ref ax), some (nv n), some (nv bg), some (.ref l), c, d]) ⟨hs2, [], L2, rfl, fun x hx => (by cases hx), _, _, rfl⟩ ?_ ?_
  · rintro i σ H3 hi ⟨hs, st, L3, el, lots, c, d, rfl⟩
    rw [Int.zero_add]
    refine ⟨_, rfl, _, rfl, a, n, 3, rfl, hs.hand, rfl, by omega, rfl, by decide, by decide, fun lot v H4 hlot hb4 hd4 hv => ?_⟩
    have hs4 := hs.draw hb4 hd4
    have L4 := L3.draw hs hb4
    obtain ⟨al, rfl, hal⟩ := hv.lot
    have fin : ∀ {H' : Hp} {v : V} {lot : List Nat}, HS H H' a → LD H H' l (st.map eL) → Dt H' v (eL lot) → Lot n lot → ∃ xs, H' l = some (.lst xs) ∧ xs.length < sizeLine ∧ HS H (upd H' l (.lst (xs ++ [v]))) a ∧ ∃ st : List (List Nat), LD H (upd H' l (.lst (xs ++ [v]))) l (st.map eL) ∧ st.length = i + 1 ∧ (∀ x ∈ st, Lot n x) ∧ ∃ c d, [some (V.ref a), some (.ref ax), some (nv n), some (nv bg), some (.ref l), some (nv i), some v] = [some (.ref a), some (.ref ax), some (nv n), some (nv bg), some (.ref l), c, d] := by
      intro H' v lot h1 h2 h3 h4
      obtain ⟨xs, k1, k2, k3⟩ := h2.app h3 (by rw [List.length_map]; omega)
      refine ⟨xs, k1, k2, h1.mut nl0, st ++ [lot], by rw [List.map_append]; exact k3, by rw [List.length_append]; show _ + 1 = _; omega, fun x hx => ?_, _, _, rfl⟩
      rcases List.mem_append.mp hx with hx | hx
      · exact lots x hx
      · cases List.mem_singleton.mp hx; exact h4
    refine ⟨_, rfl, _, rfl, rfl, decide (i = bg), ?_, ?_⟩
    · show V.bl (decide (V.int (i : Int) = V.int (bg : Int))) = _
      congr 1
      by_cases c : i = bg
      · subst c; simp
      · rw [decide_eq_false c]; exact decide_eq_false fun z => by injection z with z; omega
    by_cases c1 : i = bg
    · rw [decide_eq_true c1]
      refine iteT ⟨_, rfl, al, _, rfl, .inr (SqT.of hal), rfl, decide (lot.length = 0), ?_, ?_⟩
      · show V.bl (decide (V.int (((lot.map nv).length : Nat) : Int) = V.int 0)) = _
        rw [List.length_map]
        congr 1
        by_cases c : lot.length = 0
        · rw [c]; rfl
        · rw [decide_eq_false c]; exact decide_eq_false fun z => by injection z with z; omega
      by_cases c2 : lot.length = 0
      · rw [decide_eq_true c2]
        refine iteT ⟨_, rfl, _, rfl, a, n, rfl, hs4.hand, rfl, by omega, by omega, fun r H5 hr hb5 hd5 => ⟨by show 1 ≤ sizeLine; decide, fun p np => ?_⟩⟩
        have hs5 := hs4.draw hb5 hd5
        have L5 := L4.draw hs4 hb5
        have hs6 := hs5.new (o := .tup [nv r]) np
        have L6 := L5.same (Same.new (o := .tup [nv r]) np)
        obtain ⟨xs, k1, k2, k3⟩ := fin hs6 L6 (Dt.of_lot (l := [r]) upd_same) ⟨List.pairwise_singleton _ _, fun x hx => by cases List.mem_singleton.mp hx; exact hr⟩
        exact ⟨_, rfl, .inl ⟨rfl, _, SqL.of k1⟩, _, rfl, l, xs, _, rfl, rfl, k1, k2, k3⟩
      · rw [decide_eq_false c2]
        obtain ⟨xs, k1, k2, k3⟩ := fin hs4 L4 hv hlot
        exact iteF ⟨_, rfl, .inl ⟨rfl, _, SqL.of k1⟩, _, rfl, l, xs, _, rfl, rfl, k1, k2, k3⟩
    · rw [decide_eq_false c1]
      obtain ⟨xs, k1, k2, k3⟩ := fin hs4 L4 hv hlot
      exact iteF (iteF ⟨_, rfl, .inl ⟨rfl, _, SqL.of k1⟩, _, rfl, l, xs, _, rfl, rfl, k1, k2, k3⟩)
  · rintro σ H3 ⟨hs, st, L3, el, lots, c, d, rfl⟩
    obtain ⟨xs, h1, h2⟩ := L3.ex
    refine ⟨_, rfl, l, _, rfl, .inl ⟨SqL.of h1, fun t nt => ?_⟩⟩
    have hs7 := hs.new (o := .tup xs) nt
    exact q st _ _ ⟨el, lots⟩ hs7.hb hs7.hand (.tup upd_same (h2.same (Same.new nt)))
end NB
set_option pp.maxSteps 900
set_option Elab.async false
set_option linter.all false
set_option maxRecDepth 100000
set_option maxHeartbeats 4000000
namespace NB
open PySem PyProof.Rows L2
local macro_rules | `(tactic| walk_at "rd") => `(tactic| dsimp only [De, tSeq, tNext, tAsg, tIfS, tRet, tRetN, tDrop, tBreak, tCont, tAug, ipI, gName, gNil, gCons, gTup, gSub, tVar, tC, tOp, tUn, tTest, tB, tTru, tNot, tAnd, tOr, tNotV, tAndV, tOrV, tChain, tCons, tNil, tCB, tCall, tMeth, tMake, tTup, tLst, tFld, sFld, tDGet, tDIn, tDNotIn, sDPut, tDNewK, tDNewT, tBM, tBM0, tSl, tPart, tNoPart, tYes, iList, iTup, iRng1, iRng2, iEnum, iEnumT, iSeq, RZ.iZipA, rMaxT, rRepA, rIn, tLstRg, tRg1, tRevT, rI0, rI, rU, rAddI, rSubI, rMulI, rDivI, rModI, rPowI, rShlI, rShrI, rAndI, rOrI, rLtI, rLeI, rGtI, rGeI, rNegI, rInvI, rEq, rNe, rLenS, rListS, rTupleS, rInt1, rBool1, rStrI, rAbsI, rAll, rAny, rAppend, rExtend, rPopAt, rRep, rIxL, rIxT, rSetL, rSlL, rSlA, rCatA, rEqD, rNeD, List.cons_append, List.nil_append, List.append_nil])
local macro_rules | `(tactic| walk_at "rs") => `(tactic| dsimp only [De, tSeq, tNext, tAsg, tIfS, tRet, tRetN, tDrop, tBreak, tCont, tAug, ipI, gName, gNil, gCons, gTup, gSub, tVar, tC, tOp, tUn, tTest, tB, tTru, tNot, tAnd, tOr, tNotV, tAndV, tOrV, tChain, tCons, tNil, tCB, tCall, tMeth, tMake, tTup, tLst, tFld, sFld, tDGet, tDIn, tDNotIn, sDPut, tDNewK, tDNewT, tBM, tBM0, tSl, tPart, tNoPart, tYes, iList, iTup, iRng1, iRng2, iEnum, iEnumT, iSeq, RZ.iZipA, rMaxT, rRepA, rIn, tLstRg, tRg1, tRevT, rI0, rI, rU, rAddI, rSubI, rMulI, rDivI, rModI, rPowI, rShlI, rShrI, rAndI, rOrI, rLtI, rLeI, rGtI, rGeI, rNegI, rInvI, rEq, rNe, rLenS, rListS, rTupleS, rInt1, rBool1, rStrI, rAbsI, rAll, rAny, rAppend, rExtend, rPopAt, rRep, rIxL, rIxT, rSetL, rSlL, rCatA, rEqD, rNeD, List.cons_append, List.nil_append, List.append_nil])
theorem sc_law_steps : FnScope ["_law_hand_here", "_law_exits_here", "_law_many", "_law_share", "_law_steps_here", "_law_out", "_law_lots", "_law_k", "_law_codes", "_law_code"] ["_law_hand_here", "_law_exits_here", "_law_many", "_law_share"] (defScope s_law_steps) := ⟨rfl, rfl, rfl, by decide +kernel, rfl, by decide +kernel, by decide +kernel⟩
def t_law_steps (K : PySem.W.Frag) : TS :=
  (tSeq (tAsg (tLst tNil) (gName 4))
    (tSeq (tFor (iTup K (tVar 1)) (gName 5) (tSeq (tAsg (tLst tNil) (gName 6))
    (tSeq (tFor (iRng1 (tCons (tVar 5) tNil)) (gName 7) (tSeq (tAsg (tCall (sp_law_some K) [] E0 (tCons (tVar 0) (tCons (tOp rMulI (tVar 2) (tVar 2)) (tCons (tVar 3) tNil)))) (gName 8))
    (tDrop (tBM K "list" rAppend (tVar 6) (tCons (tCB (rTupleS K) (tCons (tLc (iTup K (tVar 8)) (gName 9) tYes (tTup (tCons (tOp rDivI (tVar 9) (tVar 2)) (tCons (tOp rModI (tCB rInt1 (tCons (tVar 9) tNil)) (tVar 2)) tNil))) [9]) tNil)) tNil)))))
    (tDrop (tBM K "list" rAppend (tVar 4) (tCons (tCB (rTupleS K) (tCons (tVar 6) tNil)) tNil))))))
    (tRet (tCB (rTupleS K) (tCons (tVar 4) tNil)))))
theorem sc_law_machine : FnScope ["_law_hand_here", "_law_exits_here", "_law_most", "_law_many", "_law_steps_here"] ["_law_hand_here", "_law_exits_here", "_law_most"] (defScope s_law_machine) := ⟨rfl, rfl, rfl, by decide +kernel, rfl, by decide +kernel, by decide +kernel⟩
def t_law_machine (K : PySem.W.Frag) : TS :=
  (tSeq (tAsg (tOp rAddI (tC (.int 1)) (tCall (sp_law_draw K) [] E0 (tCons (tVar 0) (tCons (tVar 2) tNil)))) (gName 3))
    (tSeq (tAsg (tCall (sp_law_steps K) [] E0 (tCons (tVar 0) (tCons (tVar 1) (tCons (tVar 3) (tCons (tOp rAddI (tC (.int 2)) (tCall (sp_law_draw K) [] E0 (tCons (tVar 0) (tCons (tC (.int 3)) tNil)))) tNil))))) (gName 4))
    (tRet (tTup (tCons (tVar 3) (tCons (tVar 4) (tCons (tCall (sp_law_starts K) [] E0 (tCons (tVar 0) (tCons (tVar 1) (tCons (tVar 3) tNil)))) tNil)))))))
theorem codes_plot {n : Nat} {codes : List Nat} (hn : 0 < n) (h : Lot (n * n) codes) : PLot n (codes.map fun c => (c / n, c % n)) := by
  refine ⟨?_, fun x hx => ?_⟩
  · rw [List.pairwise_map]
    refine h.1.imp fun {a b} r => ?_
    have h1 := Nat.div_add_mod a n
    have h2 := Nat.div_add_mod b n
    have h3 : a / n ≤ b / n := Nat.div_le_div_right (Nat.le_of_lt r)
    by_cases c : a / n < b / n
    · exact .inl c
    · have e : a / n = b / n := by omega
      refine .inr ⟨e, ?_⟩
      show a % n < b % n
      rw [e] at h1
      omega
  · obtain ⟨c, hc, rfl⟩ := List.mem_map.mp hx
    exact ⟨Nat.div_lt_of_lt_mul (h.2 c hc), Nat.mod_lt _ hn⟩
theorem rd_law_steps {K : Frag} {mg : Str → Option Value} (T : Txt K mg) {h x m s : V} {H : Hp} {Q : VK} (hh : ph_law_steps K h x m s H Q) : t_law_steps K (De Q) [some h, some x, some m, some s, none, none, none, none, none, none] H := by
  obtain ⟨a, exits, n, k, rfl, hd, hx, xok, rfl, hn1, hn3, rfl, hk0, hk1, q⟩ := hh
  obtain ⟨ax, rfl, hax⟩ := hx.lot
  have x4 := xok.hi
  have nn9 : n * n ≤ 9 := Nat.le_trans (Nat.mul_le_mul hn3 hn3) (by decide)
  unfold t_law_steps
  walk_at "rd"
  refine ⟨Nat.zero_le _, fun l nl => ?_⟩
  have hs2 := (HS.start hd).new (o := .lst []) nl
  have L2 : LD H (upd H l (.lst [])) l [] := ⟨nl, [], upd_same, .nil⟩
  generalize upd H l (.lst []) = H2 at hs2 L2 ⊢
  refine ⟨_, rfl, ax, rfl, ⟨_, SqT.of (hs2.im _ _ hax)⟩, ?_⟩
  refine for_tup (K := K) (xs := exits.map nv) (fun i σ H' => HS H H' a ∧ ∃ st : List (List (List (Nat × Nat))), LD H H' l (st.map (eT (eT eP))) ∧ st.length = i ∧ (∀ (k : Nat) l, st[k]? = some l → exits[k]? = some l.length) ∧ (∀ l ∈ st, ∀ q ∈ l, PLot n q) ∧ ∃ c d e f g, σ = [some (.ref a), some (.ref ax), some (nv n), some (nv k), some (.ref l), c, d, e, f, g]) ⟨hs2, [], L2, rfl, fun k l h => (by simp at h), fun x hx => (by cases hx), _, _, _, _, _, rfl⟩ (fun i σ H' _ p => SqT.of (p.1.im _ _ hax)) ?_ ?_
  · rintro i x σ H3 hi ⟨hs, st, L3, el, es, lots, c, d, e, f, g, rfl⟩
    obtain ⟨out, hout, rfl⟩ := of_getElem?_nats hi
    have o3 := xok.le out (List.mem_of_getElem? hout)
    have il : i < exits.length := (List.getElem?_eq_some_iff.mp hout).1
    refine ⟨Nat.zero_le _, fun lf nlf => ?_⟩
    have nlf0 := hs.free nlf
    have nfl : lf ≠ l := by
      obtain ⟨xs, h1, _⟩ := L3.ex
      exact (ne_of_none h1 nlf).symm
    have hs4 := hs.new (o := .lst []) nlf
    have L4 := L3.same (Same.new (o := .lst []) nlf)
    have F4 : LD H (upd H3 lf (.lst [])) lf [] := ⟨nlf0, [], upd_same, .nil⟩
    generalize upd H3 lf (.lst []) = H4 at hs4 L4 F4 ⊢
    refine ⟨_, rfl, _, rfl, by omega, by omega, ?_⟩
    rw [Int.toNat_natCast]
    refine for_range (fun j σ H' => HS H H' a ∧ LD H H' l (st.map (eT (eT eP))) ∧ ∃ fs : List (List (Nat × Nat)), LD H H' lf (fs.map (eT eP)) ∧ fs.length = j ∧ (∀ q ∈ fs, PLot n q) ∧ ∃ e f g, σ = [some (.ref a), some (.ref ax), some (nv n), some (nv k), some (.ref l), some (nv out), some (.ref lf), e, f, g]) ⟨hs4, L4, [], F4, rfl, fun x hx => (by cases hx), _, _, _, rfl⟩ ?_ ?_
    · rintro j σ H5 hj ⟨hs5, L5, fs, F5, ef, pl, e', f', g', rfl⟩
      rw [Int.zero_add]
      refine ⟨_, rfl, _, rfl, _, rfl, _, _, rfl, rfl, .inl ⟨by omega, by omega⟩, _, rfl, a, n * n, k, rfl, hs5.hand, rfl, by omega, rfl, hk0, hk1, fun codes v H6 hcodes hb6 hd6 hv => ?_⟩
      have hs6 := hs5.draw hb6 hd6
      have L6 := L5.draw hs5 hb6
      have F6 := F5.draw hs5 hb6
      obtain ⟨ac, rfl, hac⟩ := hv.lot
      have cl := hcodes.len
      obtain ⟨fx, hf1, hf2⟩ := F6.ex
      refine ⟨_, rfl, .inl ⟨rfl, _, SqL.of hf1⟩, _, rfl, ac, rfl, ⟨_, SqT.of hac⟩, fun Dl nD => ?_⟩
      refine lc_dt (walk_tup (K := K) (a := ac) (xs := codes.map nv)) nD (((codes.map fun c => (c / n, c % n)).map eP)) (by simp) (by rw [List.length_map]; omega) (fun H' s => SqT.of (s _ _ hac)) ?_ ?_
      · rintro i2 d2 x2 H8 H9 Kk hd2 s5 ⟨rfl, hx⟩ hK
        obtain ⟨cd, hcd, rfl⟩ := of_getElem?_nats hx
        have ed : d2 = eP (cd / n, cd % n) := by
          rw [List.getElem?_map, List.getElem?_map, hcd] at hd2
          exact (Option.some.inj hd2).symm
        subst ed
        refine ⟨rfl, _, rfl, _, rfl, _, _, rfl, rfl, ⟨by omega, by omega⟩, _, rfl, .inl ⟨_, rfl, _, rfl, _, _, rfl, rfl, by show (0 : Int) < _; omega, by show 2 ≤ sizeLine; decide, fun p np => ?_⟩⟩
        have e1 : ((cd : Nat) : Int) / ((n : Nat) : Int) = ((cd / n : Nat) : Int) := (Int.natCast_ediv cd n).symm
        have e2 : ((cd : Nat) : Int) % ((n : Nat) : Int) = ((cd % n : Nat) : Int) := (Int.natCast_emod cd n).symm
        show Kk (V.ref p) (upd H9 p (HO.tup [V.int ((cd : Int) / (n : Int)), V.int ((cd : Int) % (n : Int))]))
        rw [e1, e2]
        exact hK _ _ (Same.new np) (.tup upd_same (.cons (.int _) (.cons (.int _) .nil)))
      · intro H8 ys s8 hD hds
        have hs8 := hs6.same s8
        have L8 := L6.same s8
        have F8 := F6.same s8
        refine ⟨Dl, ys, rfl, .inl ⟨SqL.of hD, fun t nt => ?_⟩⟩
        have st : Same H8 (upd H8 t (.tup ys)) := Same.new nt
        have gt : Dt (upd H8 t (.tup ys)) (.ref t) (eT eP (codes.map fun c => (c / n, c % n))) := .tup upd_same (hds.same st)
        obtain ⟨xs, k1, k2, k3⟩ := (F8.same st).app gt (by rw [List.length_map]; omega)
        refine ⟨lf, xs, _, rfl, rfl, k1, k2, (hs8.same st).mut nlf0, (L8.same st).mut k1 nfl.symm, fs ++ [codes.map fun c => (c / n, c % n)], by rw [List.map_append]; exact k3, by rw [List.length_append]; show _ + 1 = _; omega, fun x hx => ?_, _, _, _, rfl⟩
        rcases List.mem_append.mp hx with hx | hx
        · exact pl x hx
        · cases List.mem_singleton.mp hx
          exact codes_plot (by omega) hcodes
    · rintro σ H5 ⟨hs5, L5, fs, F5, ef, pl, e', f', g', rfl⟩
      obtain ⟨lx, hl1, hl2⟩ := L5.ex
      obtain ⟨fx, hf1, hf2⟩ := F5.ex
      refine ⟨_, rfl, .inl ⟨rfl, _, SqL.of hl1⟩, _, rfl, lf, fx, rfl, .inl ⟨SqL.of hf1, fun t nt => ?_⟩⟩
      have st' : Same H5 (upd H5 t (.tup fx)) := Same.new nt
      have gt : Dt (upd H5 t (.tup fx)) (.ref t) (eT (eT eP) fs) := .tup upd_same (hf2.same st')
      obtain ⟨xs, k1, k2, k3⟩ := (L5.same st').app gt (by rw [List.length_map]; omega)
      refine ⟨l, xs, _, rfl, rfl, k1, k2, (hs5.same st').mut nl, st ++ [fs], by rw [List.map_append]; exact k3, by rw [List.length_append]; show _ + 1 = _; omega, fun k' l' hk' => ?_, fun x hx => ?_, _, _, _, _, _, rfl⟩
      · by_cases c : k' < st.length
        · rw [List.getElem?_append_left c] at hk'; exact es k' l' hk'
        · rw [List.getElem?_append_right (by omega)] at hk'
          have : k' - st.length = 0 := by
            have := (List.getElem?_eq_some_iff.mp hk').1
            simp at this; omega
          rw [this] at hk'
          cases Option.some.inj hk'
          rw [show k' = i by omega, hout, ef]
      · rcases List.mem_append.mp hx with hx | hx
        · exact lots x hx
        · cases List.mem_singleton.mp hx; exact pl
  · rintro σ H3 ⟨hs, st, L3, el, es, lots, c, d, e, f, g, rfl⟩
    obtain ⟨xs, h1, h2⟩ := L3.ex
    refine ⟨_, rfl, l, _, rfl, .inl ⟨SqL.of h1, fun t nt => ?_⟩⟩
    have hs7 := hs.new (o := .tup xs) nt
    rw [List.length_map] at el
    exact q st _ _ ⟨el, es, lots⟩ hs7.hb hs7.hand (.tup upd_same (h2.same (Same.new nt)))
theorem rd_law_machine {K : Frag} {mg : Str → Option Value} (T : Txt K mg) {h x m : V} {H : Hp} {Q : VK} (hh : ph_law_machine K h x m H Q) : t_law_machine K (De Q) [some h, some x, some m, none, none] H := by
  obtain ⟨a, exits, rfl, hd, hx, xok, rfl, q⟩ := hh
  unfold t_law_machine
  walk_at "rd"
  refine ⟨_, rfl, _, rfl, a, 3, rfl, hd, rfl, by decide, by decide, fun r H1 hr hb1 hd1 => ⟨_, _, rfl, rfl, ?_⟩⟩
  have hs1 := (HS.start hd).draw hb1 hd1
  rw [show (1 + (r : Int)) = ((1 + r : Nat) : Int) by omega]
  refine ⟨_, rfl, _, rfl, _, rfl, _, rfl, a, 3, rfl, hs1.hand, rfl, by decide, by decide, fun r2 H2 hr2 hb2 hd2 => ⟨_, _, rfl, rfl, ?_⟩⟩
  have hs2 := hs1.draw hb2 hd2
  rw [show (2 + (r2 : Int)) = ((2 + r2 : Nat) : Int) by omega]
  refine ⟨a, exits, 1 + r, 2 + r2, rfl, hs2.hand, hs2.dt hx, xok, rfl, by omega, by omega, rfl, by omega, by omega, fun st v H3 hst hb3 hd3 hv => ?_⟩
  have hs3 := hs2.draw hb3 hd3
  refine ⟨_, rfl, _, rfl, _, rfl, _, rfl, _, rfl, a, exits, 1 + r, rfl, hs3.hand, hs3.dt hx, xok, rfl, by omega, by omega, fun ts w H4 hts hb4 hd4 hw => ⟨by show 3 ≤ sizeLine; decide, fun p np => ?_⟩⟩
  have hs4 := hs3.draw hb4 hd4
  have hs5 := hs4.new (o := .tup [nv (1 + r), v, w]) np
  have sp : Same H4 (upd H4 p (.tup [nv (1 + r), v, w])) := Same.new np
  exact q ⟨1 + r, st, ts⟩ _ _ ⟨by show 1 ≤ 1 + r; omega, by show 1 + r ≤ 3; omega, hst.1, hst.2.1, hst.2.2, hts.1, hts.2⟩ hs5.hb hs5.hand (.tup upd_same (.cons (.int _) (.cons ((hv.im (hb4.1.im hs3.hand)).same sp) (.cons (hw.same sp) .nil))))
end NB
set_option pp.maxSteps 900
set_option Elab.async false
set_option linter.all false
set_option maxRecDepth 100000
set_option maxHeartbeats 4000000
namespace NB
open PySem PyProof.Rows L2
local macro_rules | `(tactic| walk_at "rd") => `(tactic| dsimp only [De, tSeq, tNext, tAsg, tIfS, tRet, tRetN, tDrop, tBreak, tCont, tAug, ipI, gName, gNil, gCons, gTup, gSub, tVar, tC, tOp, tUn, tTest, tB, tTru, tNot, tAnd, tOr, tNotV, tAndV, tOrV, tChain, tCons, tNil, tCB, tCall, tMeth, tMake, tTup, tLst, tFld, sFld, tDGet, tDIn, tDNotIn, sDPut, tDNewK, tDNewT, tBM, tBM0, tSl, tPart, tNoPart, tYes, iList, iTup, iRng1, iRng2, iEnum, iEnumT, iSeq, RZ.iZipA, rMaxT, rRepA, rIn, tLstRg, tRg1, tRevT, rI0, rI, rU, rAddI, rSubI, rMulI, rDivI, rModI, rPowI, rShlI, rShrI, rAndI, rOrI, rLtI, rLeI, rGtI, rGeI, rNegI, rInvI, rEq, rNe, rLenS, rListS, rTupleS, rInt1, rBool1, rStrI, rAbsI, rAll, rAny, rAppend, rExtend, rPopAt, rRep, rIxL, rIxT, rSetL, rSlL, rSlA, rCatA, rEqD, rNeD, List.cons_append, List.nil_append, List.append_nil])
local macro_rules | `(tactic| walk_at "rs") => `(tactic| dsimp only [De, tSeq, tNext, tAsg, tIfS, tRet, tRetN, tDrop, tBreak, tCont, tAug, ipI, gName, gNil, gCons, gTup, gSub, tVar, tC, tOp, tUn, tTest, tB, tTru, tNot, tAnd, tOr, tNotV, tAndV, tOrV, tChain, tCons, tNil, tCB, tCall, tMeth, tMake, tTup, tLst, tFld, sFld, tDGet, tDIn, tDNotIn, sDPut, tDNewK, tDNewT, tBM, tBM0, tSl, tPart, tNoPart, tYes, iList, iTup, iRng1, iRng2, iEnum, iEnumT, iSeq, RZ.iZipA, rMaxT, rRepA, rIn, tLstRg, tRg1, tRevT, rI0, rI, rU, rAddI, rSubI, rMulI, rDivI, rModI, rPowI, rShlI, rShrI, rAndI, rOrI, rLtI, rLeI, rGtI, rGeI, rNegI, rInvI, rEq, rNe, rLenS, rListS, rTupleS, rInt1, rBool1, rStrI, rAbsI, rAll, rAny, rAppend, rExtend, rPopAt, rRep, rIxL, rIxT, rSetL, rSlL, rCatA, rEqD, rNeD, List.cons_append, List.nil_append, List.append_nil])
theorem sc_law_program : FnScope ["_law_hand_here", "_law_exits_here", "_law_most", "_law_many", "_law_chain", "_law_share", "_law_k", "_law_kinds", "_law_ways", "_law_place", "_law_lots", "_law_goals", "_law_j", "_law_goal"] ["_law_hand_here", "_law_exits_here", "_law_most"] (defScope s_law_program) := ⟨rfl, rfl, rfl, by decide +kernel, rfl, by decide +kernel, by decide +kernel⟩
def t_law_program (K : PySem.W.Frag) : TS :=
  (tSeq (tAsg (tOp rAddI (tC (.int 1)) (tCall (sp_law_draw K) [] E0 (tCons (tVar 0) (tCons (tVar 2) tNil)))) (gName 3))
    (tSeq (tAsg (tOp rEq (tCall (sp_law_draw K) [] E0 (tCons (tVar 0) (tCons (tC (.int 3)) tNil))) (tC (.int 0))) (gName 4))
    (tSeq (tAsg (tOp rAddI (tC (.int 1)) (tCall (sp_law_draw K) [] E0 (tCons (tVar 0) (tCons (tC (.int 3)) tNil)))) (gName 5))
    (tSeq (tAsg (tCB (rTupleS K) (tCons (tLc (iRng1 (tCons (tVar 3) tNil)) (gName 6) tYes (tCall (sp_law_draw K) [] E0 (tCons (tVar 0) (tCons (tCB (rLenS K) (tCons (tVar 1) tNil)) tNil))) [6]) tNil)) (gName 7))
    (tSeq (tAsg (tLst tNil) (gName 8))
    (tSeq (tFor (iRng1 (tCons (tVar 3) tNil)) (gName 9) (tSeq (tAsg (tLst tNil) (gName 10))
    (tSeq (tFor (iRng1 (tCons (tOp (rIxT K) (tVar 1) (tOp (rIxT K) (tVar 7) (tVar 9))) tNil)) (gName 6) (tSeq (tAsg (tLc (iRng1 (tCons (tCall (sp_law_draw K) [] E0 (tCons (tVar 0) (tCons (tOp rAddI (tVar 5) (tC (.int 1))) tNil))) tNil)) (gName 12) tYes (tCall (sp_law_draw K) [] E0 (tCons (tVar 0) (tCons (tVar 3) tNil))) [12]) (gName 11))
    (tSeq (tIfS (tAnd (tB (tVar 4)) (tAnd (tTest (tOp rEq (tVar 6) (tC (.int 0)))) (tTest (tOp rLtI (tOp rAddI (tVar 9) (tC (.int 1))) (tVar 3))))) (tDrop (tBM K "list" rAppend (tVar 11) (tCons (tOp rAddI (tVar 9) (tC (.int 1))) tNil))) tNext)
    (tDrop (tBM K "list" rAppend (tVar 10) (tCons (tCB (rTupleS K) (tCons (tLc (iRng1 (tCons (tVar 3) tNil)) (gName 13) (tTest (tOp (rIn K false) (tVar 13) (tVar 11))) (tVar 13) [13]) tNil)) tNil))))))
    (tDrop (tBM K "list" rAppend (tVar 8) (tCons (tCB (rTupleS K) (tCons (tVar 10) tNil)) tNil))))))
    (tRet (tTup (tCons (tVar 7) (tCons (tCB (rTupleS K) (tCons (tVar 8) tNil)) tNil))))))))))
theorem lc_draws {n m : Nat} {H1 : Hp} {a Dl : Addr} {g : TG} {te : TE} {vs : List Nat} {σ : L2.St} {Qd : Hp → Prop} (hd1 : Hand H1 a) (nD : H1 Dl = none) (hn : n ≤ 1000)
    (hs : ∀ i H2 (Kk : V → Hp → Prop), i < n → HS H1 H2 a → (∀ (r : Nat) H3, r < m → HB a H2 H3 → Hand H3 a → Kk (nv r) H3) → g (.int (0 + (i : Nat))) (wipe σ vs) H2 fun σ2 H3 => wipe σ2 vs = wipe σ vs ∧ te σ2 H3 Kk)
    (hq : ∀ H' (l : List Nat), HS H1 H' a → H' Dl = some (.lst (l.map nv)) → l.length = n → (∀ x ∈ l, x < m) → Qd H') :
    ∃ W : Nat → Nat → Hp → Prop, (∃ m, W 0 m (upd H1 Dl (.lst []))) ∧ ∀ i m H, W i m H →
      ((Itr 0 n).stop i H ∧ Qd H) ∨ ((Itr 0 n).go i H ∧ ∃ Nx : Hp → Prop, (∀ H', Nx H' → ∃ m', m' < m ∧ W (i + 1) m' H') ∧ ∀ x H', (Itr 0 n).yld i H x H' → g x (wipe σ vs) H' fun σ2 H2 => wipe σ2 vs = wipe σ vs ∧ tYes σ2 H2 fun b H3 =>
        if b = true then te σ2 H3 fun y H4 => ∃ acc, H4 Dl = some (.lst acc) ∧ acc.length < sizeLine ∧ Nx (upd H4 Dl (.lst (acc ++ [y]))) else Nx H3) := by
  refine lc_it walk_range (fun i H' => HS H1 H' a ∧ ∃ l : List Nat, H' Dl = some (.lst (l.map nv)) ∧ l.length = i ∧ ∀ x ∈ l, x < m) ⟨(HS.start hd1).new nD, [], upd_same, rfl, fun x h => (by cases h)⟩ (fun _ _ _ _ => trivial) ?_ ?_
  · rintro i x H2 H3 hi ⟨hs2, l, hD, ll, lt⟩ ⟨rfl, rfl⟩
    refine hs i _ _ hi hs2 fun r H4 hr hb hd => ?_
    refine ⟨_, hb.1 Dl _ (hs2.ne nD) hD, by rw [List.length_map]; exact smaller (by omega), (hs2.draw hb hd).mut nD, l ++ [r], by rw [upd_same, List.map_append]; rfl, by rw [List.length_append]; show l.length + 1 = _; omega, fun x hx => ?_⟩
    rcases List.mem_append.mp hx with hx | hx
    · exact lt x hx
    · cases List.mem_singleton.mp hx; exact hr
  · rintro H2 ⟨hs2, l, hD, ll, lt⟩
    exact hq H2 l hs2 hD ll lt
def t_prog_last (K : Frag) : TS := tDrop (tBM K "list" rAppend (tVar 10) (tCons (tCB (rTupleS K) (tCons (tLc (iRng1 (tCons (tVar 3) tNil)) (gName 13) (tTest (tOp (rIn K false) (tVar 13) (tVar 11))) (tVar 13) [13]) tNil)) tNil))
theorem prog_last {K : Frag} {D : Ends} {H : Hp} {lf Dl : Addr} {n : Nat} {gs : List Nat} {xs0 : List V} {s0 s1 s2 s4 s5 s6 s7 s8 s9 s12 s13 : Option V} (hlf : H lf = some (.lst xs0)) (hg : H Dl = some (.lst (gs.map nv))) (hn : n ≤ 1000)
    (k : ∀ (v : V) H' lot, Same H H' → Lot n lot → Dt H' v (eL lot) → ∃ xs, H' lf = some (.lst xs) ∧ xs.length < sizeLine ∧ D.nx [s0, s1, s2, some (nv n), s4, s5, s6, s7, s8, s9, some (.ref lf), some (.ref Dl), s12, s13] (upd H' lf (.lst (xs ++ [v])))) :
    t_prog_last K D [s0, s1, s2, some (nv n), s4, s5, s6, s7, s8, s9, some (.ref lf), some (.ref Dl), s12, s13] H := by
  unfold t_prog_last
  walk_at "rd"
  refine ⟨_, rfl, .inl ⟨rfl, _, SqL.of hlf⟩, _, rfl, _, rfl, by omega, by omega, fun D2 nD2 => ?_⟩
  rw [Int.toNat_natCast]
  refine lc_it walk_range (fun i H' => Same H H' ∧ ∃ lot : List Nat, H' D2 = some (.lst (lot.map nv)) ∧ lot.Pairwise (· < ·) ∧ (∀ x ∈ lot, x < i) ∧ lot.length ≤ i) ⟨Same.new nD2, [], upd_same, List.Pairwise.nil, fun x h => (by cases h), Nat.le_refl _⟩ (fun _ _ _ _ => trivial) ?_ ?_
  · rintro i x H1 H2 hi ⟨s, lot, hD, lp, lt, ll⟩ ⟨rfl, rfl⟩
    dsimp only
    rw [Int.zero_add]
    refine ⟨rfl, _, rfl, _, rfl, Dl, _, rfl, .inl (SqL.of (s _ _ hg)), rfl, flat_nats, decide (i ∈ gs), ?_, ?_⟩
    · rw [inV_nats]; rfl
    · by_cases c : i ∈ gs
      · rw [decide_eq_true c]
        refine iteT ⟨_, rfl, _, hD, by rw [List.length_map]; exact smaller (by omega), s.mut nD2, lot ++ [i], by rw [upd_same, List.map_append]; rfl, ?_, ?_, by rw [List.length_append]; show lot.length + 1 ≤ _; omega⟩
        · rw [List.pairwise_append]
          exact ⟨lp, List.pairwise_singleton _ _, fun x hx y hy => by cases List.mem_singleton.mp hy; exact lt x hx⟩
        · intro x hx
          rcases List.mem_append.mp hx with hx | hx
          · have := lt x hx; omega
          · cases List.mem_singleton.mp hx; omega
      · rw [decide_eq_false c]
        exact iteF ⟨s, lot, hD, lp, fun x hx => by have := lt x hx; omega, by omega⟩
  · rintro H1 ⟨s, lot, hD, lp, lt, ll⟩
    refine ⟨D2, _, rfl, .inl ⟨SqL.of hD, fun t nt => ?_⟩⟩
    obtain ⟨xs, k1, k2, k3⟩ := k _ _ lot (s.trans (Same.new nt)) ⟨lp, lt⟩ (Dt.of_lot upd_same)
    exact ⟨lf, xs, _, rfl, rfl, k1, k2, k3⟩
theorem rd_law_program {K : Frag} {mg : Str → Option Value} (T : Txt K mg) {h x m : V} {H : Hp} {Q : VK} (hh : ph_law_program K h x m H Q) : t_law_program K (De Q) [some h, some x, some m, none, none, none, none, none, none, none, none, none, none, none] H := by
  obtain ⟨a, exits, rfl, hd, hx, xok, rfl, q⟩ := hh
  obtain ⟨ax, rfl, hax⟩ := hx.lot
  have x4 := xok.hi
  have x1 := xok.lo
  unfold t_law_program
  walk_at "rd"
  refine ⟨_, rfl, _, rfl, a, 12, rfl, hd, rfl, by decide, by decide, fun r0 H1 hr0 hb1 hd1 => ⟨_, _, rfl, rfl, ?_⟩⟩
  have hs1 := (HS.start hd).draw hb1 hd1
  rw [show (1 + (r0 : Int)) = ((1 + r0 : Nat) : Int) by omega]
  obtain ⟨n, hn⟩ : ∃ n, n = 1 + r0 := ⟨_, rfl⟩
  rw [← hn]
  refine ⟨_, rfl, a, 3, rfl, hs1.hand, rfl, by decide, by decide, fun r1 H2 hr1 hb2 hd2 => ⟨rfl, ?_⟩⟩
  have hs2 := hs1.draw hb2 hd2
  generalize decide (V.int (r1 : Int) = V.int 0) = ch
  refine ⟨_, rfl, a, 3, rfl, hs2.hand, rfl, by decide, by decide, fun r2 H3 hr2 hb3 hd3 => ⟨_, _, rfl, rfl, ?_⟩⟩
  have hs3 := hs2.draw hb3 hd3
  rw [show (1 + (r2 : Int)) = ((1 + r2 : Nat) : Int) by omega]
  obtain ⟨sh, hsh⟩ : ∃ n, n = 1 + r2 := ⟨_, rfl⟩
  rw [← hsh]
  refine ⟨_, rfl, _, rfl, by omega, by omega, fun Dl nD => ?_⟩
  rw [Int.toNat_natCast]
  refine lc_draws (n := n) (m := exits.length) hs3.hand nD (by omega) ?_ ?_
  · intro i H4 Kk hi hs hK
    refine ⟨rfl, _, rfl, _, rfl, ax, _, rfl, .inr (SqT.of (hs.im _ _ (hs3.im _ _ hax))), a, exits.length, rfl, hs.hand, ?_, by omega, by omega, hK⟩
    rw [List.length_map]
  intro H4 ks hs4 hDl kl klt
  refine ⟨Dl, _, rfl, .inl ⟨SqL.of hDl, fun t nt => ?_⟩⟩
  have hs5 := (hs3.draw hs4.hb hs4.hand).new (o := .tup (ks.map nv)) nt
  have ht : (upd H4 t (.tup (ks.map nv))) t = some (.tup (ks.map nv)) := upd_same
  generalize upd H4 t (.tup (ks.map nv)) = B at hs5 ht ⊢
  have haxB := hs5.im _ _ hax
  have hdB := hs5.hand
  refine ⟨Nat.zero_le _, fun l nl => ?_⟩
  have hs6 := (HS.start hdB).new (o := .lst []) nl
  have L6 : LD B (upd B l (.lst [])) l [] := ⟨nl, [], upd_same, .nil⟩
  generalize upd B l (.lst []) = H6 at hs6 L6 ⊢
  refine ⟨_, rfl, _, rfl, by omega, by omega, ?_⟩
  rw [Int.toNat_natCast]
  refine for_range (fun i σ H' => HS B H' a ∧ ∃ ws : List (List (List Nat)), LD B H' l (ws.map (eT eL)) ∧ ws.length = i ∧ (∀ (p : Nat) w, ws[p]? = some w → exits[ks.getD p 0]? = some w.length) ∧ (∀ w ∈ ws, ∀ q ∈ w, Lot n q) ∧ ∃ c d e f g h, σ = [some (.ref a), some (.ref ax), some (nv 12), some (nv n), some (.bl ch), some (nv sh), c, some (.ref t), some (.ref l), d, e, f, g, h]) ⟨hs6, [], L6, rfl, fun p w h => (by simp at h), fun w h => (by cases h), _, _, _, _, _, _, rfl⟩ ?_ ?_
  · rintro i σ H7 hi ⟨hs, ws, L7, el, es, lots, c, d, e, f, g, h, rfl⟩
    rw [Int.zero_add]
    obtain ⟨kd, hkd⟩ : ∃ kd, ks[i]? = some kd := ⟨_, List.getElem?_eq_getElem (by omega)⟩
    have kdl := klt kd (List.mem_of_getElem? hkd)
    obtain ⟨out, hout⟩ : ∃ o, exits[kd]? = some o := ⟨_, List.getElem?_eq_getElem kdl⟩
    have o3 := xok.le out (List.mem_of_getElem? hout)
    refine ⟨Nat.zero_le _, fun lf nlf => ?_⟩
    have nlf0 := hs.free nlf
    have nfl : lf ≠ l := by
      obtain ⟨xs, h1, _⟩ := L7.ex
      exact (ne_of_none h1 nlf).symm
    have hs8 := hs.new (o := .lst []) nlf
    have L8 := L7.same (Same.new (o := .lst []) nlf)
    have F8 : LD B (upd H7 lf (.lst [])) lf [] := ⟨nlf0, [], upd_same, .nil⟩
    generalize upd H7 lf (.lst []) = H8 at hs8 L8 F8 ⊢
    refine ⟨_, rfl, _, rfl, _, rfl, t, _, _, _, rfl, rfl, SqT.of (hs8.im _ _ ht), atI_nat (getElem?_nats hkd), ax, _, _, _, rfl, rfl, SqT.of (hs8.im _ _ haxB), atI_nat (getElem?_nats hout), _, rfl, by omega, by omega, ?_⟩
    rw [Int.toNat_natCast]
    refine for_range (fun j σ H' => HS B H' a ∧ LD B H' l (ws.map (eT eL)) ∧ ∃ fs : List (List Nat), LD B H' lf (fs.map eL) ∧ fs.length = j ∧ (∀ q ∈ fs, Lot n q) ∧ ∃ c f g h, σ = [some (.ref a), some (.ref ax), some (nv 12), some (nv n), some (.bl ch), some (nv sh), c, some (.ref t), some (.ref l), some (nv i), some (.ref lf), f, g, h]) ⟨hs8, L8, [], F8, rfl, fun x hx => (by cases hx), _, _, _, _, rfl⟩ ?_ ?_
    · rintro j σ H9 hj ⟨hs9, L9, fs, F9, ef, pl, c', f', g', h', rfl⟩
      rw [Int.zero_add]
      refine ⟨_, rfl, _, rfl, _, _, rfl, rfl, a, sh + 1, rfl, hs9.hand, rfl, by omega, by omega, fun r3 H10 hr3 hb10 hd10 => ⟨_, rfl, by omega, by omega, fun Dg nDg => ?_⟩⟩
      have hs10 := hs9.draw hb10 hd10
      have L10 := L9.draw hs9 hb10
      have F10 := F9.draw hs9 hb10
      rw [Int.toNat_natCast]
      refine lc_draws (n := r3) (m := n) hs10.hand nDg (by omega) (fun i2 H11 Kk hi2 hs11 hK => ⟨rfl, _, rfl, _, rfl, a, n, rfl, hs11.hand, rfl, by omega, by omega, hK⟩) ?_
      intro H11 gs hs11 hg gl glt
      have hsB := hs10.draw hs11.hb hs11.hand
      have L11 := L10.draw hs10 hs11.hb
      have F11 := F10.draw hs10 hs11.hb
      have nDg0 := hs10.free nDg
      have nlDg : l ≠ Dg := by
        obtain ⟨xs, h1, _⟩ := L10.ex
        exact ne_of_none h1 nDg
      have nfDg : lf ≠ Dg := by
        obtain ⟨xs, h1, _⟩ := F10.ex
        exact ne_of_none h1 nDg
      have fin : ∀ {H' : Hp} {gs' : List Nat}, HS B H' a → LD B H' l (ws.map (eT eL)) → LD B H' lf (fs.map eL) → H' Dg = some (.lst (gs'.map nv)) → t_prog_last K { De Q with nx := (fun σ H' => HS B H' a ∧ LD B H' l (ws.map (eT eL)) ∧ ∃ fs : List (List Nat), LD B H' lf (fs.map eL) ∧ fs.length = j + 1 ∧ (∀ q ∈ fs, Lot n q) ∧ ∃ c f g h, σ = [some (.ref a), some (.ref ax), some (nv 12), some (nv n), some (.bl ch), some (nv sh), c, some (.ref t), some (.ref l), some (nv i), some (.ref lf), f, g, h]) } [some (.ref a), some (.ref ax), some (nv 12), some (nv n), some (.bl ch), some (nv sh), some (nv j), some (.ref t), some (.ref l), some (nv i), some (.ref lf), some (.ref Dg), g', h'] H' := by
        intro H' gs' k1 k2 k3 k4
        obtain ⟨fx, hf1, hf2⟩ := k3.ex
        refine prog_last hf1 k4 (by omega) fun v H2 lot s2 hlot hv => ?_
        obtain ⟨xs, j1, j2, j3⟩ := (k3.same s2).app hv (by rw [List.length_map]; omega)
        refine ⟨xs, j1, j2, (k1.same s2).mut nlf0, (k2.same s2).mut j1 nfl.symm, fs ++ [lot], by rw [List.map_append]; exact j3, by rw [List.length_append]; show _ + 1 = _; omega, fun x hx => ?_, _, _, _, _, rfl⟩
        rcases List.mem_append.mp hx with hx | hx
        · exact pl x hx
        · cases List.mem_singleton.mp hx
          exact hlot
      refine ⟨_, rfl, ch, rfl, ?_⟩
      cases ch with
      | false => exact iteF (iteF (fin hsB L11 F11 hg))
      | true =>
        refine iteT ⟨_, rfl, rfl, decide (j = 0), ?_, ?_⟩
        · show V.bl (decide (V.int (j : Int) = V.int 0)) = _
          congr 1
          by_cases c : j = 0
          · subst c; rfl
          · rw [decide_eq_false c]; exact decide_eq_false fun z => by injection z with z; omega
        by_cases c1 : j = 0
        · rw [decide_eq_true c1]
          refine iteT ⟨_, rfl, _, _, rfl, rfl, _, rfl, _, _, rfl, rfl, _, rfl, ?_⟩
          by_cases c2 : (i : Int) + 1 < (n : Int)
          · rw [decide_eq_true c2]
            refine iteT ⟨_, rfl, .inl ⟨rfl, _, SqL.of hg⟩, _, rfl, _, _, rfl, rfl, Dg, _, _, rfl, rfl, hg, by rw [List.length_map]; exact smaller (by omega), ?_⟩
            refine fin (gs' := gs ++ [i + 1]) (hsB.mut nDg0) (L11.mut hg nlDg) (F11.mut hg nfDg) ?_
            rw [upd_same, List.map_append]; rfl
          · rw [decide_eq_false c2]
            exact iteF (fin hsB L11 F11 hg)
        · rw [decide_eq_false c1]
          exact iteF (iteF (fin hsB L11 F11 hg))
    · rintro σ H9 ⟨hs9, L9, fs, F9, ef, pl, c', f', g', h', rfl⟩
      obtain ⟨lx, hl1, hl2⟩ := L9.ex
      obtain ⟨fx, hf1, hf2⟩ := F9.ex
      refine ⟨_, rfl, .inl ⟨rfl, _, SqL.of hl1⟩, _, rfl, lf, fx, rfl, .inl ⟨SqL.of hf1, fun t2 nt2 => ?_⟩⟩
      have st' : Same H9 (upd H9 t2 (.tup fx)) := Same.new nt2
      have gt : Dt (upd H9 t2 (.tup fx)) (.ref t2) (eT eL fs) := .tup upd_same (hf2.same st')
      obtain ⟨xs, k1, k2, k3⟩ := (L9.same st').app gt (by rw [List.length_map]; omega)
      refine ⟨l, xs, _, rfl, rfl, k1, k2, (hs9.same st').mut nl, ws ++ [fs], by rw [List.map_append]; exact k3, by rw [List.length_append]; show _ + 1 = _; omega, fun k' l' hk' => ?_, fun x hx => ?_, _, _, _, _, _, _, rfl⟩
      · by_cases c : k' < ws.length
        · rw [List.getElem?_append_left c] at hk'; exact es k' l' hk'
        · rw [List.getElem?_append_right (by omega)] at hk'
          have : k' - ws.length = 0 := by
            have := (List.getElem?_eq_some_iff.mp hk').1
            simp at this; omega
          rw [this] at hk'
          cases Option.some.inj hk'
          rw [show k' = i by omega, List.getD_eq_getElem?_getD, hkd]
          show exits[kd]? = _
          rw [hout, ef]
      · rcases List.mem_append.mp hx with hx | hx
        · exact lots x hx
        · cases List.mem_singleton.mp hx; exact pl
  · rintro σ H7 ⟨hs, ws, L7, el, es, lots, c, d, e, f, g, h, rfl⟩
    obtain ⟨xs, h1, h2⟩ := L7.ex
    refine ⟨_, rfl, _, rfl, l, _, rfl, .inl ⟨SqL.of h1, fun t2 nt2 => ⟨by show 2 ≤ sizeLine; decide, fun p np => ?_⟩⟩⟩
    have s1 : Same H7 (upd H7 t2 (.tup xs)) := Same.new nt2
    have s2 : Same (upd H7 t2 (.tup xs)) (upd (upd H7 t2 (.tup xs)) p (.tup [.ref t, .ref t2])) := Same.new np
    have hsF := (hs.same s1).same s2
    have gk : Dt B (.ref t) (eL ks) := Dt.of_lot ht
    have gw : Dt (upd H7 t2 (.tup xs)) (.ref t2) (eWays ws) := .tup upd_same (h2.same s1)
    exact q (ks, ws) _ _ ⟨by show 1 ≤ ks.length; omega, by show ks.length ≤ 12; omega, klt, by show ws.length = ks.length; omega, es, by rw [kl]; exact lots⟩ (hs5.hb.trans hsF.hb) hsF.hand (.tup upd_same (.cons (hsF.dt gk) (.cons (gw.same s2) .nil)))
end NB
set_option pp.maxSteps 900
set_option Elab.async false
set_option linter.all false
set_option maxRecDepth 100000
set_option maxHeartbeats 4000000
namespace NB
open PySem PyProof.Rows L2
local macro_rules | `(tactic| walk_at "rd") => `(tactic| dsimp only [De, tSeq, tNext, tAsg, tIfS, tRet, tRetN, tDrop, tBreak, tCont, tAug, ipI, gName, gNil, gCons, gTup, gSub, tVar, tC, tOp, tUn, tTest, tB, tTru, tNot, tAnd, tOr, tNotV, tAndV, tOrV, tChain, tCons, tNil, tCB, tCall, tMeth, tMake, tTup, tLst, tFld, sFld, tDGet, tDIn, tDNotIn, sDPut, tDNewK, tDNewT, tBM, tBM0, tSl, tPart, tNoPart, tYes, iList, iTup, iRng1, iRng2, iEnum, iEnumT, iSeq, RZ.iZipA, rMaxT, rRepA, rIn, tLstRg, tRg1, tRevT, rI0, rI, rU, rAddI, rSubI, rMulI, rDivI, rModI, rPowI, rShlI, rShrI, rAndI, rOrI, rLtI, rLeI, rGtI, rGeI, rNegI, rInvI, rEq, rNe, rLenS, rListS, rTupleS, rInt1, rBool1, rStrI, rAbsI, rAll, rAny, rAppend, rExtend, rPopAt, rRep, rIxL, rIxT, rSetL, rSlL, rSlA, rCatA, rEqD, rNeD, List.cons_append, List.nil_append, List.append_nil])
local macro_rules | `(tactic| walk_at "rx") => `(tactic| dsimp only [De, tSeq, tNext, tAsg, tIfS, tRet, tRetN, tDrop, tBreak, tCont, tAug, ipI, gName, gNil, gCons, gTup, gSub, tVar, tC, tOp, tUn, tTest, tB, tTru, tNot, tAnd, tOr, tNotV, tAndV, tOrV, tChain, tCons, tNil, tCB, tCall, tCallS, tTry, tRaiseN, tMeth, tMake, tTup, tLst, tFld, sFld, tDGet, tDIn, tDNotIn, sDPut, tDNewK, tDNewT, tBM, tBM0, tSl, tPart, tNoPart, tYes, iList, iTup, iRng1, iRng2, iEnum, iEnumT, iSeq, RZ.iZipA, rMaxT, rIn, tLstRg, tRg1, tRevT, rI0, rI, rU, rAddI, rSubI, rMulI, rDivI, rModI, rPowI, rShlI, rShrI, rAndI, rOrI, rLtI, rLeI, rGtI, rGeI, rNegI, rInvI, rEq, rNe, rLenS, rListS, rTupleS, rInt1, rBool1, rStrI, rAbsI, rAll, rAny, rAppend, rExtend, rPopAt, rRep, rIxL, rIxT, rSetL, rSlL, rEqD, rNeD, List.cons_append, List.nil_append, List.append_nil])
theorem sc_check_kinds : FnScope ["machine", "thing"] ["machine", "thing"] (defScope s_check_kinds) := ⟨rfl, rfl, rfl, by decide +kernel, rfl, by decide +kernel, by decide +kernel⟩
def t_check_kinds (K : PySem.W.Frag) (E : XK) : TS :=
  (tIfS (tNot (tB (tCall (sp_is_lot K) [] E0 (tCons (tVar 1) (tCons (tCB (rLenS K) (tCons (tFld K (tFld K (tVar 0) "kept_bag") "kept_exits") tNil)) tNil))))) (tRaiseN (He.ga K "NoKinds") E) tNext)
theorem sc_ahead_book : FnScope ["machine", "wanted", "barred"] ["machine", "wanted", "barred"] (defScope s_ahead_book) := ⟨rfl, rfl, rfl, by decide +kernel, rfl, by decide +kernel, by decide +kernel⟩
def t_ahead_book (K : PySem.W.Frag) (E : XK) : TS :=
  (tSeq (tDrop (tCall (sp_check_kinds K) [] E (tCons (tVar 0) (tCons (tVar 1) tNil))))
    (tSeq (tDrop (tCall (sp_check_kinds K) [] E (tCons (tVar 0) (tCons (tVar 2) tNil))))
    (tRet (tCall (sp_book_ahead K) [] E0 (tCons (tVar 0) (tCons (tVar 1) (tCons (tVar 2) tNil)))))))
theorem sc_looks_on : FnScope ["machine", "program", "wanted", "barred", "found", "place", "states"] ["machine", "program", "wanted", "barred"] (defScope s_looks_on) := ⟨rfl, rfl, rfl, by decide +kernel, rfl, by decide +kernel, by decide +kernel⟩
def t_looks_on (K : PySem.W.Frag) (E : XK) : TS :=
  (tSeq (tDrop (tCall (sp_check_kinds K) [] E (tCons (tVar 0) (tCons (tVar 2) tNil))))
    (tSeq (tDrop (tCall (sp_check_kinds K) [] E (tCons (tVar 0) (tCons (tVar 3) tNil))))
    (tSeq (tAsg (tCall (sp_on_lots K) [] E0 (tCons (tVar 0) (tCons (tVar 1) (tCons (tCall (sp_book_ahead K) [] E0 (tCons (tVar 0) (tCons (tVar 2) (tCons (tVar 3) tNil)))) tNil)))) (gName 4))
    (tRet (tLc (iEnum K (tCons (tVar 4) tNil)) (gTup K 2 (gCons (gName 5) (gCons (gName 6) gNil))) (tTest (tOp rGtI (tVar 6) (tC (.int 0)))) (tVar 5) [5, 6])))))
theorem sc_law_refused : FnScope ["_law_made", "_law_program_here", "_law_wanted", "_law_barred", "_law_first", "_law_second"] ["_law_made", "_law_program_here", "_law_wanted", "_law_barred"] (defScope s_law_refused) := ⟨rfl, rfl, rfl, by decide +kernel, rfl, by decide +kernel, by decide +kernel⟩
def t_law_refused (K : PySem.W.Frag) : TS :=
  (tSeq (tTry K (.ref (He.ga K "NoKinds")) (fun W => (tSeq (tDrop (tCallS (sp_ahead_book K) (WE W) (tCons (tVar 0) (tCons (tVar 2) (tCons (tVar 3) tNil)))))
    (tAsg (tC (.bl false)) (gName 4)))) (tAsg (tC (.bl true)) (gName 4)))
    (tSeq (tTry K (.ref (He.ga K "NoKinds")) (fun W => (tSeq (tDrop (tCallS (sp_looks_on K) (WE W) (tCons (tVar 0) (tCons (tVar 1) (tCons (tVar 2) (tCons (tVar 3) tNil))))))
    (tAsg (tC (.bl false)) (gName 5)))) (tAsg (tC (.bl true)) (gName 5)))
    (tRet (tLst (tCons (tVar 4) (tCons (tVar 5) tNil))))))
theorem aheadRules_len {exits : List Nat} {mm : MM} {wanted barred : List Nat} (xok : XOk exits) (mok : MOk exits mm) (lw : Lot exits.length wanted) : (aheadRules exits.length mm wanted barred).length ≤ 700 := by
  have a := stateRules_len xok mok
  have b : (wantedRules mm.many wanted).length ≤ 4 := by
    unfold wantedRules
    rw [List.length_map]
    exact Nat.le_trans lw.len xok.hi
  have c : (barredRules exits.length mm.many barred).length ≤ exits.length * 3 := flat_len fun k _ => by
    split
    · exact Nat.zero_le _
    · rw [List.length_map, List.length_range]; exact mok.hi
  have d : (nearRules mm.many mm.steps).length ≤ mm.steps.length * 96 := flat_len fun k _ => by
    have h1 := flat_len (f := fun e => ((mm.steps.getD k []).getD e []).flatMap fun q => [Rule.way k e [] [2 * mm.many] false (mm.many + q.1), .way k e [] [2 * mm.many + 1 + q.2] false (mm.many + q.1)]) (c := 32) (i := (mm.steps.getD k []).length) fun e _ => by
      have h2 := fmap_len (f := fun q : Nat × Nat => [Rule.way k e [] [2 * mm.many] false (mm.many + q.1), .way k e [] [2 * mm.many + 1 + q.2] false (mm.many + q.1)]) (c := 2) (l := (mm.steps.getD k []).getD e []) fun _ _ => Nat.le_refl _
      have h3 := pairs_len mok k e
      omega
    have h4 := outs_len xok mok k
    omega
  have x4 := xok.hi
  have e := mok.slen
  unfold aheadRules
  rw [List.length_append, List.length_append, List.length_append]
  omega
theorem rd_check_kinds {K : Frag} {mg : Str → Option Value} (T : Txt K mg) {m t : V} {H : Hp} {Q : VK} {E : XK} (h : ph_check_kinds K m t H Q E) : t_check_kinds K E (De Q) [some m, some t] H := by
  obtain ⟨exits, mm, d, M, xok, th, q1, q2⟩ := h
  obtain ⟨am, dxm, bm, sm, tm, rfl, hm, M1, M2, M3⟩ := M.ex
  obtain ⟨ab, dxb, x, rfl, hb, hx⟩ := M1.ex
  obtain ⟨ax, rfl, hax⟩ := hx.lot
  unfold t_check_kinds
  walk_at "rx"
  refine ⟨_, rfl, _, rfl, am, _, dxm, _, _, rfl, hm, T.c_Machine, T.n_Machine_kept_bag, by rfl, ab, _, dxb, _, _, rfl, hb, T.c_Bag, T.n_Bag_kept_exits, by rfl, ax, _, rfl, .inr (SqT.of hax), ?_⟩
  rw [List.length_map]
  refine ⟨d, _, th, rfl, _, rfl, ?_⟩
  cases c : isLot (exits.length : Int) d with
  | true => exact iteF (q1 c)
  | false => exact iteT (q2 c)
theorem rd_ahead_book {K : Frag} {mg : Str → Option Value} (T : Txt K mg) {m w b : V} {H : Hp} {Q : VK} {E : XK} (h : ph_ahead_book K m w b H Q E) : t_ahead_book K E (De Q) [some m, some w, some b] H := by
  obtain ⟨exits, mm, dw, db, M, xok, mok, tw, tb, q1, q2⟩ := h
  unfold t_ahead_book
  walk_at "rx"
  refine ⟨_, rfl, _, rfl, exits, mm, dw, M, xok, tw, fun ew => ?_, fun ew => q2 (by unfold lots2; rw [ew]; rfl)⟩
  refine ⟨_, rfl, _, rfl, exits, mm, db, M, xok, tb, fun eb => ?_, fun eb => q2 (by unfold lots2; rw [eb, Bool.and_false])⟩
  obtain ⟨wanted, hw, lw⟩ := tw.is_lot ew
  obtain ⟨barred, hb, lb⟩ := tb.is_lot eb
  exact ⟨_, rfl, _, rfl, _, rfl, exits, mm, wanted, barred, M, xok, mok, hw, hb, lw, lb, fun v H' s B => q1 wanted barred hw hb lw lb (by unfold lots2; rw [ew, eb]; rfl) v H' s B⟩
theorem rd_looks_on {K : Frag} {mg : Str → Option Value} (T : Txt K mg) {m p w b : V} {H : Hp} {Q : VK} {E : XK} (h : ph_looks_on K m p w b H Q E) : t_looks_on K E (De Q) [some m, some p, some w, some b, none, none, none] H := by
  obtain ⟨exits, mm, kinds, ways, dw, db, M, P, xok, mok, pok, tw, tb, q1, q2⟩ := h
  unfold t_looks_on
  walk_at "rx"
  refine ⟨_, rfl, _, rfl, exits, mm, dw, M, xok, tw, fun ew => ?_, fun ew => q2 (by unfold lots2; rw [ew]; rfl)⟩
  refine ⟨_, rfl, _, rfl, exits, mm, db, M, xok, tb, fun eb => ?_, fun eb => q2 (by unfold lots2; rw [eb, Bool.and_false])⟩
  obtain ⟨wanted, hw, lw⟩ := tw.is_lot ew
  obtain ⟨barred, hb, lb⟩ := tb.is_lot eb
  have q := q1 wanted barred hw hb lw lb (by unfold lots2; rw [ew, eb]; rfl)
  clear q1 q2
  have m3 := mok.hi
  have k12 := pok.hi
  refine ⟨_, rfl, _, rfl, _, rfl, _, rfl, _, rfl, exits, mm, wanted, barred, M, xok, mok, hw, hb, lw, lb, fun bk H1 s1 B => ?_⟩
  refine ⟨exits, mm, _, kinds, ways, M.same s1, P.same s1, B, xok, mok, pok, Nat.le_trans (aheadRules_len xok mok lw) (by decide), fun r hr => (aheadRules_ok mok lw hr).lt, fun a L H2 s2 na ha fx => ?_⟩
  refine ⟨_, rfl, a, _, rfl, SqL.of ha, fun Dl nD => ?_⟩
  have Ll : ((L.map (onStates mm.many)).map nv).length = kinds.length := by rw [List.length_map, List.length_map, fx.len]
  refine lc_it (walk_enum (K := K) (a := a) (xs := (L.map (onStates mm.many)).map nv)) (fun i H' => Same H2 H' ∧ ∃ f : List Nat, H' Dl = some (.lst (f.map nv)) ∧ f.Pairwise (· < ·) ∧ (∀ x ∈ f, x < i) ∧ ∀ p, p < i → (p ∈ f ↔ LooksOn mm kinds ways wanted barred p)) ⟨Same.new nD, [], upd_same, .nil, fun x h => (by cases h), fun p h => absurd h (Nat.not_lt_zero _)⟩ (fun i H' _ p => SqL.of (p.1 _ _ ha)) ?_ ?_
  · rintro i x H3 H4 hi ⟨s3, f, hD, fp, fl, fi⟩ ⟨Tt, x1, y1, rfl, nT, rfl, e1, e2⟩
    cases e1
    rw [Ll] at hi
    obtain ⟨n, hn, rfl⟩ := of_getElem?_nats e2
    have en : n = onStates mm.many (L.getD i 0) := by
      rw [List.getElem?_map, get_of (by rw [fx.len]; exact hi) 0] at hn
      exact (Option.some.inj hn).symm
    subst en
    have nDT : Dl ≠ Tt := ne_of_none hD nT
    have sT : Same H3 (upd H3 Tt (.tup [.int (i : Nat), nv (onStates mm.many (L.getD i 0))])) := Same.new nT
    refine ⟨Tt, _, rfl, SqT.of upd_same, rfl, _, _, rfl, _, _, rfl, rfl, rfl, _, rfl, _, _, rfl, rfl, decide (0 < ((onStates mm.many (L.getD i 0) : Nat) : Int)), rfl, ?_⟩
    have fll : f.length ≤ 12 := Nat.le_trans (Lot.len (m := kinds.length) ⟨fp, fun x hx => by have := fl x hx; omega⟩) k12
    have key := onStates_pos mok pok fx hi
    by_cases c : LooksOn mm kinds ways wanted barred i
    · have c' := key.mpr c
      rw [decide_eq_true (show (0 : Int) < ((onStates mm.many (L.getD i 0) : Nat) : Int) by omega)]
      refine iteT ⟨_, rfl, _, sT _ _ hD, by rw [List.length_map]; exact smaller (by omega), (s3.trans sT).mut nD, f ++ [i], by rw [upd_same, List.map_append]; rfl, ?_, ?_, ?_⟩
      · rw [List.pairwise_append]
        exact ⟨fp, List.pairwise_singleton _ _, fun x hx y hy => by cases List.mem_singleton.mp hy; exact fl x hx⟩
      · intro x hx
        rcases List.mem_append.mp hx with hx | hx
        · have := fl x hx; omega
        · cases List.mem_singleton.mp hx; omega
      · intro p hp
        by_cases c2 : p < i
        · rw [← fi p c2, List.mem_append]
          exact ⟨fun h => h.elim id fun h => by cases List.mem_singleton.mp h; omega, .inl⟩
        · rw [show p = i by omega]
          exact ⟨fun _ => c, fun _ => List.mem_append_right _ (List.mem_singleton.mpr rfl)⟩
    · have c' : ¬ 0 < onStates mm.many (L.getD i 0) := fun h => c (key.mp h)
      rw [decide_eq_false (show ¬ (0 : Int) < ((onStates mm.many (L.getD i 0) : Nat) : Int) by omega)]
      refine iteF ⟨s3.trans sT, f, sT _ _ hD, fp, fun x hx => by have := fl x hx; omega, fun p hp => ?_⟩
      by_cases c2 : p < i
      · exact fi p c2
      · rw [show p = i by omega]
        exact ⟨fun h => absurd (fl i h) (Nat.lt_irrefl _), fun h => absurd h c⟩
  · rintro H3 ⟨s3, f, hD, fp, fl, fi⟩
    rw [Ll] at fl fi
    refine q Dl f H3 ((s1.trans s2).trans s3) ((s1.trans s2).free nD) hD fp fun p => ?_
    by_cases c2 : p < kinds.length
    · exact fi p c2
    · constructor
      · exact fun h => absurd (fl p h) c2
      · rintro ⟨s, _, h⟩
        exact absurd h.lt.1 c2
theorem rd_law_refused {K : Frag} {mg : Str → Option Value} (T : Txt K mg) {m p w b : V} {H : Hp} {Q : VK} (h : ph_law_refused K m p w b H Q) : t_law_refused K (De Q) [some m, some p, some w, some b, none, none] H := by
  obtain ⟨exits, mm, kinds, ways, dw, db, M, P, xok, mok, pok, tw, tb, q⟩ := h
  have fin : ∀ H1, Same H H1 → (tSeq (tTry K (.ref (He.ga K "NoKinds")) (fun W => (tSeq (tDrop (tCallS (sp_looks_on K) (WE W) (tCons (tVar 0) (tCons (tVar 1) (tCons (tVar 2) (tCons (tVar 3) tNil))))))
    (tAsg (tC (.bl false)) (gName 5)))) (tAsg (tC (.bl true)) (gName 5))) (tRet (tLst (tCons (tVar 4) (tCons (tVar 5) tNil))))) (De Q) [some m, some p, some w, some b, some (.bl (!lots2 exits.length dw db)), none] H1 := fun H1 s1 => by
    have last : ∀ H2, Same H H2 → (tRet (tLst (tCons (tVar 4) (tCons (tVar 5) tNil)))) (De Q) [some m, some p, some w, some b, some (.bl (!lots2 exits.length dw db)), some (.bl (!lots2 exits.length dw db))] H2 := fun H2 s2 => by
      walk_at "rx"
      exact ⟨_, rfl, _, rfl, by show 2 ≤ sizeLine; decide, fun l nl => q l _ (s2.snew nl) upd_same⟩
    walk_at "rx"
    refine ⟨_, rfl, _, rfl, _, rfl, _, rfl, exits, mm, kinds, ways, dw, db, M.same s1, P.same s1, xok, mok, pok, tw.same s1, tb.same s1, fun wanted barred _ _ _ _ e a l H2 s2 _ _ _ _ => ?_, fun e => ?_⟩
    · have z := last H2 (s1.trans s2)
      rw [e] at z ⊢
      exact z
    · refine ⟨true, T.exm_NoKinds, fun _ a na => ?_, fun z => by cases z⟩
      have z := last H1 s1
      rw [e] at z ⊢
      exact z
  unfold t_law_refused
  dsimp only [tSeq, tTry, tDrop, tCallS, tCons, tNil, tVar, tAsg, tC, gName]
  refine ⟨_, rfl, _, rfl, _, rfl, exits, mm, dw, db, M, xok, mok, tw, tb, fun wanted barred _ _ _ _ e v H1 s1 _ => ?_, fun e => ?_⟩
  · have z := fin H1 s1
    rw [e] at z
    exact z
  · refine ⟨true, T.exm_NoKinds, fun _ a na => ?_, fun z => by cases z⟩
    have z := fin H (fun _ _ h => h)
    rw [e] at z
    exact z
end NB
set_option pp.maxSteps 900
set_option Elab.async false
set_option linter.all false
set_option maxRecDepth 100000
set_option maxHeartbeats 4000000
namespace NB
open PySem PyProof.Rows L2
local macro_rules | `(tactic| walk_at "rd") => `(tactic| dsimp only [De, tSeq, tNext, tAsg, tIfS, tRet, tRetN, tDrop, tBreak, tCont, tAug, ipI, gName, gNil, gCons, gTup, gSub, tVar, tC, tOp, tUn, tTest, tB, tTru, tNot, tAnd, tOr, tNotV, tAndV, tOrV, tChain, tCons, tNil, tCB, tCall, tMeth, tMake, tTup, tLst, tFld, sFld, tDGet, tDIn, tDNotIn, sDPut, tDNewK, tDNewT, tBM, tBM0, tSl, tPart, tNoPart, tYes, iList, iTup, iRng1, iRng2, iEnum, iEnumT, iSeq, RZ.iZipA, rMaxT, rRepA, rIn, tLstRg, tRg1, tRevT, rI0, rI, rU, rAddI, rSubI, rMulI, rDivI, rModI, rPowI, rShlI, rShrI, rAndI, rOrI, rLtI, rLeI, rGtI, rGeI, rNegI, rInvI, rEq, rNe, rLenS, rListS, rTupleS, rInt1, rBool1, rStrI, rAbsI, rAll, rAny, rAppend, rExtend, rPopAt, rRep, rIxL, rIxT, rSetL, rSlL, rSlA, rCatA, rEqD, rNeD, List.cons_append, List.nil_append, List.append_nil])
local macro_rules | `(tactic| walk_at "rx") => `(tactic| dsimp only [De, tSeq, tNext, tAsg, tIfS, tRet, tRetN, tDrop, tBreak, tCont, tAug, ipI, gName, gNil, gCons, gTup, gSub, tVar, tC, tOp, tUn, tTest, tB, tTru, tNot, tAnd, tOr, tNotV, tAndV, tOrV, tChain, tCons, tNil, tCB, tCall, tCallS, tTry, tRaiseN, tMeth, tMake, tTup, tLst, tFld, sFld, tDGet, tDIn, tDNotIn, sDPut, tDNewK, tDNewT, tBM, tBM0, tSl, tPart, tNoPart, tYes, iList, iTup, iRng1, iRng2, iEnum, iEnumT, iSeq, RZ.iZipA, rMaxT, rIn, tLstRg, tRg1, tRevT, rI0, rI, rU, rAddI, rSubI, rMulI, rDivI, rModI, rPowI, rShlI, rShrI, rAndI, rOrI, rLtI, rLeI, rGtI, rGeI, rNegI, rInvI, rEq, rNe, rLenS, rListS, rTupleS, rInt1, rBool1, rStrI, rAbsI, rAll, rAny, rAppend, rExtend, rPopAt, rRep, rIxL, rIxT, rSetL, rSlL, rEqD, rNeD, List.cons_append, List.nil_append, List.append_nil])
theorem sc_law_odd : FnScope ["_law_hand_here", "_law_good", "_law_way"] ["_law_hand_here", "_law_good"] (defScope s_law_odd) := ⟨rfl, rfl, rfl, by decide +kernel, rfl, by decide +kernel, by decide +kernel⟩
def t_law_odd (K : PySem.W.Frag) : TS :=
  (tSeq (tAsg (tCall (sp_law_draw K) [] E0 (tCons (tVar 0) (tCons (tC (.int 12)) tNil))) (gName 2))
    (tSeq (tIfS (tAnd (tTest (tOp rLtI (tVar 2) (tC (.int 6)))) (tB (tCB (rIsi K) (tCons (tVar 1) (tCons (tC (.ty "tuple")) tNil))))) (tRet (tOp (rIxL K) (tLst (tCons (tSl (rSlA K) (tVar 1) (tPart (tC (.int 1))) tNoPart) (tCons (tOp (rCatA K) (tVar 1) (tSl (rSlA K) (tVar 1) (tPart (tUn rNegI (tC (.int 1)))) tNoPart)) (tCons (tRevT K (tVar 1)) (tCons (tCB (rListS K) (tCons (tVar 1) tNil)) (tCons (tOp (rCatA K) (tVar 1) (tTup (tCons (tC (.int 0)) tNil))) (tCons (tSl (rSlA K) (tVar 1) tNoPart (tPart (tUn rNegI (tC (.int 1))))) tNil))))))) (tVar 2))) tNext)
    (tSeq (tIfS (tAnd (tTest (tOp rLtI (tVar 2) (tC (.int 6)))) (tB (tCall (sp_law_is_int K) [] E0 (tCons (tVar 1) tNil)))) (tRet (tOp (rIxL K) (tLst (tCons (tOp rAddI (tVar 1) (tC (.int 1))) (tCons (tOp rSubI (tVar 1) (tC (.int 1))) (tCons (tOp rAddI (tVar 1) (tOp rPowI (tC (.int 10)) (tC (.int 30)))) (tCons (tUn rNegI (tVar 1)) (tCons (tCB rBool1 (tCons (tVar 1) tNil)) (tCons (tCB rStrI (tCons (tVar 1) tNil)) tNil))))))) (tVar 2))) tNext)
    (tRet (tOp (rIxL K) (tLst (tCons (tC .non) (tCons (tC (.bl true)) (tCons (tC (.bl false)) (tCons (tUn rNegI (tC (.int 1))) (tCons (tTup tNil) (tCons (tC (.str "a")) (tCons (tLst tNil) (tCons tDNewK (tCons (tTup (tCons (tC (.int 0)) tNil)) (tCons (tOp rPowI (tC (.int 10)) (tC (.int 20))) (tCons (tTup (tCons (tTup (tCons (tC (.int 0)) tNil)) tNil)) (tCons (tTup (tCons (tC .non) tNil)) tNil))))))))))))) (tVar 2))))))
/-- a tuple of ints -/
def AllI (xs : List V) : Prop := ∀ x ∈ xs, ∃ i : Int, x = .int i
theorem AllI.nats {l : List Nat} : AllI (l.map nv) := fun x hx => by
  obtain ⟨n, _, rfl⟩ := List.mem_map.mp hx
  exact ⟨_, rfl⟩
theorem AllI.app {xs ys : List V} (h : AllI xs) (h' : AllI ys) : AllI (xs ++ ys) := fun x hx => (List.mem_append.mp hx).elim (h x) (h' x)
theorem AllI.sub {xs ys : List V} (h : AllI xs) (s : ∀ y ∈ ys, y ∈ xs) : AllI ys := fun y hy => h y (s y hy)
theorem AllI.one {i : Int} : AllI [.int i] := fun x hx => by cases List.mem_singleton.mp hx; exact ⟨i, rfl⟩
/-- a value that an odd one may be -/
def Both (H : Hp) (v : V) : Prop := (∃ o, Kn H v o) ∧ ∃ d, Th H v d ∧ ∀ l, d = some l → l.length ≤ 1000
theorem th_of {H : Hp} : ∀ {xs : List V}, (∀ x ∈ xs, ∃ o, Kn H x o) → ∃ l : List (Option Int), xs.length = l.length ∧ ∀ (i : Nat) x, xs[i]? = some x → ∃ o, l[i]? = some o ∧ Kn H x o
  | [], _ => ⟨[], rfl, fun i x h => by simp at h⟩
  | a :: xs, h => by
    obtain ⟨l, e, k⟩ := th_of fun x hx => h x (List.mem_cons_of_mem _ hx)
    obtain ⟨o, ho⟩ := h a List.mem_cons_self
    refine ⟨o :: l, by rw [List.length_cons, List.length_cons, e], fun i x hx => ?_⟩
    cases i with
    | zero => cases Option.some.inj hx; exact ⟨o, rfl, ho⟩
    | succ i => exact k i x (by simpa using hx)
theorem Both.tup {H : Hp} {a : Addr} {xs : List V} (e : H a = some (.tup xs)) (n : xs.length ≤ 1000) (h : ∀ x ∈ xs, ∃ o, Kn H x o) : Both H (.ref a) := by
  obtain ⟨l, e1, k⟩ := th_of h
  exact ⟨⟨_, .tup e⟩, _, .tup e e1 k, fun l' hl => by cases hl; omega⟩
theorem Both.ints {H : Hp} {a : Addr} {xs : List V} (e : H a = some (.tup xs)) (n : xs.length ≤ 1000) (h : AllI xs) : Both H (.ref a) := .tup e n fun x hx => by
  obtain ⟨i, rfl⟩ := h x hx
  exact ⟨_, .int i⟩
theorem Both.non {H : Hp} : Both H .non := ⟨⟨_, .non⟩, _, .non, fun _ h => by cases h⟩
theorem Both.bl {H : Hp} (b : Bool) : Both H (.bl b) := ⟨⟨_, .bl b⟩, _, .bl b, fun _ h => by cases h⟩
theorem Both.int {H : Hp} (i : Int) : Both H (.int i) := ⟨⟨_, .int i⟩, _, .int i, fun _ h => by cases h⟩
theorem Both.str {H : Hp} (x : Str) : Both H (.str x) := ⟨⟨_, .str x⟩, _, .str x, fun _ h => by cases h⟩
theorem Both.lst {H : Hp} {a : Addr} {xs : List V} (e : H a = some (.lst xs)) : Both H (.ref a) := ⟨⟨_, .lst e⟩, _, .lst e, fun _ h => by cases h⟩
theorem Both.dK {H : Hp} {a : Addr} {xs : List (Key × V)} (e : H a = some (.dK xs)) : Both H (.ref a) := ⟨⟨_, .dK e⟩, _, .dK e, fun _ h => by cases h⟩
theorem fmc {α : Type} {P : α → Prop} {a : α} {l : List α} (h : P a) (r : ∀ x ∈ l, P x) : ∀ x ∈ a :: l, P x := fun x hx => (List.mem_cons.mp hx).elim (fun e => e ▸ h) (r x)
theorem fmn {α : Type} {P : α → Prop} : ∀ x ∈ ([] : List α), P x := fun _ h => by cases h
theorem pick {α : Type} {P : α → Prop} {l : List α} {r : Nat} (hr : r < l.length) (h : ∀ x ∈ l, P x) : ∃ x, l[r]? = some x ∧ P x := ⟨l[r], List.getElem?_eq_getElem hr, h _ (List.getElem_mem hr)⟩
theorem slA_of {K : Frag} {H : Hp} {a : Addr} {xs : List V} {lo hi : Option Int} {Q : VK} (hx : H a = some (.tup xs)) (q : ∀ b ys H', Same H H' → H' b = some (.tup ys) → (∀ y ∈ ys, y ∈ xs) → ys.length ≤ xs.length → Q (.ref b) H') : rSlA K (.ref a) lo hi H Q :=
  ⟨a, xs, rfl, SqT.of hx, fun _ => q a xs H (fun _ _ h => h) hx (fun _ h => h) (Nat.le_refl _), fun _ p np => q p _ _ (Same.new np) upd_same (fun y hy => List.mem_of_mem_drop (List.mem_of_mem_take hy)) (cutV_length _ _ _)⟩
theorem catA_of {K : Frag} {H : Hp} {a b : Addr} {xs ys : List V} {Q : VK} (ha : H a = some (.tup xs)) (hb : H b = some (.tup ys)) (hl : xs.length + ys.length ≤ 100000) (q : ∀ c zs H', Same H H' → H' c = some (.tup zs) → zs = xs ++ ys → Q (.ref c) H') : rCatA K (.ref a) (.ref b) H Q :=
  rCatA_n ha hb hl fun c H' s e => q c _ H' s e rfl
def t_odd_last (K : PySem.W.Frag) : TS :=
    (tRet (tOp (rIxL K) (tLst (tCons (tC .non) (tCons (tC (.bl true)) (tCons (tC (.bl false)) (tCons (tUn rNegI (tC (.int 1))) (tCons (tTup tNil) (tCons (tC (.str "a")) (tCons (tLst tNil) (tCons tDNewK (tCons (tTup (tCons (tC (.int 0)) tNil)) (tCons (tOp rPowI (tC (.int 10)) (tC (.int 20))) (tCons (tTup (tCons (tTup (tCons (tC (.int 0)) tNil)) tNil)) (tCons (tTup (tCons (tC .non) tNil)) tNil))))))))))))) (tVar 2)))
theorem odd_last {K : Frag} {H : Hp} {Q : VK} {s0 s1 : Option V} {r : Nat} (hr : r < 12) (k : ∀ v H', Same H H' → Both H' v → Q v H') : t_odd_last K (De Q) [s0, s1, some (nv r)] H := by
  unfold t_odd_last
  walk_at "rx"
  refine ⟨1, rfl, Nat.zero_le _, fun p1 n1 => ⟨Nat.zero_le _, fun p2 n2 => fun p3 n3 => ⟨by show 1 ≤ sizeLine; decide, fun p4 n4 => ⟨_, _, rfl, rfl, ⟨by decide, by decide, by decide⟩, by show 1 ≤ sizeLine; decide, fun p5 n5 => ⟨by show 1 ≤ sizeLine; decide, fun p6 n6 => ⟨by show 1 ≤ sizeLine; decide, fun p7 n7 => ⟨by show 12 ≤ sizeLine; decide, fun p8 n8 => ?_⟩⟩⟩⟩⟩⟩⟩
  have s1 := Same.new (o := .tup []) n1
  have g1 : (upd H p1 (.tup [])) p1 = some (.tup []) := upd_same
  generalize upd H p1 (.tup []) = H1 at *
  have s2 := Same.new (o := .lst []) n2
  have g2 : (upd H1 p2 (.lst [])) p2 = some (.lst []) := upd_same
  generalize upd H1 p2 (.lst []) = H2 at *
  have s3 := Same.new (o := .dK []) n3
  have g3 : (upd H2 p3 (.dK [])) p3 = some (.dK []) := upd_same
  generalize upd H2 p3 (.dK []) = H3 at *
  have s4 := Same.new (o := .tup [.int 0]) n4
  have g4 : (upd H3 p4 (.tup [.int 0])) p4 = some (.tup [.int 0]) := upd_same
  generalize upd H3 p4 (.tup [.int 0]) = H4 at *
  have s5 := Same.new (o := .tup [.int 0]) n5
  have g5 : (upd H4 p5 (.tup [.int 0])) p5 = some (.tup [.int 0]) := upd_same
  generalize upd H4 p5 (.tup [.int 0]) = H5 at *
  have s6 := Same.new (o := .tup [.ref p5]) n6
  have g6 : (upd H5 p6 (.tup [.ref p5])) p6 = some (.tup [.ref p5]) := upd_same
  generalize upd H5 p6 (.tup [.ref p5]) = H6 at *
  have s7 := Same.new (o := .tup [.non]) n7
  have g7 : (upd H6 p7 (.tup [.non])) p7 = some (.tup [.non]) := upd_same
  generalize upd H6 p7 (.tup [.non]) = H7 at *
  have s78 : ∀ o, Same H7 (upd H7 p8 o) := fun o => Same.new n8
  have s68 : ∀ o, Same H6 (upd H7 p8 o) := fun o => s7.trans (s78 o)
  have s58 : ∀ o, Same H5 (upd H7 p8 o) := fun o => s6.trans (s68 o)
  have s48 : ∀ o, Same H4 (upd H7 p8 o) := fun o => s5.trans (s58 o)
  have s38 : ∀ o, Same H3 (upd H7 p8 o) := fun o => s4.trans (s48 o)
  have s28 : ∀ o, Same H2 (upd H7 p8 o) := fun o => s3.trans (s38 o)
  have s18 : ∀ o, Same H1 (upd H7 p8 o) := fun o => s2.trans (s28 o)
  have sH8 : ∀ o, Same H (upd H7 p8 o) := fun o => s1.trans (s18 o)
  obtain ⟨x, ex, bx⟩ := pick (P := fun x => ∀ o, Both (upd H7 p8 o) x) (l := [.non, .bl true, .bl false, .int (-1), .ref p1, .str "a", .ref p2, .ref p3, .ref p4, .int (10 ^ (20 : Int).toNat), .ref p6, .ref p7]) (r := r) hr
    (fmc (fun _ => .non) <| fmc (fun _ => .bl _) <| fmc (fun _ => .bl _) <| fmc (fun _ => .int _) <| fmc (fun o => .ints (s18 o _ _ g1) (Nat.zero_le _) fmn) <| fmc (fun _ => .str _) <| fmc (fun o => .lst (s28 o _ _ g2)) <| fmc (fun o => .dK (s38 o _ _ g3)) <|
      fmc (fun o => .ints (s48 o _ _ g4) (by show 1 ≤ 1000; decide) AllI.one) <| fmc (fun _ => .int _) <| fmc (fun o => .tup (s68 o _ _ g6) (by show 1 ≤ 1000; decide) (fmc ⟨_, .tup (s58 o _ _ g5)⟩ fmn)) <| fmc (fun o => .tup (s78 o _ _ g7) (by show 1 ≤ 1000; decide) (fmc ⟨_, .non⟩ fmn)) fmn)
  exact ⟨_, rfl, p8, _, _, _, rfl, rfl, SqL.of upd_same, atI_nat ex, k x _ (sH8 _) (bx _)⟩
theorem rd_law_odd {K : Frag} {mg : Str → Option Value} (T : Txt K mg) {h g : V} {H : Hp} {Q : VK} (hh : ph_law_odd K h g H Q) : t_law_odd K (De Q) [some h, some g, none] H := by
  obtain ⟨a, rfl, hd, hh⟩ := hh
  unfold t_law_odd
  dsimp only [tSeq, tAsg, tCall, tCons, tVar, tC, tNil, gName]
  refine ⟨_, rfl, a, 12, rfl, hd, rfl, by decide, by decide, fun r H1 hr b1 d1 => ?_⟩
  rcases hh with ⟨l, hg, hl, hlt, q⟩ | ⟨n, rfl, hn, q⟩
  · have hg1 : Dt H1 g (eL l) := hg.im (b1.1.im hd)
    have fin : ∀ v H', Same H1 H' → Both H' v → Q v H' := fun v H' s b => by
      obtain ⟨d, th, ld⟩ := b.2
      exact q v d H' th ld (b1.trans s.hb) (d1.same s)
    have th1 := Th.lot hg1
    obtain ⟨ag, rfl, hag⟩ := hg1.lot
    have last := odd_last (K := K) (H := H1) (Q := Q) (s0 := some (.ref a)) (s1 := some (.ref ag)) hr fin
    have mid : (tSeq (tIfS (tAnd (tTest (tOp rLtI (tVar 2) (tC (.int 6)))) (tB (tCall (sp_law_is_int K) [] E0 (tCons (tVar 1) tNil)))) (tRet (tOp (rIxL K) (tLst (tCons (tOp rAddI (tVar 1) (tC (.int 1))) (tCons (tOp rSubI (tVar 1) (tC (.int 1))) (tCons (tOp rAddI (tVar 1) (tOp rPowI (tC (.int 10)) (tC (.int 30)))) (tCons (tUn rNegI (tVar 1)) (tCons (tCB rBool1 (tCons (tVar 1) tNil)) (tCons (tCB rStrI (tCons (tVar 1) tNil)) tNil))))))) (tVar 2))) tNext) (t_odd_last K)) (De Q) [some (.ref a), some (.ref ag), some (nv r)] H1 := by
      walk_at "rx"
      refine ⟨_, rfl, _, _, rfl, rfl, decide ((r : Int) < 6), rfl, ?_⟩
      by_cases c : (r : Int) < 6
      · rw [decide_eq_true c]
        exact iteT ⟨_, rfl, none, .tup hag, false, rfl, iteF last⟩
      · rw [decide_eq_false c]
        exact iteF last
    walk_at "rx"
    refine ⟨_, rfl, _, _, rfl, rfl, decide ((r : Int) < 6), rfl, ?_⟩
    by_cases c : (r : Int) < 6
    · rw [decide_eq_true c]
      have ll : (l.map nv).length ≤ 10 := by rw [List.length_map]; exact hl
      have li : AllI (l.map nv) := AllI.nats
      generalize l.map nv = xs at hag ll li
      refine iteT ⟨_, rfl, isT hag ⟨true, rfl, iteT ?_⟩⟩
      refine ⟨_, rfl, 1, rfl, slA_of hag fun a1 y1 H2 s2 e1 m1 l1 => ?_⟩
      refine ⟨_, rfl, _, rfl, 1, rfl, _, rfl, slA_of (s2 _ _ hag) fun a2 y2 H3 s3 e2 m2 l2 => ?_⟩
      have s13 := s2.trans s3
      refine catA_of (s13 _ _ hag) e2 (by omega) fun a3 y3 H4 s4 e3 m3 => ?_
      have s14 := s13.trans s4
      refine ⟨_, rfl, ag, _, rfl, SqT.of (s14 _ _ hag), fun a4 n4 => ?_⟩
      have s5 := Same.new (o := .tup xs.reverse) n4
      have g5 : (upd H4 a4 (.tup xs.reverse)) a4 = some (.tup xs.reverse) := upd_same
      generalize upd H4 a4 (.tup xs.reverse) = H5 at s5 g5 ⊢
      have s15 := s14.trans s5
      refine ⟨_, rfl, ag, _, rfl, .inr (SqT.of (s15 _ _ hag)), fun a6 n6 => ?_⟩
      have s6 := Same.new (o := .lst xs) n6
      have g6 : (upd H5 a6 (.lst xs)) a6 = some (.lst xs) := upd_same
      generalize upd H5 a6 (.lst xs) = H6 at s6 g6 ⊢
      have s16 := s15.trans s6
      refine ⟨_, rfl, by show 1 ≤ sizeLine; decide, fun a7 n7 => ?_⟩
      have s7 := Same.new (o := .tup [.int 0]) n7
      have g7 : (upd H6 a7 (.tup [.int 0])) a7 = some (.tup [.int 0]) := upd_same
      generalize upd H6 a7 (.tup [.int 0]) = H7 at s7 g7 ⊢
      have s17 := s16.trans s7
      refine catA_of (s17 _ _ hag) g7 (by show xs.length + 1 ≤ 100000; omega) fun a8 y8 H8 s8 e8 m8 => ?_
      have s18 := s17.trans s8
      refine ⟨_, rfl, 1, rfl, _, rfl, slA_of (s18 _ _ hag) fun a9 y9 H9 s9 e9 m9 l9 => ?_⟩
      have s19 := s18.trans s9
      refine ⟨by show 6 ≤ sizeLine; decide, fun b nb => ?_⟩
      have s0 : ∀ o, Same H9 (upd H9 b o) := fun o => Same.new nb
      have sH8 : ∀ o, Same H8 (upd H9 b o) := fun o => s9.trans (s0 o)
      have sH6 : ∀ o, Same H6 (upd H9 b o) := fun o => (s7.trans s8).trans (sH8 o)
      have sH5 : ∀ o, Same H5 (upd H9 b o) := fun o => s6.trans (sH6 o)
      have sH4 : ∀ o, Same H4 (upd H9 b o) := fun o => s5.trans (sH5 o)
      have sH2 : ∀ o, Same H2 (upd H9 b o) := fun o => (s3.trans s4).trans (sH4 o)
      have l3 : y3.length ≤ 20 := by rw [m3, List.length_append]; omega
      have l8 : y8.length ≤ 20 := by rw [m8, List.length_append]; show xs.length + 1 ≤ 20; omega
      obtain ⟨x, ex, bx⟩ := pick (P := fun x => ∀ o, Both (upd H9 b o) x) (l := [.ref a1, .ref a3, .ref a4, .ref a6, .ref a8, .ref a9]) (r := r) (by show r < 6; omega)
        (fmc (fun o => .ints (sH2 o _ _ e1) (by omega) (li.sub m1)) <| fmc (fun o => .ints (sH4 o _ _ e3) (by omega) (by rw [m3]; exact li.app (li.sub m2))) <| fmc (fun o => .ints (sH5 o _ _ g5) (by rw [List.length_reverse]; omega) (li.sub fun y hy => List.mem_reverse.mp hy)) <|
          fmc (fun o => .lst (sH6 o _ _ g6)) <| fmc (fun o => .ints (sH8 o _ _ e8) (by omega) (by rw [m8]; exact li.app AllI.one)) <| fmc (fun o => .ints (s0 o _ _ e9) (by omega) (li.sub m9)) fmn)
      exact ⟨_, rfl, b, _, _, _, rfl, rfl, SqL.of upd_same, atI_nat ex, fin x _ (s19.trans (s0 _)) (bx _)⟩
    · rw [decide_eq_false c]
      exact iteF mid
  · have fin : ∀ v H', Same H1 H' → Both H' v → Q v H' := fun v H' s b => by
      obtain ⟨o, k⟩ := b.1
      exact q v o H' k (b1.trans s.hb) (d1.same s)
    have last := odd_last (K := K) (H := H1) (Q := Q) (s0 := some (.ref a)) (s1 := some (nv n)) hr fin
    have mid : (tSeq (tIfS (tAnd (tTest (tOp rLtI (tVar 2) (tC (.int 6)))) (tB (tCall (sp_law_is_int K) [] E0 (tCons (tVar 1) tNil)))) (tRet (tOp (rIxL K) (tLst (tCons (tOp rAddI (tVar 1) (tC (.int 1))) (tCons (tOp rSubI (tVar 1) (tC (.int 1))) (tCons (tOp rAddI (tVar 1) (tOp rPowI (tC (.int 10)) (tC (.int 30)))) (tCons (tUn rNegI (tVar 1)) (tCons (tCB rBool1 (tCons (tVar 1) tNil)) (tCons (tCB rStrI (tCons (tVar 1) tNil)) tNil))))))) (tVar 2))) tNext) (t_odd_last K)) (De Q) [some (.ref a), some (nv n), some (nv r)] H1 := by
      walk_at "rx"
      refine ⟨_, rfl, _, _, rfl, rfl, decide ((r : Int) < 6), rfl, ?_⟩
      by_cases c : (r : Int) < 6
      · rw [decide_eq_true c]
        refine iteT ⟨_, rfl, some (n : Int), .int _, true, rfl, iteT ?_⟩
        have hlog : ((n : Int)).natAbs.log2 < 1920 := by
          have := Nat.log2_le_self n
          rw [Int.natAbs_natCast]; omega
        refine ⟨_, rfl, _, _, rfl, rfl, _, rfl, _, _, rfl, rfl, _, rfl, _, _, rfl, rfl, ⟨by decide, by decide, by decide⟩, _, _, rfl, rfl, _, rfl, _, rfl, _, rfl, .inl ⟨_, rfl, _, rfl, _, rfl, hlog, by show 6 ≤ sizeLine; decide, fun b nb => ?_⟩⟩
        obtain ⟨x, ex, bx⟩ := pick (P := fun x => ∀ H', Both H' x) (l := [.int ((n : Int) + 1), .int ((n : Int) - 1), .int ((n : Int) + 10 ^ (30 : Int).toNat), .int (-(n : Int)), .bl ((n : Int) != 0), .str (toString (n : Int))]) (r := r) (by show r < 6; omega)
          (fmc (fun _ => .int _) <| fmc (fun _ => .int _) <| fmc (fun _ => .int _) <| fmc (fun _ => .int _) <| fmc (fun _ => .bl _) <| fmc (fun _ => .str _) fmn)
        exact ⟨_, rfl, b, _, _, _, rfl, rfl, SqL.of upd_same, atI_nat ex, fin x _ (Same.new nb) (bx _)⟩
      · rw [decide_eq_false c]
        exact iteF last
    walk_at "rx"
    refine ⟨_, rfl, _, _, rfl, rfl, decide ((r : Int) < 6), rfl, ?_⟩
    by_cases c : (r : Int) < 6
    · rw [decide_eq_true c]
      exact iteT ⟨_, rfl, _, _, _, _, false, rfl, .ty _, .base (.int _), kit_ty (by decide +kernel), false, rfl, iteF mid⟩
    · rw [decide_eq_false c]
      exact iteF mid
end NB
set_option pp.maxSteps 900
set_option Elab.async false
set_option linter.all false
set_option maxRecDepth 100000
set_option maxHeartbeats 4000000
namespace NB
open PySem PyProof.Rows L2
local macro_rules | `(tactic| walk_at "rd") => `(tactic| dsimp only [De, tSeq, tNext, tAsg, tIfS, tRet, tRetN, tDrop, tBreak, tCont, tAug, ipI, gName, gNil, gCons, gTup, gSub, tVar, tC, tOp, tUn, tTest, tB, tTru, tNot, tAnd, tOr, tNotV, tAndV, tOrV, tChain, tCons, tNil, tCB, tCall, tMeth, tMake, tTup, tLst, tFld, sFld, tDGet, tDIn, tDNotIn, sDPut, tDNewK, tDNewT, tBM, tBM0, tSl, tPart, tNoPart, tYes, iList, iTup, iRng1, iRng2, iEnum, iEnumT, iSeq, RZ.iZipA, rMaxT, rRepA, rIn, tLstRg, tRg1, tRevT, rI0, rI, rU, rAddI, rSubI, rMulI, rDivI, rModI, rPowI, rShlI, rShrI, rAndI, rOrI, rLtI, rLeI, rGtI, rGeI, rNegI, rInvI, rEq, rNe, rLenS, rListS, rTupleS, rInt1, rBool1, rStrI, rAbsI, rAll, rAny, rAppend, rExtend, rPopAt, rRep, rIxL, rIxT, rSetL, rSlL, rSlA, rCatA, rEqD, rNeD, List.cons_append, List.nil_append, List.append_nil])
local macro_rules | `(tactic| walk_at "rx") => `(tactic| dsimp only [De, tSeq, tNext, tAsg, tIfS, tRet, tRetN, tDrop, tBreak, tCont, tAug, ipI, gName, gNil, gCons, gTup, gSub, tVar, tC, tOp, tUn, tTest, tB, tTru, tNot, tAnd, tOr, tNotV, tAndV, tOrV, tChain, tCons, tNil, tCB, tCall, tCallS, tTry, tRaiseN, tMeth, tMake, tTup, tLst, tFld, sFld, tDGet, tDIn, tDNotIn, sDPut, tDNewK, tDNewT, tBM, tBM0, tSl, tPart, tNoPart, tYes, iList, iTup, iRng1, iRng2, iEnum, iEnumT, iSeq, RZ.iZipA, rMaxT, rIn, tLstRg, tRg1, tRevT, rI0, rI, rU, rAddI, rSubI, rMulI, rDivI, rModI, rPowI, rShlI, rShrI, rAndI, rOrI, rLtI, rLeI, rGtI, rGeI, rNegI, rInvI, rEq, rNe, rLenS, rListS, rTupleS, rInt1, rBool1, rStrI, rAbsI, rAll, rAny, rAppend, rExtend, rPopAt, rRep, rIxL, rIxT, rSetL, rSlL, rEqD, rNeD, List.cons_append, List.nil_append, List.append_nil])
theorem sc_law_spoiled0 : FnScope ["_law_hand_here", "_law_thing", "_law_deep", "_law_at"] ["_law_hand_here", "_law_thing", "_law_deep"] (defScope s_law_spoiled) := ⟨rfl, rfl, rfl, by decide +kernel, rfl, by decide +kernel, by decide +kernel⟩
def t_law_spoiled0 (K : PySem.W.Frag) : TS :=
  (tSeq (tIfS (tAnd (tB (tCB (rIsi K) (tCons (tVar 1) (tCons (tC (.ty "tuple")) tNil)))) (tAnd (tTest (tOp rGtI (tCB (rLenS K) (tCons (tVar 1) tNil)) (tC (.int 0)))) (tAnd (tTest (tOp rGtI (tVar 2) (tC (.int 0)))) (tTest (tOp rGtI (tCall (sp_law_draw K) [] E0 (tCons (tVar 0) (tCons (tC (.int 4)) tNil))) (tC (.int 0))))))) tNever tNext)
    (tRet (tCall (sp_law_odd K) [] E0 (tCons (tVar 0) (tCons (tVar 1) tNil)))))
theorem sc_law_spoiled : FnScope ["_law_hand_here", "_law_thing", "_law_deep", "_law_at"] ["_law_hand_here", "_law_thing", "_law_deep"] (defScope s_law_spoiled) := ⟨rfl, rfl, rfl, by decide +kernel, rfl, by decide +kernel, by decide +kernel⟩
def t_law_spoiled (K : PySem.W.Frag) : TS :=
  (tSeq (tIfS (tAnd (tB (tCB (rIsi K) (tCons (tVar 1) (tCons (tC (.ty "tuple")) tNil)))) (tAnd (tTest (tOp rGtI (tCB (rLenS K) (tCons (tVar 1) tNil)) (tC (.int 0)))) (tAnd (tTest (tOp rGtI (tVar 2) (tC (.int 0)))) (tTest (tOp rGtI (tCall (sp_law_draw K) [] E0 (tCons (tVar 0) (tCons (tC (.int 4)) tNil))) (tC (.int 0))))))) (tSeq (tAsg (tCall (sp_law_draw K) [] E0 (tCons (tVar 0) (tCons (tCB (rLenS K) (tCons (tVar 1) tNil)) tNil))) (gName 3))
    (tRet (tOp (rCatA K) (tOp (rCatA K) (tSl (rSlA K) (tVar 1) tNoPart (tPart (tVar 3))) (tTup (tCons (tCall (sp_law_spoiled0 K) [] E0 (tCons (tVar 0) (tCons (tOp (rIxT K) (tVar 1) (tVar 3)) (tCons (tOp rSubI (tVar 2) (tC (.int 1))) tNil)))) tNil))) (tSl (rSlA K) (tVar 1) (tPart (tOp rAddI (tVar 3) (tC (.int 1)))) tNoPart)))) tNext)
    (tRet (tCall (sp_law_odd K) [] E0 (tCons (tVar 0) (tCons (tVar 1) tNil)))))
theorem rd_law_spoiled0 {K : Frag} {mg : Str → Option Value} (T : Txt K mg) {h t d : V} {H : Hp} {Q : VK} (hh : ph_law_spoiled0 K h t d H Q) : t_law_spoiled0 K (De Q) [some h, some t, some d, none] H := by
  obtain ⟨a, n, rfl, hd, rfl, hn, rfl, q⟩ := hh
  unfold t_law_spoiled0
  walk_at "rx"
  refine ⟨_, rfl, _, _, _, _, false, rfl, .ty _, .base (.int _), kit_ty (by decide +kernel), false, rfl, iteF ?_⟩
  exact ⟨_, rfl, _, rfl, a, rfl, hd, .inr ⟨n, rfl, hn, q⟩⟩
theorem rd_law_spoiled {K : Frag} {mg : Str → Option Value} (T : Txt K mg) {h t d : V} {H : Hp} {Q : VK} (hh : ph_law_spoiled K h t d H Q) : t_law_spoiled K (De Q) [some h, some t, some d, none] H := by
  obtain ⟨a, l, rfl, hd, hg, hl, hlt, rfl, q⟩ := hh
  obtain ⟨ag, rfl, hag⟩ := hg.lot
  have odd : ∀ H1, HB a H H1 → Hand H1 a → (tRet (tCall (sp_law_odd K) [] E0 (tCons (tVar 0) (tCons (tVar 1) tNil)))) (De Q) [some (.ref a), some (.ref ag), some (nv 1), none] H1 := fun H1 b1 d1 => by
    walk_at "rx"
    exact ⟨_, rfl, _, rfl, a, rfl, d1, .inl ⟨l, hg.im (b1.1.im hd), hl, hlt, fun v d H' th ld b d' => q v d H' th ld (b1.trans b) d'⟩⟩
  have odd0 := odd H (HB.refl a H) hd
  unfold t_law_spoiled
  walk_at "rx"
  refine ⟨_, rfl, isT hag ⟨true, rfl, iteT ?_⟩⟩
  refine ⟨_, rfl, ag, _, rfl, .inr (SqT.of hag), _, _, rfl, rfl, decide ((0 : Int) < (((l.map nv).length : Nat) : Int)), rfl, ?_⟩
  rw [List.length_map]
  by_cases c0 : (0 : Int) < (l.length : Int)
  case neg =>
    rw [decide_eq_false c0]
    exact iteF odd0
  rw [decide_eq_true c0]
  refine iteT ⟨_, rfl, _, _, rfl, rfl, true, rfl, iteT ?_⟩
  refine ⟨_, rfl, a, 4, rfl, hd, rfl, by decide, by decide, fun r H1 hr b1 d1 => ⟨_, _, rfl, rfl, decide ((0 : Int) < (r : Int)), rfl, ?_⟩⟩
  by_cases c1 : (0 : Int) < (r : Int)
  case neg =>
    rw [decide_eq_false c1]
    exact iteF (odd H1 b1 d1)
  rw [decide_eq_true c1]
  have hag1 := (b1.1.im hd) _ _ hag
  refine iteT ⟨_, rfl, _, rfl, ag, _, rfl, .inr (SqT.of hag1), a, l.length, rfl, d1, by show V.int (((l.map nv).length : Nat) : Int) = _; rw [List.length_map], by omega, by omega, fun i H2 hi b2 d2 => ?_⟩
  have hag2 := (b2.1.im d1) _ _ hag1
  have b12 := b1.trans b2
  refine ⟨_, rfl, _, rfl, _, rfl, slA_of hag2 fun a1 y1 H3 s3 e1 m1 l1 => ?_⟩
  have hag3 := s3 _ _ hag2
  have hli : l[i]? = some (l.getD i 0) := get_of hi 0
  have d3 := d2.same s3
  refine ⟨_, rfl, _, rfl, _, rfl, ag, _, _, _, rfl, rfl, SqT.of hag3, atI_nat (getElem?_nats hli), _, rfl, _, _, rfl, rfl, a, l.getD i 0, rfl, d3, rfl, hlt _ (List.mem_of_getElem? hli), rfl, fun v o H4 kn b4 d4 => ?_⟩
  have im4 := b4.1.im d3
  have hag4 := im4 _ _ hag3
  refine ⟨by show 1 ≤ sizeLine; decide, fun p5 n5 => ?_⟩
  have s5 := Same.new (o := .tup [v]) n5
  have g5 : (upd H4 p5 (.tup [v])) p5 = some (.tup [v]) := upd_same
  generalize upd H4 p5 (.tup [v]) = H5 at s5 g5 ⊢
  have li : AllI (l.map nv) := AllI.nats
  have ll : (l.map nv).length ≤ 10 := by rw [List.length_map]; exact hl
  generalize l.map nv = xs at *
  refine catA_of (s5 _ _ (im4 _ _ e1)) g5 (by show y1.length + 1 ≤ 100000; omega) fun a6 y6 H6 s6 e6 m6 => ?_
  have hag6 := s6 _ _ (s5 _ _ hag4)
  refine ⟨_, rfl, _, rfl, _, _, rfl, rfl, _, rfl, slA_of hag6 fun a7 y7 H7 s7 e7 m7 l7 => ?_⟩
  have e67 := s7 _ _ e6
  have l6 : y6.length ≤ 11 := by rw [m6, List.length_append]; show y1.length + 1 ≤ 11; omega
  refine catA_of e67 e7 (by omega) fun a8 y8 H8 s8 e8 m8 => ?_
  have s48 := ((s5.trans s6).trans s7).trans s8
  have kn8 := kn.same s48
  have bo : Both H8 (.ref a8) := .tup e8 (by rw [m8, List.length_append]; omega) fun x hx => by
    rw [m8, m6] at hx
    rcases List.mem_append.mp hx with hx | hx
    · rcases List.mem_append.mp hx with hx | hx
      · obtain ⟨j, rfl⟩ := li x (m1 x hx)
        exact ⟨_, .int j⟩
      · cases List.mem_singleton.mp hx
        exact ⟨_, kn8⟩
    · obtain ⟨j, rfl⟩ := li x (m7 x hx)
      exact ⟨_, .int j⟩
  obtain ⟨d, th, ld⟩ := bo.2
  exact q _ d H8 th ld (((b12.trans s3.hb).trans b4).trans s48.hb) (d4.same s48)
end NB
set_option pp.maxSteps 900
set_option Elab.async false
set_option linter.all false
set_option maxRecDepth 100000
set_option maxHeartbeats 4000000
namespace NB
open PySem PyProof.Rows L2
local macro_rules | `(tactic| walk_at "rd") => `(tactic| dsimp only [De, tSeq, tNext, tAsg, tIfS, tRet, tRetN, tDrop, tBreak, tCont, tAug, ipI, gName, gNil, gCons, gTup, gSub, tVar, tC, tOp, tUn, tTest, tB, tTru, tNot, tAnd, tOr, tNotV, tAndV, tOrV, tChain, tCons, tNil, tCB, tCall, tMeth, tMake, tTup, tLst, tFld, sFld, tDGet, tDIn, tDNotIn, sDPut, tDNewK, tDNewT, tBM, tBM0, tSl, tPart, tNoPart, tYes, iList, iTup, iRng1, iRng2, iEnum, iEnumT, iSeq, RZ.iZipA, rMaxT, rRepA, rIn, tLstRg, tRg1, tRevT, rI0, rI, rU, rAddI, rSubI, rMulI, rDivI, rModI, rPowI, rShlI, rShrI, rAndI, rOrI, rLtI, rLeI, rGtI, rGeI, rNegI, rInvI, rEq, rNe, rLenS, rListS, rTupleS, rInt1, rBool1, rStrI, rAbsI, rAll, rAny, rAppend, rExtend, rPopAt, rRep, rIxL, rIxT, rSetL, rSlL, rSlA, rCatA, rEqD, rNeD, List.cons_append, List.nil_append, List.append_nil])
local macro_rules | `(tactic| walk_at "rs") => `(tactic| dsimp only [De, tSeq, tNext, tAsg, tIfS, tRet, tRetN, tDrop, tBreak, tCont, tAug, ipI, gName, gNil, gCons, gTup, gSub, tVar, tC, tOp, tUn, tTest, tB, tTru, tNot, tAnd, tOr, tNotV, tAndV, tOrV, tChain, tCons, tNil, tCB, tCall, tMeth, tMake, tTup, tLst, tFld, sFld, tDGet, tDIn, tDNotIn, sDPut, tDNewK, tDNewT, tBM, tBM0, tSl, tPart, tNoPart, tYes, iList, iTup, iRng1, iRng2, iEnum, iEnumT, iSeq, RZ.iZipA, rMaxT, rRepA, rIn, tLstRg, tRg1, tRevT, rI0, rI, rU, rAddI, rSubI, rMulI, rDivI, rModI, rPowI, rShlI, rShrI, rAndI, rOrI, rLtI, rLeI, rGtI, rGeI, rNegI, rInvI, rEq, rNe, rLenS, rListS, rTupleS, rInt1, rBool1, rStrI, rAbsI, rAll, rAny, rAppend, rExtend, rPopAt, rRep, rIxL, rIxT, rSetL, rSlL, rCatA, rEqD, rNeD, List.cons_append, List.nil_append, List.append_nil])
theorem sc_State_stands : FnScope ["self", "told", "kind", "closed", "lot"] ["self"] (defScope s_State_stands) := ⟨rfl, rfl, rfl, by decide +kernel, rfl, by decide +kernel, by decide +kernel⟩
def t_State_stands (K : PySem.W.Frag) : TS :=
  (tSeq (tAsg (tLzip3 K (tCons (tFld K (tVar 0) "sorts") (tCons (tFld K (tVar 0) "shut") (tCons (tFld K (tVar 0) "lots") tNil)))) (gName 1))
    (tRet (tLc (iList K (tVar 1)) (gTup K 3 (gCons (gName 2) (gCons (gName 3) (gCons (gName 4) gNil)))) tYes (tTup (tCons (tVar 2) (tCons (tCall (sp_lot_of K) [] E0 (tCons (tVar 3) tNil)) (tCons (tCall (sp_lot_of K) [] E0 (tCons (tVar 4) tNil)) tNil)))) [2, 3, 4])))
theorem rd_State_stands {K : Frag} {mg : Str → Option Value} (T : Txt K mg) {v : V} {H : Hp} {Q : VK} (h : ph_State_stands K v H Q) : t_State_stands K (De Q) [some v, none, none, none, none] H := by
  obtain ⟨kinds, shut, lots, S, ls, ll, hk, hs, hl, q⟩ := h
  have qq : ∀ (a : Addr) (xs : List V) (H' : Hp), Same H H' → H a = none → H' a = some (.lst xs) → DtL H' xs ((kinds.zip (shut.zip lots)).map eStand) → Q (.ref a) H' := q
  obtain ⟨a, dx, l1, l2, l3, rfl, g0, g1, g2, g3⟩ := S.ex
  unfold t_State_stands
  walk_at "rd"
  dsimp only [tLzip3]
  walk_at "rd"
  refine ⟨_, rfl, a, _, dx, _, _, rfl, g0, T.c_State, T.n_State_sorts, by rfl, _, rfl, a, _, dx, _, _, rfl, g0, T.c_State, T.n_State_shut, by rfl, _, rfl, a, _, dx, _, _, rfl, g0, T.c_State, T.n_State_lots, by rfl, ?_⟩
  refine ⟨l1, l2, l3, _, _, _, rfl, SqL.of g1, SqL.of g2, SqL.of g3, by simp [ls], by simp [ll], fun H1 p ts s1 n1 nts pn lts hp hts => ?_⟩
  rw [List.length_map] at lts
  refine ⟨_, rfl, p, rfl, ⟨_, SqL.of hp⟩, fun Dl nD => ?_⟩
  refine lc_dt (walk_list (K := K) (a := p) (xs := ts.map V.ref)) nD ((kinds.zip (shut.zip lots)).map eStand) (by rw [List.length_map, List.length_zip, List.length_zip, List.length_map, lts]; omega) (by rw [List.length_map, lts]; omega) (fun H' s => SqL.of (s _ _ hp)) ?_ ?_
  · rintro i d x H2 H3 Kk hd s2 ⟨rfl, hx⟩ hK
    have hi : i < kinds.length := by
      have := (List.getElem?_eq_some_iff.mp hd).1
      rw [List.length_map, List.length_zip, List.length_zip] at this
      omega
    rw [List.getElem?_map] at hx
    obtain ⟨t, ht, rfl⟩ := Option.map_eq_some_iff.mp hx
    obtain ⟨x1, x2, x3, e1, e2, e3, e4⟩ := hts i t ht
    obtain ⟨k1, f1, rfl⟩ := of_getElem?_nats e1
    obtain ⟨k2, f2, rfl⟩ := of_getElem?_nats e2
    obtain ⟨k3, f3, rfl⟩ := of_getElem?_nats e3
    have ed : d = eStand (k1, k2, k3) := by
      have : (kinds.zip (shut.zip lots))[i]? = some (k1, k2, k3) := by
        rw [List.getElem?_zip_eq_some, List.getElem?_zip_eq_some]
        exact ⟨f1, f2, f3⟩
      rw [List.getElem?_map, this] at hd
      exact (Option.some.inj hd).symm
    subst ed
    refine ⟨t, _, rfl, SqT.of (s2 _ _ e4), rfl, _, _, rfl, _, _, rfl, _, _, rfl, rfl, rfl, ?_⟩
    refine ⟨_, rfl, _, rfl, k2, rfl, hs _ (List.mem_of_getElem? f2), fun v1 H4 s4 hv1 => ?_⟩
    refine ⟨_, rfl, k3, rfl, hl _ (List.mem_of_getElem? f3), fun v2 H5 s5 hv2 => ?_⟩
    refine ⟨by show 3 ≤ sizeLine; decide, fun b nb => ?_⟩
    have s6 : Same H5 (upd H5 b (.tup [nv k1, v1, v2])) := Same.new nb
    exact hK _ _ ((s4.trans s5).trans s6) (.tup upd_same (.cons (.int _) (.cons ((hv1.same s5).same s6) (.cons (hv2.same s6) .nil))))
  · intro H2 ys s2 hD hds
    exact qq Dl ys H2 (s1.trans s2) (s1.free nD) hD hds
end NB
set_option pp.maxSteps 900
set_option Elab.async false
set_option linter.all false
set_option maxRecDepth 100000
set_option maxHeartbeats 4000000
namespace NB
open PySem PyProof.Rows L2
local macro_rules | `(tactic| walk_at "rd") => `(tactic| dsimp only [De, tSeq, tNext, tAsg, tIfS, tRet, tRetN, tDrop, tBreak, tCont, tAug, ipI, gName, gNil, gCons, gTup, gSub, tVar, tC, tOp, tUn, tTest, tB, tTru, tNot, tAnd, tOr, tNotV, tAndV, tOrV, tChain, tCons, tNil, tCB, tCall, tMeth, tMake, tTup, tLst, tFld, sFld, tDGet, tDIn, tDNotIn, sDPut, tDNewK, tDNewT, tBM, tBM0, tSl, tPart, tNoPart, tYes, iList, iTup, iRng1, iRng2, iEnum, iEnumT, iSeq, RZ.iZipA, rMaxT, rRepA, rIn, tLstRg, tRg1, tRevT, rI0, rI, rU, rAddI, rSubI, rMulI, rDivI, rModI, rPowI, rShlI, rShrI, rAndI, rOrI, rLtI, rLeI, rGtI, rGeI, rNegI, rInvI, rEq, rNe, rLenS, rListS, rTupleS, rInt1, rBool1, rStrI, rAbsI, rAll, rAny, rAppend, rExtend, rPopAt, rRep, rIxL, rIxT, rSetL, rSlL, rSlA, rCatA, rEqD, rNeD, List.cons_append, List.nil_append, List.append_nil])
local macro_rules | `(tactic| walk_at "rs") => `(tactic| dsimp only [De, tSeq, tNext, tAsg, tIfS, tRet, tRetN, tDrop, tBreak, tCont, tAug, ipI, gName, gNil, gCons, gTup, gSub, tVar, tC, tOp, tUn, tTest, tB, tTru, tNot, tAnd, tOr, tNotV, tAndV, tOrV, tChain, tCons, tNil, tCB, tCall, tMeth, tMake, tTup, tLst, tFld, sFld, tDGet, tDIn, tDNotIn, sDPut, tDNewK, tDNewT, tBM, tBM0, tSl, tPart, tNoPart, tYes, iList, iTup, iRng1, iRng2, iEnum, iEnumT, iSeq, RZ.iZipA, rMaxT, rRepA, rIn, tLstRg, tRg1, tRevT, rI0, rI, rU, rAddI, rSubI, rMulI, rDivI, rModI, rPowI, rShlI, rShrI, rAndI, rOrI, rLtI, rLeI, rGtI, rGeI, rNegI, rInvI, rEq, rNe, rLenS, rListS, rTupleS, rInt1, rBool1, rStrI, rAbsI, rAll, rAny, rAppend, rExtend, rPopAt, rRep, rIxL, rIxT, rSetL, rSlL, rCatA, rEqD, rNeD, List.cons_append, List.nil_append, List.append_nil])
theorem sc_led : FnScope ["book", "program", "row", "state"] ["book", "program", "row"] (defScope s_led) := ⟨rfl, rfl, rfl, by decide +kernel, rfl, by decide +kernel, by decide +kernel⟩
def t_led (K : PySem.W.Frag) : TS :=
  (tSeq (tDrop (tCall (sp_check_row K) [] E0 (tCons (tVar 0) (tCons (tVar 2) tNil))))
    (tRet (tLc (iList K (tCall (sp_states_of K) [] E0 (tCons (tVar 0) (tCons (tVar 1) (tCons (tVar 2) tNil))))) (gName 3) tYes (tMeth (He.ga K "State") "stands" (sp_State_stands K) [] E0 (tVar 3) tNil) [3])))
theorem rd_led {K : Frag} {mg : Str → Option Value} (T : Txt K mg) {b p r : V} {H : Hp} {Q : VK} (h : ph_led K b p r H Q) : t_led K (De Q) [some b, some p, some r, none] H := by
  obtain ⟨exits, D, rs, kinds, ways, B, P, xok, pok, hr, hD1, hD, hd, ht, q⟩ := h
  have hk12 := pok.hi
  unfold t_led
  walk_at "rd"
  refine ⟨_, rfl, _, rfl, exits, D, rs, B, hD1, by omega, ht, fun H1 s1 => ?_⟩
  refine ⟨_, rfl, _, rfl, _, rfl, exits, D, rs, kinds, ways, B.same s1, P.same s1, xok, pok, hr, hD, hd, ht.same s1, fun a x y L H2 s2 na ha hx hy fx => ?_⟩
  have s12 := s1.trans s2
  refine ⟨a, rfl, ⟨_, SqL.of ha⟩, fun Dl nD => ?_⟩
  have hp : ∀ z, z < 2 ^ D → z < 2 ^ 100 := fun z hz => Nat.lt_of_lt_of_le hz (Nat.pow_le_pow_right (by decide) (by omega))
  have h2D := Nat.two_pow_pos D
  refine lc_rel (walk_list (K := K) (a := a) (xs := [x, y])) nD (fun k v H' => v ≠ .ref Dl ∧ (k = 1 → LstAt H' v ((kinds.zip ((List.replicate kinds.length 0).zip L)).map eStand))) (by show 2 ≤ 100000; decide) ?_ (fun H' s => SqL.of (s _ _ ha)) ?_ ?_
  · rintro j v H3 H4 zs hz sb ⟨hv, hl⟩
    refine ⟨hv, fun e => ?_⟩
    obtain ⟨l, xs, rfl, h1, h2⟩ := hl e
    exact ⟨l, xs, rfl, sb _ _ (fun z => hv (by rw [z])) h1, h2.im (sb.imL hz)⟩
  · rintro k v H3 H4 Kk hk s3 hne ⟨rfl, hx'⟩ hK
    match k, hk, hx' with
    | 0, _, hx' =>
      cases Option.some.inj hx'
      have hx3 := hx.same s3
      obtain ⟨sa, sdx, l1, l2, l3, rfl, g0, g1, g2, g3⟩ := hx3.ex
      refine ⟨rfl, _, rfl, sa, sdx, _, rfl, g0, by rfl, kinds, _, _, hx3, by simp, by simp, by omega, fun z hz => ?_, fun z hz => ?_, fun la xs H5 s5 nla hla hds => hK _ _ s5 ⟨fun e => ?_, fun e => by cases e⟩⟩
      · rw [(List.mem_replicate.mp hz).2]; exact Nat.two_pow_pos _
      · rw [(List.mem_replicate.mp hz).2]; exact hp _ (by omega)
      · cases e; exact hne nla
    | 1, _, hx' =>
      cases Option.some.inj hx'
      have hy3 := hy.same s3
      obtain ⟨sa, sdx, l1, l2, l3, rfl, g0, g1, g2, g3⟩ := hy3.ex
      refine ⟨rfl, _, rfl, sa, sdx, _, rfl, g0, by rfl, kinds, _, _, hy3, by simp, fx.len, by omega, fun z hz => ?_, fun z hz => hp _ (fx.lt z hz), fun la xs H5 s5 nla hla hds => hK _ _ s5 ⟨fun e => ?_, fun _ => ⟨la, xs, rfl, hla, hds⟩⟩⟩
      · rw [(List.mem_replicate.mp hz).2]; exact Nat.two_pow_pos _
      · cases e; exact hne nla
  · intro H3 ys s3 hDl hl hy'
    match ys, hl with
    | [u, v], _ => exact q Dl u v L H3 (s12.trans s3) (s12.free nD) hDl ((hy' 1 v rfl).2 rfl) fx
end NB
set_option pp.maxSteps 900
set_option Elab.async false
set_option linter.all false
set_option maxRecDepth 100000
set_option maxHeartbeats 4000000
namespace NB
open PySem PyProof.Rows L2
local macro_rules | `(tactic| walk_at "rd") => `(tactic| dsimp only [De, tSeq, tNext, tAsg, tIfS, tRet, tRetN, tDrop, tBreak, tCont, tAug, ipI, gName, gNil, gCons, gTup, gSub, tVar, tC, tOp, tUn, tTest, tB, tTru, tNot, tAnd, tOr, tNotV, tAndV, tOrV, tChain, tCons, tNil, tCB, tCall, tMeth, tMake, tTup, tLst, tFld, sFld, tDGet, tDIn, tDNotIn, sDPut, tDNewK, tDNewT, tBM, tBM0, tSl, tPart, tNoPart, tYes, iList, iTup, iRng1, iRng2, iEnum, iEnumT, iSeq, RZ.iZipA, rMaxT, rRepA, rIn, tLstRg, tRg1, tRevT, rI0, rI, rU, rAddI, rSubI, rMulI, rDivI, rModI, rPowI, rShlI, rShrI, rAndI, rOrI, rLtI, rLeI, rGtI, rGeI, rNegI, rInvI, rEq, rNe, rLenS, rListS, rTupleS, rInt1, rBool1, rStrI, rAbsI, rAll, rAny, rAppend, rExtend, rPopAt, rRep, rIxL, rIxT, rSetL, rSlL, rSlA, rCatA, rEqD, rNeD, List.cons_append, List.nil_append, List.append_nil])
local macro_rules | `(tactic| walk_at "rx") => `(tactic| dsimp only [De, tSeq, tNext, tAsg, tIfS, tRet, tRetN, tDrop, tBreak, tCont, tAug, ipI, gName, gNil, gCons, gTup, gSub, tVar, tC, tOp, tUn, tTest, tB, tTru, tNot, tAnd, tOr, tNotV, tAndV, tOrV, tChain, tCons, tNil, tCB, tCall, tCallS, tTry, tRaiseN, tMeth, tMake, tTup, tLst, tFld, sFld, tDGet, tDIn, tDNotIn, sDPut, tDNewK, tDNewT, tBM, tBM0, tSl, tPart, tNoPart, tYes, iList, iTup, iRng1, iRng2, iEnum, iEnumT, iSeq, RZ.iZipA, rMaxT, rIn, tLstRg, tRg1, tRevT, rI0, rI, rU, rAddI, rSubI, rMulI, rDivI, rModI, rPowI, rShlI, rShrI, rAndI, rOrI, rLtI, rLeI, rGtI, rGeI, rNegI, rInvI, rEq, rNe, rLenS, rListS, rTupleS, rInt1, rBool1, rStrI, rAbsI, rAll, rAny, rAppend, rExtend, rPopAt, rRep, rIxL, rIxT, rSetL, rSlL, rEqD, rNeD, List.cons_append, List.nil_append, List.append_nil])
/-! ### what stands while a hand is drawn from -/
section
variable {K : Frag} {H0 H : Hp} {p : Addr} {v : V} {exits kinds : List Nat} {mm : MM} {ways : List (List (List Nat))}
theorem HS.keep (h : HS H0 H p) {b : Addr} {o : HO} (e : H0 b = some o) (n : ∀ xs, o ≠ .lst xs) : H b = some o := by
  obtain ⟨c, i, dg, t, k, cells, h1, _⟩ := h.hand0.ex
  exact h.hb.1 b o (fun z => by rw [z, h1] at e; cases e; exact n _ rfl) e
theorem BagAt.hs (h : HS H0 H p) (b : BagAt K H0 v exits) : BagAt K H v exits := by
  obtain ⟨a, dx, x, e, h1, h2⟩ := b.ex
  exact ⟨a, dx, x, e, h.keep h1 fun _ z => (by cases z), h.dt h2⟩
theorem MachAt.hs (h : HS H0 H p) (b : MachAt K H0 v exits mm) : MachAt K H v exits mm := by
  obtain ⟨a, dx, b, st, t, e, h1, h2, h3, h4⟩ := b.ex
  exact ⟨a, dx, b, st, t, e, h.keep h1 fun _ z => (by cases z), h2.hs h, h.dt h3, h.dt h4⟩
theorem ProgAt.hs (h : HS H0 H p) (b : ProgAt K H0 v exits kinds ways) : ProgAt K H v exits kinds ways := by
  obtain ⟨a, dx, b, st, t, e, h1, h2, h3, h4⟩ := b.ex
  exact ⟨a, dx, b, st, t, e, h.keep h1 fun _ z => (by cases z), h2.hs h, h.dt h3, h.dt h4⟩
/-- a list that is not the hand's -/
theorem HS.lst (h : HS H0 H p) {b : Addr} {xs : List V} (e : H0 b = some (.lst xs)) (n : xs.length ≠ 5 ∨ ∀ x ∈ xs, ∀ i, x ≠ .int i) : H b = some (.lst xs) := by
  obtain ⟨c, i, dg, t, k, cells, h1, _⟩ := h.hand0.ex
  refine h.hb.1 b _ (fun z => ?_) e
  rw [z, h1] at e
  cases e
  rcases n with n | n
  · exact n rfl
  · exact n (.int i) (by simp) i rfl
theorem DtL.tups {H : Hp} {α : Type} {f : α → PyData} (hf : ∀ x, ∃ ds, f x = .tuple ds) : ∀ {xs : List V} {l : List α}, DtL H xs (l.map f) → ∀ x ∈ xs, ∀ i, x ≠ .int i
  | _, [], .nil, _, hx, _ => by cases hx
  | _, a :: l, .cons h r, x, hx, i => by
    rcases List.mem_cons.mp hx with rfl | hx
    · obtain ⟨ds, e⟩ := hf a
      rw [e] at h
      obtain ⟨b, ys, rfl, _⟩ := h.tup_inv
      intro z; cases z
    · exact DtL.tups hf r x hx i
theorem LstAt.hs (h : HS H0 H p) {α : Type} {f : α → PyData} {l : List α} (hf : ∀ x, ∃ ds, f x = .tuple ds) (b : LstAt H0 v (l.map f)) : LstAt H v (l.map f) := by
  obtain ⟨a, xs, e, h1, h2⟩ := b
  exact ⟨a, xs, e, h.lst h1 (.inr (DtL.tups hf h2)), h2.im h.im⟩
theorem BookAt.hs (h : HS H0 H p) (xok : XOk exits) {D : Nat} {rs : List Rule} (b : BookAt K H0 v exits D rs) : BookAt K H v exits D rs := by
  obtain ⟨a, dx, b, o, r, w, hh, y, e, h1, h2, h3, h4, h5, h6, h7⟩ := b.ex
  have x4 := xok.hi
  refine ⟨a, dx, b, o, r, w, hh, y, e, h.keep h1 fun _ z => (by cases z), h2.hs h, h.dt h3, h.dt h4, h.dt h5, ?_, ?_⟩
  · obtain ⟨l, xs, e1, k1, k2, k3⟩ := h6
    exact ⟨l, xs, e1, h.lst k1 (.inl (by omega)), k2, fun i x hx => (k3 i x hx).hs h fun _ => ⟨_, rfl⟩⟩
  · obtain ⟨l, xs, e1, k1, k2, k3⟩ := h7
    refine ⟨l, xs, e1, h.lst k1 (.inl (by omega)), k2, fun i x hx => ?_⟩
    obtain ⟨l', xs', e1', k1', k2', k3'⟩ := k3 i x hx
    have : exits.getD i 0 ≤ 3 := by
      by_cases c : i < exits.length
      · exact xok.le _ (List.mem_of_getElem? (get_of c 0))
      · rw [List.getD_eq_getElem?_getD, List.getElem?_eq_none (by omega)]; exact Nat.zero_le _
    exact ⟨l', xs', e1', h.lst k1' (.inl (by omega)), k2', fun j z hz => (k3' j z hz).hs h fun _ => ⟨_, rfl⟩⟩
theorem Hand.lst {H : Hp} {p : Addr} (h : Hand H p) : ∃ xs, H p = some (.lst xs) := by
  obtain ⟨c, i, dg, t, k, cells, h1, _⟩ := h.ex
  exact ⟨_, h1⟩
theorem Kn.hs (h : HS H0 H p) {o : Option Int} (k : Kn H0 v o) : Kn H v o := by
  cases k with
  | int i => exact .int i
  | non => exact .non
  | bl b => exact .bl b
  | str x => exact .str x
  | @lst a xs e =>
    by_cases c : a = p
    · obtain ⟨ys, hy⟩ := h.hand.lst
      rw [c]; exact .lst hy
    · exact .lst (h.hb.1 _ _ c e)
  | tup e => exact .tup (h.keep e fun _ z => by cases z)
  | dK e => exact .dK (h.keep e fun _ z => by cases z)
theorem Th.hs (h : HS H0 H p) {o : Option (List (Option Int))} (k : Th H0 v o) : Th H v o := by
  cases k with
  | tup e hl hx => exact .tup (h.keep e fun _ z => by cases z) hl fun i x hi => let ⟨o, h1, h2⟩ := hx i x hi; ⟨o, h1, h2.hs h⟩
  | int i => exact .int i
  | non => exact .non
  | bl b => exact .bl b
  | str x => exact .str x
  | @lst a xs e =>
    by_cases c : a = p
    · obtain ⟨ys, hy⟩ := h.hand.lst
      rw [c]; exact .lst hy
    · exact .lst (h.hb.1 _ _ c e)
  | dK e => exact .dK (h.keep e fun _ z => by cases z)
end
/-! ### lots -/
theorem nats_inj : ∀ {l m : List Nat}, l.map nv = m.map nv → l = m
  | [], [], _ => rfl
  | [], _ :: _, h => by cases h
  | _ :: _, [], h => by cases h
  | a :: l, b :: m, h => by
    rw [List.map_cons, List.map_cons] at h
    injection h with h1 h2
    injection h1 with h1
    rw [nats_inj h2, show a = b by omega]
theorem lot_inj {H : Hp} {v : V} {l m : List Nat} (h : Dt H v (eL l)) (h' : Dt H v (eL m)) : l = m := by
  obtain ⟨a, rfl, e⟩ := h.lot
  obtain ⟨b, e1, e2⟩ := h'.lot
  cases e1
  rw [e] at e2
  exact nats_inj (by injection e2 with e2; injection e2)
theorem asc_ext : ∀ {l m : List Nat}, l.Pairwise (· < ·) → m.Pairwise (· < ·) → (∀ x, x ∈ l ↔ x ∈ m) → l = m
  | [], [], _, _, _ => rfl
  | [], b :: m, _, _, h => by have := (h b).mpr List.mem_cons_self; cases this
  | a :: l, [], _, _, h => by have := (h a).mp List.mem_cons_self; cases this
  | a :: l, b :: m, h1, h2, h => by
    obtain ⟨p1, p2⟩ := List.pairwise_cons.mp h1
    obtain ⟨q1, q2⟩ := List.pairwise_cons.mp h2
    have e : a = b := by
      rcases List.mem_cons.mp ((h a).mp List.mem_cons_self) with e | ha
      · exact e
      · rcases List.mem_cons.mp ((h b).mpr List.mem_cons_self) with e | hb
        · exact e.symm
        · have := q1 a ha
          have := p1 b hb
          omega
    subst e
    congr 1
    refine asc_ext p2 q2 fun x => ⟨fun hx => ?_, fun hx => ?_⟩
    · rcases List.mem_cons.mp ((h x).mp (List.mem_cons_of_mem _ hx)) with e | hm
      · have := p1 x hx; omega
      · exact hm
    · rcases List.mem_cons.mp ((h x).mpr (List.mem_cons_of_mem _ hx)) with e | hm
      · have := q1 x hx; omega
      · exact hm
/-! ### comparisons -/
theorem Shp.rule {r : Rule} {n : Nat} : Shp (eR r) (n + 2) := by
  cases r with
  | here k need d => exact .tup (.cons (.str (by decide +kernel)) (.cons .int (.cons .lot (.cons .int .nil))))
  | way k e near far b d => exact .tup (.cons (.str (by decide +kernel)) (.cons .int (.cons .int (.cons .lot (.cons .lot (.cons (.str (by cases b <;> decide +kernel)) (.cons .int .nil)))))))
theorem Shp.rules {rs : List Rule} : Shp (eT eR rs) 3 := .tup (.map fun _ _ => Shp.rule (n := 0))
theorem neD_same {K : Frag} {H : Hp} {x y : V} {d : PyData} {n : Nat} {Q : VK} (h : Dt H x d) (h' : Dt H y d) (s : Shp d n) (q : Q (.bl false) H) (hn : n ≤ 64 := by decide) : rNeD K x y H Q :=
  ⟨d, d, h.dp, h'.dp, s.ok hn, s.ok hn, by rw [s.eqv]; exact q⟩
theorem neD_lists {K : Frag} {H : Hp} {a b : Addr} {xs ys : List V} {ds : List PyData} {n : Nat} {Q : VK} (h : H a = some (.lst xs)) (h' : H b = some (.lst ys)) (hx : DtL H xs ds) (hy : DtL H ys ds) (s : ShpL ds n) (q : Q (.bl false) H) (hn : n + 1 ≤ 64 := by decide) : rNeD K (.ref a) (.ref b) H Q :=
  ⟨.list ds, .list ds, .lst (SqL.of h) hx.dp, .lst (SqL.of h') hy.dp, (Shp.list s).ok hn, (Shp.list s).ok hn, by rw [(Shp.list s).eqv]; exact q⟩
/-! ### one turn's pick -/
theorem law_pick {K : Frag} {H0 H : Hp} {p aw : Addr} {l : List Nat} {i : Nat} {σ : L2.St} {R : VK} (h1 : σ[1]? = some (some (.ref p))) (hi : σ[i]? = some (some (.ref aw))) (hs : HS H0 H p) (dw : Dt H (.ref aw) (eL l)) (ll : l.length ≤ 10) (lt : ∀ x ∈ l, x < 1000)
    (k : ∀ v d H', HS H H' p → Th H' v d → (∀ l, d = some l → l.length ≤ 1000) → R v H') :
    (tOp (rIxL K) (tLst (tCons (tVar i) (tCons (tCall (sp_law_spoiled K) [] E0 (tCons (tVar 1) (tCons (tVar i) (tCons (tC (.int 1)) tNil)))) tNil))) (tCall (sp_law_draw K) [] E0 (tCons (tVar 1) (tCons (tC (.int 2)) tNil)))) σ H R := by
  refine ⟨_, hi, _, h1, _, hi, p, l, rfl, hs.hand, dw, ll, lt, rfl, fun v d Ha th ld ba da => ⟨by show 2 ≤ sizeLine; decide, fun q nq => ⟨_, h1, p, 2, rfl, da.hupd nq, rfl, by decide, by decide, fun r Hb hr bb db => ?_⟩⟩⟩
  have h0a : HS H Ha p := (HS.start hs.hand).draw ba da
  have s1 : Same Ha (upd Ha q (.lst [.ref aw, v])) := Same.new nq
  have h0b := (h0a.same s1).draw bb db
  have hab : HS (upd Ha q (.lst [.ref aw, v])) Hb p := (HS.start (da.hupd nq)).draw bb db
  have hq : Hb q = some (.lst [.ref aw, v]) := hab.lst upd_same (.inl (by show 2 ≠ 5; decide))
  match r, hr with
  | 0, _ => exact ⟨q, _, _, _, rfl, rfl, SqL.of hq, atI_nat (j := 0) rfl, k _ _ Hb h0b (Th.lot (h0b.dt dw)) fun l' hl' => by cases hl'; rw [List.length_map]; omega⟩
  | 1, _ => exact ⟨q, _, _, _, rfl, rfl, SqL.of hq, atI_nat (j := 1) rfl, k _ _ Hb h0b ((th.same s1).hs hab) ld⟩
end NB
set_option pp.maxSteps 900
set_option Elab.async false
set_option linter.all false
set_option maxRecDepth 100000
set_option maxHeartbeats 4000000
namespace NB
open PySem PyProof.Rows L2
local macro_rules | `(tactic| walk_at "rd") => `(tactic| dsimp only [De, tSeq, tNext, tAsg, tIfS, tRet, tRetN, tDrop, tBreak, tCont, tAug, ipI, gName, gNil, gCons, gTup, gSub, tVar, tC, tOp, tUn, tTest, tB, tTru, tNot, tAnd, tOr, tNotV, tAndV, tOrV, tChain, tCons, tNil, tCB, tCall, tMeth, tMake, tTup, tLst, tFld, sFld, tDGet, tDIn, tDNotIn, sDPut, tDNewK, tDNewT, tBM, tBM0, tSl, tPart, tNoPart, tYes, iList, iTup, iRng1, iRng2, iEnum, iEnumT, iSeq, RZ.iZipA, rMaxT, rRepA, rIn, tLstRg, tRg1, tRevT, rI0, rI, rU, rAddI, rSubI, rMulI, rDivI, rModI, rPowI, rShlI, rShrI, rAndI, rOrI, rLtI, rLeI, rGtI, rGeI, rNegI, rInvI, rEq, rNe, rLenS, rListS, rTupleS, rInt1, rBool1, rStrI, rAbsI, rAll, rAny, rAppend, rExtend, rPopAt, rRep, rIxL, rIxT, rSetL, rSlL, rSlA, rCatA, rEqD, rNeD, List.cons_append, List.nil_append, List.append_nil])
local macro_rules | `(tactic| walk_at "rx") => `(tactic| dsimp only [De, tSeq, tNext, tAsg, tIfS, tRet, tRetN, tDrop, tBreak, tCont, tAug, ipI, gName, gNil, gCons, gTup, gSub, tVar, tC, tOp, tUn, tTest, tB, tTru, tNot, tAnd, tOr, tNotV, tAndV, tOrV, tChain, tCons, tNil, tCB, tCall, tCallS, tTry, tRaiseN, tMeth, tMake, tTup, tLst, tFld, sFld, tDGet, tDIn, tDNotIn, sDPut, tDNewK, tDNewT, tBM, tBM0, tSl, tPart, tNoPart, tYes, iList, iTup, iRng1, iRng2, iEnum, iEnumT, iSeq, RZ.iZipA, rMaxT, rIn, tLstRg, tRg1, tRevT, rI0, rI, rU, rAddI, rSubI, rMulI, rDivI, rModI, rPowI, rShlI, rShrI, rAndI, rOrI, rLtI, rLeI, rGtI, rGeI, rNegI, rInvI, rEq, rNe, rLenS, rListS, rTupleS, rInt1, rBool1, rStrI, rAbsI, rAll, rAny, rAppend, rExtend, rPopAt, rRep, rIxL, rIxT, rSetL, rSlL, rEqD, rNeD, List.cons_append, List.nil_append, List.append_nil])
def t_law_A (K : PySem.W.Frag) : TS :=
  (tSeq (tFor (iRng1 (tCons (tC (.int 3)) tNil)) (gName 18) (tSeq (tAsg (tOp (rIxL K) (tLst (tCons (tVar 4) (tCons (tCall (sp_law_spoiled K) [] E0 (tCons (tVar 1) (tCons (tVar 4) (tCons (tC (.int 1)) tNil)))) tNil))) (tCall (sp_law_draw K) [] E0 (tCons (tVar 1) (tCons (tC (.int 2)) tNil)))) (gName 19))
    (tSeq (tAsg (tOp (rIxL K) (tLst (tCons (tVar 5) (tCons (tCall (sp_law_spoiled K) [] E0 (tCons (tVar 1) (tCons (tVar 5) (tCons (tC (.int 1)) tNil)))) tNil))) (tCall (sp_law_draw K) [] E0 (tCons (tVar 1) (tCons (tC (.int 2)) tNil)))) (gName 20))
    (tSeq (tAsg (tOrV (tNotV (tCall (sp_law_is_lot K) [] E0 (tCons (tVar 19) (tCons (tCB (rLenS K) (tCons (tVar 2) tNil)) tNil)))) (tNotV (tCall (sp_law_is_lot K) [] E0 (tCons (tVar 20) (tCons (tCB (rLenS K) (tCons (tVar 2) tNil)) tNil))))) (gName 21))
    (tIfS (tTest (tOp (rNeD K) (tCall (sp_law_refused K) [] E0 (tCons (tVar 9) (tCons (tVar 10) (tCons (tVar 19) (tCons (tVar 20) tNil))))) (tLst (tCons (tVar 21) (tCons (tVar 21) tNil))))) (tRet (tC (.bl false))) tNext)))))
    (tRet (tC (.bl true))))
def t_law_B (K : PySem.W.Frag) : TS :=
  (tSeq (tFor (iRng1 (tCons (tCB (rLenS K) (tCons (tVar 6) tNil)) tNil)) (gName 16) (tSeq (tAsg (tOp (rIxT K) (tOp (rIxL K) (tVar 15) (tVar 16)) (tC (.int 2))) (gName 17))
    (tIfS (tTest (tOp rNe (tCB (rAny K) (tCons (tLc (iRng1 (tCons (tOp (rIxT K) (tVar 3) (tC (.int 0))) tNil)) (gName 22) tYes (tAndV (tOp (rIn K false) (tVar 22) (tVar 17)) (tOp (rIn K false) (tOp rAddI (tOp (rIxT K) (tVar 3) (tC (.int 0))) (tVar 22)) (tVar 17))) [22]) tNil)) (tOp (rIn K false) (tVar 16) (tVar 14)))) (tRet (tC (.bl false))) tNext)))
    (tSeq (tFor (iRng1 (tCons (tC (.int 3)) tNil)) (gName 18) (tSeq (tAsg (tOp (rIxL K) (tLst (tCons (tVar 4) (tCons (tCall (sp_law_spoiled K) [] E0 (tCons (tVar 1) (tCons (tVar 4) (tCons (tC (.int 1)) tNil)))) tNil))) (tCall (sp_law_draw K) [] E0 (tCons (tVar 1) (tCons (tC (.int 2)) tNil)))) (gName 19))
    (tSeq (tAsg (tOp (rIxL K) (tLst (tCons (tVar 5) (tCons (tCall (sp_law_spoiled K) [] E0 (tCons (tVar 1) (tCons (tVar 5) (tCons (tC (.int 1)) tNil)))) tNil))) (tCall (sp_law_draw K) [] E0 (tCons (tVar 1) (tCons (tC (.int 2)) tNil)))) (gName 20))
    (tSeq (tAsg (tOrV (tNotV (tCall (sp_law_is_lot K) [] E0 (tCons (tVar 19) (tCons (tCB (rLenS K) (tCons (tVar 2) tNil)) tNil)))) (tNotV (tCall (sp_law_is_lot K) [] E0 (tCons (tVar 20) (tCons (tCB (rLenS K) (tCons (tVar 2) tNil)) tNil))))) (gName 21))
    (tIfS (tTest (tOp (rNeD K) (tCall (sp_law_refused K) [] E0 (tCons (tVar 9) (tCons (tVar 10) (tCons (tVar 19) (tCons (tVar 20) tNil))))) (tLst (tCons (tVar 21) (tCons (tVar 21) tNil))))) (tRet (tC (.bl false))) tNext)))))
    (tRet (tC (.bl true)))))
def t_law_C (K : PySem.W.Frag) : TS :=
  (tSeq (tAsg (tLst (tCons (tCall (sp_law_some K) [] E0 (tCons (tVar 1) (tCons (tCB (rLenS K) (tCons (tVar 2) tNil)) (tCons (tC (.int 2)) tNil)))) (tCons (tCall (sp_law_some K) [] E0 (tCons (tVar 1) (tCons (tCB (rLenS K) (tCons (tVar 2) tNil)) (tCons (tC (.int 3)) tNil)))) tNil))) (gName 12))
    (tSeq (tAsg (tCall (sp_ahead_book K) [] E0 (tCons (tVar 9) (tCons (tOp (rIxL K) (tVar 12) (tC (.int 0))) (tCons (tOp (rIxL K) (tVar 12) (tC (.int 1))) tNil)))) (gName 13))
    (tSeq (tIfS (tTest (tOp (rNeD K) (tMeth (He.ga K "RawBook") "rules" (sp_RawBook_rules K) [] E0 (tVar 13) tNil) (tCall (sp_law_ahead_rules K) [] E0 (tCons (tVar 2) (tCons (tVar 3) (tCons (tOp (rIxL K) (tVar 12) (tC (.int 0))) (tCons (tOp (rIxL K) (tVar 12) (tC (.int 1))) tNil))))))) (tRet (tC (.bl false))) tNext)
    (tSeq (tIfS (tTest (tOp (rNeD K) (tCall (sp_looks_on K) [] E0 (tCons (tVar 9) (tCons (tVar 10) (tCons (tOp (rIxL K) (tVar 12) (tC (.int 0))) (tCons (tOp (rIxL K) (tVar 12) (tC (.int 1))) tNil))))) (tCall (sp_law_looking K) [] E0 (tCons (tVar 3) (tCons (tVar 6) (tCons (tVar 7) (tCons (tOp (rIxL K) (tVar 12) (tC (.int 0))) (tCons (tOp (rIxL K) (tVar 12) (tC (.int 1))) tNil)))))))) (tRet (tC (.bl false))) tNext)
    (tSeq (tAsg (tCall (sp_law_looking K) [] E0 (tCons (tVar 3) (tCons (tVar 6) (tCons (tVar 7) (tCons (tVar 4) (tCons (tVar 5) tNil)))))) (gName 14))
    (tSeq (tIfS (tTest (tOp (rNeD K) (tCall (sp_looks_on K) [] E0 (tCons (tVar 9) (tCons (tVar 10) (tCons (tVar 4) (tCons (tVar 5) tNil))))) (tVar 14))) (tRet (tC (.bl false))) tNext)
    (tSeq (tAsg (tOp (rIxL K) (tCall (sp_led K) [] E0 (tCons (tVar 11) (tCons (tVar 10) (tCons (tTup (tCons (tTup (tCons (tC (.str "turn")) (tCons (tTup (tCons (tC (.int 0)) tNil)) tNil))) tNil)) tNil)))) (tUn rNegI (tC (.int 1)))) (gName 15))
    (tSeq (tFor (iRng1 (tCons (tCB (rLenS K) (tCons (tVar 6) tNil)) tNil)) (gName 16) (tSeq (tAsg (tOp (rIxT K) (tOp (rIxL K) (tVar 15) (tVar 16)) (tC (.int 2))) (gName 17))
    (tIfS (tTest (tOp rNe (tCB (rAny K) (tCons (tLc (iRng1 (tCons (tOp (rIxT K) (tVar 3) (tC (.int 0))) tNil)) (gName 22) tYes (tAndV (tOp (rIn K false) (tVar 22) (tVar 17)) (tOp (rIn K false) (tOp rAddI (tOp (rIxT K) (tVar 3) (tC (.int 0))) (tVar 22)) (tVar 17))) [22]) tNil)) (tOp (rIn K false) (tVar 16) (tVar 14)))) (tRet (tC (.bl false))) tNext)))
    (tSeq (tFor (iRng1 (tCons (tC (.int 3)) tNil)) (gName 18) (tSeq (tAsg (tOp (rIxL K) (tLst (tCons (tVar 4) (tCons (tCall (sp_law_spoiled K) [] E0 (tCons (tVar 1) (tCons (tVar 4) (tCons (tC (.int 1)) tNil)))) tNil))) (tCall (sp_law_draw K) [] E0 (tCons (tVar 1) (tCons (tC (.int 2)) tNil)))) (gName 19))
    (tSeq (tAsg (tOp (rIxL K) (tLst (tCons (tVar 5) (tCons (tCall (sp_law_spoiled K) [] E0 (tCons (tVar 1) (tCons (tVar 5) (tCons (tC (.int 1)) tNil)))) tNil))) (tCall (sp_law_draw K) [] E0 (tCons (tVar 1) (tCons (tC (.int 2)) tNil)))) (gName 20))
    (tSeq (tAsg (tOrV (tNotV (tCall (sp_law_is_lot K) [] E0 (tCons (tVar 19) (tCons (tCB (rLenS K) (tCons (tVar 2) tNil)) tNil)))) (tNotV (tCall (sp_law_is_lot K) [] E0 (tCons (tVar 20) (tCons (tCB (rLenS K) (tCons (tVar 2) tNil)) tNil))))) (gName 21))
    (tIfS (tTest (tOp (rNeD K) (tCall (sp_law_refused K) [] E0 (tCons (tVar 9) (tCons (tVar 10) (tCons (tVar 19) (tCons (tVar 20) tNil))))) (tLst (tCons (tVar 21) (tCons (tVar 21) tNil))))) (tRet (tC (.bl false))) tNext)))))
    (tRet (tC (.bl true))))))))))))
def t_law_D (K : PySem.W.Frag) : TS :=
  (tSeq (tIfS (tOr (tNot (tB (tCB (rIsi K) (tCons (tVar 11) (tCons (tC (.ref (He.ga K "Book"))) tNil))))) (tOr (tNot (tTest (tOp (rEqG (DBag K)) (tMeth (He.ga K "RawBook") "bag" (sp_RawBook_bag K) [] E0 (tVar 11) tNil) (tVar 8)))) (tTest (tOp (rNeD K) (tMeth (He.ga K "RawBook") "rewriters" (sp_RawBook_rewriters K) [] E0 (tVar 11) tNil) (tTup tNil))))) (tRet (tC (.bl false))) tNext)
    (tSeq (tIfS (tOr (tTest (tOp (rNeD K) (tMeth (He.ga K "RawBook") "owners" (sp_RawBook_owners K) [] E0 (tVar 11) tNil) (tOp (rRepA K) (tTup (tCons (tC (.int 0)) tNil)) (tOp rAddI (tOp rMulI (tC (.int 3)) (tOp (rIxT K) (tVar 3) (tC (.int 0)))) (tC (.int 1)))))) (tTest (tOp (rNeD K) (tMeth (He.ga K "RawBook") "rules" (sp_RawBook_rules K) [] E0 (tVar 11) tNil) (tCall (sp_law_ahead_rules K) [] E0 (tCons (tVar 2) (tCons (tVar 3) (tCons (tVar 4) (tCons (tVar 5) tNil)))))))) (tRet (tC (.bl false))) tNext)
    (tSeq (tAsg (tLst (tCons (tCall (sp_law_some K) [] E0 (tCons (tVar 1) (tCons (tCB (rLenS K) (tCons (tVar 2) tNil)) (tCons (tC (.int 2)) tNil)))) (tCons (tCall (sp_law_some K) [] E0 (tCons (tVar 1) (tCons (tCB (rLenS K) (tCons (tVar 2) tNil)) (tCons (tC (.int 3)) tNil)))) tNil))) (gName 12))
    (tSeq (tAsg (tCall (sp_ahead_book K) [] E0 (tCons (tVar 9) (tCons (tOp (rIxL K) (tVar 12) (tC (.int 0))) (tCons (tOp (rIxL K) (tVar 12) (tC (.int 1))) tNil)))) (gName 13))
    (tSeq (tIfS (tTest (tOp (rNeD K) (tMeth (He.ga K "RawBook") "rules" (sp_RawBook_rules K) [] E0 (tVar 13) tNil) (tCall (sp_law_ahead_rules K) [] E0 (tCons (tVar 2) (tCons (tVar 3) (tCons (tOp (rIxL K) (tVar 12) (tC (.int 0))) (tCons (tOp (rIxL K) (tVar 12) (tC (.int 1))) tNil))))))) (tRet (tC (.bl false))) tNext)
    (tSeq (tIfS (tTest (tOp (rNeD K) (tCall (sp_looks_on K) [] E0 (tCons (tVar 9) (tCons (tVar 10) (tCons (tOp (rIxL K) (tVar 12) (tC (.int 0))) (tCons (tOp (rIxL K) (tVar 12) (tC (.int 1))) tNil))))) (tCall (sp_law_looking K) [] E0 (tCons (tVar 3) (tCons (tVar 6) (tCons (tVar 7) (tCons (tOp (rIxL K) (tVar 12) (tC (.int 0))) (tCons (tOp (rIxL K) (tVar 12) (tC (.int 1))) tNil)))))))) (tRet (tC (.bl false))) tNext)
    (tSeq (tAsg (tCall (sp_law_looking K) [] E0 (tCons (tVar 3) (tCons (tVar 6) (tCons (tVar 7) (tCons (tVar 4) (tCons (tVar 5) tNil)))))) (gName 14))
    (tSeq (tIfS (tTest (tOp (rNeD K) (tCall (sp_looks_on K) [] E0 (tCons (tVar 9) (tCons (tVar 10) (tCons (tVar 4) (tCons (tVar 5) tNil))))) (tVar 14))) (tRet (tC (.bl false))) tNext)
    (tSeq (tAsg (tOp (rIxL K) (tCall (sp_led K) [] E0 (tCons (tVar 11) (tCons (tVar 10) (tCons (tTup (tCons (tTup (tCons (tC (.str "turn")) (tCons (tTup (tCons (tC (.int 0)) tNil)) tNil))) tNil)) tNil)))) (tUn rNegI (tC (.int 1)))) (gName 15))
    (tSeq (tFor (iRng1 (tCons (tCB (rLenS K) (tCons (tVar 6) tNil)) tNil)) (gName 16) (tSeq (tAsg (tOp (rIxT K) (tOp (rIxL K) (tVar 15) (tVar 16)) (tC (.int 2))) (gName 17))
    (tIfS (tTest (tOp rNe (tCB (rAny K) (tCons (tLc (iRng1 (tCons (tOp (rIxT K) (tVar 3) (tC (.int 0))) tNil)) (gName 22) tYes (tAndV (tOp (rIn K false) (tVar 22) (tVar 17)) (tOp (rIn K false) (tOp rAddI (tOp (rIxT K) (tVar 3) (tC (.int 0))) (tVar 22)) (tVar 17))) [22]) tNil)) (tOp (rIn K false) (tVar 16) (tVar 14)))) (tRet (tC (.bl false))) tNext)))
    (tSeq (tFor (iRng1 (tCons (tC (.int 3)) tNil)) (gName 18) (tSeq (tAsg (tOp (rIxL K) (tLst (tCons (tVar 4) (tCons (tCall (sp_law_spoiled K) [] E0 (tCons (tVar 1) (tCons (tVar 4) (tCons (tC (.int 1)) tNil)))) tNil))) (tCall (sp_law_draw K) [] E0 (tCons (tVar 1) (tCons (tC (.int 2)) tNil)))) (gName 19))
    (tSeq (tAsg (tOp (rIxL K) (tLst (tCons (tVar 5) (tCons (tCall (sp_law_spoiled K) [] E0 (tCons (tVar 1) (tCons (tVar 5) (tCons (tC (.int 1)) tNil)))) tNil))) (tCall (sp_law_draw K) [] E0 (tCons (tVar 1) (tCons (tC (.int 2)) tNil)))) (gName 20))
    (tSeq (tAsg (tOrV (tNotV (tCall (sp_law_is_lot K) [] E0 (tCons (tVar 19) (tCons (tCB (rLenS K) (tCons (tVar 2) tNil)) tNil)))) (tNotV (tCall (sp_law_is_lot K) [] E0 (tCons (tVar 20) (tCons (tCB (rLenS K) (tCons (tVar 2) tNil)) tNil))))) (gName 21))
    (tIfS (tTest (tOp (rNeD K) (tCall (sp_law_refused K) [] E0 (tCons (tVar 9) (tCons (tVar 10) (tCons (tVar 19) (tCons (tVar 20) tNil))))) (tLst (tCons (tVar 21) (tCons (tVar 21) tNil))))) (tRet (tC (.bl false))) tNext)))))
    (tRet (tC (.bl true))))))))))))))
theorem law_A {K : Frag} {mg : Str → Option Value} (T : Txt K mg) {H0 : Hp} {p ax aw ab : Addr} {vm vp : V} {exits kinds wanted barred : List Nat} {mm : MM} {ways : List (List (List Nat))} {Q : VK} {s0 s3 s6 s7 s8 s11 s12 s13 s14 s15 s16 s17 s18 s19 s20 s21 s22 : Option V}
    (hd : Hand H0 p) (hax : H0 ax = some (.tup (exits.map nv))) (xok : XOk exits) (M : MachAt K H0 vm exits mm) (mok : MOk exits mm) (P : ProgAt K H0 vp exits kinds ways) (pok : POk exits kinds ways)
    (dw : Dt H0 (.ref aw) (eL wanted)) (lw : Lot exits.length wanted) (db : Dt H0 (.ref ab) (eL barred)) (lb : Lot exits.length barred) (q : ∀ H', Q (.bl true) H') :
    t_law_A K (De Q) [s0, some (.ref p), some (.ref ax), s3, some (.ref aw), some (.ref ab), s6, s7, s8, some vm, some vp, s11, s12, s13, s14, s15, s16, s17, s18, s19, s20, s21, s22] H0 := by
  have x4 := xok.hi
  have lw4 := lw.len
  have lb4 := lb.len
  unfold t_law_A
  refine ⟨3, rfl, by decide, by decide, for_range (n := 3) (fun i σ H' => HS H0 H' p ∧ ∃ a b c d e, σ = [s0, some (.ref p), some (.ref ax), s3, some (.ref aw), some (.ref ab), s6, s7, s8, some vm, some vp, s11, s12, s13, s14, s15, s16, s17, a, b, c, d, e]) ⟨HS.start hd, _, _, _, _, _, rfl⟩ ?_ ?_⟩
  · rintro i σ H1 hi ⟨hs, a, b, c, d, e, rfl⟩
    dsimp only [gName, tSeq, tAsg]
    refine law_pick (i := 4) rfl rfl hs (hs.dt dw) (by omega) (fun x hx => by have := lw.2 x hx; omega) fun v1 d1 Ha hsa th1 ld1 => ?_
    have hs1 := hs.draw hsa.hb hsa.hand
    refine law_pick (i := 5) rfl rfl hs1 (hs1.dt db) (by omega) (fun x hx => by have := lb.2 x hx; omega) fun v2 d2 Hb hsb th2 ld2 => ?_
    have hs2 := hs1.draw hsb.hb hsb.hand
    have th1' := th1.hs hsb
    have hax2 := hs2.keep hax fun _ z => (by cases z)
    have rest : ∀ H6, Same Hb H6 → (tIfS (tTest (tOp (rNeD K) (tCall (sp_law_refused K) [] E0 (tCons (tVar 9) (tCons (tVar 10) (tCons (tVar 19) (tCons (tVar 20) tNil))))) (tLst (tCons (tVar 21) (tCons (tVar 21) tNil))))) (tRet (tC (.bl false))) tNext)
        { De Q with
          nx := fun σ H' => HS H0 H' p ∧ ∃ a b c d e, σ = [s0, some (.ref p), some (.ref ax), s3, some (.ref aw), some (.ref ab), s6, s7, s8, some vm, some vp, s11, s12, s13, s14, s15, s16, s17, a, b, c, d, e],
          ct := fun σ H' => HS H0 H' p ∧ ∃ a b c d e, σ = [s0, some (.ref p), some (.ref ax), s3, some (.ref aw), some (.ref ab), s6, s7, s8, some vm, some vp, s11, s12, s13, s14, s15, s16, s17, a, b, c, d, e],
          bk := (tRet (tC (.bl true))) (De Q) }
        [s0, some (.ref p), some (.ref ax), s3, some (.ref aw), some (.ref ab), s6, s7, s8, some vm, some vp, s11, s12, s13, s14, s15, s16, s17, some (.int (0 + (i : Int))), some v1, some v2, some (.bl (!lots2 exits.length d1 d2)), e] H6 := fun H6 s6 => by
      have hs6 := hs2.same s6
      dsimp only [tIfS, tTest, tOp, tCall, tCons, tNil, tVar, tLst, tRet, tC, tNext]
      refine ⟨_, rfl, _, rfl, _, rfl, _, rfl, exits, mm, kinds, ways, d1, d2, M.hs hs6, P.hs hs6, xok, mok, pok, th1'.same s6, th2.same s6, fun a' H7 s7 ha => ?_⟩
      refine ⟨_, rfl, _, rfl, by show 2 ≤ sizeLine; decide, fun l nl => neD_lists (n := 0) (ds := [.bool _, .bool _]) ((Same.new nl) _ _ ha) upd_same (.cons (.bl _) (.cons (.bl _) .nil)) (.cons (.bl _) (.cons (.bl _) .nil)) (.cons .bool (.cons .bool .nil)) ⟨false, rfl, iteF ?_⟩⟩
      exact ⟨(hs6.same s7).same (Same.new nl), _, _, _, _, _, rfl⟩
    dsimp only [tOrV, tNotV, tCall, tCons, tNil, tVar, tCB]
    refine ⟨_, rfl, _, rfl, ax, _, rfl, .inr (SqT.of hax2), d1, (exits.length : Int), th1', ld1, by rw [List.length_map], fun H5 s5 => ⟨_, rfl, _, rfl, ?_⟩⟩
    cases e1 : isLot (exits.length : Int) d1 with
    | false =>
      have z := rest H5 s5
      have e2 : lots2 exits.length d1 d2 = false := by unfold lots2; rw [e1]; rfl
      rw [e2] at z
      exact iteT z
    | true =>
      refine iteF ⟨_, rfl, _, rfl, ax, _, rfl, .inr (SqT.of (s5 _ _ hax2)), d2, (exits.length : Int), th2.same s5, ld2, by rw [List.length_map], fun H6 s6 => ⟨_, rfl, ?_⟩⟩
      have z := rest H6 (s5.trans s6)
      have e2 : lots2 exits.length d1 d2 = isLot (exits.length : Int) d2 := by unfold lots2; rw [e1]; rfl
      rw [e2] at z
      exact z
  · rintro σ H1 _
    exact q H1
end NB
set_option pp.maxSteps 900
set_option Elab.async false
set_option linter.all false
set_option maxRecDepth 100000
set_option maxHeartbeats 4000000
namespace NB
open PySem PyProof.Rows L2
local macro_rules | `(tactic| walk_at "rd") => `(tactic| dsimp only [De, tSeq, tNext, tAsg, tIfS, tRet, tRetN, tDrop, tBreak, tCont, tAug, ipI, gName, gNil, gCons, gTup, gSub, tVar, tC, tOp, tUn, tTest, tB, tTru, tNot, tAnd, tOr, tNotV, tAndV, tOrV, tChain, tCons, tNil, tCB, tCall, tMeth, tMake, tTup, tLst, tFld, sFld, tDGet, tDIn, tDNotIn, sDPut, tDNewK, tDNewT, tBM, tBM0, tSl, tPart, tNoPart, tYes, iList, iTup, iRng1, iRng2, iEnum, iEnumT, iSeq, RZ.iZipA, rMaxT, rRepA, rIn, tLstRg, tRg1, tRevT, rI0, rI, rU, rAddI, rSubI, rMulI, rDivI, rModI, rPowI, rShlI, rShrI, rAndI, rOrI, rLtI, rLeI, rGtI, rGeI, rNegI, rInvI, rEq, rNe, rLenS, rListS, rTupleS, rInt1, rBool1, rStrI, rAbsI, rAll, rAny, rAppend, rExtend, rPopAt, rRep, rIxL, rIxT, rSetL, rSlL, rSlA, rCatA, rEqD, rNeD, List.cons_append, List.nil_append, List.append_nil])
local macro_rules | `(tactic| walk_at "rx") => `(tactic| dsimp only [De, tSeq, tNext, tAsg, tIfS, tRet, tRetN, tDrop, tBreak, tCont, tAug, ipI, gName, gNil, gCons, gTup, gSub, tVar, tC, tOp, tUn, tTest, tB, tTru, tNot, tAnd, tOr, tNotV, tAndV, tOrV, tChain, tCons, tNil, tCB, tCall, tCallS, tTry, tRaiseN, tMeth, tMake, tTup, tLst, tFld, sFld, tDGet, tDIn, tDNotIn, sDPut, tDNewK, tDNewT, tBM, tBM0, tSl, tPart, tNoPart, tYes, iList, iTup, iRng1, iRng2, iEnum, iEnumT, iSeq, RZ.iZipA, rMaxT, rIn, tLstRg, tRg1, tRevT, rI0, rI, rU, rAddI, rSubI, rMulI, rDivI, rModI, rPowI, rShlI, rShrI, rAndI, rOrI, rLtI, rLeI, rGtI, rGeI, rNegI, rInvI, rEq, rNe, rLenS, rListS, rTupleS, rInt1, rBool1, rStrI, rAbsI, rAll, rAny, rAppend, rExtend, rPopAt, rRep, rIxL, rIxT, rSetL, rSlL, rEqD, rNeD, List.cons_append, List.nil_append, List.append_nil])
theorem law_bits {exits kinds wanted barred : List Nat} {mm : MM} {ways : List (List (List Nat))} {L : List Nat} (mok : MOk exits mm) (pok : POk exits kinds ways) (fx : Fix exits (aheadRules exits.length mm wanted barred) kinds ways (3 * mm.many + 1) L) {i : Nat} (hi : i < kinds.length) :
    (((List.range mm.many).map fun s => decide (s ∈ lotOf (L.getD i 0)) && decide (mm.many + s ∈ lotOf (L.getD i 0))).any id = true) ↔ LooksOn mm kinds ways wanted barred i := by
  have m3 := mok.hi
  have hlt : L.getD i 0 < 2 ^ 100 := by
    have e := get_of (show i < L.length by rw [fx.len]; exact hi) 0
    exact Nat.lt_of_lt_of_le (fx.lt _ (List.mem_of_getElem? e)) (Nat.pow_le_pow_right (by decide) (by omega))
  rw [List.any_map, List.any_eq_true]
  constructor
  · rintro ⟨s, hs, h⟩
    have h : (decide (s ∈ lotOf (L.getD i 0)) && decide (mm.many + s ∈ lotOf (L.getD i 0))) = true := h
    rw [Bool.and_eq_true, decide_eq_true_eq, decide_eq_true_eq, mem_lotOf hlt, mem_lotOf hlt] at h
    have k := looks_iff mok pok fx hi s (List.mem_range.mp hs)
    exact ⟨s, k.1.mp h.1, k.2.mp h.2⟩
  · rintro ⟨s, h1, h2⟩
    have hs := h2.lt.2
    have k := looks_iff mok pok fx hi s hs
    refine ⟨s, List.mem_range.mpr hs, ?_⟩
    show (decide (s ∈ lotOf (L.getD i 0)) && decide (mm.many + s ∈ lotOf (L.getD i 0))) = true
    rw [Bool.and_eq_true, decide_eq_true_eq, decide_eq_true_eq, mem_lotOf hlt, mem_lotOf hlt]
    exact ⟨k.1.mpr h1, k.2.mpr h2⟩
theorem stand_inv {H : Hp} {x : V} {r : Nat × Nat × Nat} (h : Dt H x (eStand r)) : ∃ a b c, x = .ref a ∧ H a = some (.tup [nv r.1, b, .ref c]) ∧ H c = some (.tup ((lotOf r.2.2).map nv)) := by
  obtain ⟨a, xs, rfl, h1, h2⟩ := h.tup_inv
  cases h2 with
  | cons x1 h2 => cases h2 with
    | cons x2 h2 => cases h2 with
      | cons x3 h2 => cases h2 with
        | nil =>
          cases x1.int_inv
          obtain ⟨c, rfl, hc⟩ := x3.lot
          exact ⟨a, _, c, rfl, h1, hc⟩
theorem law_B {K : Frag} {mg : Str → Option Value} (T : Txt K mg) {H0 : Hp} {p ax am aw ab ak ad ly : Addr} {vm vp sm tm : V} {exits kinds wanted barred due L : List Nat} {mm : MM} {ways : List (List (List Nat))} {Q : VK} {xs : List V} {s0 s7 s8 s11 s12 s13 s16 s17 s18 s19 s20 s21 s22 : Option V}
    (hd : Hand H0 p) (hax : H0 ax = some (.tup (exits.map nv))) (xok : XOk exits) (M : MachAt K H0 vm exits mm) (mok : MOk exits mm) (P : ProgAt K H0 vp exits kinds ways) (pok : POk exits kinds ways)
    (dw : Dt H0 (.ref aw) (eL wanted)) (lw : Lot exits.length wanted) (db : Dt H0 (.ref ab) (eL barred)) (lb : Lot exits.length barred)
    (ham : H0 am = some (.tup [nv mm.many, sm, tm])) (hak : H0 ak = some (.tup (kinds.map nv))) (had : H0 ad = some (.lst (due.map nv))) (hdue : ∀ i, i ∈ due ↔ LooksOn mm kinds ways wanted barred i)
    (hly : H0 ly = some (.lst xs)) (hxs : DtL H0 xs ((kinds.zip ((List.replicate kinds.length 0).zip L)).map eStand)) (fx : Fix exits (aheadRules exits.length mm wanted barred) kinds ways (3 * mm.many + 1) L) (q : ∀ H', Q (.bl true) H') :
    t_law_B K (De Q) [s0, some (.ref p), some (.ref ax), some (.ref am), some (.ref aw), some (.ref ab), some (.ref ak), s7, s8, some vm, some vp, s11, s12, s13, some (.ref ad), some (.ref ly), s16, s17, s18, s19, s20, s21, s22] H0 := by
  have k12 := pok.hi
  have m3 := mok.hi
  unfold t_law_B
  refine ⟨_, rfl, ak, _, rfl, .inr (SqT.of hak), _, rfl, by rw [List.length_map]; omega, by rw [List.length_map]; omega, ?_⟩
  rw [List.length_map, Int.toNat_natCast]
  refine for_range (fun i σ H' => Same H0 H' ∧ ∃ a b c d e f g, σ = [s0, some (.ref p), some (.ref ax), some (.ref am), some (.ref aw), some (.ref ab), some (.ref ak), s7, s8, some vm, some vp, s11, s12, s13, some (.ref ad), some (.ref ly), a, b, c, d, e, f, g]) ⟨fun _ _ h => h, _, _, _, _, _, _, _, rfl⟩ ?_ ?_
  · rintro i σ H1 hi ⟨s, a, b, c, d, e, f, g, rfl⟩
    rw [Int.zero_add]
    walk_at "rx"
    have hLi : L[i]? = some (L.getD i 0) := get_of (by rw [fx.len]; exact hi) 0
    have hki : kinds[i]? = some (kinds.getD i 0) := get_of hi 0
    have hz : (kinds.zip ((List.replicate kinds.length 0).zip L))[i]? = some (kinds.getD i 0, 0, L.getD i 0) := by
      rw [List.getElem?_zip_eq_some, List.getElem?_zip_eq_some]
      exact ⟨hki, by rw [List.getElem?_replicate, if_pos hi], hLi⟩
    obtain ⟨x, ex, dx⟩ := hxs.at hz
    obtain ⟨st, b2, al, rfl, hst, hal⟩ := stand_inv (dx.same s)
    have key := law_bits mok pok fx hi
    generalize L.getD i 0 = Li at hst hal key
    refine ⟨_, rfl, _, rfl, ly, _, _, _, rfl, rfl, SqL.of (s _ _ hly), atI_nat ex, st, _, _, _, rfl, rfl, SqT.of hst, atI_nat (j := 2) rfl, ?_⟩
    refine ⟨_, rfl, am, _, _, _, rfl, rfl, SqT.of (s _ _ ham), atI_nat (j := 0) rfl, _, rfl, by omega, by omega, fun Dl nD => ?_⟩
    rw [Int.toNat_natCast]
    refine lc_bools walk_range nD ((List.range mm.many).map fun s => decide (s ∈ lotOf Li) && decide (mm.many + s ∈ lotOf Li)) (by simp) (by omega) (fun _ _ => trivial) ?_ ?_
    · rintro s2 bb x2 H5 H6 Kk hb s5 ⟨rfl, rfl⟩ hK
      have eb : bb = (decide (s2 ∈ lotOf Li) && decide (mm.many + s2 ∈ lotOf Li)) := by
        rw [List.getElem?_map] at hb
        have hs : s2 < mm.many := by
          apply Decidable.byContradiction
          intro c2
          rw [List.getElem?_eq_none (by rw [List.length_range]; omega)] at hb
          cases hb
        rw [List.getElem?_range hs] at hb
        exact (Option.some.inj hb).symm
      dsimp only
      rw [Int.zero_add]
      have hal5 := s5 _ _ hal
      refine ⟨rfl, _, rfl, _, rfl, al, _, rfl, .inr (SqT.of hal5), rfl, flat_nats, decide (s2 ∈ lotOf Li), ?_, ?_⟩
      · rw [inV_nats]; rfl
      by_cases c2 : s2 ∈ lotOf Li
      · rw [decide_eq_true c2] at eb ⊢
        rw [Bool.true_and] at eb
        subst eb
        refine iteT ⟨_, rfl, am, _, _, _, rfl, rfl, SqT.of (s5 _ _ (s _ _ ham)), atI_nat (j := 0) rfl, _, rfl, _, _, rfl, rfl, _, rfl, al, _, rfl, .inr (SqT.of hal5), rfl, flat_nats, ?_⟩
        have e3 : V.int (((mm.many : Nat) : Int) + ((s2 : Nat) : Int)) = nv (mm.many + s2) := by show V.int _ = V.int _; congr 1
        have e5 : (if false = true then !inV (V.int (((mm.many : Nat) : Int) + ((s2 : Nat) : Int))) ((lotOf Li).map nv) else inV (V.int (((mm.many : Nat) : Int) + ((s2 : Nat) : Int))) ((lotOf Li).map nv)) = decide (mm.many + s2 ∈ lotOf Li) := by rw [e3]; exact inV_nats
        rw [e5]
        exact hK _ fun _ _ h => h
      · rw [decide_eq_false c2] at eb ⊢
        rw [Bool.false_and] at eb
        subst eb
        exact iteF (hK _ fun _ _ h => h)
    · intro H5 s5 hD
      have had5 := s5 _ _ (s _ _ had)
      refine ⟨Dl, _, rfl, SqL.of hD, _, rfl, _, rfl, ad, _, rfl, .inl (SqL.of had5), rfl, flat_nats, ?_⟩
      have e6 : (if false = true then !inV (V.int ((i : Nat) : Int)) (due.map nv) else inV (V.int ((i : Nat) : Int)) (due.map nv)) = decide (i ∈ due) := inV_nats
      have e4 : ((List.range mm.many).map fun s => decide (s ∈ lotOf Li) && decide (mm.many + s ∈ lotOf Li)).any id = decide (i ∈ due) := by
        by_cases c3 : i ∈ due
        · rw [decide_eq_true c3]
          exact key.mpr ((hdue i).mp c3)
        · rw [decide_eq_false c3]
          cases c4 : ((List.range mm.many).map fun s => decide (s ∈ lotOf Li) && decide (mm.many + s ∈ lotOf Li)).any id with
          | false => rfl
          | true => exact absurd ((hdue i).mpr (key.mp c4)) c3
      rw [e4, e6]
      refine ⟨rfl, _, rfl, ?_⟩
      rw [decide_eq_true (rfl : V.bl (decide (i ∈ due)) = V.bl (decide (i ∈ due)))]
      exact iteF ⟨s.trans s5, _, _, _, _, _, _, _, rfl⟩
  · rintro σ H1 ⟨s, a, b, c, d, e, f, g, rfl⟩
    exact law_A T (hd.same s) (s _ _ hax) xok (M.same s) mok (P.same s) pok (dw.same s) lw (db.same s) lb q
end NB
set_option pp.maxSteps 900
set_option Elab.async false
set_option linter.all false
set_option maxRecDepth 100000
set_option maxHeartbeats 4000000
namespace NB
open PySem PyProof.Rows L2
local macro_rules | `(tactic| walk_at "rd") => `(tactic| dsimp only [De, tSeq, tNext, tAsg, tIfS, tRet, tRetN, tDrop, tBreak, tCont, tAug, ipI, gName, gNil, gCons, gTup, gSub, tVar, tC, tOp, tUn, tTest, tB, tTru, tNot, tAnd, tOr, tNotV, tAndV, tOrV, tChain, tCons, tNil, tCB, tCall, tMeth, tMake, tTup, tLst, tFld, sFld, tDGet, tDIn, tDNotIn, sDPut, tDNewK, tDNewT, tBM, tBM0, tSl, tPart, tNoPart, tYes, iList, iTup, iRng1, iRng2, iEnum, iEnumT, iSeq, RZ.iZipA, rMaxT, rRepA, rIn, tLstRg, tRg1, tRevT, rI0, rI, rU, rAddI, rSubI, rMulI, rDivI, rModI, rPowI, rShlI, rShrI, rAndI, rOrI, rLtI, rLeI, rGtI, rGeI, rNegI, rInvI, rEq, rNe, rLenS, rListS, rTupleS, rInt1, rBool1, rStrI, rAbsI, rAll, rAny, rAppend, rExtend, rPopAt, rRep, rIxL, rIxT, rSetL, rSlL, rSlA, rCatA, rEqD, rNeD, List.cons_append, List.nil_append, List.append_nil])
local macro_rules | `(tactic| walk_at "rx") => `(tactic| dsimp only [De, tSeq, tNext, tAsg, tIfS, tRet, tRetN, tDrop, tBreak, tCont, tAug, ipI, gName, gNil, gCons, gTup, gSub, tVar, tC, tOp, tUn, tTest, tB, tTru, tNot, tAnd, tOr, tNotV, tAndV, tOrV, tChain, tCons, tNil, tCB, tCall, tCallS, tTry, tRaiseN, tMeth, tMake, tTup, tLst, tFld, sFld, tDGet, tDIn, tDNotIn, sDPut, tDNewK, tDNewT, tBM, tBM0, tSl, tPart, tNoPart, tYes, iList, iTup, iRng1, iRng2, iEnum, iEnumT, iSeq, RZ.iZipA, rMaxT, rIn, tLstRg, tRg1, tRevT, rI0, rI, rU, rAddI, rSubI, rMulI, rDivI, rModI, rPowI, rShlI, rShrI, rAndI, rOrI, rLtI, rLeI, rGtI, rGeI, rNegI, rInvI, rEq, rNe, rLenS, rListS, rTupleS, rInt1, rBool1, rStrI, rAbsI, rAll, rAny, rAppend, rExtend, rPopAt, rRep, rIxL, rIxT, rSetL, rSlL, rEqD, rNeD, List.cons_append, List.nil_append, List.append_nil])
theorem lots2_of {n : Nat} {w b : List Nat} (lw : Lot n w) (lb : Lot n b) : lots2 n (some (w.map fun (x : Nat) => some (x : Int))) (some (b.map fun (x : Nat) => some (x : Int))) = true := by
  unfold lots2
  rw [lw.judged, lb.judged]; rfl
theorem law_C {K : Frag} {mg : Str → Option Value} (T : Txt K mg) {H0 : Hp} {p ax am aw ab ak : Addr} {vy vm vp vb : V} {exits kinds wanted barred : List Nat} {mm : MM} {ways : List (List (List Nat))} {Q : VK} {s0 s8 s12 s13 s14 s15 s16 s17 s18 s19 s20 s21 s22 : Option V}
    (hd : Hand H0 p) (dx : Dt H0 (.ref ax) (eL exits)) (xok : XOk exits) (M : MachAt K H0 vm exits mm) (mok : MOk exits mm) (P : ProgAt K H0 vp exits kinds ways) (pok : POk exits kinds ways)
    (dw : Dt H0 (.ref aw) (eL wanted)) (lw : Lot exits.length wanted) (db : Dt H0 (.ref ab) (eL barred)) (lb : Lot exits.length barred)
    (dm : Dt H0 (.ref am) (eM mm)) (dk : Dt H0 (.ref ak) (eL kinds)) (dy : Dt H0 vy (eWays ways)) (B : BookAt K H0 vb exits (3 * mm.many + 1) (aheadRules exits.length mm wanted barred)) (q : ∀ H', Q (.bl true) H') :
    t_law_C K (De Q) [s0, some (.ref p), some (.ref ax), some (.ref am), some (.ref aw), some (.ref ab), some (.ref ak), some vy, s8, some vm, some vp, some vb, s12, s13, s14, s15, s16, s17, s18, s19, s20, s21, s22] H0 := by
  have x4 := xok.hi
  have m3 := mok.hi
  unfold t_law_C
  dsimp only [tSeq, tIfS, tTest, tAsg, gName, tOp, tCall, tCons, tNil, tVar, tC, tCB, tLst, tMeth, tTup, tUn, tRet, tNext]
  obtain ⟨ax0, e0, hax⟩ := dx.lot
  cases e0
  refine ⟨_, rfl, _, rfl, ax, _, rfl, .inr (SqT.of hax), p, exits.length, 2, rfl, hd, by rw [List.length_map], by omega, rfl, by decide, by decide, fun w2 vw2 H1 lw2 b1 d1 dw1 => ?_⟩
  have hs1 := (HS.start hd).draw b1 d1
  have hax1 := hs1.keep hax fun _ z => (by cases z)
  refine ⟨_, rfl, _, rfl, ax, _, rfl, .inr (SqT.of hax1), p, exits.length, 3, rfl, d1, by rw [List.length_map], by omega, rfl, by decide, by decide, fun b2 vb2 H2 lb2 bb2 d2 db2 => ?_⟩
  have hs2 := hs1.draw bb2 d2
  have dw2 := dw1.im (bb2.1.im d1)
  refine ⟨by show 2 ≤ sizeLine; decide, fun l nl => ?_⟩
  have s3 : Same H2 (upd H2 l (.lst [vw2, vb2])) := Same.new nl
  have hl : (upd H2 l (.lst [vw2, vb2])) l = some (.lst [vw2, vb2]) := upd_same
  generalize upd H2 l (.lst [vw2, vb2]) = H3 at s3 hl ⊢
  have hs3 := hs2.same s3
  have dw3 := dw2.same s3
  have db3 := db2.same s3
  have M3 := M.hs hs3
  have P3 := P.hs hs3
  have B3 := B.hs hs3 xok
  have dx3 := hs3.dt dx
  have dm3 := hs3.dt dm
  have dk3 := hs3.dt dk
  have dy3 := hs3.dt dy
  have dW := hs3.dt dw
  have dB := hs3.dt db
  have hd3 := hs3.hand
  clear hs1 hs2 hs3 dw1 dw2 db2 M P B dx dm dk dy dw db hax hax1 d1 d2 b1 bb2 s3 hd
  have ok2 := lots2_of lw2 lb2
  have ok1 := lots2_of lw lb
  -- ahead_book of the second pair
  refine ⟨_, rfl, _, rfl, l, _, _, _, rfl, rfl, SqL.of hl, atI_nat (j := 0) rfl, _, rfl, l, _, _, _, rfl, rfl, SqL.of hl, atI_nat (j := 1) rfl, exits, mm, _, _, M3, xok, mok, Th.lot dw3, Th.lot db3, fun wt bt hwt hbt _ _ _ vk H4 s4 B4 => ?_, fun e => by rw [ok2] at e; cases e⟩
  obtain rfl := lot_inj dw3 hwt
  obtain rfl := lot_inj db3 hbt
  obtain ⟨ab4, dxb4, z1, z2, z3, z4, z5, z6, rfl, hb4, _⟩ := B4.ex
  have hl4 := s4 _ _ hl
  refine ⟨_, rfl, ab4, dxb4, _, rfl, hb4, by rfl, exits, _, _, B4, fun o ho => ?_⟩
  refine ⟨_, rfl, _, rfl, _, rfl, l, _, _, _, rfl, rfl, SqL.of hl4, atI_nat (j := 0) rfl, _, rfl, l, _, _, _, rfl, rfl, SqL.of hl4, atI_nat (j := 1) rfl, exits, mm, w2, b2, dx3.same s4, dm3.same s4, xok, mok, dw3.same s4, db3.same s4, lw2, lb2, fun v5 H5 s5 dv5 => ?_⟩
  refine neD_same (n := 3) (ho.same s5) dv5 Shp.rules ⟨false, rfl, iteF ?_⟩
  have s35 := s4.trans s5
  have hl5 := s5 _ _ hl4
  -- looks_on of the second pair
  refine ⟨_, rfl, _, rfl, _, rfl, l, _, _, _, rfl, rfl, SqL.of hl5, atI_nat (j := 0) rfl, _, rfl, l, _, _, _, rfl, rfl, SqL.of hl5, atI_nat (j := 1) rfl, exits, mm, kinds, ways, _, _, M3.same s35, P3.same s35, xok, mok, pok, Th.lot (dw3.same s35), Th.lot (db3.same s35), fun wt bt hwt hbt _ _ _ a1 l1 H6 s6 n6 h6 p6 f6 => ?_, fun e => by rw [ok2] at e; cases e⟩
  obtain rfl := lot_inj (dw3.same s35) hwt
  obtain rfl := lot_inj (db3.same s35) hbt
  have s36 := s35.trans s6
  have hl6 := s6 _ _ hl5
  refine ⟨_, rfl, _, rfl, _, rfl, _, rfl, l, _, _, _, rfl, rfl, SqL.of hl6, atI_nat (j := 0) rfl, _, rfl, l, _, _, _, rfl, rfl, SqL.of hl6, atI_nat (j := 1) rfl, exits, mm, kinds, ways, w2, b2, ⟨dm3.same s36, dk3.same s36, dy3.same s36, xok, mok, pok⟩, dw3.same s36, db3.same s36, fun a2 l2 H7 s7 n7 h7 p7 f7 => ?_⟩
  obtain rfl : l1 = l2 := asc_ext p6 p7 fun x => (f6 x).trans (f7 x).symm
  refine neD_lists (n := 0) (s7 _ _ h6) h7 DtL.of_nats DtL.of_nats (.map fun _ _ => .int) ⟨false, rfl, iteF ?_⟩
  have s37 := s36.trans s7
  -- due
  refine ⟨_, rfl, _, rfl, _, rfl, _, rfl, _, rfl, exits, mm, kinds, ways, wanted, barred, ⟨dm3.same s37, dk3.same s37, dy3.same s37, xok, mok, pok⟩, dW.same s37, dB.same s37, fun ad due H8 s8 n8 h8 p8 f8 => ?_⟩
  have s38 := s37.trans s8
  refine ⟨_, rfl, _, rfl, _, rfl, _, rfl, exits, mm, kinds, ways, _, _, M3.same s38, P3.same s38, xok, mok, pok, Th.lot (dW.same s38), Th.lot (dB.same s38), fun wt bt hwt hbt _ _ _ a3 l3 H9 s9 n9 h9 p9 f9 => ?_, fun e => by rw [ok1] at e; cases e⟩
  obtain rfl := lot_inj (dW.same s38) hwt
  obtain rfl := lot_inj (dB.same s38) hbt
  obtain rfl : l3 = due := asc_ext p9 p8 fun x => (f9 x).trans (f8 x).symm
  refine ⟨_, rfl, neD_lists (n := 0) h9 (s9 _ _ h8) DtL.of_nats DtL.of_nats (.map fun _ _ => .int) ⟨false, rfl, iteF ?_⟩⟩
  have s39 := s38.trans s9
  -- led
  refine ⟨_, rfl, _, rfl, by show 1 ≤ sizeLine; decide, fun p1 n1 => ⟨by show 2 ≤ sizeLine; decide, fun p2 n2 => ⟨by show 1 ≤ sizeLine; decide, fun p3 n3 => ?_⟩⟩⟩
  have t1 := Same.new (o := .tup [.int 0]) n1
  have g1 : (upd H9 p1 (.tup [.int 0])) p1 = some (.tup [.int 0]) := upd_same
  generalize upd H9 p1 (.tup [.int 0]) = G1 at *
  have t2 := Same.new (o := .tup [.str "turn", .ref p1]) n2
  have g2 : (upd G1 p2 (.tup [.str "turn", .ref p1])) p2 = some (.tup [.str "turn", .ref p1]) := upd_same
  generalize upd G1 p2 (.tup [.str "turn", .ref p1]) = G2 at *
  have t3 := Same.new (o := .tup [.ref p2]) n3
  have g3 : (upd G2 p3 (.tup [.ref p2])) p3 = some (.tup [.ref p2]) := upd_same
  generalize upd G2 p3 (.tup [.ref p2]) = G3 at *
  have s3G := s39.trans ((t1.trans t2).trans t3)
  refine ⟨exits, _, _, kinds, ways, B3.same s3G, P3.same s3G, xok, pok, Nat.le_trans (aheadRules_len xok mok lw) (by decide), by omega, by omega, fun r hr => (aheadRules_ok mok lw hr).lt, .tup g3 (.cons (.tup (t3 _ _ g2) (.cons (.str _) (.cons (Dt.of_lot (l := [0]) ((t2.trans t3) _ _ g1)) .nil))) .nil), fun a x y L H10 s10 n10 h10 hy fx => ?_⟩
  obtain ⟨ly, xs, rfl, hly, hxs⟩ := hy
  have sA := s3G.trans s10
  refine ⟨1, rfl, a, _, _, _, rfl, rfl, SqL.of h10, rfl, ?_⟩
  obtain ⟨ax0, e0, hax⟩ := dx3.lot
  cases e0
  obtain ⟨ak0, e0, hak⟩ := dk3.lot
  cases e0
  obtain ⟨am0, sm, tm, e0, ham, _⟩ := mach_inv dm3
  cases e0
  exact law_B T (hd3.same sA) (sA _ _ hax) xok (M3.same sA) mok (P3.same sA) pok (dW.same sA) lw (dB.same sA) lb (sA _ _ ham) (sA _ _ hak) ((s9.trans (((t1.trans t2).trans t3).trans s10)) _ _ h8) f8 hly hxs fx q
end NB
set_option pp.maxSteps 900
set_option Elab.async false
set_option linter.all false
set_option maxRecDepth 100000
set_option maxHeartbeats 4000000
namespace NB
open PySem PyProof.Rows L2
local macro_rules | `(tactic| walk_at "rd") => `(tactic| dsimp only [De, tSeq, tNext, tAsg, tIfS, tRet, tRetN, tDrop, tBreak, tCont, tAug, ipI, gName, gNil, gCons, gTup, gSub, tVar, tC, tOp, tUn, tTest, tB, tTru, tNot, tAnd, tOr, tNotV, tAndV, tOrV, tChain, tCons, tNil, tCB, tCall, tMeth, tMake, tTup, tLst, tFld, sFld, tDGet, tDIn, tDNotIn, sDPut, tDNewK, tDNewT, tBM, tBM0, tSl, tPart, tNoPart, tYes, iList, iTup, iRng1, iRng2, iEnum, iEnumT, iSeq, RZ.iZipA, rMaxT, rRepA, rIn, tLstRg, tRg1, tRevT, rI0, rI, rU, rAddI, rSubI, rMulI, rDivI, rModI, rPowI, rShlI, rShrI, rAndI, rOrI, rLtI, rLeI, rGtI, rGeI, rNegI, rInvI, rEq, rNe, rLenS, rListS, rTupleS, rInt1, rBool1, rStrI, rAbsI, rAll, rAny, rAppend, rExtend, rPopAt, rRep, rIxL, rIxT, rSetL, rSlL, rSlA, rCatA, rEqD, rNeD, List.cons_append, List.nil_append, List.append_nil])
local macro_rules | `(tactic| walk_at "rx") => `(tactic| dsimp only [De, tSeq, tNext, tAsg, tIfS, tRet, tRetN, tDrop, tBreak, tCont, tAug, ipI, gName, gNil, gCons, gTup, gSub, tVar, tC, tOp, tUn, tTest, tB, tTru, tNot, tAnd, tOr, tNotV, tAndV, tOrV, tChain, tCons, tNil, tCB, tCall, tCallS, tTry, tRaiseN, tMeth, tMake, tTup, tLst, tFld, sFld, tDGet, tDIn, tDNotIn, sDPut, tDNewK, tDNewT, tBM, tBM0, tSl, tPart, tNoPart, tYes, iList, iTup, iRng1, iRng2, iEnum, iEnumT, iSeq, RZ.iZipA, rMaxT, rIn, tLstRg, tRg1, tRevT, rI0, rI, rU, rAddI, rSubI, rMulI, rDivI, rModI, rPowI, rShlI, rShrI, rAndI, rOrI, rLtI, rLeI, rGtI, rGeI, rNegI, rInvI, rEq, rNe, rLenS, rListS, rTupleS, rInt1, rBool1, rStrI, rAbsI, rAll, rAny, rAppend, rExtend, rPopAt, rRep, rIxL, rIxT, rSetL, rSlL, rEqD, rNeD, List.cons_append, List.nil_append, List.append_nil])
theorem sc_law : FnScope ["_law_script", "_law_hand_here", "_law_exits_here", "_law_machine_here", "_law_wanted", "_law_barred", "_law_kinds", "_law_ways", "_law_bag", "_law_made", "_law_program_here", "_law_book", "_law_second", "_law_more", "_law_due", "_law_last", "_law_place", "_law_lot", "_law_turn", "_law_one", "_law_other", "_law_bad", "_law_state"] ["_law_script"] (defScope s_law) := ⟨rfl, rfl, rfl, by decide +kernel, rfl, by decide +kernel, by decide +kernel⟩
def t_law (K : PySem.W.Frag) : TS :=
  (tSeq (tAsg (tCall (sp_law_hand K) [] E0 (tCons (tVar 0) tNil)) (gName 1))
    (tSeq (tAsg (tCall (sp_law_exits K) [] E0 (tCons (tVar 1) (tCons (tC (.int 4)) (tCons (tC (.int 3)) tNil)))) (gName 2))
    (tSeq (tAsg (tCall (sp_law_machine K) [] E0 (tCons (tVar 1) (tCons (tVar 2) (tCons (tC (.int 3)) tNil)))) (gName 3))
    (tSeq (tAsg (tCall (sp_law_some K) [] E0 (tCons (tVar 1) (tCons (tCB (rLenS K) (tCons (tVar 2) tNil)) (tCons (tC (.int 3)) tNil)))) (gName 4))
    (tSeq (tAsg (tCall (sp_law_some K) [] E0 (tCons (tVar 1) (tCons (tCB (rLenS K) (tCons (tVar 2) tNil)) (tCons (tC (.int 3)) tNil)))) (gName 5))
    (tSeq (tAsg (tCall (sp_law_program K) [] E0 (tCons (tVar 1) (tCons (tVar 2) (tCons (tC (.int 12)) tNil)))) (gTup K 2 (gCons (gName 6) (gCons (gName 7) gNil))))
    (tSeq (tAsg (tMake (He.ga K "Bag") (sp_Bag_init K) [] E0 (tCons (tVar 2) tNil)) (gName 8))
    (tSeq (tAsg (tMake (He.ga K "Machine") (sp_Machine_init K) [] E0 (tCons (tVar 8) (tCons (tOp (rIxT K) (tVar 3) (tC (.int 0))) (tCons (tOp (rIxT K) (tVar 3) (tC (.int 1))) (tCons (tOp (rIxT K) (tVar 3) (tC (.int 2))) tNil))))) (gName 9))
    (tSeq (tAsg (tMake (He.ga K "Program") (sp_Program_init K) [] E0 (tCons (tVar 8) (tCons (tVar 6) (tCons (tVar 7) tNil)))) (gName 10))
    (tSeq (tAsg (tCall (sp_ahead_book K) [] E0 (tCons (tVar 9) (tCons (tVar 4) (tCons (tVar 5) tNil)))) (gName 11))
    (tSeq (tIfS (tOr (tNot (tB (tCB (rIsi K) (tCons (tVar 11) (tCons (tC (.ref (He.ga K "Book"))) tNil))))) (tOr (tNot (tTest (tOp (rEqG (DBag K)) (tMeth (He.ga K "RawBook") "bag" (sp_RawBook_bag K) [] E0 (tVar 11) tNil) (tVar 8)))) (tTest (tOp (rNeD K) (tMeth (He.ga K "RawBook") "rewriters" (sp_RawBook_rewriters K) [] E0 (tVar 11) tNil) (tTup tNil))))) (tRet (tC (.bl false))) tNext)
    (tSeq (tIfS (tOr (tTest (tOp (rNeD K) (tMeth (He.ga K "RawBook") "owners" (sp_RawBook_owners K) [] E0 (tVar 11) tNil) (tOp (rRepA K) (tTup (tCons (tC (.int 0)) tNil)) (tOp rAddI (tOp rMulI (tC (.int 3)) (tOp (rIxT K) (tVar 3) (tC (.int 0)))) (tC (.int 1)))))) (tTest (tOp (rNeD K) (tMeth (He.ga K "RawBook") "rules" (sp_RawBook_rules K) [] E0 (tVar 11) tNil) (tCall (sp_law_ahead_rules K) [] E0 (tCons (tVar 2) (tCons (tVar 3) (tCons (tVar 4) (tCons (tVar 5) tNil)))))))) (tRet (tC (.bl false))) tNext)
    (tSeq (tAsg (tLst (tCons (tCall (sp_law_some K) [] E0 (tCons (tVar 1) (tCons (tCB (rLenS K) (tCons (tVar 2) tNil)) (tCons (tC (.int 2)) tNil)))) (tCons (tCall (sp_law_some K) [] E0 (tCons (tVar 1) (tCons (tCB (rLenS K) (tCons (tVar 2) tNil)) (tCons (tC (.int 3)) tNil)))) tNil))) (gName 12))
    (tSeq (tAsg (tCall (sp_ahead_book K) [] E0 (tCons (tVar 9) (tCons (tOp (rIxL K) (tVar 12) (tC (.int 0))) (tCons (tOp (rIxL K) (tVar 12) (tC (.int 1))) tNil)))) (gName 13))
    (tSeq (tIfS (tTest (tOp (rNeD K) (tMeth (He.ga K "RawBook") "rules" (sp_RawBook_rules K) [] E0 (tVar 13) tNil) (tCall (sp_law_ahead_rules K) [] E0 (tCons (tVar 2) (tCons (tVar 3) (tCons (tOp (rIxL K) (tVar 12) (tC (.int 0))) (tCons (tOp (rIxL K) (tVar 12) (tC (.int 1))) tNil))))))) (tRet (tC (.bl false))) tNext)
    (tSeq (tIfS (tTest (tOp (rNeD K) (tCall (sp_looks_on K) [] E0 (tCons (tVar 9) (tCons (tVar 10) (tCons (tOp (rIxL K) (tVar 12) (tC (.int 0))) (tCons (tOp (rIxL K) (tVar 12) (tC (.int 1))) tNil))))) (tCall (sp_law_looking K) [] E0 (tCons (tVar 3) (tCons (tVar 6) (tCons (tVar 7) (tCons (tOp (rIxL K) (tVar 12) (tC (.int 0))) (tCons (tOp (rIxL K) (tVar 12) (tC (.int 1))) tNil)))))))) (tRet (tC (.bl false))) tNext)
    (tSeq (tAsg (tCall (sp_law_looking K) [] E0 (tCons (tVar 3) (tCons (tVar 6) (tCons (tVar 7) (tCons (tVar 4) (tCons (tVar 5) tNil)))))) (gName 14))
    (tSeq (tIfS (tTest (tOp (rNeD K) (tCall (sp_looks_on K) [] E0 (tCons (tVar 9) (tCons (tVar 10) (tCons (tVar 4) (tCons (tVar 5) tNil))))) (tVar 14))) (tRet (tC (.bl false))) tNext)
    (tSeq (tAsg (tOp (rIxL K) (tCall (sp_led K) [] E0 (tCons (tVar 11) (tCons (tVar 10) (tCons (tTup (tCons (tTup (tCons (tC (.str "turn")) (tCons (tTup (tCons (tC (.int 0)) tNil)) tNil))) tNil)) tNil)))) (tUn rNegI (tC (.int 1)))) (gName 15))
    (tSeq (tFor (iRng1 (tCons (tCB (rLenS K) (tCons (tVar 6) tNil)) tNil)) (gName 16) (tSeq (tAsg (tOp (rIxT K) (tOp (rIxL K) (tVar 15) (tVar 16)) (tC (.int 2))) (gName 17))
    (tIfS (tTest (tOp rNe (tCB (rAny K) (tCons (tLc (iRng1 (tCons (tOp (rIxT K) (tVar 3) (tC (.int 0))) tNil)) (gName 22) tYes (tAndV (tOp (rIn K false) (tVar 22) (tVar 17)) (tOp (rIn K false) (tOp rAddI (tOp (rIxT K) (tVar 3) (tC (.int 0))) (tVar 22)) (tVar 17))) [22]) tNil)) (tOp (rIn K false) (tVar 16) (tVar 14)))) (tRet (tC (.bl false))) tNext)))
    (tSeq (tFor (iRng1 (tCons (tC (.int 3)) tNil)) (gName 18) (tSeq (tAsg (tOp (rIxL K) (tLst (tCons (tVar 4) (tCons (tCall (sp_law_spoiled K) [] E0 (tCons (tVar 1) (tCons (tVar 4) (tCons (tC (.int 1)) tNil)))) tNil))) (tCall (sp_law_draw K) [] E0 (tCons (tVar 1) (tCons (tC (.int 2)) tNil)))) (gName 19))
    (tSeq (tAsg (tOp (rIxL K) (tLst (tCons (tVar 5) (tCons (tCall (sp_law_spoiled K) [] E0 (tCons (tVar 1) (tCons (tVar 5) (tCons (tC (.int 1)) tNil)))) tNil))) (tCall (sp_law_draw K) [] E0 (tCons (tVar 1) (tCons (tC (.int 2)) tNil)))) (gName 20))
    (tSeq (tAsg (tOrV (tNotV (tCall (sp_law_is_lot K) [] E0 (tCons (tVar 19) (tCons (tCB (rLenS K) (tCons (tVar 2) tNil)) tNil)))) (tNotV (tCall (sp_law_is_lot K) [] E0 (tCons (tVar 20) (tCons (tCB (rLenS K) (tCons (tVar 2) tNil)) tNil))))) (gName 21))
    (tIfS (tTest (tOp (rNeD K) (tCall (sp_law_refused K) [] E0 (tCons (tVar 9) (tCons (tVar 10) (tCons (tVar 19) (tCons (tVar 20) tNil))))) (tLst (tCons (tVar 21) (tCons (tVar 21) tNil))))) (tRet (tC (.bl false))) tNext)))))
    (tRet (tC (.bl true))))))))))))))))))))))))
theorem law_D {K : Frag} {mg : Str → Option Value} (T : Txt K mg) {H0 : Hp} {p ax am aw ab ak : Addr} {vy vg vm vp vb : V} {exits kinds wanted barred : List Nat} {mm : MM} {ways : List (List (List Nat))} {Q : VK} {s0 s12 s13 s14 s15 s16 s17 s18 s19 s20 s21 s22 : Option V}
    (hd : Hand H0 p) (dx : Dt H0 (.ref ax) (eL exits)) (xok : XOk exits) (G : BagAt K H0 vg exits) (M : MachAt K H0 vm exits mm) (mok : MOk exits mm) (P : ProgAt K H0 vp exits kinds ways) (pok : POk exits kinds ways)
    (dw : Dt H0 (.ref aw) (eL wanted)) (lw : Lot exits.length wanted) (db : Dt H0 (.ref ab) (eL barred)) (lb : Lot exits.length barred)
    (dm : Dt H0 (.ref am) (eM mm)) (dk : Dt H0 (.ref ak) (eL kinds)) (dy : Dt H0 vy (eWays ways)) (B : BookAt K H0 vb exits (3 * mm.many + 1) (aheadRules exits.length mm wanted barred)) (q : ∀ H', Q (.bl true) H') :
    t_law_D K (De Q) [s0, some (.ref p), some (.ref ax), some (.ref am), some (.ref aw), some (.ref ab), some (.ref ak), some vy, some vg, some vm, some vp, some vb, s12, s13, s14, s15, s16, s17, s18, s19, s20, s21, s22] H0 := by
  have m3 := mok.hi
  obtain ⟨bb, dxb, z1, z2, z3, z4, z5, z6, e0, hbb, _⟩ := id B.ex
  cases e0
  obtain ⟨gi1, gi2⟩ := T.i_RawBook
  have ty : TyX K H0 (.ref bb) (.ref (He.ga K "RawBook")) := .base (.ins hbb T.c_RawBook gi1 (by rfl) (by rfl) gi2)
  unfold t_law_D
  dsimp only [tSeq, tIfS, tTest, tAsg, gName, tOp, tCall, tCons, tNil, tVar, tC, tCB, tMeth, tTup, tRet, tNext, tOr, tNot, tB]
  refine ⟨_, rfl, _, _, _, _, true, rfl, .own _, ty, T.s_book, true, rfl, iteF ?_⟩
  refine ⟨_, rfl, bb, dxb, _, rfl, hbb, by rfl, exits, _, _, B, fun gb Gb _ => ⟨_, rfl, Gb.eq G, fun H1 s1 => ⟨true, rfl, iteF ?_⟩⟩⟩
  have s1 : Same H0 H1 := s1
  have hb1 := s1 _ _ hbb
  refine ⟨_, rfl, bb, dxb, _, rfl, hb1, by rfl, exits, _, _, B.same s1, fun o ho => ⟨Nat.zero_le _, fun q2 n2 => ?_⟩⟩
  have s2 : Same H1 (upd H1 q2 (.tup [])) := Same.new n2
  refine neD_same (n := 1) (ho.same s2) (.tup upd_same .nil) (.tup .nil) ⟨false, rfl, iteF ?_⟩
  generalize upd H1 q2 (.tup []) = H2 at s2 ⊢
  have s12 := s1.trans s2
  -- owners, rules
  obtain ⟨am0, sm, tm, e0, ham, _⟩ := mach_inv dm
  cases e0
  refine ⟨_, rfl, bb, dxb, _, rfl, s12 _ _ hbb, by rfl, exits, _, _, B.same s12, fun o3 ho3 => ⟨by show 1 ≤ sizeLine; decide, fun q3 n3 => ?_⟩⟩
  have s3 : Same H2 (upd H2 q3 (.tup [nv 0])) := Same.new n3
  have g3 : (upd H2 q3 (.tup [nv 0])) q3 = some (.tup [nv 0]) := upd_same
  generalize upd H2 q3 (.tup [nv 0]) = H3 at s3 g3 ⊢
  have s13 := s12.trans s3
  refine ⟨_, rfl, am, _, _, _, rfl, rfl, SqT.of (s13 _ _ ham), atI_nat (j := 0) rfl, _, _, rfl, rfl, cmul3, _, _, rfl, rfl, ?_⟩
  refine rRepA_n (n := 3 * mm.many + 1) g3 (by omega) (by omega) fun q4 H4 s4 h4 => ?_
  have s14 := s13.trans s4
  refine neD_same (n := 1) (ho3.same (s3.trans s4)) (Dt.of_lot h4) Shp.lot ⟨false, rfl, iteF ?_⟩
  refine ⟨_, rfl, bb, dxb, _, rfl, s14 _ _ hbb, by rfl, exits, _, _, B.same s14, fun o5 ho5 => ?_⟩
  refine ⟨_, rfl, _, rfl, _, rfl, _, rfl, exits, mm, wanted, barred, dx.same s14, dm.same s14, xok, mok, dw.same s14, db.same s14, lw, lb, fun v6 H6 s6 dv6 => ?_⟩
  have s16 := s14.trans s6
  refine neD_same (n := 3) (ho5.same s6) dv6 Shp.rules ⟨false, rfl, iteF ?_⟩
  exact law_C T (hd.same s16) (dx.same s16) xok (M.same s16) mok (P.same s16) pok (dw.same s16) lw (db.same s16) lb (dm.same s16) (dk.same s16) (dy.same s16) (B.same s16) q
theorem rd_law {K : Frag} {mg : Str → Option Value} (T : Txt K mg) {s : V} {H : Hp} {Q : VK} (h : ph_law K s H Q) : t_law K (De Q) [some s, none, none, none, none, none, none, none, none, none, none, none, none, none, none, none, none, none, none, none, none, none, none] H := by
  obtain ⟨a, ns, rfl, hS, hn, q⟩ := h
  unfold t_law
  dsimp only [tSeq, tAsg, gName, gTup, gCons, gNil, tOp, tCall, tCons, tNil, tVar, tC, tCB, tMake]
  refine ⟨_, rfl, a, ns, rfl, hS, hn, fun p H1 s1 np d1 => ?_⟩
  refine ⟨_, rfl, p, rfl, d1, rfl, rfl, fun exits vx H2 xok b2 d2 dx => ?_⟩
  have x4 := xok.hi
  obtain ⟨ax, rfl, hax⟩ := dx.lot
  refine ⟨_, rfl, _, rfl, p, exits, rfl, d2, dx, xok, rfl, fun mm vm H3 mok b3 d3 dm => ?_⟩
  have i3 := b3.1.im d2
  obtain ⟨am, sm, tm, rfl, ham, M2, M3⟩ := mach_inv dm
  refine ⟨_, rfl, _, rfl, ax, _, rfl, .inr (SqT.of (i3 _ _ hax)), p, exits.length, 3, rfl, d3, by rw [List.length_map], by omega, rfl, by decide, by decide, fun wanted vw H4 lw b4 d4 dw => ?_⟩
  have i4 := b4.1.im d3
  have i34 := i3.trans i4
  refine ⟨_, rfl, _, rfl, ax, _, rfl, .inr (SqT.of (i34 _ _ hax)), p, exits.length, 3, rfl, d4, by rw [List.length_map], by omega, rfl, by decide, by decide, fun barred vb H5 lb b5 d5 db => ?_⟩
  have i5 := b5.1.im d4
  have i35 := i34.trans i5
  refine ⟨_, rfl, _, rfl, p, exits, rfl, d5, dx.im i35, xok, rfl, fun pr vp H6 pok b6 d6 dp => ?_⟩
  obtain ⟨kinds, ways⟩ := pr
  have i6 := b6.1.im d5
  have i36 := i35.trans i6
  obtain ⟨ap, pxs, rfl, hap, hpx⟩ := dp.tup_inv
  cases hpx with
  | cons dk hpx => cases hpx with
    | cons dy hpx => cases hpx with
      | nil =>
        obtain ⟨ak, rfl, hak⟩ := dk.lot
        obtain ⟨aw, rfl, haw⟩ := dw.lot
        obtain ⟨ab, rfl, hab⟩ := db.lot
        have DX := dx.im i36
        have DM := dm.im ((i4.trans i5).trans i6)
        have S2 := M2.im ((i4.trans i5).trans i6)
        have S3 := M3.im ((i4.trans i5).trans i6)
        have ham6 := ((i4.trans i5).trans i6) _ _ ham
        have DW := dw.im (i5.trans i6)
        have DB := db.im i6
        refine ⟨ap, _, rfl, SqT.of hap, rfl, _, _, rfl, _, _, rfl, rfl, ?_⟩
        refine ⟨_, rfl, fun x dx1 nx nd _ => ⟨x, dx1, exits, rfl, upd_same, DX.same (made_at nx nd), xok, fun H7 sb7 G => ⟨rfl, ?_⟩⟩⟩
        have t7 : Same H6 H7 := made_same (fun _ _ h => h) nx nd sb7
        refine ⟨_, rfl, _, rfl, am, _, _, _, rfl, rfl, SqT.of (t7 _ _ ham6), atI_nat (j := 0) rfl, _, rfl, am, _, _, _, rfl, rfl, SqT.of (t7 _ _ ham6), atI_nat (j := 1) rfl, _, rfl, am, _, _, _, rfl, rfl, SqT.of (t7 _ _ ham6), atI_nat (j := 2) rfl, fun x8 dx8 nx8 nd8 _ => ?_⟩
        have u8 := made_at (C := He.ga K "Machine") nx8 nd8
        refine ⟨x8, dx8, exits, mm, rfl, upd_same, G.same u8, rfl, (S2.same t7).same u8, (S3.same t7).same u8, xok, mok, fun H8 sb8 M => ⟨rfl, ?_⟩⟩
        have t8 : Same H7 H8 := made_same (fun _ _ h => h) nx8 nd8 sb8
        have t68 := t7.trans t8
        refine ⟨_, rfl, _, rfl, _, rfl, fun x9 dx9 nx9 nd9 _ => ?_⟩
        have u9 := made_at (C := He.ga K "Program") nx9 nd9
        refine ⟨x9, dx9, exits, kinds, ways, rfl, upd_same, (G.same t8).same u9, (dk.same t68).same u9, (dy.same t68).same u9, xok, pok, fun H9 sb9 P => ⟨rfl, ?_⟩⟩
        have t9 : Same H8 H9 := made_same (fun _ _ h => h) nx9 nd9 sb9
        have t69 := t68.trans t9
        have M9 := M.same t9
        have ok1 := lots2_of lw lb
        refine ⟨_, rfl, _, rfl, _, rfl, exits, mm, _, _, M9, xok, mok, Th.lot (DW.same t69), Th.lot (DB.same t69), fun wt bt hwt hbt _ _ _ v10 H10 s10 B => ?_, fun e => by rw [ok1] at e; cases e⟩
        obtain rfl := lot_inj (DW.same t69) hwt
        obtain rfl := lot_inj (DB.same t69) hbt
        have tA := t69.trans s10
        exact law_D T (d6.same tA) (DX.same tA) xok ((G.same (t8.trans t9)).same s10) (M9.same s10) mok (P.same s10) pok (DW.same tA) lw (DB.same tA) lb (DM.same tA) (dk.same tA) (dy.same tA) B q
end NB
set_option pp.maxSteps 900
set_option Elab.async false
set_option linter.all false
set_option maxRecDepth 100000
set_option maxHeartbeats 4000000
namespace NB
open PySem PyProof.Rows L2
theorem dv_is_integer {P : Program} {w : World} {K : PySem.W.Frag} {mg : Str → Option Value} {base : Heap} (T : Txt K mg)  {f : Addr} {cdv : Value} {A : Around} {outer : List Env} {s : Shared} {H : Hp} {E : XK} (hr : Room 0 (A.deeper (envOfC "is_integer" (defScope s_is_integer) s.heap.objs.size f cdv))) :
    PSs (cxOf CX0 P w K mg base ["thing"] "is_integer" (defScope s_is_integer) f cdv A outer s H E).nox (defBody s_is_integer) (t_is_integer K) := by
  exact (pss_one (ps_ret (pe_and (pe_callB call_isi (by rfl) T.f_isinstance (by decide +kernel) (pa_cons (pv 0) (pa_cons (pe_bltn (v := .ty "int") rfl T.f_int (by decide +kernel) rfl) pa_nil))) (pe_one (pe_not (pe_callB call_isi (by rfl) T.f_isinstance (by decide +kernel) (pa_cons (pv 0) (pa_cons (pe_bltn (v := .ty "bool") rfl T.f_bool (by decide +kernel) rfl) pa_nil))))))))
theorem ok_is_integer {P : Program} {w : World} {K : PySem.W.Frag} {mg : Str → Option Value} {base : Heap} (T : Txt K mg)  : OkF P w K mg base CX0 1 (He.ga K "is_integer") ["thing"] (sp_is_integer K) := by
  obtain ⟨fd, F⟩ := T.d_is_integer
  exact ⟨⟨fd, F.ok sc_is_integer (fun _ _ _ _ h => S1.len h) (fun _ _ _ _ _ _ _ _ hr h => ⟨t_is_integer K, PSs.nox (dv_is_integer T  hr), by obtain ⟨a0, rfl, h⟩ := S1.op h; exact rd_is_integer T h⟩), FunD.bindsN F fun _ _ _ _ _ _ us hl => match us, hl with | [_], _ => rfl⟩, F.kp⟩
theorem dv_is_between {P : Program} {w : World} {K : PySem.W.Frag} {mg : Str → Option Value} {base : Heap} (T : Txt K mg) (G_is_integer : OkF P w K mg base CX0 1 (He.ga K "is_integer") ["thing"] (sp_is_integer K)) {f : Addr} {cdv : Value} {A : Around} {outer : List Env} {s : Shared} {H : Hp} {E : XK} (hr : Room 1 (A.deeper (envOfC "is_between" (defScope s_is_between) s.heap.objs.size f cdv))) :
    PSs (cxOf CX0 P w K mg base ["thing", "least", "most"] "is_between" (defScope s_is_between) f cdv A outer s H E).nox (defBody s_is_between) (t_is_between K) := by
  exact (pss_one (ps_ret (pe_and (pe_callG G_is_integer (hr.mono (by decide)) rfl T.g_is_integer pass0 (pa_cons (pv 0) pa_nil)) (pe_one (pe_chain op_le op_le (pv 1) (pv 0) (pv 2))))))
theorem ok_is_between {P : Program} {w : World} {K : PySem.W.Frag} {mg : Str → Option Value} {base : Heap} (T : Txt K mg) (G_is_integer : OkF P w K mg base CX0 1 (He.ga K "is_integer") ["thing"] (sp_is_integer K)) : OkF P w K mg base CX0 2 (He.ga K "is_between") ["thing", "least", "most"] (sp_is_between K) := by
  obtain ⟨fd, F⟩ := T.d_is_between
  exact ⟨⟨fd, F.ok sc_is_between (fun _ _ _ _ h => S3.len h) (fun _ _ _ _ _ _ _ _ hr h => ⟨t_is_between K, PSs.nox (dv_is_between T G_is_integer hr), by obtain ⟨a0, a1, a2, rfl, h⟩ := S3.op h; exact rd_is_between T h⟩), FunD.bindsN F fun _ _ _ _ _ _ us hl => match us, hl with | [_, _, _], _ => rfl⟩, F.kp⟩
theorem dv_is_index {P : Program} {w : World} {K : PySem.W.Frag} {mg : Str → Option Value} {base : Heap} (T : Txt K mg) (G_is_between : OkF P w K mg base CX0 2 (He.ga K "is_between") ["thing", "least", "most"] (sp_is_between K)) {f : Addr} {cdv : Value} {A : Around} {outer : List Env} {s : Shared} {H : Hp} {E : XK} (hr : Room 2 (A.deeper (envOfC "is_index" (defScope s_is_index) s.heap.objs.size f cdv))) :
    PSs (cxOf CX0 P w K mg base ["thing", "many"] "is_index" (defScope s_is_index) f cdv A outer s H E).nox (defBody s_is_index) (t_is_index K) := by
  exact (pss_one (ps_ret (pe_callG G_is_between (hr.mono (by decide)) rfl T.g_is_between pass0 (pa_cons (pv 0) (pa_cons pe_int (pa_cons (pe_op op_sub (pv 1) pe_int) pa_nil))))))
theorem ok_is_index {P : Program} {w : World} {K : PySem.W.Frag} {mg : Str → Option Value} {base : Heap} (T : Txt K mg) (G_is_between : OkF P w K mg base CX0 2 (He.ga K "is_between") ["thing", "least", "most"] (sp_is_between K)) : OkF P w K mg base CX0 3 (He.ga K "is_index") ["thing", "many"] (sp_is_index K) := by
  obtain ⟨fd, F⟩ := T.d_is_index
  exact ⟨⟨fd, F.ok sc_is_index (fun _ _ _ _ h => S2.len h) (fun _ _ _ _ _ _ _ _ hr h => ⟨t_is_index K, PSs.nox (dv_is_index T G_is_between hr), by obtain ⟨a0, a1, rfl, h⟩ := S2.op h; exact rd_is_index T h⟩), FunD.bindsN F fun _ _ _ _ _ _ us hl => match us, hl with | [_, _], _ => rfl⟩, F.kp⟩
theorem dv_is_lot {P : Program} {w : World} {K : PySem.W.Frag} {mg : Str → Option Value} {base : Heap} (T : Txt K mg) (G_is_index : OkF P w K mg base CX0 3 (He.ga K "is_index") ["thing", "many"] (sp_is_index K)) {f : Addr} {cdv : Value} {A : Around} {outer : List Env} {s : Shared} {H : Hp} {E : XK} (hr : Room 3 (A.deeper (envOfC "is_lot" (defScope s_is_lot) s.heap.objs.size f cdv))) :
    PSs (cxOf CX0 P w K mg base ["thing", "many", "last", "item"] "is_lot" (defScope s_is_lot) f cdv A outer s H E).nox (defBody s_is_lot) (t_is_lot K) := by
  exact (pss_cons (ps_if (pt_not (pt_val (pe_callB call_isi (by rfl) T.f_isinstance (by decide +kernel) (pa_cons (pv 0) (pa_cons (pe_bltn (v := .ty "tuple") rfl T.f_tuple (by decide +kernel) rfl) pa_nil))))) (pss_one (ps_ret pe_bl)) pss_nil)
    (pss_cons (ps_set (i := 2) sc_is_lot.nd rfl (Or.inl rfl) (pe_un un_neg pe_int))
    (pss_cons (ps_for PassesOwn.never rfl (pi_tup (pv 0)) (pg_name (i := 3) sc_is_lot.nd rfl (Or.inl rfl)) (pss_cons (ps_if (PW.pt (pw_or (pt_not (pt_val (pe_callG G_is_index (hr.mono (by decide)) rfl T.g_is_index pass0 (pa_cons (pv 3) (pa_cons (pv 1) pa_nil))))) (pw_or1 (pt_cmpR op_le (pv 3) (pv 2) (nomark _))))) (pss_one (ps_ret pe_bl)) pss_nil)
    (pss_one (ps_set (i := 2) sc_is_lot.nd rfl (Or.inl rfl) (pv 3)))))
    (pss_one (ps_ret pe_bl)))))
theorem ok_is_lot {P : Program} {w : World} {K : PySem.W.Frag} {mg : Str → Option Value} {base : Heap} (T : Txt K mg) (G_is_index : OkF P w K mg base CX0 3 (He.ga K "is_index") ["thing", "many"] (sp_is_index K)) : OkF P w K mg base CX0 4 (He.ga K "is_lot") ["thing", "many"] (sp_is_lot K) := by
  obtain ⟨fd, F⟩ := T.d_is_lot
  exact ⟨⟨fd, F.ok sc_is_lot (fun _ _ _ _ h => S2.len h) (fun _ _ _ _ _ _ _ _ hr h => ⟨t_is_lot K, PSs.nox (dv_is_lot T G_is_index hr), by obtain ⟨a0, a1, rfl, h⟩ := S2.op h; exact rd_is_lot T h⟩), FunD.bindsN F fun _ _ _ _ _ _ us hl => match us, hl with | [_, _], _ => rfl⟩, F.kp⟩
theorem dv_mask_of {P : Program} {w : World} {K : PySem.W.Frag} {mg : Str → Option Value} {base : Heap} (T : Txt K mg)  {f : Addr} {cdv : Value} {A : Around} {outer : List Env} {s : Shared} {H : Hp} {E : XK} (hr : Room 0 (A.deeper (envOfC "mask_of" (defScope s_mask_of) s.heap.objs.size f cdv))) :
    PSs (cxOf CX0 P w K mg base ["lot", "mask", "item"] "mask_of" (defScope s_mask_of) f cdv A outer s H E).nox (defBody s_mask_of) (t_mask_of K) := by
  exact (pss_cons (ps_set (i := 1) sc_mask_of.nd rfl (Or.inl rfl) pe_int)
    (pss_cons (ps_for PassesOwn.never rfl (pi_seq (pv 0)) (pg_name (i := 2) sc_mask_of.nd rfl (Or.inl rfl)) (pss_one (ps_set (i := 1) sc_mask_of.nd rfl (Or.inl rfl) (pe_op op_or (pv 1) (pe_op op_shl pe_int (pv 2))))))
    (pss_one (ps_ret (pv 1)))))
theorem ok_mask_of {P : Program} {w : World} {K : PySem.W.Frag} {mg : Str → Option Value} {base : Heap} (T : Txt K mg)  : OkF P w K mg base CX0 1 (He.ga K "mask_of") ["lot"] (sp_mask_of K) := by
  obtain ⟨fd, F⟩ := T.d_mask_of
  exact ⟨⟨fd, F.ok sc_mask_of (fun _ _ _ _ h => S1.len h) (fun _ _ _ _ _ _ _ _ hr h => ⟨t_mask_of K, PSs.nox (dv_mask_of T  hr), by obtain ⟨a0, rfl, h⟩ := S1.op h; exact rd_mask_of T h⟩), FunD.bindsN F fun _ _ _ _ _ _ us hl => match us, hl with | [_], _ => rfl⟩, F.kp⟩
theorem dv_lot_of {P : Program} {w : World} {K : PySem.W.Frag} {mg : Str → Option Value} {base : Heap} (T : Txt K mg)  {f : Addr} {cdv : Value} {A : Around} {outer : List Env} {s : Shared} {H : Hp} {E : XK} (hr : Room 0 (A.deeper (envOfC "lot_of" (defScope s_lot_of) s.heap.objs.size f cdv))) :
    PSs (cxOf CX0 P w K mg base ["mask", "found", "item"] "lot_of" (defScope s_lot_of) f cdv A outer s H E).nox (defBody s_lot_of) (t_lot_of K) := by
  exact (pss_cons (ps_set (i := 1) sc_lot_of.nd rfl (Or.inl rfl) (pe_lst pa_nil))
    (pss_cons (ps_set (i := 2) sc_lot_of.nd rfl (Or.inl rfl) pe_int)
    (pss_cons (ps_while PassesOwn.never (pt_cmpR op_gt (pv 0) pe_int (nomark _)) (pss_cons (ps_if (pt_truth (pe_op op_and (pv 0) pe_int) (by intro _; rfl)) (pss_one (ps_expr (pe_bm PySem.F.plainAttrs_list PySem.F.slot_list_append PySem.F.type_list_append mt_append (pv 1) (pa_cons (pv 2) pa_nil)))) pss_nil)
    (pss_cons (ps_set (i := 0) sc_lot_of.nd rfl (Or.inl rfl) (pe_op op_shr (pv 0) pe_int))
    (pss_one (ps_aug (i := 2) sc_lot_of.nd rfl (Or.inl rfl) pe_int ip_add)))))
    (pss_one (ps_ret (pe_callTy call_tuple_of (by rfl) T.f_tuple (by decide +kernel) (pa_cons (pv 1) pa_nil)))))))
theorem ok_lot_of {P : Program} {w : World} {K : PySem.W.Frag} {mg : Str → Option Value} {base : Heap} (T : Txt K mg)  : OkF P w K mg base CX0 1 (He.ga K "lot_of") ["mask"] (sp_lot_of K) := by
  obtain ⟨fd, F⟩ := T.d_lot_of
  exact ⟨⟨fd, F.ok sc_lot_of (fun _ _ _ _ h => S1.len h) (fun _ _ _ _ _ _ _ _ hr h => ⟨t_lot_of K, PSs.nox (dv_lot_of T  hr), by obtain ⟨a0, rfl, h⟩ := S1.op h; exact rd_lot_of T h⟩), FunD.bindsN F fun _ _ _ _ _ _ us hl => match us, hl with | [_], _ => rfl⟩, F.kp⟩
theorem dv_RawBook_keep {P : Program} {w : World} {K : PySem.W.Frag} {mg : Str → Option Value} {base : Heap} (T : Txt K mg) (G_mask_of : OkF P w K mg base CX0 1 (He.ga K "mask_of") ["lot"] (sp_mask_of K)) {f : Addr} {cdv : Value} {A : Around} {outer : List Env} {s : Shared} {H : Hp} {E : XK} (hr : Room 1 (A.deeper (envOfC "Book.keep" (defScope s_RawBook_keep) s.heap.objs.size f cdv))) :
    PSs (cxOf CX0 P w K mg base ["self", "bag", "owners", "rules", "rewriters", "rule", "bit", "told", "many", "exit_number"] "Book.keep" (defScope s_RawBook_keep) f cdv A outer s H E).nox (defBody s_RawBook_keep) (t_RawBook_keep K) := by
  exact (pss_cons (ps_fld (pv 0) (pv 1) rfl)
    (pss_cons (ps_fld (pv 0) (pv 2) rfl)
    (pss_cons (ps_fld (pv 0) (pv 3) rfl)
    (pss_cons (ps_fld (pv 0) (pv 4) rfl)
    (pss_cons (ps_fld (pv 0) (pe_lc (own := [("many", 8)]) (wi := (iTup K (tFld K (tVar 1) "kept_exits"))) (g := (gName 8)) (tt := tYes) (te := (tLst tNil)) rfl sc_RawBook_keep.nd (pi_tup (pe_fld (pv 1) rfl)) (blkOk_by (N := ["self", "bag", "owners", "rules", "rewriters", "rule", "bit", "told", "many", "exit_number"]) (sc := defScope s_RawBook_keep) (own := [("many", 8)]) (by decide +kernel)) (fun _ _ _ _ _ => (pg_name (i := 8) sc_RawBook_keep.nd rfl (Or.inl rfl))) (fun _ _ _ _ _ => pts_nil) (fun _ _ _ _ _ => (pe_lst pa_nil))) rfl)
    (pss_cons (ps_fld (pv 0) (pe_lc (own := [("many", 8)]) (wi := (iTup K (tFld K (tVar 1) "kept_exits"))) (g := (gName 8)) (tt := tYes) (te := (tLc (iRng1 (tCons (tVar 8) tNil)) (gName 9) tYes (tLst tNil) [9])) rfl sc_RawBook_keep.nd (pi_tup (pe_fld (pv 1) rfl)) (blkOk_by (N := ["self", "bag", "owners", "rules", "rewriters", "rule", "bit", "told", "many", "exit_number"]) (sc := defScope s_RawBook_keep) (own := [("many", 8)]) (by decide +kernel)) (fun _ _ _ _ _ => (pg_name (i := 8) sc_RawBook_keep.nd rfl (Or.inl rfl))) (fun _ _ _ _ _ => pts_nil) (fun _ _ _ _ _ => (pe_lc (own := [("exit_number", 9)]) (wi := (iRng1 (tCons (tVar 8) tNil))) (g := (gName 9)) (tt := tYes) (te := (tLst tNil)) rfl sc_RawBook_keep.nd (pi_range1 rfl T.f_range (pa_cons (pv 8) pa_nil)) (blkOk_by (N := ["self", "bag", "owners", "rules", "rewriters", "rule", "bit", "told", "many", "exit_number"]) (sc := ⟨.function, [(".0", .local), ("many", .local), ("range", .globalImplicit)], false, false, []⟩) (own := [("exit_number", 9)]) (by decide +kernel)) (fun _ _ _ _ _ => (pg_name (i := 9) sc_RawBook_keep.nd rfl (Or.inl rfl))) (fun _ _ _ _ _ => pts_nil) (fun _ _ _ _ _ => (pe_lst pa_nil))))) rfl)
    (pss_one (ps_for PassesOwn.never rfl (pi_tup (pv 3)) (pg_name (i := 5) sc_RawBook_keep.nd rfl (Or.inl rfl)) (pss_cons (ps_set (i := 6) sc_RawBook_keep.nd rfl (Or.inl rfl) (pe_op op_shl pe_int (pe_ix ix_tup (pv 5) (pe_un un_neg pe_int) (fun _ _ => rfl))))
    (pss_one (ps_if (pt_cmpR op_eq (pe_ix ix_tup (pv 5) pe_int (fun _ _ => rfl)) pe_str (nomark _)) (pss_one (ps_expr (pe_bm PySem.F.plainAttrs_list PySem.F.slot_list_append PySem.F.type_list_append mt_append (pe_ix ix_list (pe_fld (pv 0) rfl) (pe_ix ix_tup (pv 5) pe_int (fun _ _ => rfl)) (fun _ _ => rfl)) (pa_cons (pe_tup (pa_cons (pe_callG G_mask_of (hr.mono (by decide)) rfl T.g_mask_of pass0 (pa_cons (pe_ix ix_tup (pv 5) pe_int (fun _ _ => rfl)) pa_nil)) (pa_cons (pv 6) pa_nil))) pa_nil)))) (pss_cons (ps_set (i := 7) sc_RawBook_keep.nd rfl (Or.inl rfl) (pe_tup (pa_cons (pe_callG G_mask_of (hr.mono (by decide)) rfl T.g_mask_of pass0 (pa_cons (pe_ix ix_tup (pv 5) pe_int (fun _ _ => rfl)) pa_nil)) (pa_cons (pe_callG G_mask_of (hr.mono (by decide)) rfl T.g_mask_of pass0 (pa_cons (pe_ix ix_tup (pv 5) pe_int (fun _ _ => rfl)) pa_nil)) (pa_cons (pe_cmpR op_eq (pe_ix ix_tup (pv 5) pe_int (fun _ _ => rfl)) pe_str (nomark _)) (pa_cons (pv 6) pa_nil))))))
    (pss_one (ps_expr (pe_bm PySem.F.plainAttrs_list PySem.F.slot_list_append PySem.F.type_list_append mt_append (pe_ix ix_list (pe_ix ix_list (pe_fld (pv 0) rfl) (pe_ix ix_tup (pv 5) pe_int (fun _ _ => rfl)) (fun _ _ => rfl)) (pe_ix ix_tup (pv 5) pe_int (fun _ _ => rfl)) (fun _ _ => rfl)) (pa_cons (pv 7) pa_nil))))))))))))))))
theorem ok_RawBook_keep {P : Program} {w : World} {K : PySem.W.Frag} {mg : Str → Option Value} {base : Heap} (T : Txt K mg) (G_mask_of : OkF P w K mg base CX0 1 (He.ga K "mask_of") ["lot"] (sp_mask_of K)) : OkF P w K mg base CX0 2 (He.ma K (He.ga K "RawBook") "keep") ["self", "bag", "owners", "rules", "rewriters"] (sp_RawBook_keep K) := by
  obtain ⟨fd, F⟩ := T.d_RawBook_keep
  exact ⟨⟨fd, F.ok sc_RawBook_keep (fun _ _ _ _ h => S5.len h) (fun _ _ _ _ _ _ _ _ hr h => ⟨t_RawBook_keep K, PSs.nox (dv_RawBook_keep T G_mask_of hr), by obtain ⟨a0, a1, a2, a3, a4, rfl, h⟩ := S5.op h; exact rd_RawBook_keep T h⟩), FunD.bindsN F fun _ _ _ _ _ _ us hl => match us, hl with | [_, _, _, _, _], _ => rfl⟩, F.kp⟩
theorem dv_RawBook_bag {P : Program} {w : World} {K : PySem.W.Frag} {mg : Str → Option Value} {base : Heap} (T : Txt K mg)  {f : Addr} {cdv : Value} {A : Around} {outer : List Env} {s : Shared} {H : Hp} {E : XK} (hr : Room 0 (A.deeper (envOfC "Book.bag" (defScope s_RawBook_bag) s.heap.objs.size f cdv))) :
    PSs (cxOf CX0 P w K mg base ["self"] "Book.bag" (defScope s_RawBook_bag) f cdv A outer s H E).nox (defBody s_RawBook_bag) (t_RawBook_bag K) := by
  exact (pss_one (ps_ret (pe_fld (pv 0) rfl)))
theorem ok_RawBook_bag {P : Program} {w : World} {K : PySem.W.Frag} {mg : Str → Option Value} {base : Heap} (T : Txt K mg)  : OkF P w K mg base CX0 1 (He.ma K (He.ga K "RawBook") "bag") ["self"] (sp_RawBook_bag K) := by
  obtain ⟨fd, F⟩ := T.d_RawBook_bag
  exact ⟨⟨fd, F.ok sc_RawBook_bag (fun _ _ _ _ h => S1.len h) (fun _ _ _ _ _ _ _ _ hr h => ⟨t_RawBook_bag K, PSs.nox (dv_RawBook_bag T  hr), by obtain ⟨a0, rfl, h⟩ := S1.op h; exact rd_RawBook_bag T h⟩), FunD.bindsN F fun _ _ _ _ _ _ us hl => match us, hl with | [_], _ => rfl⟩, F.kp⟩
theorem dv_RawBook_owners {P : Program} {w : World} {K : PySem.W.Frag} {mg : Str → Option Value} {base : Heap} (T : Txt K mg)  {f : Addr} {cdv : Value} {A : Around} {outer : List Env} {s : Shared} {H : Hp} {E : XK} (hr : Room 0 (A.deeper (envOfC "Book.owners" (defScope s_RawBook_owners) s.heap.objs.size f cdv))) :
    PSs (cxOf CX0 P w K mg base ["self"] "Book.owners" (defScope s_RawBook_owners) f cdv A outer s H E).nox (defBody s_RawBook_owners) (t_RawBook_owners K) := by
  exact (pss_one (ps_ret (pe_fld (pv 0) rfl)))
theorem ok_RawBook_owners {P : Program} {w : World} {K : PySem.W.Frag} {mg : Str → Option Value} {base : Heap} (T : Txt K mg)  : OkF P w K mg base CX0 1 (He.ma K (He.ga K "RawBook") "owners") ["self"] (sp_RawBook_owners K) := by
  obtain ⟨fd, F⟩ := T.d_RawBook_owners
  exact ⟨⟨fd, F.ok sc_RawBook_owners (fun _ _ _ _ h => S1.len h) (fun _ _ _ _ _ _ _ _ hr h => ⟨t_RawBook_owners K, PSs.nox (dv_RawBook_owners T  hr), by obtain ⟨a0, rfl, h⟩ := S1.op h; exact rd_RawBook_owners T h⟩), FunD.bindsN F fun _ _ _ _ _ _ us hl => match us, hl with | [_], _ => rfl⟩, F.kp⟩
theorem dv_RawBook_rules {P : Program} {w : World} {K : PySem.W.Frag} {mg : Str → Option Value} {base : Heap} (T : Txt K mg)  {f : Addr} {cdv : Value} {A : Around} {outer : List Env} {s : Shared} {H : Hp} {E : XK} (hr : Room 0 (A.deeper (envOfC "Book.rules" (defScope s_RawBook_rules) s.heap.objs.size f cdv))) :
    PSs (cxOf CX0 P w K mg base ["self"] "Book.rules" (defScope s_RawBook_rules) f cdv A outer s H E).nox (defBody s_RawBook_rules) (t_RawBook_rules K) := by
  exact (pss_one (ps_ret (pe_fld (pv 0) rfl)))
theorem ok_RawBook_rules {P : Program} {w : World} {K : PySem.W.Frag} {mg : Str → Option Value} {base : Heap} (T : Txt K mg)  : OkF P w K mg base CX0 1 (He.ma K (He.ga K "RawBook") "rules") ["self"] (sp_RawBook_rules K) := by
  obtain ⟨fd, F⟩ := T.d_RawBook_rules
  exact ⟨⟨fd, F.ok sc_RawBook_rules (fun _ _ _ _ h => S1.len h) (fun _ _ _ _ _ _ _ _ hr h => ⟨t_RawBook_rules K, PSs.nox (dv_RawBook_rules T  hr), by obtain ⟨a0, rfl, h⟩ := S1.op h; exact rd_RawBook_rules T h⟩), FunD.bindsN F fun _ _ _ _ _ _ us hl => match us, hl with | [_], _ => rfl⟩, F.kp⟩
theorem dv_RawBook_rewriters {P : Program} {w : World} {K : PySem.W.Frag} {mg : Str → Option Value} {base : Heap} (T : Txt K mg)  {f : Addr} {cdv : Value} {A : Around} {outer : List Env} {s : Shared} {H : Hp} {E : XK} (hr : Room 0 (A.deeper (envOfC "Book.rewriters" (defScope s_RawBook_rewriters) s.heap.objs.size f cdv))) :
    PSs (cxOf CX0 P w K mg base ["self"] "Book.rewriters" (defScope s_RawBook_rewriters) f cdv A outer s H E).nox (defBody s_RawBook_rewriters) (t_RawBook_rewriters K) := by
  exact (pss_one (ps_ret (pe_fld (pv 0) rfl)))
theorem ok_RawBook_rewriters {P : Program} {w : World} {K : PySem.W.Frag} {mg : Str → Option Value} {base : Heap} (T : Txt K mg)  : OkF P w K mg base CX0 1 (He.ma K (He.ga K "RawBook") "rewriters") ["self"] (sp_RawBook_rewriters K) := by
  obtain ⟨fd, F⟩ := T.d_RawBook_rewriters
  exact ⟨⟨fd, F.ok sc_RawBook_rewriters (fun _ _ _ _ h => S1.len h) (fun _ _ _ _ _ _ _ _ hr h => ⟨t_RawBook_rewriters K, PSs.nox (dv_RawBook_rewriters T  hr), by obtain ⟨a0, rfl, h⟩ := S1.op h; exact rd_RawBook_rewriters T h⟩), FunD.bindsN F fun _ _ _ _ _ _ us hl => match us, hl with | [_], _ => rfl⟩, F.kp⟩
theorem dv_RawBook_init {P : Program} {w : World} {K : PySem.W.Frag} {mg : Str → Option Value} {base : Heap} (T : Txt K mg) (G_RawBook_keep : OkF P w K mg base CX0 2 (He.ma K (He.ga K "RawBook") "keep") ["self", "bag", "owners", "rules", "rewriters"] (sp_RawBook_keep K)) {f : Addr} {cdv : Value} {A : Around} {outer : List Env} {s : Shared} {H : Hp} {E : XK} (hr : Room 2 (A.deeper (envOfC "RawBook.__init__" (defScope s_RawBook_init) s.heap.objs.size f cdv))) :
    PSs (cxOf CX0 P w K mg base ["self", "bag", "owners", "rules", "rewriters"] "RawBook.__init__" (defScope s_RawBook_init) f cdv A outer s H E).nox (defBody s_RawBook_init) (t_RawBook_init K) := by
  exact (pss_one (ps_expr (pe_methG (pv 0) T.c_RawBook T.m_RawBook_keep G_RawBook_keep (hr.mono (by decide)) pass0 (pa_cons (pv 1) (pa_cons (pv 2) (pa_cons (pv 3) (pa_cons (pv 4) pa_nil)))))))
theorem ok_RawBook_init {P : Program} {w : World} {K : PySem.W.Frag} {mg : Str → Option Value} {base : Heap} (T : Txt K mg) (G_RawBook_keep : OkF P w K mg base CX0 2 (He.ma K (He.ga K "RawBook") "keep") ["self", "bag", "owners", "rules", "rewriters"] (sp_RawBook_keep K)) : OkF P w K mg base CX0 3 (He.ma K (He.ga K "RawBook") "__init__") ["self", "bag", "owners", "rules", "rewriters"] (sp_RawBook_init K) := by
  obtain ⟨fd, F⟩ := T.d_RawBook_init
  exact ⟨⟨fd, F.ok sc_RawBook_init (fun _ _ _ _ h => S5.len h) (fun _ _ _ _ _ _ _ _ hr h => ⟨t_RawBook_init K, PSs.nox (dv_RawBook_init T G_RawBook_keep hr), by obtain ⟨a0, a1, a2, a3, a4, rfl, h⟩ := S5.op h; exact rd_RawBook_init T h⟩), FunD.bindsN F fun _ _ _ _ _ _ us hl => match us, hl with | [_, _, _, _, _], _ => rfl⟩, F.kp⟩
theorem dv_all_mask {P : Program} {w : World} {K : PySem.W.Frag} {mg : Str → Option Value} {base : Heap} (T : Txt K mg)  {f : Addr} {cdv : Value} {A : Around} {outer : List Env} {s : Shared} {H : Hp} {E : XK} (hr : Room 0 (A.deeper (envOfC "all_mask" (defScope s_all_mask) s.heap.objs.size f cdv))) :
    PSs (cxOf CX0 P w K mg base ["book"] "all_mask" (defScope s_all_mask) f cdv A outer s H E).nox (defBody s_all_mask) (t_all_mask K) := by
  exact (pss_one (ps_ret (pe_op op_sub (pe_op op_shl pe_int (pe_callB call_len_seq (by rfl) T.f_len (by decide +kernel) (pa_cons (pe_fld (pv 0) rfl) pa_nil))) pe_int)))
theorem ok_all_mask {P : Program} {w : World} {K : PySem.W.Frag} {mg : Str → Option Value} {base : Heap} (T : Txt K mg)  : OkF P w K mg base CX0 1 (He.ga K "all_mask") ["book"] (sp_all_mask K) := by
  obtain ⟨fd, F⟩ := T.d_all_mask
  exact ⟨⟨fd, F.ok sc_all_mask (fun _ _ _ _ h => S1.len h) (fun _ _ _ _ _ _ _ _ hr h => ⟨t_all_mask K, PSs.nox (dv_all_mask T  hr), by obtain ⟨a0, rfl, h⟩ := S1.op h; exact rd_all_mask T h⟩), FunD.bindsN F fun _ _ _ _ _ _ us hl => match us, hl with | [_], _ => rfl⟩, F.kp⟩
theorem dv_own_mask {P : Program} {w : World} {K : PySem.W.Frag} {mg : Str → Option Value} {base : Heap} (T : Txt K mg) (G_mask_of : OkF P w K mg base CX0 1 (He.ga K "mask_of") ["lot"] (sp_mask_of K)) {f : Addr} {cdv : Value} {A : Around} {outer : List Env} {s : Shared} {H : Hp} {E : XK} (hr : Room 1 (A.deeper (envOfC "own_mask" (defScope s_own_mask) s.heap.objs.size f cdv))) :
    PSs (cxOf CX0 P w K mg base ["book", "lookers", "doubt", "looker"] "own_mask" (defScope s_own_mask) f cdv A outer s H E).nox (defBody s_own_mask) (t_own_mask K) := by
  exact (pss_one (ps_ret (pe_callG G_mask_of (hr.mono (by decide)) rfl T.g_mask_of pass0 (pa_cons (pe_lc (own := [("doubt", 2), ("looker", 3)]) (wi := (iEnumT K (tCons (tFld K (tVar 0) "kept_owners") tNil))) (g := (gTup K 2 (gCons (gName 2) (gCons (gName 3) gNil)))) (tt := (tTest (tOp (rIn K false) (tVar 3) (tVar 1)))) (te := (tVar 2)) rfl sc_own_mask.nd (pi_enumT (by rfl) T.f_enumerate (pa_cons (pe_fld (pv 0) rfl) pa_nil)) (blkOk_by (N := ["book", "lookers", "doubt", "looker"]) (sc := defScope s_own_mask) (own := [("doubt", 2), ("looker", 3)]) (by decide +kernel)) (fun _ _ _ _ _ => (pg_tup (by rfl) (pgs_cons (pg_name (i := 2) sc_own_mask.nd rfl (Or.inl rfl)) (pgs_cons (pg_name (i := 3) sc_own_mask.nd rfl (Or.inl rfl)) pgs_nil)))) (fun _ _ _ _ _ => (pts_one (pt_cmpR op_in_seq (pv 3) (pv 1) (by rfl)))) (fun _ _ _ _ _ => (pv 2))) pa_nil))))
theorem ok_own_mask {P : Program} {w : World} {K : PySem.W.Frag} {mg : Str → Option Value} {base : Heap} (T : Txt K mg) (G_mask_of : OkF P w K mg base CX0 1 (He.ga K "mask_of") ["lot"] (sp_mask_of K)) : OkF P w K mg base CX0 2 (He.ga K "own_mask") ["book", "lookers"] (sp_own_mask K) := by
  obtain ⟨fd, F⟩ := T.d_own_mask
  exact ⟨⟨fd, F.ok sc_own_mask (fun _ _ _ _ h => S2.len h) (fun _ _ _ _ _ _ _ _ hr h => ⟨t_own_mask K, PSs.nox (dv_own_mask T G_mask_of hr), by obtain ⟨a0, a1, rfl, h⟩ := S2.op h; exact rd_own_mask T h⟩), FunD.bindsN F fun _ _ _ _ _ _ us hl => match us, hl with | [_, _], _ => rfl⟩, F.kp⟩
theorem dv_State_init {P : Program} {w : World} {K : PySem.W.Frag} {mg : Str → Option Value} {base : Heap} (T : Txt K mg)  {f : Addr} {cdv : Value} {A : Around} {outer : List Env} {s : Shared} {H : Hp} {E : XK} (hr : Room 0 (A.deeper (envOfC "State.__init__" (defScope s_State_init) s.heap.objs.size f cdv))) :
    PSs (cxOf CX0 P w K mg base ["self", "kinds", "closed", "lots"] "State.__init__" (defScope s_State_init) f cdv A outer s H E).nox (defBody s_State_init) (t_State_init K) := by
  exact (pss_cons (ps_fld (pv 0) (pv 1) rfl)
    (pss_cons (ps_fld (pv 0) (pv 2) rfl)
    (pss_one (ps_fld (pv 0) (pv 3) rfl))))
theorem ok_State_init {P : Program} {w : World} {K : PySem.W.Frag} {mg : Str → Option Value} {base : Heap} (T : Txt K mg)  : OkF P w K mg base CX0 1 (He.ma K (He.ga K "State") "__init__") ["self", "kinds", "closed", "lots"] (sp_State_init K) := by
  obtain ⟨fd, F⟩ := T.d_State_init
  exact ⟨⟨fd, F.ok sc_State_init (fun _ _ _ _ h => S4.len h) (fun _ _ _ _ _ _ _ _ hr h => ⟨t_State_init K, PSs.nox (dv_State_init T  hr), by obtain ⟨a0, a1, a2, a3, rfl, h⟩ := S4.op h; exact rd_State_init T h⟩), FunD.bindsN F fun _ _ _ _ _ _ us hl => match us, hl with | [_, _, _, _], _ => rfl⟩, F.kp⟩
theorem dv_State_stands {P : Program} {w : World} {K : PySem.W.Frag} {mg : Str → Option Value} {base : Heap} (T : Txt K mg) (G_lot_of : OkF P w K mg base CX0 1 (He.ga K "lot_of") ["mask"] (sp_lot_of K)) {f : Addr} {cdv : Value} {A : Around} {outer : List Env} {s : Shared} {H : Hp} {E : XK} (hr : Room 1 (A.deeper (envOfC "State.stands" (defScope s_State_stands) s.heap.objs.size f cdv))) :
    PSs (cxOf CX0 P w K mg base ["self", "told", "kind", "closed", "lot"] "State.stands" (defScope s_State_stands) f cdv A outer s H E).nox (defBody s_State_stands) (t_State_stands K) := by
  exact (pss_cons (ps_set (i := 1) sc_State_stands.nd rfl (Or.inl rfl) (pe_lzip3 rfl T.f_list rfl T.f_zip (pa_cons (pe_fld (pv 0) rfl) (pa_cons (pe_fld (pv 0) rfl) (pa_cons (pe_fld (pv 0) rfl) pa_nil)))))
    (pss_one (ps_ret (pe_lc (own := [("kind", 2), ("closed", 3), ("lot", 4)]) (wi := (iList K (tVar 1))) (g := (gTup K 3 (gCons (gName 2) (gCons (gName 3) (gCons (gName 4) gNil))))) (tt := tYes) (te := (tTup (tCons (tVar 2) (tCons (tCall (sp_lot_of K) [] E0 (tCons (tVar 3) tNil)) (tCons (tCall (sp_lot_of K) [] E0 (tCons (tVar 4) tNil)) tNil))))) rfl sc_State_stands.nd (pi_list (pv 1)) (blkOk_by (N := ["self", "told", "kind", "closed", "lot"]) (sc := defScope s_State_stands) (own := [("kind", 2), ("closed", 3), ("lot", 4)]) (by decide +kernel)) (fun _ _ _ _ _ => (pg_tup (by rfl) (pgs_cons (pg_name (i := 2) sc_State_stands.nd rfl (Or.inl rfl)) (pgs_cons (pg_name (i := 3) sc_State_stands.nd rfl (Or.inl rfl)) (pgs_cons (pg_name (i := 4) sc_State_stands.nd rfl (Or.inl rfl)) pgs_nil))))) (fun _ _ _ _ _ => pts_nil) (fun _ _ _ _ _ => (pe_tup (pa_cons (pv 2) (pa_cons (pe_callG G_lot_of (hr.mono (by decide)) rfl T.g_lot_of pass0 (pa_cons (pv 3) pa_nil)) (pa_cons (pe_callG G_lot_of (hr.mono (by decide)) rfl T.g_lot_of pass0 (pa_cons (pv 4) pa_nil)) pa_nil)))))))))
theorem ok_State_stands {P : Program} {w : World} {K : PySem.W.Frag} {mg : Str → Option Value} {base : Heap} (T : Txt K mg) (G_lot_of : OkF P w K mg base CX0 1 (He.ga K "lot_of") ["mask"] (sp_lot_of K)) : OkF P w K mg base CX0 2 (He.ma K (He.ga K "State") "stands") ["self"] (sp_State_stands K) := by
  obtain ⟨fd, F⟩ := T.d_State_stands
  exact ⟨⟨fd, F.ok sc_State_stands (fun _ _ _ _ h => S1.len h) (fun _ _ _ _ _ _ _ _ hr h => ⟨t_State_stands K, PSs.nox (dv_State_stands T G_lot_of hr), by obtain ⟨a0, rfl, h⟩ := S1.op h; exact rd_State_stands T h⟩), FunD.bindsN F fun _ _ _ _ _ _ us hl => match us, hl with | [_], _ => rfl⟩, F.kp⟩
theorem dv_begin_state {P : Program} {w : World} {K : PySem.W.Frag} {mg : Str → Option Value} {base : Heap} (T : Txt K mg) (G_State_init : OkF P w K mg base CX0 1 (He.ma K (He.ga K "State") "__init__") ["self", "kinds", "closed", "lots"] (sp_State_init K)) (G_all_mask : OkF P w K mg base CX0 1 (He.ga K "all_mask") ["book"] (sp_all_mask K)) {f : Addr} {cdv : Value} {A : Around} {outer : List Env} {s : Shared} {H : Hp} {E : XK} (hr : Room 2 (A.deeper (envOfC "begin_state" (defScope s_begin_state) s.heap.objs.size f cdv))) :
    PSs (cxOf CX0 P w K mg base ["book", "program", "many"] "begin_state" (defScope s_begin_state) f cdv A outer s H E).nox (defBody s_begin_state) (t_begin_state K) := by
  exact (pss_cons (ps_set (i := 2) sc_begin_state.nd rfl (Or.inl rfl) (pe_callB call_len_seq (by rfl) T.f_len (by decide +kernel) (pa_cons (pe_fld (pv 1) rfl) pa_nil)))
    (pss_one (ps_ret (pe_makeG T.k_State G_State_init (hr.mono (by decide)) rfl T.g_State pass0 (pa_cons (pe_callTy call_list_of (by rfl) T.f_list (by decide +kernel) (pa_cons (pe_fld (pv 1) rfl) pa_nil)) (pa_cons (pe_op op_rep (pe_lst (pa_cons pe_int pa_nil)) (pv 2)) (pa_cons (pe_op op_rep (pe_lst (pa_cons (pe_callG G_all_mask (hr.mono (by decide)) rfl T.g_all_mask pass0 (pa_cons (pv 0) pa_nil)) pa_nil)) (pv 2)) pa_nil)))))))
theorem ok_begin_state {P : Program} {w : World} {K : PySem.W.Frag} {mg : Str → Option Value} {base : Heap} (T : Txt K mg) (G_State_init : OkF P w K mg base CX0 1 (He.ma K (He.ga K "State") "__init__") ["self", "kinds", "closed", "lots"] (sp_State_init K)) (G_all_mask : OkF P w K mg base CX0 1 (He.ga K "all_mask") ["book"] (sp_all_mask K)) : OkF P w K mg base CX0 3 (He.ga K "begin_state") ["book", "program"] (sp_begin_state K) := by
  obtain ⟨fd, F⟩ := T.d_begin_state
  exact ⟨⟨fd, F.ok sc_begin_state (fun _ _ _ _ h => S2.len h) (fun _ _ _ _ _ _ _ _ hr h => ⟨t_begin_state K, PSs.nox (dv_begin_state T G_State_init G_all_mask hr), by obtain ⟨a0, a1, rfl, h⟩ := S2.op h; exact rd_begin_state T h⟩), FunD.bindsN F fun _ _ _ _ _ _ us hl => match us, hl with | [_, _], _ => rfl⟩, F.kp⟩
theorem dv_are_lookers {P : Program} {w : World} {K : PySem.W.Frag} {mg : Str → Option Value} {base : Heap} (T : Txt K mg) (G_is_lot : OkF P w K mg base CX0 4 (He.ga K "is_lot") ["thing", "many"] (sp_is_lot K)) {f : Addr} {cdv : Value} {A : Around} {outer : List Env} {s : Shared} {H : Hp} {E : XK} (hr : Room 4 (A.deeper (envOfC "are_lookers" (defScope s_are_lookers) s.heap.objs.size f cdv))) :
    PSs (cxOf CX0 P w K mg base ["book", "thing"] "are_lookers" (defScope s_are_lookers) f cdv A outer s H E).nox (defBody s_are_lookers) (t_are_lookers K) := by
  exact (pss_one (ps_ret (pe_and (pe_callG G_is_lot (hr.mono (by decide)) rfl T.g_is_lot pass0 (pa_cons (pv 1) (pa_cons (pe_op op_add (pe_callB (cr_maxT rfl hr) (by rfl) T.f_max (by decide +kernel) (pa_cons (pe_fld (pv 0) rfl) pa_nil)) pe_int) pa_nil))) (pe_one (pe_cmpR op_gt (pe_callB call_len_seq (by rfl) T.f_len (by decide +kernel) (pa_cons (pv 1) pa_nil)) pe_int (nomark _))))))
theorem ok_are_lookers {P : Program} {w : World} {K : PySem.W.Frag} {mg : Str → Option Value} {base : Heap} (T : Txt K mg) (G_is_lot : OkF P w K mg base CX0 4 (He.ga K "is_lot") ["thing", "many"] (sp_is_lot K)) : OkF P w K mg base CX0 5 (He.ga K "are_lookers") ["book", "thing"] (sp_are_lookers K) := by
  obtain ⟨fd, F⟩ := T.d_are_lookers
  exact ⟨⟨fd, F.ok sc_are_lookers (fun _ _ _ _ h => S2.len h) (fun _ _ _ _ _ _ _ _ hr h => ⟨t_are_lookers K, PSs.nox (dv_are_lookers T G_is_lot hr), by obtain ⟨a0, a1, rfl, h⟩ := S2.op h; exact rd_are_lookers T h⟩), FunD.bindsN F fun _ _ _ _ _ _ us hl => match us, hl with | [_, _], _ => rfl⟩, F.kp⟩
theorem dv_is_move {P : Program} {w : World} {K : PySem.W.Frag} {mg : Str → Option Value} {base : Heap} (T : Txt K mg) (G_are_lookers : OkF P w K mg base CX0 5 (He.ga K "are_lookers") ["book", "thing"] (sp_are_lookers K)) {f : Addr} {cdv : Value} {A : Around} {outer : List Env} {s : Shared} {H : Hp} {E : XK} (hr : Room 5 (A.deeper (envOfC "is_move" (defScope s_is_move) s.heap.objs.size f cdv))) :
    PSs (cxOf CX0 P w K mg base ["book", "thing"] "is_move" (defScope s_is_move) f cdv A outer s H E).nox (defBody s_is_move) (t_is_move K) := by
  exact (pss_cons (ps_if (PW.pt (pw_or (pt_not (pt_val (pe_callB call_isi (by rfl) T.f_isinstance (by decide +kernel) (pa_cons (pv 1) (pa_cons (pe_bltn (v := .ty "tuple") rfl T.f_tuple (by decide +kernel) rfl) pa_nil))))) (pw_or (pt_cmpR op_notIn_seq (pe_callB call_len_seq (by rfl) T.f_len (by decide +kernel) (pa_cons (pv 1) pa_nil)) (pe_tup (pa_cons pe_int (pa_cons pe_int pa_nil))) (by rfl)) (pw_or1 (pt_not (pt_val (pe_callB call_isi (by rfl) T.f_isinstance (by decide +kernel) (pa_cons (pe_ix ix_tup (pv 1) pe_int (fun _ _ => rfl)) (pa_cons (pe_bltn (v := .ty "str") rfl T.f_str (by decide +kernel) rfl) pa_nil))))))))) (pss_one (ps_ret pe_bl)) pss_nil)
    (pss_cons (ps_if (pt_cmpR op_eq (pe_callB call_len_seq (by rfl) T.f_len (by decide +kernel) (pa_cons (pv 1) pa_nil)) pe_int (nomark _)) (pss_one (ps_ret (pe_and (pe_cmpR op_in_seq (pe_ix ix_tup (pv 1) pe_int (fun _ _ => rfl)) (pe_tup (pa_cons pe_str (pa_cons pe_str pa_nil))) (by rfl)) (pe_one (pe_callG G_are_lookers (hr.mono (by decide)) rfl T.g_are_lookers pass0 (pa_cons (pv 0) (pa_cons (pe_ix ix_tup (pv 1) pe_int (fun _ _ => rfl)) pa_nil))))))) pss_nil)
    pss_never))
theorem ok_is_move {P : Program} {w : World} {K : PySem.W.Frag} {mg : Str → Option Value} {base : Heap} (T : Txt K mg) (G_are_lookers : OkF P w K mg base CX0 5 (He.ga K "are_lookers") ["book", "thing"] (sp_are_lookers K)) : OkF P w K mg base CX0 6 (He.ga K "is_move") ["book", "thing"] (sp_is_move K) := by
  obtain ⟨fd, F⟩ := T.d_is_move
  exact ⟨⟨fd, F.ok sc_is_move (fun _ _ _ _ h => S2.len h) (fun _ _ _ _ _ _ _ _ hr h => ⟨t_is_move K, PSs.nox (dv_is_move T G_are_lookers hr), by obtain ⟨a0, a1, rfl, h⟩ := S2.op h; exact rd_is_move T h⟩), FunD.bindsN F fun _ _ _ _ _ _ us hl => match us, hl with | [_, _], _ => rfl⟩, F.kp⟩
theorem dv_is_row {P : Program} {w : World} {K : PySem.W.Frag} {mg : Str → Option Value} {base : Heap} (T : Txt K mg) (G_is_move : OkF P w K mg base CX0 6 (He.ga K "is_move") ["book", "thing"] (sp_is_move K)) {f : Addr} {cdv : Value} {A : Around} {outer : List Env} {s : Shared} {H : Hp} {E : XK} (hr : Room 6 (A.deeper (envOfC "is_row" (defScope s_is_row) s.heap.objs.size f cdv))) :
    PSs (cxOf CX0 P w K mg base ["book", "thing", "move"] "is_row" (defScope s_is_row) f cdv A outer s H E).nox (defBody s_is_row) (t_is_row K) := by
  exact (pss_cons (ps_if (PW.pt (pw_or (pt_not (pt_val (pe_callB call_isi (by rfl) T.f_isinstance (by decide +kernel) (pa_cons (pv 1) (pa_cons (pe_bltn (v := .ty "tuple") rfl T.f_tuple (by decide +kernel) rfl) pa_nil))))) (pw_or1 (pt_cmpR op_gt (pe_callB call_len_seq (by rfl) T.f_len (by decide +kernel) (pa_cons (pv 1) pa_nil)) (pe_glob rfl (T.int_MOST_MOVES).choose_spec ⟨_, rfl⟩) (nomark _))))) (pss_one (ps_ret pe_bl)) pss_nil)
    (pss_one (ps_ret (pe_callB (cr_all rfl) (by rfl) T.f_all (by decide +kernel) (pa_cons (pe_lc (own := [("move", 2)]) (wi := (iTup K (tVar 1))) (g := (gName 2)) (tt := tYes) (te := (tCall (sp_is_move K) [] E0 (tCons (tVar 0) (tCons (tVar 2) tNil)))) rfl sc_is_row.nd (pi_tup (pv 1)) (blkOk_by (N := ["book", "thing", "move"]) (sc := defScope s_is_row) (own := [("move", 2)]) (by decide +kernel)) (fun _ _ _ _ _ => (pg_name (i := 2) sc_is_row.nd rfl (Or.inl rfl))) (fun _ _ _ _ _ => pts_nil) (fun _ _ _ _ _ => (pe_callG G_is_move (hr.mono (by decide)) rfl T.g_is_move pass0 (pa_cons (pv 0) (pa_cons (pv 2) pa_nil))))) pa_nil)))))
theorem ok_is_row {P : Program} {w : World} {K : PySem.W.Frag} {mg : Str → Option Value} {base : Heap} (T : Txt K mg) (G_is_move : OkF P w K mg base CX0 6 (He.ga K "is_move") ["book", "thing"] (sp_is_move K)) : OkF P w K mg base CX0 7 (He.ga K "is_row") ["book", "thing"] (sp_is_row K) := by
  obtain ⟨fd, F⟩ := T.d_is_row
  exact ⟨⟨fd, F.ok sc_is_row (fun _ _ _ _ h => S2.len h) (fun _ _ _ _ _ _ _ _ hr h => ⟨t_is_row K, PSs.nox (dv_is_row T G_is_move hr), by obtain ⟨a0, a1, rfl, h⟩ := S2.op h; exact rd_is_row T h⟩), FunD.bindsN F fun _ _ _ _ _ _ us hl => match us, hl with | [_, _], _ => rfl⟩, F.kp⟩
theorem dv_check_row {P : Program} {w : World} {K : PySem.W.Frag} {mg : Str → Option Value} {base : Heap} (T : Txt K mg) (G_is_row : OkF P w K mg base CX0 7 (He.ga K "is_row") ["book", "thing"] (sp_is_row K)) {f : Addr} {cdv : Value} {A : Around} {outer : List Env} {s : Shared} {H : Hp} {E : XK} (hr : Room 7 (A.deeper (envOfC "check_row" (defScope s_check_row) s.heap.objs.size f cdv))) :
    PSs (cxOf CX0 P w K mg base ["book", "thing"] "check_row" (defScope s_check_row) f cdv A outer s H E).nox (defBody s_check_row) (t_check_row K) := by
  exact (pss_one (ps_if (pt_not (pt_val (pe_callG G_is_row (hr.mono (by decide)) rfl T.g_is_row pass0 (pa_cons (pv 0) (pa_cons (pv 1) pa_nil))))) (pss_one ps_never) pss_nil))
theorem ok_check_row {P : Program} {w : World} {K : PySem.W.Frag} {mg : Str → Option Value} {base : Heap} (T : Txt K mg) (G_is_row : OkF P w K mg base CX0 7 (He.ga K "is_row") ["book", "thing"] (sp_is_row K)) : OkF P w K mg base CX0 8 (He.ga K "check_row") ["book", "thing"] (sp_check_row K) := by
  obtain ⟨fd, F⟩ := T.d_check_row
  exact ⟨⟨fd, F.ok sc_check_row (fun _ _ _ _ h => S2.len h) (fun _ _ _ _ _ _ _ _ hr h => ⟨t_check_row K, PSs.nox (dv_check_row T G_is_row hr), by obtain ⟨a0, a1, rfl, h⟩ := S2.op h; exact rd_check_row T h⟩), FunD.bindsN F fun _ _ _ _ _ _ us hl => match us, hl with | [_, _], _ => rfl⟩, F.kp⟩
theorem dv_is_open {P : Program} {w : World} {K : PySem.W.Frag} {mg : Str → Option Value} {base : Heap} (T : Txt K mg)  {f : Addr} {cdv : Value} {A : Around} {outer : List Env} {s : Shared} {H : Hp} {E : XK} (hr : Room 0 (A.deeper (envOfC "is_open" (defScope s_is_open) s.heap.objs.size f cdv))) :
    PSs (cxOf CX0 P w K mg base ["state", "place", "exit_number"] "is_open" (defScope s_is_open) f cdv A outer s H E).nox (defBody s_is_open) (t_is_open K) := by
  exact (pss_one (ps_ret (pe_cmpR op_eq (pe_op op_and (pe_op op_shr (pe_ix ix_list (pe_fld (pv 0) rfl) (pv 1) (fun _ _ => rfl)) (pv 2)) pe_int) pe_int (nomark _))))
theorem ok_is_open {P : Program} {w : World} {K : PySem.W.Frag} {mg : Str → Option Value} {base : Heap} (T : Txt K mg)  : OkF P w K mg base CX0 1 (He.ga K "is_open") ["state", "place", "exit_number"] (sp_is_open K) := by
  obtain ⟨fd, F⟩ := T.d_is_open
  exact ⟨⟨fd, F.ok sc_is_open (fun _ _ _ _ h => S3.len h) (fun _ _ _ _ _ _ _ _ hr h => ⟨t_is_open K, PSs.nox (dv_is_open T  hr), by obtain ⟨a0, a1, a2, rfl, h⟩ := S3.op h; exact rd_is_open T h⟩), FunD.bindsN F fun _ _ _ _ _ _ us hl => match us, hl with | [_, _, _], _ => rfl⟩, F.kp⟩
theorem dv_make_along {P : Program} {w : World} {K : PySem.W.Frag} {mg : Str → Option Value} {base : Heap} (T : Txt K mg)  {f : Addr} {cdv : Value} {A : Around} {outer : List Env} {s : Shared} {H : Hp} {E : XK} (hr : Room 0 (A.deeper (envOfC "make_along" (defScope s_make_along) s.heap.objs.size f cdv))) :
    PSs (cxOf CX0 P w K mg base ["found", "lots", "place", "goals", "rules", "_", "far", "is_far", "bit", "to"] "make_along" (defScope s_make_along) f cdv A outer s H E).nox (defBody s_make_along) (t_make_along K) := by
  exact (pss_one (ps_for PassesOwn.never rfl (pi_list (pv 4)) (pg_tup (by rfl) (pgs_cons (pg_name (i := 5) sc_make_along.nd rfl (Or.inl rfl)) (pgs_cons (pg_name (i := 6) sc_make_along.nd rfl (Or.inr rfl)) (pgs_cons (pg_name (i := 7) sc_make_along.nd rfl (Or.inl rfl)) (pgs_cons (pg_name (i := 8) sc_make_along.nd rfl (Or.inl rfl)) pgs_nil))))) (pss_one (ps_if (pt_val (pv 7)) (pss_one (ps_for PassesOwn.never rfl (pi_tup (pv 3)) (pg_name (i := 9) sc_make_along.nd rfl (Or.inl rfl)) (pss_one (ps_if (pt_cmpR op_eq (pe_op op_and (pv 6) (pe_un un_inv (pe_ix ix_list (pv 1) (pv 9) (fun _ _ => rfl)))) pe_int (nomark _)) (pss_one (ps_asg (pe_op op_or (pe_ix ix_list (pv 0) (pv 9) (fun _ _ => rfl)) (pv 8)) (pg_sub (pv 0) (pv 9) set_list))) pss_nil)))) (pss_one (ps_if (pt_val (pe_callB (cr_any rfl) (by rfl) T.f_any (by decide +kernel) (pa_cons (pe_lc (own := [("to", 9)]) (wi := (iTup K (tVar 3))) (g := (gName 9)) (tt := tYes) (te := (tOp rEq (tOp rAndI (tVar 6) (tUn rInvI (tOp (rIxL K) (tVar 1) (tVar 9)))) (tC (.int 0)))) rfl sc_make_along.nd (pi_tup (pv 3)) (blkOk_by (N := ["found", "lots", "place", "goals", "rules", "_", "far", "is_far", "bit", "to"]) (sc := defScope s_make_along) (own := [("to", 9)]) (by decide +kernel)) (fun _ _ _ _ _ => (pg_name (i := 9) sc_make_along.nd rfl (Or.inl rfl))) (fun _ _ _ _ _ => pts_nil) (fun _ _ _ _ _ => (pe_cmpR op_eq (pe_op op_and (pv 6) (pe_un un_inv (pe_ix ix_list (pv 1) (pv 9) (fun _ _ => rfl)))) pe_int (nomark _)))) pa_nil))) (pss_one (ps_asg (pe_op op_or (pe_ix ix_list (pv 0) (pv 2) (fun _ _ => rfl)) (pv 8)) (pg_sub (pv 0) (pv 2) set_list))) pss_nil))))))
theorem ok_make_along {P : Program} {w : World} {K : PySem.W.Frag} {mg : Str → Option Value} {base : Heap} (T : Txt K mg)  : OkF P w K mg base CX0 1 (He.ga K "make_along") ["found", "lots", "place", "goals", "rules"] (sp_make_along K) := by
  obtain ⟨fd, F⟩ := T.d_make_along
  exact ⟨⟨fd, F.ok sc_make_along (fun _ _ _ _ h => S5.len h) (fun _ _ _ _ _ _ _ _ hr h => ⟨t_make_along K, PSs.nox (dv_make_along T  hr), by obtain ⟨a0, a1, a2, a3, a4, rfl, h⟩ := S5.op h; exact rd_make_along T h⟩), FunD.bindsN F fun _ _ _ _ _ _ us hl => match us, hl with | [_, _, _, _, _], _ => rfl⟩, F.kp⟩
theorem dv_made_lots {P : Program} {w : World} {K : PySem.W.Frag} {mg : Str → Option Value} {base : Heap} (T : Txt K mg) (G_is_open : OkF P w K mg base CX0 1 (He.ga K "is_open") ["state", "place", "exit_number"] (sp_is_open K)) (G_make_along : OkF P w K mg base CX0 1 (He.ga K "make_along") ["found", "lots", "place", "goals", "rules"] (sp_make_along K)) {f : Addr} {cdv : Value} {A : Around} {outer : List Env} {s : Shared} {H : Hp} {E : XK} (hr : Room 1 (A.deeper (envOfC "made_lots" (defScope s_made_lots) s.heap.objs.size f cdv))) :
    PSs (cxOf CX0 P w K mg base ["book", "ways", "state", "lots", "found", "place", "kind", "own", "need", "bit", "exit_number", "rules", "fits", "rule"] "made_lots" (defScope s_made_lots) f cdv A outer s H E).nox (defBody s_made_lots) (t_made_lots K) := by
  exact (pss_cons (ps_set (i := 4) sc_made_lots.nd rfl (Or.inl rfl) (pe_op op_rep (pe_lst (pa_cons pe_int pa_nil)) (pe_callB call_len_seq (by rfl) T.f_len (by decide +kernel) (pa_cons (pv 3) pa_nil))))
    (pss_cons (ps_for PassesOwn.never rfl (pi_enum (by rfl) T.f_enumerate (pa_cons (pe_fld (pv 2) rfl) pa_nil)) (pg_tup (by rfl) (pgs_cons (pg_name (i := 5) sc_made_lots.nd rfl (Or.inl rfl)) (pgs_cons (pg_name (i := 6) sc_made_lots.nd rfl (Or.inl rfl)) pgs_nil))) (pss_cons (ps_set (i := 7) sc_made_lots.nd rfl (Or.inr rfl) (pe_ix ix_list (pv 3) (pv 5) (fun _ _ => rfl)))
    (pss_cons (ps_for PassesOwn.never rfl (pi_list (pe_ix ix_list (pe_fld (pv 0) rfl) (pv 6) (fun _ _ => rfl))) (pg_tup (by rfl) (pgs_cons (pg_name (i := 8) sc_made_lots.nd rfl (Or.inl rfl)) (pgs_cons (pg_name (i := 9) sc_made_lots.nd rfl (Or.inl rfl)) pgs_nil))) (pss_one (ps_if (pt_cmpR op_eq (pe_op op_and (pv 8) (pe_un un_inv (pv 7))) pe_int (nomark _)) (pss_one (ps_asg (pe_op op_or (pe_ix ix_list (pv 4) (pv 5) (fun _ _ => rfl)) (pv 9)) (pg_sub (pv 4) (pv 5) set_list))) pss_nil)))
    (pss_one (ps_for PassesOwn.never rfl (pi_enum (by rfl) T.f_enumerate (pa_cons (pe_ix ix_list (pe_fld (pv 0) rfl) (pv 6) (fun _ _ => rfl)) pa_nil)) (pg_tup (by rfl) (pgs_cons (pg_name (i := 10) sc_made_lots.nd rfl (Or.inl rfl)) (pgs_cons (pg_name (i := 11) sc_made_lots.nd rfl (Or.inl rfl)) pgs_nil))) (pss_cons (ps_setLc (i := 12) (own := [("rule", 13)]) (wi := (iList K (tVar 11))) (g := (gName 13)) (tt := (tTest (tOp rEq (tOp rAndI (tOp (rIxT K) (tVar 13) (tC (.int 0))) (tUn rInvI (tVar 7))) (tC (.int 0))))) (te := (tVar 13)) rfl sc_made_lots.nd rfl rfl (sw_true rfl rfl rfl (by decide +kernel)) (pi_list (pv 11)) (blkOk_by (N := ["book", "ways", "state", "lots", "found", "place", "kind", "own", "need", "bit", "exit_number", "rules", "fits", "rule"]) (sc := defScope s_made_lots) (own := [("rule", 13)]) (by decide +kernel)) (fun _ _ _ _ _ => (pg_name (i := 13) sc_made_lots.nd rfl (Or.inl rfl))) (fun _ _ _ _ _ => (pts_one (pt_cmpR op_eq (pe_op op_and (pe_ix ix_tup (pv 13) pe_int (fun _ _ => rfl)) (pe_un un_inv (pv 7))) pe_int (nomark _)))) (fun _ _ _ _ _ => (pv 13)))
    (pss_one (ps_if (PW.pt (pw_and (pt_cmpR op_gt (pe_callB call_len_seq (by rfl) T.f_len (by decide +kernel) (pa_cons (pv 12) pa_nil)) pe_int (nomark _)) (pw_and1 (pt_val (pe_callG G_is_open (hr.mono (by decide)) rfl T.g_is_open pass0 (pa_cons (pv 2) (pa_cons (pv 5) (pa_cons (pv 10) pa_nil)))))))) (pss_one (ps_expr (pe_callG G_make_along (hr.mono (by decide)) rfl T.g_make_along pass0 (pa_cons (pv 4) (pa_cons (pv 3) (pa_cons (pv 5) (pa_cons (pe_ix ix_tup (pe_ix ix_tup (pv 1) (pv 5) (fun _ _ => rfl)) (pv 10) (fun _ _ => rfl)) (pa_cons (pv 12) pa_nil)))))))) pss_nil))))))))
    (pss_one (ps_ret (pv 4)))))
theorem ok_made_lots {P : Program} {w : World} {K : PySem.W.Frag} {mg : Str → Option Value} {base : Heap} (T : Txt K mg) (G_is_open : OkF P w K mg base CX0 1 (He.ga K "is_open") ["state", "place", "exit_number"] (sp_is_open K)) (G_make_along : OkF P w K mg base CX0 1 (He.ga K "make_along") ["found", "lots", "place", "goals", "rules"] (sp_make_along K)) : OkF P w K mg base CX0 2 (He.ga K "made_lots") ["book", "ways", "state", "lots"] (sp_made_lots K) := by
  obtain ⟨fd, F⟩ := T.d_made_lots
  exact ⟨⟨fd, F.ok sc_made_lots (fun _ _ _ _ h => S4.len h) (fun _ _ _ _ _ _ _ _ hr h => ⟨t_made_lots K, PSs.nox (dv_made_lots T G_is_open G_make_along hr), by obtain ⟨a0, a1, a2, a3, rfl, h⟩ := S4.op h; exact rd_made_lots T h⟩), FunD.bindsN F fun _ _ _ _ _ _ us hl => match us, hl with | [_, _, _, _], _ => rfl⟩, F.kp⟩
theorem dv_turn_rounds {P : Program} {w : World} {K : PySem.W.Frag} {mg : Str → Option Value} {base : Heap} (T : Txt K mg) (G_lot_of : OkF P w K mg base CX0 1 (He.ga K "lot_of") ["mask"] (sp_lot_of K)) (G_made_lots : OkF P w K mg base CX0 2 (He.ga K "made_lots") ["book", "ways", "state", "lots"] (sp_made_lots K)) {f : Addr} {cdv : Value} {A : Around} {outer : List Env} {s : Shared} {H : Hp} {E : XK} (hr : Room 2 (A.deeper (envOfC "turn_rounds" (defScope s_turn_rounds) s.heap.objs.size f cdv))) :
    PSs (cxOf CX0 P w K mg base ["book", "ways", "state", "own", "lots", "ranks", "turn", "changed", "made", "place", "mask", "fresh", "doubt", "lot"] "turn_rounds" (defScope s_turn_rounds) f cdv A outer s H E).nox (defBody s_turn_rounds) (t_turn_rounds K) := by
  exact (pss_cons (ps_setLc (i := 4) (own := [("lot", 13)]) (wi := (iList K (tFld K (tVar 2) "lots"))) (g := (gName 13)) (tt := tYes) (te := (tOp rAndI (tVar 13) (tUn rInvI (tVar 3)))) rfl sc_turn_rounds.nd rfl rfl (sw_true rfl rfl rfl (by decide +kernel)) (pi_list (pe_fld (pv 2) rfl)) (blkOk_by (N := ["book", "ways", "state", "own", "lots", "ranks", "turn", "changed", "made", "place", "mask", "fresh", "doubt", "lot"]) (sc := defScope s_turn_rounds) (own := [("lot", 13)]) (by decide +kernel)) (fun _ _ _ _ _ => (pg_name (i := 13) sc_turn_rounds.nd rfl (Or.inl rfl))) (fun _ _ _ _ _ => pts_nil) (fun _ _ _ _ _ => (pe_op op_and (pv 13) (pe_un un_inv (pv 3)))))
    (pss_cons (ps_setLc (i := 5) (own := [("lot", 13)]) (wi := (iList K (tVar 4))) (g := (gName 13)) (tt := tYes) (te := tDNewK) rfl sc_turn_rounds.nd rfl rfl (sw_true rfl rfl rfl (by decide +kernel)) (pi_list (pv 4)) (blkOk_by (N := ["book", "ways", "state", "own", "lots", "ranks", "turn", "changed", "made", "place", "mask", "fresh", "doubt", "lot"]) (sc := defScope s_turn_rounds) (own := [("lot", 13)]) (by decide +kernel)) (fun _ _ _ _ _ => (pg_name (i := 13) sc_turn_rounds.nd rfl (Or.inl rfl))) (fun _ _ _ _ _ => pts_nil) (fun _ _ _ _ _ => pe_dnewK))
    (pss_cons (ps_set (i := 6) sc_turn_rounds.nd rfl (Or.inl rfl) pe_int)
    (pss_cons (ps_set (i := 7) sc_turn_rounds.nd rfl (Or.inl rfl) pe_bl)
    (pss_cons (ps_while PassesOwn.never (pt_val (pv 7)) (pss_cons (ps_set (i := 7) sc_turn_rounds.nd rfl (Or.inl rfl) pe_bl)
    (pss_cons (ps_set (i := 8) sc_turn_rounds.nd rfl (Or.inl rfl) (pe_callG G_made_lots (hr.mono (by decide)) rfl T.g_made_lots pass0 (pa_cons (pv 0) (pa_cons (pv 1) (pa_cons (pv 2) (pa_cons (pv 4) pa_nil))))))
    (pss_cons (ps_for PassesOwn.never rfl (pi_enum (by rfl) T.f_enumerate (pa_cons (pv 8) pa_nil)) (pg_tup (by rfl) (pgs_cons (pg_name (i := 9) sc_turn_rounds.nd rfl (Or.inl rfl)) (pgs_cons (pg_name (i := 10) sc_turn_rounds.nd rfl (Or.inl rfl)) pgs_nil))) (pss_cons (ps_set (i := 11) sc_turn_rounds.nd rfl (Or.inl rfl) (pe_op op_and (pe_op op_and (pe_op op_and (pv 10) (pv 3)) (pe_ix ix_list (pe_fld (pv 2) rfl) (pv 9) (fun _ _ => rfl))) (pe_un un_inv (pe_ix ix_list (pv 4) (pv 9) (fun _ _ => rfl)))))
    (pss_one (ps_if (pt_cmpR op_gt (pv 11) pe_int (nomark _)) (pss_cons (ps_set (i := 7) sc_turn_rounds.nd rfl (Or.inl rfl) pe_bl)
    (pss_cons (ps_asg (pe_op op_or (pe_ix ix_list (pv 4) (pv 9) (fun _ _ => rfl)) (pv 11)) (pg_sub (pv 4) (pv 9) set_list))
    (pss_one (ps_for PassesOwn.never rfl (pi_tup (pe_callG G_lot_of (hr.mono (by decide)) rfl T.g_lot_of pass0 (pa_cons (pv 11) pa_nil))) (pg_name (i := 12) sc_turn_rounds.nd rfl (Or.inl rfl)) (pss_one (ps_dput (hu_of hr) (pe_ix ix_list (pv 5) (pv 9) (fun _ _ => rfl)) (pv 12) (pv 6) rfl)))))) pss_nil))))
    (pss_one (ps_aug (i := 6) sc_turn_rounds.nd rfl (Or.inl rfl) pe_int ip_add))))))
    (pss_one (ps_ret (pe_tup (pa_cons (pv 4) (pa_cons (pv 5) pa_nil))))))))))
theorem ok_turn_rounds {P : Program} {w : World} {K : PySem.W.Frag} {mg : Str → Option Value} {base : Heap} (T : Txt K mg) (G_lot_of : OkF P w K mg base CX0 1 (He.ga K "lot_of") ["mask"] (sp_lot_of K)) (G_made_lots : OkF P w K mg base CX0 2 (He.ga K "made_lots") ["book", "ways", "state", "lots"] (sp_made_lots K)) : OkF P w K mg base CX0 3 (He.ga K "turn_rounds") ["book", "ways", "state", "own"] (sp_turn_rounds K) := by
  obtain ⟨fd, F⟩ := T.d_turn_rounds
  exact ⟨⟨fd, F.ok sc_turn_rounds (fun _ _ _ _ h => S4.len h) (fun _ _ _ _ _ _ _ _ hr h => ⟨t_turn_rounds K, PSs.nox (dv_turn_rounds T G_lot_of G_made_lots hr), by obtain ⟨a0, a1, a2, a3, rfl, h⟩ := S4.op h; exact rd_turn_rounds T h⟩), FunD.bindsN F fun _ _ _ _ _ _ us hl => match us, hl with | [_, _, _, _], _ => rfl⟩, F.kp⟩
theorem dv_turn_state {P : Program} {w : World} {K : PySem.W.Frag} {mg : Str → Option Value} {base : Heap} (T : Txt K mg) (G_State_init : OkF P w K mg base CX0 1 (He.ma K (He.ga K "State") "__init__") ["self", "kinds", "closed", "lots"] (sp_State_init K)) (G_turn_rounds : OkF P w K mg base CX0 3 (He.ga K "turn_rounds") ["book", "ways", "state", "own"] (sp_turn_rounds K)) {f : Addr} {cdv : Value} {A : Around} {outer : List Env} {s : Shared} {H : Hp} {E : XK} (hr : Room 3 (A.deeper (envOfC "turn_state" (defScope s_turn_state) s.heap.objs.size f cdv))) :
    PSs (cxOf CX0 P w K mg base ["book", "ways", "state", "own"] "turn_state" (defScope s_turn_state) f cdv A outer s H E).nox (defBody s_turn_state) (t_turn_state K) := by
  exact (pss_one (ps_ret (pe_makeG T.k_State G_State_init (hr.mono (by decide)) rfl T.g_State pass0 (pa_cons (pe_callTy call_list_of (by rfl) T.f_list (by decide +kernel) (pa_cons (pe_fld (pv 2) rfl) pa_nil)) (pa_cons (pe_callTy call_list_of (by rfl) T.f_list (by decide +kernel) (pa_cons (pe_fld (pv 2) rfl) pa_nil)) (pa_cons (pe_ix ix_tup (pe_callG G_turn_rounds (hr.mono (by decide)) rfl T.g_turn_rounds pass0 (pa_cons (pv 0) (pa_cons (pv 1) (pa_cons (pv 2) (pa_cons (pv 3) pa_nil))))) pe_int (fun _ _ => rfl)) pa_nil))))))
theorem ok_turn_state {P : Program} {w : World} {K : PySem.W.Frag} {mg : Str → Option Value} {base : Heap} (T : Txt K mg) (G_State_init : OkF P w K mg base CX0 1 (He.ma K (He.ga K "State") "__init__") ["self", "kinds", "closed", "lots"] (sp_State_init K)) (G_turn_rounds : OkF P w K mg base CX0 3 (He.ga K "turn_rounds") ["book", "ways", "state", "own"] (sp_turn_rounds K)) : OkF P w K mg base CX0 4 (He.ga K "turn_state") ["book", "ways", "state", "own"] (sp_turn_state K) := by
  obtain ⟨fd, F⟩ := T.d_turn_state
  exact ⟨⟨fd, F.ok sc_turn_state (fun _ _ _ _ h => S4.len h) (fun _ _ _ _ _ _ _ _ hr h => ⟨t_turn_state K, PSs.nox (dv_turn_state T G_State_init G_turn_rounds hr), by obtain ⟨a0, a1, a2, a3, rfl, h⟩ := S4.op h; exact rd_turn_state T h⟩), FunD.bindsN F fun _ _ _ _ _ _ us hl => match us, hl with | [_, _, _, _], _ => rfl⟩, F.kp⟩
theorem dv_move_on {P : Program} {w : World} {K : PySem.W.Frag} {mg : Str → Option Value} {base : Heap} (T : Txt K mg) (G_own_mask : OkF P w K mg base CX0 2 (He.ga K "own_mask") ["book", "lookers"] (sp_own_mask K)) (G_turn_state : OkF P w K mg base CX0 4 (He.ga K "turn_state") ["book", "ways", "state", "own"] (sp_turn_state K)) {f : Addr} {cdv : Value} {A : Around} {outer : List Env} {s : Shared} {H : Hp} {E : XK} (hr : Room 4 (A.deeper (envOfC "move_on" (defScope s_move_on) s.heap.objs.size f cdv))) :
    PSs (cxOf CX0 P w K mg base ["book", "ways", "state", "move"] "move_on" (defScope s_move_on) f cdv A outer s H E).nox (defBody s_move_on) (t_move_on K) := by
  exact (pss_cons (ps_if (pt_cmpR op_eq (pe_ix ix_tup (pv 3) pe_int (fun _ _ => rfl)) pe_str (nomark _)) (pss_one (ps_ret (pe_callG G_turn_state (hr.mono (by decide)) rfl T.g_turn_state pass0 (pa_cons (pv 0) (pa_cons (pv 1) (pa_cons (pv 2) (pa_cons (pe_callG G_own_mask (hr.mono (by decide)) rfl T.g_own_mask pass0 (pa_cons (pv 0) (pa_cons (pe_ix ix_tup (pv 3) pe_int (fun _ _ => rfl)) pa_nil))) pa_nil))))))) pss_nil)
    pss_never)
theorem ok_move_on {P : Program} {w : World} {K : PySem.W.Frag} {mg : Str → Option Value} {base : Heap} (T : Txt K mg) (G_own_mask : OkF P w K mg base CX0 2 (He.ga K "own_mask") ["book", "lookers"] (sp_own_mask K)) (G_turn_state : OkF P w K mg base CX0 4 (He.ga K "turn_state") ["book", "ways", "state", "own"] (sp_turn_state K)) : OkF P w K mg base CX0 5 (He.ga K "move_on") ["book", "ways", "state", "move"] (sp_move_on K) := by
  obtain ⟨fd, F⟩ := T.d_move_on
  exact ⟨⟨fd, F.ok sc_move_on (fun _ _ _ _ h => S4.len h) (fun _ _ _ _ _ _ _ _ hr h => ⟨t_move_on K, PSs.nox (dv_move_on T G_own_mask G_turn_state hr), by obtain ⟨a0, a1, a2, a3, rfl, h⟩ := S4.op h; exact rd_move_on T h⟩), FunD.bindsN F fun _ _ _ _ _ _ us hl => match us, hl with | [_, _, _, _], _ => rfl⟩, F.kp⟩
theorem dv_states_of {P : Program} {w : World} {K : PySem.W.Frag} {mg : Str → Option Value} {base : Heap} (T : Txt K mg) (G_begin_state : OkF P w K mg base CX0 3 (He.ga K "begin_state") ["book", "program"] (sp_begin_state K)) (G_move_on : OkF P w K mg base CX0 5 (He.ga K "move_on") ["book", "ways", "state", "move"] (sp_move_on K)) {f : Addr} {cdv : Value} {A : Around} {outer : List Env} {s : Shared} {H : Hp} {E : XK} (hr : Room 5 (A.deeper (envOfC "states_of" (defScope s_states_of) s.heap.objs.size f cdv))) :
    PSs (cxOf CX0 P w K mg base ["book", "program", "row", "found", "move"] "states_of" (defScope s_states_of) f cdv A outer s H E).nox (defBody s_states_of) (t_states_of K) := by
  exact (pss_cons (ps_set (i := 3) sc_states_of.nd rfl (Or.inl rfl) (pe_lst (pa_cons (pe_callG G_begin_state (hr.mono (by decide)) rfl T.g_begin_state pass0 (pa_cons (pv 0) (pa_cons (pv 1) pa_nil))) pa_nil)))
    (pss_cons (ps_for PassesOwn.never rfl (pi_tup (pv 2)) (pg_name (i := 4) sc_states_of.nd rfl (Or.inl rfl)) (pss_one (ps_expr (pe_bm PySem.F.plainAttrs_list PySem.F.slot_list_append PySem.F.type_list_append mt_append (pv 3) (pa_cons (pe_callG G_move_on (hr.mono (by decide)) rfl T.g_move_on pass0 (pa_cons (pv 0) (pa_cons (pe_fld (pv 1) rfl) (pa_cons (pe_ix ix_list (pv 3) (pe_un un_neg pe_int) (fun _ _ => rfl)) (pa_cons (pv 4) pa_nil))))) pa_nil)))))
    (pss_one (ps_ret (pv 3)))))
theorem ok_states_of {P : Program} {w : World} {K : PySem.W.Frag} {mg : Str → Option Value} {base : Heap} (T : Txt K mg) (G_begin_state : OkF P w K mg base CX0 3 (He.ga K "begin_state") ["book", "program"] (sp_begin_state K)) (G_move_on : OkF P w K mg base CX0 5 (He.ga K "move_on") ["book", "ways", "state", "move"] (sp_move_on K)) : OkF P w K mg base CX0 6 (He.ga K "states_of") ["book", "program", "row"] (sp_states_of K) := by
  obtain ⟨fd, F⟩ := T.d_states_of
  exact ⟨⟨fd, F.ok sc_states_of (fun _ _ _ _ h => S3.len h) (fun _ _ _ _ _ _ _ _ hr h => ⟨t_states_of K, PSs.nox (dv_states_of T G_begin_state G_move_on hr), by obtain ⟨a0, a1, a2, rfl, h⟩ := S3.op h; exact rd_states_of T h⟩), FunD.bindsN F fun _ _ _ _ _ _ us hl => match us, hl with | [_, _, _], _ => rfl⟩, F.kp⟩
theorem dv_led {P : Program} {w : World} {K : PySem.W.Frag} {mg : Str → Option Value} {base : Heap} (T : Txt K mg) (G_State_stands : OkF P w K mg base CX0 2 (He.ma K (He.ga K "State") "stands") ["self"] (sp_State_stands K)) (G_check_row : OkF P w K mg base CX0 8 (He.ga K "check_row") ["book", "thing"] (sp_check_row K)) (G_states_of : OkF P w K mg base CX0 6 (He.ga K "states_of") ["book", "program", "row"] (sp_states_of K)) {f : Addr} {cdv : Value} {A : Around} {outer : List Env} {s : Shared} {H : Hp} {E : XK} (hr : Room 8 (A.deeper (envOfC "led" (defScope s_led) s.heap.objs.size f cdv))) :
    PSs (cxOf CX0 P w K mg base ["book", "program", "row", "state"] "led" (defScope s_led) f cdv A outer s H E).nox (defBody s_led) (t_led K) := by
  exact (pss_cons (ps_expr (pe_callG G_check_row (hr.mono (by decide)) rfl T.g_check_row pass0 (pa_cons (pv 0) (pa_cons (pv 2) pa_nil))))
    (pss_one (ps_ret (pe_lc (own := [("state", 3)]) (wi := (iList K (tCall (sp_states_of K) [] E0 (tCons (tVar 0) (tCons (tVar 1) (tCons (tVar 2) tNil)))))) (g := (gName 3)) (tt := tYes) (te := (tMeth (He.ga K "State") "stands" (sp_State_stands K) [] E0 (tVar 3) tNil)) rfl sc_led.nd (pi_list (pe_callG G_states_of (hr.mono (by decide)) rfl T.g_states_of pass0 (pa_cons (pv 0) (pa_cons (pv 1) (pa_cons (pv 2) pa_nil))))) (blkOk_by (N := ["book", "program", "row", "state"]) (sc := defScope s_led) (own := [("state", 3)]) (by decide +kernel)) (fun _ _ _ _ _ => (pg_name (i := 3) sc_led.nd rfl (Or.inl rfl))) (fun _ _ _ _ _ => pts_nil) (fun _ _ _ _ _ => (pe_methG0 (pv 3) T.c_State T.m_State_stands G_State_stands (hr.mono (by decide)) pass0))))))
theorem ok_led {P : Program} {w : World} {K : PySem.W.Frag} {mg : Str → Option Value} {base : Heap} (T : Txt K mg) (G_State_stands : OkF P w K mg base CX0 2 (He.ma K (He.ga K "State") "stands") ["self"] (sp_State_stands K)) (G_check_row : OkF P w K mg base CX0 8 (He.ga K "check_row") ["book", "thing"] (sp_check_row K)) (G_states_of : OkF P w K mg base CX0 6 (He.ga K "states_of") ["book", "program", "row"] (sp_states_of K)) : OkF P w K mg base CX0 9 (He.ga K "led") ["book", "program", "row"] (sp_led K) := by
  obtain ⟨fd, F⟩ := T.d_led
  exact ⟨⟨fd, F.ok sc_led (fun _ _ _ _ h => S3.len h) (fun _ _ _ _ _ _ _ _ hr h => ⟨t_led K, PSs.nox (dv_led T G_State_stands G_check_row G_states_of hr), by obtain ⟨a0, a1, a2, rfl, h⟩ := S3.op h; exact rd_led T h⟩), FunD.bindsN F fun _ _ _ _ _ _ us hl => match us, hl with | [_, _, _], _ => rfl⟩, F.kp⟩
theorem dv_are_exits {P : Program} {w : World} {K : PySem.W.Frag} {mg : Str → Option Value} {base : Heap} (T : Txt K mg) (G_is_between : OkF P w K mg base CX0 2 (He.ga K "is_between") ["thing", "least", "most"] (sp_is_between K)) {f : Addr} {cdv : Value} {A : Around} {outer : List Env} {s : Shared} {H : Hp} {E : XK} (hr : Room 2 (A.deeper (envOfC "are_exits" (defScope s_are_exits) s.heap.objs.size f cdv))) :
    PSs (cxOf CX0 P w K mg base ["thing", "many"] "are_exits" (defScope s_are_exits) f cdv A outer s H E).nox (defBody s_are_exits) (t_are_exits K) := by
  exact (pss_cons (ps_if (PW.pt (pw_or (pt_not (pt_val (pe_callB call_isi (by rfl) T.f_isinstance (by decide +kernel) (pa_cons (pv 0) (pa_cons (pe_bltn (v := .ty "tuple") rfl T.f_tuple (by decide +kernel) rfl) pa_nil))))) (pw_or1 (pt_not (pt_chain op_le op_le pe_int (pe_callB call_len_seq (by rfl) T.f_len (by decide +kernel) (pa_cons (pv 0) pa_nil)) pe_int))))) (pss_one (ps_ret pe_bl)) pss_nil)
    (pss_one (ps_ret (pe_callB (cr_all rfl) (by rfl) T.f_all (by decide +kernel) (pa_cons (pe_lc (own := [("many", 1)]) (wi := (iTup K (tVar 0))) (g := (gName 1)) (tt := tYes) (te := (tCall (sp_is_between K) [] E0 (tCons (tVar 1) (tCons (tC (.int 0)) (tCons (tC (.int 3)) tNil))))) rfl sc_are_exits.nd (pi_tup (pv 0)) (blkOk_by (N := ["thing", "many"]) (sc := defScope s_are_exits) (own := [("many", 1)]) (by decide +kernel)) (fun _ _ _ _ _ => (pg_name (i := 1) sc_are_exits.nd rfl (Or.inl rfl))) (fun _ _ _ _ _ => pts_nil) (fun _ _ _ _ _ => (pe_callG G_is_between (hr.mono (by decide)) rfl T.g_is_between pass0 (pa_cons (pv 1) (pa_cons pe_int (pa_cons pe_int pa_nil)))))) pa_nil)))))
theorem ok_are_exits {P : Program} {w : World} {K : PySem.W.Frag} {mg : Str → Option Value} {base : Heap} (T : Txt K mg) (G_is_between : OkF P w K mg base CX0 2 (He.ga K "is_between") ["thing", "least", "most"] (sp_is_between K)) : OkF P w K mg base CX0 3 (He.ga K "are_exits") ["thing"] (sp_are_exits K) := by
  obtain ⟨fd, F⟩ := T.d_are_exits
  exact ⟨⟨fd, F.ok sc_are_exits (fun _ _ _ _ h => S1.len h) (fun _ _ _ _ _ _ _ _ hr h => ⟨t_are_exits K, PSs.nox (dv_are_exits T G_is_between hr), by obtain ⟨a0, rfl, h⟩ := S1.op h; exact rd_are_exits T h⟩), FunD.bindsN F fun _ _ _ _ _ _ us hl => match us, hl with | [_], _ => rfl⟩, F.kp⟩
theorem dv_Bag_init {P : Program} {w : World} {K : PySem.W.Frag} {mg : Str → Option Value} {base : Heap} (T : Txt K mg) (G_are_exits : OkF P w K mg base CX0 3 (He.ga K "are_exits") ["thing"] (sp_are_exits K)) {f : Addr} {cdv : Value} {A : Around} {outer : List Env} {s : Shared} {H : Hp} {E : XK} (hr : Room 3 (A.deeper (envOfC "Bag.__init__" (defScope s_Bag_init) s.heap.objs.size f cdv))) :
    PSs (cxOf CX0 P w K mg base ["self", "exits"] "Bag.__init__" (defScope s_Bag_init) f cdv A outer s H E).nox (defBody s_Bag_init) (t_Bag_init K) := by
  exact (pss_cons (ps_if (pt_not (pt_val (pe_callG G_are_exits (hr.mono (by decide)) rfl T.g_are_exits pass0 (pa_cons (pv 1) pa_nil)))) (pss_one ps_never) pss_nil)
    (pss_one (ps_fld (pv 0) (pv 1) rfl)))
theorem ok_Bag_init {P : Program} {w : World} {K : PySem.W.Frag} {mg : Str → Option Value} {base : Heap} (T : Txt K mg) (G_are_exits : OkF P w K mg base CX0 3 (He.ga K "are_exits") ["thing"] (sp_are_exits K)) : OkF P w K mg base CX0 4 (He.ma K (He.ga K "Bag") "__init__") ["self", "exits"] (sp_Bag_init K) := by
  obtain ⟨fd, F⟩ := T.d_Bag_init
  exact ⟨⟨fd, F.ok sc_Bag_init (fun _ _ _ _ h => S2.len h) (fun _ _ _ _ _ _ _ _ hr h => ⟨t_Bag_init K, PSs.nox (dv_Bag_init T G_are_exits hr), by obtain ⟨a0, a1, rfl, h⟩ := S2.op h; exact rd_Bag_init T h⟩), FunD.bindsN F fun _ _ _ _ _ _ us hl => match us, hl with | [_, _], _ => rfl⟩, F.kp⟩
theorem dv_Bag_eq {P : Program} {w : World} {K : PySem.W.Frag} {mg : Str → Option Value} {base : Heap} (T : Txt K mg)  {f : Addr} {cdv : Value} {A : Around} {outer : List Env} {s : Shared} {H : Hp} {E : XK} (hr : Room 0 (A.deeper (envOfC "Bag.__eq__" (defScope s_Bag_eq) s.heap.objs.size f cdv))) :
    PSs (cxOf CX0 P w K mg base ["self", "other"] "Bag.__eq__" (defScope s_Bag_eq) f cdv A outer s H E).nox (defBody s_Bag_eq) (t_Bag_eq K) := by
  exact (pss_one (ps_ret (pe_and (pe_callB call_isi (by rfl) T.f_isinstance (by decide +kernel) (pa_cons (pv 1) (pa_cons (pe_glob (v := .ref (He.ga K "Bag")) rfl T.g_Bag rfl) pa_nil))) (pe_one (pe_cmpR (op_eqD hr.units) (pe_fld (pv 0) rfl) (pe_fld (pv 1) rfl) (nomark _))))))
theorem ok_Bag_eq {P : Program} {w : World} {K : PySem.W.Frag} {mg : Str → Option Value} {base : Heap} (T : Txt K mg)  : OkF P w K mg base CX0 1 (He.ma K (He.ga K "Bag") "__eq__") ["self", "other"] (sp_Bag_eq K) := by
  obtain ⟨fd, F⟩ := T.d_Bag_eq
  exact ⟨⟨fd, F.ok sc_Bag_eq (fun _ _ _ _ h => S2.len h) (fun _ _ _ _ _ _ _ _ hr h => ⟨t_Bag_eq K, PSs.nox (dv_Bag_eq T  hr), by obtain ⟨a0, a1, rfl, h⟩ := S2.op h; exact rd_Bag_eq T h⟩), FunD.bindsN F fun _ _ _ _ _ _ us hl => match us, hl with | [_, _], _ => rfl⟩, F.kp⟩
theorem dv_are_ways {P : Program} {w : World} {K : PySem.W.Frag} {mg : Str → Option Value} {base : Heap} (T : Txt K mg) (G_is_lot : OkF P w K mg base CX0 4 (He.ga K "is_lot") ["thing", "many"] (sp_is_lot K)) {f : Addr} {cdv : Value} {A : Around} {outer : List Env} {s : Shared} {H : Hp} {E : XK} (hr : Room 4 (A.deeper (envOfC "are_ways" (defScope s_are_ways) s.heap.objs.size f cdv))) :
    PSs (cxOf CX0 P w K mg base ["bag", "kinds", "thing", "kind", "lots", "lot"] "are_ways" (defScope s_are_ways) f cdv A outer s H E).nox (defBody s_are_ways) (t_are_ways K) := by
  exact (pss_cons (ps_if (PW.pt (pw_or (pt_not (pt_val (pe_callB call_isi (by rfl) T.f_isinstance (by decide +kernel) (pa_cons (pv 2) (pa_cons (pe_bltn (v := .ty "tuple") rfl T.f_tuple (by decide +kernel) rfl) pa_nil))))) (pw_or1 (pt_cmpR op_ne (pe_callB call_len_seq (by rfl) T.f_len (by decide +kernel) (pa_cons (pv 2) pa_nil)) (pe_callB call_len_seq (by rfl) T.f_len (by decide +kernel) (pa_cons (pv 1) pa_nil)) (nomark _))))) (pss_one (ps_ret pe_bl)) pss_nil)
    (pss_cons (ps_for PassesOwn.never rfl (RZ.pi_zipA (by rfl) T.f_zip (pa_cons (pv 1) (pa_cons (pv 2) pa_nil))) (pg_tup (by rfl) (pgs_cons (pg_name (i := 3) sc_are_ways.nd rfl (Or.inl rfl)) (pgs_cons (pg_name (i := 4) sc_are_ways.nd rfl (Or.inl rfl)) pgs_nil))) (pss_cons (ps_if (PW.pt (pw_or (pt_not (pt_val (pe_callB call_isi (by rfl) T.f_isinstance (by decide +kernel) (pa_cons (pv 4) (pa_cons (pe_bltn (v := .ty "tuple") rfl T.f_tuple (by decide +kernel) rfl) pa_nil))))) (pw_or1 (pt_cmpR op_ne (pe_callB call_len_seq (by rfl) T.f_len (by decide +kernel) (pa_cons (pv 4) pa_nil)) (pe_ix ix_tup (pe_fld (pv 0) rfl) (pv 3) (fun _ _ => rfl)) (nomark _))))) (pss_one (ps_ret pe_bl)) pss_nil)
    (pss_one (ps_if (pt_not (pt_val (pe_callB (cr_all rfl) (by rfl) T.f_all (by decide +kernel) (pa_cons (pe_lc (own := [("lot", 5)]) (wi := (iTup K (tVar 4))) (g := (gName 5)) (tt := tYes) (te := (tCall (sp_is_lot K) [] E0 (tCons (tVar 5) (tCons (tCB (rLenS K) (tCons (tVar 1) tNil)) tNil)))) rfl sc_are_ways.nd (pi_tup (pv 4)) (blkOk_by (N := ["bag", "kinds", "thing", "kind", "lots", "lot"]) (sc := defScope s_are_ways) (own := [("lot", 5)]) (by decide +kernel)) (fun _ _ _ _ _ => (pg_name (i := 5) sc_are_ways.nd rfl (Or.inl rfl))) (fun _ _ _ _ _ => pts_nil) (fun _ _ _ _ _ => (pe_callG G_is_lot (hr.mono (by decide)) rfl T.g_is_lot pass0 (pa_cons (pv 5) (pa_cons (pe_callB call_len_seq (by rfl) T.f_len (by decide +kernel) (pa_cons (pv 1) pa_nil)) pa_nil))))) pa_nil)))) (pss_one (ps_ret pe_bl)) pss_nil))))
    (pss_one (ps_ret pe_bl))))
theorem ok_are_ways {P : Program} {w : World} {K : PySem.W.Frag} {mg : Str → Option Value} {base : Heap} (T : Txt K mg) (G_is_lot : OkF P w K mg base CX0 4 (He.ga K "is_lot") ["thing", "many"] (sp_is_lot K)) : OkF P w K mg base CX0 5 (He.ga K "are_ways") ["bag", "kinds", "thing"] (sp_are_ways K) := by
  obtain ⟨fd, F⟩ := T.d_are_ways
  exact ⟨⟨fd, F.ok sc_are_ways (fun _ _ _ _ h => S3.len h) (fun _ _ _ _ _ _ _ _ hr h => ⟨t_are_ways K, PSs.nox (dv_are_ways T G_is_lot hr), by obtain ⟨a0, a1, a2, rfl, h⟩ := S3.op h; exact rd_are_ways T h⟩), FunD.bindsN F fun _ _ _ _ _ _ us hl => match us, hl with | [_, _, _], _ => rfl⟩, F.kp⟩
theorem dv_are_kinds {P : Program} {w : World} {K : PySem.W.Frag} {mg : Str → Option Value} {base : Heap} (T : Txt K mg) (G_is_index : OkF P w K mg base CX0 3 (He.ga K "is_index") ["thing", "many"] (sp_is_index K)) {f : Addr} {cdv : Value} {A : Around} {outer : List Env} {s : Shared} {H : Hp} {E : XK} (hr : Room 3 (A.deeper (envOfC "are_kinds" (defScope s_are_kinds) s.heap.objs.size f cdv))) :
    PSs (cxOf CX0 P w K mg base ["bag", "thing", "kind"] "are_kinds" (defScope s_are_kinds) f cdv A outer s H E).nox (defBody s_are_kinds) (t_are_kinds K) := by
  exact (pss_one (ps_ret (pe_and (pe_callB call_isi (by rfl) T.f_isinstance (by decide +kernel) (pa_cons (pv 1) (pa_cons (pe_bltn (v := .ty "tuple") rfl T.f_tuple (by decide +kernel) rfl) pa_nil))) (pe_one (pe_callB (cr_all rfl) (by rfl) T.f_all (by decide +kernel) (pa_cons (pe_lc (own := [("kind", 2)]) (wi := (iTup K (tVar 1))) (g := (gName 2)) (tt := tYes) (te := (tCall (sp_is_index K) [] E0 (tCons (tVar 2) (tCons (tCB (rLenS K) (tCons (tFld K (tVar 0) "kept_exits") tNil)) tNil)))) rfl sc_are_kinds.nd (pi_tup (pv 1)) (blkOk_by (N := ["bag", "thing", "kind"]) (sc := defScope s_are_kinds) (own := [("kind", 2)]) (by decide +kernel)) (fun _ _ _ _ _ => (pg_name (i := 2) sc_are_kinds.nd rfl (Or.inl rfl))) (fun _ _ _ _ _ => pts_nil) (fun _ _ _ _ _ => (pe_callG G_is_index (hr.mono (by decide)) rfl T.g_is_index pass0 (pa_cons (pv 2) (pa_cons (pe_callB call_len_seq (by rfl) T.f_len (by decide +kernel) (pa_cons (pe_fld (pv 0) rfl) pa_nil)) pa_nil))))) pa_nil))))))
theorem ok_are_kinds {P : Program} {w : World} {K : PySem.W.Frag} {mg : Str → Option Value} {base : Heap} (T : Txt K mg) (G_is_index : OkF P w K mg base CX0 3 (He.ga K "is_index") ["thing", "many"] (sp_is_index K)) : OkF P w K mg base CX0 4 (He.ga K "are_kinds") ["bag", "thing"] (sp_are_kinds K) := by
  obtain ⟨fd, F⟩ := T.d_are_kinds
  exact ⟨⟨fd, F.ok sc_are_kinds (fun _ _ _ _ h => S2.len h) (fun _ _ _ _ _ _ _ _ hr h => ⟨t_are_kinds K, PSs.nox (dv_are_kinds T G_is_index hr), by obtain ⟨a0, a1, rfl, h⟩ := S2.op h; exact rd_are_kinds T h⟩), FunD.bindsN F fun _ _ _ _ _ _ us hl => match us, hl with | [_, _], _ => rfl⟩, F.kp⟩
theorem dv_Program_keep {P : Program} {w : World} {K : PySem.W.Frag} {mg : Str → Option Value} {base : Heap} (T : Txt K mg)  {f : Addr} {cdv : Value} {A : Around} {outer : List Env} {s : Shared} {H : Hp} {E : XK} (hr : Room 0 (A.deeper (envOfC "Program.keep" (defScope s_Program_keep) s.heap.objs.size f cdv))) :
    PSs (cxOf CX0 P w K mg base ["self", "bag", "kinds", "ways"] "Program.keep" (defScope s_Program_keep) f cdv A outer s H E).nox (defBody s_Program_keep) (t_Program_keep K) := by
  exact (pss_cons (ps_fld (pv 0) (pv 1) rfl)
    (pss_cons (ps_fld (pv 0) (pv 2) rfl)
    (pss_one (ps_fld (pv 0) (pv 3) rfl))))
theorem ok_Program_keep {P : Program} {w : World} {K : PySem.W.Frag} {mg : Str → Option Value} {base : Heap} (T : Txt K mg)  : OkF P w K mg base CX0 1 (He.ma K (He.ga K "Program") "keep") ["self", "bag", "kinds", "ways"] (sp_Program_keep K) := by
  obtain ⟨fd, F⟩ := T.d_Program_keep
  exact ⟨⟨fd, F.ok sc_Program_keep (fun _ _ _ _ h => S4.len h) (fun _ _ _ _ _ _ _ _ hr h => ⟨t_Program_keep K, PSs.nox (dv_Program_keep T  hr), by obtain ⟨a0, a1, a2, a3, rfl, h⟩ := S4.op h; exact rd_Program_keep T h⟩), FunD.bindsN F fun _ _ _ _ _ _ us hl => match us, hl with | [_, _, _, _], _ => rfl⟩, F.kp⟩
theorem dv_Program_init {P : Program} {w : World} {K : PySem.W.Frag} {mg : Str → Option Value} {base : Heap} (T : Txt K mg) (G_Program_keep : OkF P w K mg base CX0 1 (He.ma K (He.ga K "Program") "keep") ["self", "bag", "kinds", "ways"] (sp_Program_keep K)) (G_are_kinds : OkF P w K mg base CX0 4 (He.ga K "are_kinds") ["bag", "thing"] (sp_are_kinds K)) (G_are_ways : OkF P w K mg base CX0 5 (He.ga K "are_ways") ["bag", "kinds", "thing"] (sp_are_ways K)) {f : Addr} {cdv : Value} {A : Around} {outer : List Env} {s : Shared} {H : Hp} {E : XK} (hr : Room 5 (A.deeper (envOfC "Program.__init__" (defScope s_Program_init) s.heap.objs.size f cdv))) :
    PSs (cxOf CX0 P w K mg base ["self", "bag", "kinds", "ways"] "Program.__init__" (defScope s_Program_init) f cdv A outer s H E).nox (defBody s_Program_init) (t_Program_init K) := by
  exact (pss_cons (ps_if (PW.pt (pw_or (pt_not (pt_val (pe_callG G_are_kinds (hr.mono (by decide)) rfl T.g_are_kinds pass0 (pa_cons (pv 1) (pa_cons (pv 2) pa_nil))))) (pw_or1 (pt_not (pt_chain op_le op_le pe_int (pe_callB call_len_seq (by rfl) T.f_len (by decide +kernel) (pa_cons (pv 2) pa_nil)) (pe_glob rfl (T.int_MOST_PLACES).choose_spec ⟨_, rfl⟩)))))) (pss_one ps_never) pss_nil)
    (pss_cons (ps_if (pt_not (pt_val (pe_callG G_are_ways (hr.mono (by decide)) rfl T.g_are_ways pass0 (pa_cons (pv 1) (pa_cons (pv 2) (pa_cons (pv 3) pa_nil)))))) (pss_one ps_never) pss_nil)
    (pss_one (ps_expr (pe_methG (pv 0) T.c_Program T.m_Program_keep G_Program_keep (hr.mono (by decide)) pass0 (pa_cons (pv 1) (pa_cons (pv 2) (pa_cons (pv 3) pa_nil))))))))
theorem ok_Program_init {P : Program} {w : World} {K : PySem.W.Frag} {mg : Str → Option Value} {base : Heap} (T : Txt K mg) (G_Program_keep : OkF P w K mg base CX0 1 (He.ma K (He.ga K "Program") "keep") ["self", "bag", "kinds", "ways"] (sp_Program_keep K)) (G_are_kinds : OkF P w K mg base CX0 4 (He.ga K "are_kinds") ["bag", "thing"] (sp_are_kinds K)) (G_are_ways : OkF P w K mg base CX0 5 (He.ga K "are_ways") ["bag", "kinds", "thing"] (sp_are_ways K)) : OkF P w K mg base CX0 6 (He.ma K (He.ga K "Program") "__init__") ["self", "bag", "kinds", "ways"] (sp_Program_init K) := by
  obtain ⟨fd, F⟩ := T.d_Program_init
  exact ⟨⟨fd, F.ok sc_Program_init (fun _ _ _ _ h => S4.len h) (fun _ _ _ _ _ _ _ _ hr h => ⟨t_Program_init K, PSs.nox (dv_Program_init T G_Program_keep G_are_kinds G_are_ways hr), by obtain ⟨a0, a1, a2, a3, rfl, h⟩ := S4.op h; exact rd_Program_init T h⟩), FunD.bindsN F fun _ _ _ _ _ _ us hl => match us, hl with | [_, _, _, _], _ => rfl⟩, F.kp⟩
theorem dv_are_pairs {P : Program} {w : World} {K : PySem.W.Frag} {mg : Str → Option Value} {base : Heap} (T : Txt K mg) (G_is_index : OkF P w K mg base CX0 3 (He.ga K "is_index") ["thing", "many"] (sp_is_index K)) {f : Addr} {cdv : Value} {A : Around} {outer : List Env} {s : Shared} {H : Hp} {E : XK} (hr : Room 3 (A.deeper (envOfC "are_pairs" (defScope s_are_pairs) s.heap.objs.size f cdv))) :
    PSs (cxOf CX0 P w K mg base ["many", "thing", "pair", "one", "other", "state"] "are_pairs" (defScope s_are_pairs) f cdv A outer s H E).nox (defBody s_are_pairs) (t_are_pairs K) := by
  exact (pss_cons (ps_if (pt_not (pt_val (pe_callB call_isi (by rfl) T.f_isinstance (by decide +kernel) (pa_cons (pv 1) (pa_cons (pe_bltn (v := .ty "tuple") rfl T.f_tuple (by decide +kernel) rfl) pa_nil))))) (pss_one (ps_ret pe_bl)) pss_nil)
    (pss_cons (ps_for PassesOwn.never rfl (pi_tup (pv 1)) (pg_name (i := 2) sc_are_pairs.nd rfl (Or.inl rfl)) (pss_one (ps_if (PW.pt (pw_or (pt_not (pt_val (pe_callB call_isi (by rfl) T.f_isinstance (by decide +kernel) (pa_cons (pv 2) (pa_cons (pe_bltn (v := .ty "tuple") rfl T.f_tuple (by decide +kernel) rfl) pa_nil))))) (pw_or (pt_cmpR op_ne (pe_callB call_len_seq (by rfl) T.f_len (by decide +kernel) (pa_cons (pv 2) pa_nil)) pe_int (nomark _)) (pw_or1 (pt_not (pt_val (pe_callB (cr_all rfl) (by rfl) T.f_all (by decide +kernel) (pa_cons (pe_lc (own := [("state", 5)]) (wi := (iTup K (tVar 2))) (g := (gName 5)) (tt := tYes) (te := (tCall (sp_is_index K) [] E0 (tCons (tVar 5) (tCons (tVar 0) tNil)))) rfl sc_are_pairs.nd (pi_tup (pv 2)) (blkOk_by (N := ["many", "thing", "pair", "one", "other", "state"]) (sc := defScope s_are_pairs) (own := [("state", 5)]) (by decide +kernel)) (fun _ _ _ _ _ => (pg_name (i := 5) sc_are_pairs.nd rfl (Or.inl rfl))) (fun _ _ _ _ _ => pts_nil) (fun _ _ _ _ _ => (pe_callG G_is_index (hr.mono (by decide)) rfl T.g_is_index pass0 (pa_cons (pv 5) (pa_cons (pv 0) pa_nil))))) pa_nil)))))))) (pss_one (ps_ret pe_bl)) pss_nil)))
    (pss_one (ps_ret (pe_callB (cr_all rfl) (by rfl) T.f_all (by decide +kernel) (pa_cons (pe_lc (own := [("one", 3), ("other", 4)]) (wi := (RZ.iZipA K (tCons (tVar 1) (tCons (tSl (rSlA K) (tVar 1) (tPart (tC (.int 1))) tNoPart) tNil)))) (g := (gTup K 2 (gCons (gName 3) (gCons (gName 4) gNil)))) (tt := tYes) (te := (tOp (rLtT K) (tVar 3) (tVar 4))) rfl sc_are_pairs.nd (RZ.pi_zipA (by rfl) T.f_zip (pa_cons (pv 1) (pa_cons (pe_slice sl_tupA (pv 1) (po_some pe_int) po_none) pa_nil))) (blkOk_by (N := ["many", "thing", "pair", "one", "other", "state"]) (sc := defScope s_are_pairs) (own := [("one", 3), ("other", 4)]) (by decide +kernel)) (fun _ _ _ _ _ => (pg_tup (by rfl) (pgs_cons (pg_name (i := 3) sc_are_pairs.nd rfl (Or.inl rfl)) (pgs_cons (pg_name (i := 4) sc_are_pairs.nd rfl (Or.inl rfl)) pgs_nil)))) (fun _ _ _ _ _ => pts_nil) (fun _ _ _ _ _ => (pe_cmpR (op_ltT hr.units0) (pv 3) (pv 4) (nomark _)))) pa_nil))))))
theorem ok_are_pairs {P : Program} {w : World} {K : PySem.W.Frag} {mg : Str → Option Value} {base : Heap} (T : Txt K mg) (G_is_index : OkF P w K mg base CX0 3 (He.ga K "is_index") ["thing", "many"] (sp_is_index K)) : OkF P w K mg base CX0 4 (He.ga K "are_pairs") ["many", "thing"] (sp_are_pairs K) := by
  obtain ⟨fd, F⟩ := T.d_are_pairs
  exact ⟨⟨fd, F.ok sc_are_pairs (fun _ _ _ _ h => S2.len h) (fun _ _ _ _ _ _ _ _ hr h => ⟨t_are_pairs K, PSs.nox (dv_are_pairs T G_is_index hr), by obtain ⟨a0, a1, rfl, h⟩ := S2.op h; exact rd_are_pairs T h⟩), FunD.bindsN F fun _ _ _ _ _ _ us hl => match us, hl with | [_, _], _ => rfl⟩, F.kp⟩
theorem dv_are_steps {P : Program} {w : World} {K : PySem.W.Frag} {mg : Str → Option Value} {base : Heap} (T : Txt K mg) (G_are_pairs : OkF P w K mg base CX0 4 (He.ga K "are_pairs") ["many", "thing"] (sp_are_pairs K)) {f : Addr} {cdv : Value} {A : Around} {outer : List Env} {s : Shared} {H : Hp} {E : XK} (hr : Room 4 (A.deeper (envOfC "are_steps" (defScope s_are_steps) s.heap.objs.size f cdv))) :
    PSs (cxOf CX0 P w K mg base ["bag", "many", "thing", "exits", "lots", "pairs"] "are_steps" (defScope s_are_steps) f cdv A outer s H E).nox (defBody s_are_steps) (t_are_steps K) := by
  exact (pss_cons (ps_if (PW.pt (pw_or (pt_not (pt_val (pe_callB call_isi (by rfl) T.f_isinstance (by decide +kernel) (pa_cons (pv 2) (pa_cons (pe_bltn (v := .ty "tuple") rfl T.f_tuple (by decide +kernel) rfl) pa_nil))))) (pw_or1 (pt_cmpR op_ne (pe_callB call_len_seq (by rfl) T.f_len (by decide +kernel) (pa_cons (pv 2) pa_nil)) (pe_callB call_len_seq (by rfl) T.f_len (by decide +kernel) (pa_cons (pe_fld (pv 0) rfl) pa_nil)) (nomark _))))) (pss_one (ps_ret pe_bl)) pss_nil)
    (pss_cons (ps_for PassesOwn.never rfl (RZ.pi_zipA (by rfl) T.f_zip (pa_cons (pe_fld (pv 0) rfl) (pa_cons (pv 2) pa_nil))) (pg_tup (by rfl) (pgs_cons (pg_name (i := 3) sc_are_steps.nd rfl (Or.inl rfl)) (pgs_cons (pg_name (i := 4) sc_are_steps.nd rfl (Or.inl rfl)) pgs_nil))) (pss_one (ps_if (PW.pt (pw_or (pt_not (pt_val (pe_callB call_isi (by rfl) T.f_isinstance (by decide +kernel) (pa_cons (pv 4) (pa_cons (pe_bltn (v := .ty "tuple") rfl T.f_tuple (by decide +kernel) rfl) pa_nil))))) (pw_or (pt_cmpR op_ne (pe_callB call_len_seq (by rfl) T.f_len (by decide +kernel) (pa_cons (pv 4) pa_nil)) (pv 3) (nomark _)) (pw_or1 (pt_not (pt_val (pe_callB (cr_all rfl) (by rfl) T.f_all (by decide +kernel) (pa_cons (pe_lc (own := [("pairs", 5)]) (wi := (iTup K (tVar 4))) (g := (gName 5)) (tt := tYes) (te := (tCall (sp_are_pairs K) [] E0 (tCons (tVar 1) (tCons (tVar 5) tNil)))) rfl sc_are_steps.nd (pi_tup (pv 4)) (blkOk_by (N := ["bag", "many", "thing", "exits", "lots", "pairs"]) (sc := defScope s_are_steps) (own := [("pairs", 5)]) (by decide +kernel)) (fun _ _ _ _ _ => (pg_name (i := 5) sc_are_steps.nd rfl (Or.inl rfl))) (fun _ _ _ _ _ => pts_nil) (fun _ _ _ _ _ => (pe_callG G_are_pairs (hr.mono (by decide)) rfl T.g_are_pairs pass0 (pa_cons (pv 1) (pa_cons (pv 5) pa_nil))))) pa_nil)))))))) (pss_one (ps_ret pe_bl)) pss_nil)))
    (pss_one (ps_ret pe_bl))))
theorem ok_are_steps {P : Program} {w : World} {K : PySem.W.Frag} {mg : Str → Option Value} {base : Heap} (T : Txt K mg) (G_are_pairs : OkF P w K mg base CX0 4 (He.ga K "are_pairs") ["many", "thing"] (sp_are_pairs K)) : OkF P w K mg base CX0 5 (He.ga K "are_steps") ["bag", "many", "thing"] (sp_are_steps K) := by
  obtain ⟨fd, F⟩ := T.d_are_steps
  exact ⟨⟨fd, F.ok sc_are_steps (fun _ _ _ _ h => S3.len h) (fun _ _ _ _ _ _ _ _ hr h => ⟨t_are_steps K, PSs.nox (dv_are_steps T G_are_pairs hr), by obtain ⟨a0, a1, a2, rfl, h⟩ := S3.op h; exact rd_are_steps T h⟩), FunD.bindsN F fun _ _ _ _ _ _ us hl => match us, hl with | [_, _, _], _ => rfl⟩, F.kp⟩
theorem dv_are_starts {P : Program} {w : World} {K : PySem.W.Frag} {mg : Str → Option Value} {base : Heap} (T : Txt K mg) (G_is_lot : OkF P w K mg base CX0 4 (He.ga K "is_lot") ["thing", "many"] (sp_is_lot K)) {f : Addr} {cdv : Value} {A : Around} {outer : List Env} {s : Shared} {H : Hp} {E : XK} (hr : Room 4 (A.deeper (envOfC "are_starts" (defScope s_are_starts) s.heap.objs.size f cdv))) :
    PSs (cxOf CX0 P w K mg base ["bag", "many", "thing", "lot"] "are_starts" (defScope s_are_starts) f cdv A outer s H E).nox (defBody s_are_starts) (t_are_starts K) := by
  exact (pss_cons (ps_if (PW.pt (pw_or (pt_not (pt_val (pe_callB call_isi (by rfl) T.f_isinstance (by decide +kernel) (pa_cons (pv 2) (pa_cons (pe_bltn (v := .ty "tuple") rfl T.f_tuple (by decide +kernel) rfl) pa_nil))))) (pw_or1 (pt_cmpR op_ne (pe_callB call_len_seq (by rfl) T.f_len (by decide +kernel) (pa_cons (pv 2) pa_nil)) (pe_callB call_len_seq (by rfl) T.f_len (by decide +kernel) (pa_cons (pe_fld (pv 0) rfl) pa_nil)) (nomark _))))) (pss_one (ps_ret pe_bl)) pss_nil)
    (pss_one (ps_ret (pe_callB (cr_all rfl) (by rfl) T.f_all (by decide +kernel) (pa_cons (pe_lc (own := [("lot", 3)]) (wi := (iTup K (tVar 2))) (g := (gName 3)) (tt := tYes) (te := (tCall (sp_is_lot K) [] E0 (tCons (tVar 3) (tCons (tVar 1) tNil)))) rfl sc_are_starts.nd (pi_tup (pv 2)) (blkOk_by (N := ["bag", "many", "thing", "lot"]) (sc := defScope s_are_starts) (own := [("lot", 3)]) (by decide +kernel)) (fun _ _ _ _ _ => (pg_name (i := 3) sc_are_starts.nd rfl (Or.inl rfl))) (fun _ _ _ _ _ => pts_nil) (fun _ _ _ _ _ => (pe_callG G_is_lot (hr.mono (by decide)) rfl T.g_is_lot pass0 (pa_cons (pv 3) (pa_cons (pv 1) pa_nil))))) pa_nil)))))
theorem ok_are_starts {P : Program} {w : World} {K : PySem.W.Frag} {mg : Str → Option Value} {base : Heap} (T : Txt K mg) (G_is_lot : OkF P w K mg base CX0 4 (He.ga K "is_lot") ["thing", "many"] (sp_is_lot K)) : OkF P w K mg base CX0 5 (He.ga K "are_starts") ["bag", "many", "thing"] (sp_are_starts K) := by
  obtain ⟨fd, F⟩ := T.d_are_starts
  exact ⟨⟨fd, F.ok sc_are_starts (fun _ _ _ _ h => S3.len h) (fun _ _ _ _ _ _ _ _ hr h => ⟨t_are_starts K, PSs.nox (dv_are_starts T G_is_lot hr), by obtain ⟨a0, a1, a2, rfl, h⟩ := S3.op h; exact rd_are_starts T h⟩), FunD.bindsN F fun _ _ _ _ _ _ us hl => match us, hl with | [_, _, _], _ => rfl⟩, F.kp⟩
theorem dv_Machine_init {P : Program} {w : World} {K : PySem.W.Frag} {mg : Str → Option Value} {base : Heap} (T : Txt K mg) (G_are_starts : OkF P w K mg base CX0 5 (He.ga K "are_starts") ["bag", "many", "thing"] (sp_are_starts K)) (G_are_steps : OkF P w K mg base CX0 5 (He.ga K "are_steps") ["bag", "many", "thing"] (sp_are_steps K)) (G_is_between : OkF P w K mg base CX0 2 (He.ga K "is_between") ["thing", "least", "most"] (sp_is_between K)) {f : Addr} {cdv : Value} {A : Around} {outer : List Env} {s : Shared} {H : Hp} {E : XK} (hr : Room 5 (A.deeper (envOfC "Machine.__init__" (defScope s_Machine_init) s.heap.objs.size f cdv))) :
    PSs (cxOf CX0 P w K mg base ["self", "bag", "many", "steps", "starts"] "Machine.__init__" (defScope s_Machine_init) f cdv A outer s H E).nox (defBody s_Machine_init) (t_Machine_init K) := by
  exact (pss_cons (ps_if (pt_not (pt_val (pe_callG G_is_between (hr.mono (by decide)) rfl T.g_is_between pass0 (pa_cons (pv 2) (pa_cons pe_int (pa_cons (pe_glob rfl (T.int_MOST_STATES).choose_spec ⟨_, rfl⟩) pa_nil)))))) (pss_one ps_never) pss_nil)
    (pss_cons (ps_if (pt_not (pt_val (pe_callG G_are_steps (hr.mono (by decide)) rfl T.g_are_steps pass0 (pa_cons (pv 1) (pa_cons (pv 2) (pa_cons (pv 3) pa_nil)))))) (pss_one ps_never) pss_nil)
    (pss_cons (ps_if (pt_not (pt_val (pe_callG G_are_starts (hr.mono (by decide)) rfl T.g_are_starts pass0 (pa_cons (pv 1) (pa_cons (pv 2) (pa_cons (pv 4) pa_nil)))))) (pss_one ps_never) pss_nil)
    (pss_cons (ps_fld (pv 0) (pv 1) rfl)
    (pss_cons (ps_fld (pv 0) (pv 2) rfl)
    (pss_cons (ps_fld (pv 0) (pv 3) rfl)
    (pss_one (ps_fld (pv 0) (pv 4) rfl))))))))
theorem ok_Machine_init {P : Program} {w : World} {K : PySem.W.Frag} {mg : Str → Option Value} {base : Heap} (T : Txt K mg) (G_are_starts : OkF P w K mg base CX0 5 (He.ga K "are_starts") ["bag", "many", "thing"] (sp_are_starts K)) (G_are_steps : OkF P w K mg base CX0 5 (He.ga K "are_steps") ["bag", "many", "thing"] (sp_are_steps K)) (G_is_between : OkF P w K mg base CX0 2 (He.ga K "is_between") ["thing", "least", "most"] (sp_is_between K)) : OkF P w K mg base CX0 6 (He.ma K (He.ga K "Machine") "__init__") ["self", "bag", "many", "steps", "starts"] (sp_Machine_init K) := by
  obtain ⟨fd, F⟩ := T.d_Machine_init
  exact ⟨⟨fd, F.ok sc_Machine_init (fun _ _ _ _ h => S5.len h) (fun _ _ _ _ _ _ _ _ hr h => ⟨t_Machine_init K, PSs.nox (dv_Machine_init T G_are_starts G_are_steps G_is_between hr), by obtain ⟨a0, a1, a2, a3, a4, rfl, h⟩ := S5.op h; exact rd_Machine_init T h⟩), FunD.bindsN F fun _ _ _ _ _ _ us hl => match us, hl with | [_, _, _, _, _], _ => rfl⟩, F.kp⟩
theorem dv_states_book {P : Program} {w : World} {K : PySem.W.Frag} {mg : Str → Option Value} {base : Heap} (T : Txt K mg) (G_RawBook_init : OkF P w K mg base CX0 3 (He.ma K (He.ga K "RawBook") "__init__") ["self", "bag", "owners", "rules", "rewriters"] (sp_RawBook_init K)) {f : Addr} {cdv : Value} {A : Around} {outer : List Env} {s : Shared} {H : Hp} {E : XK} (hr : Room 4 (A.deeper (envOfC "states_book" (defScope s_states_book) s.heap.objs.size f cdv))) :
    PSs (cxOf CX0 P w K mg base ["machine", "rules", "kind", "lot", "lots", "exit_number", "pairs", "state", "old", "new"] "states_book" (defScope s_states_book) f cdv A outer s H E).nox (defBody s_states_book) (t_states_book K) := by
  exact (pss_cons (ps_set (i := 1) sc_states_book.nd rfl (Or.inl rfl) (pe_lst pa_nil))
    (pss_cons (ps_for PassesOwn.never rfl (pi_enumT (by rfl) T.f_enumerate (pa_cons (pe_fld (pv 0) rfl) pa_nil)) (pg_tup (by rfl) (pgs_cons (pg_name (i := 2) sc_states_book.nd rfl (Or.inr rfl)) (pgs_cons (pg_name (i := 3) sc_states_book.nd rfl (Or.inl rfl)) pgs_nil))) (pss_one (ps_expr (pe_bm PySem.F.plainAttrs_list PySem.F.slot_list_extend PySem.F.type_list_extend mt_extend (pv 1) (pa_cons (pe_lc (own := [("state", 7)]) (wi := (iTup K (tVar 3))) (g := (gName 7)) (tt := tYes) (te := (tTup (tCons (tC (.str "here")) (tCons (tVar 2) (tCons (tTup tNil) (tCons (tVar 7) tNil)))))) rfl sc_states_book.nd (pi_tup (pv 3)) (blkOk_by (N := ["machine", "rules", "kind", "lot", "lots", "exit_number", "pairs", "state", "old", "new"]) (sc := defScope s_states_book) (own := [("state", 7)]) (by decide +kernel)) (fun _ _ _ _ _ => (pg_name (i := 7) sc_states_book.nd rfl (Or.inl rfl))) (fun _ _ _ _ _ => pts_nil) (fun _ _ _ _ _ => (pe_tup (pa_cons pe_str (pa_cons (pv 2) (pa_cons (pe_tup pa_nil) (pa_cons (pv 7) pa_nil))))))) pa_nil)))))
    (pss_cons (ps_for PassesOwn.never rfl (pi_enumT (by rfl) T.f_enumerate (pa_cons (pe_fld (pv 0) rfl) pa_nil)) (pg_tup (by rfl) (pgs_cons (pg_name (i := 2) sc_states_book.nd rfl (Or.inr rfl)) (pgs_cons (pg_name (i := 4) sc_states_book.nd rfl (Or.inl rfl)) pgs_nil))) (pss_one (ps_for PassesOwn.never rfl (pi_enumT (by rfl) T.f_enumerate (pa_cons (pv 4) pa_nil)) (pg_tup (by rfl) (pgs_cons (pg_name (i := 5) sc_states_book.nd rfl (Or.inr rfl)) (pgs_cons (pg_name (i := 6) sc_states_book.nd rfl (Or.inl rfl)) pgs_nil))) (pss_one (ps_expr (pe_bm PySem.F.plainAttrs_list PySem.F.slot_list_extend PySem.F.type_list_extend mt_extend (pv 1) (pa_cons (pe_lc (own := [("old", 8), ("new", 9)]) (wi := (iTup K (tVar 6))) (g := (gTup K 2 (gCons (gName 8) (gCons (gName 9) gNil)))) (tt := tYes) (te := (tTup (tCons (tC (.str "way")) (tCons (tVar 2) (tCons (tVar 5) (tCons (tTup (tCons (tVar 8) tNil)) (tCons (tTup tNil) (tCons (tC (.str "far")) (tCons (tVar 9) tNil))))))))) rfl sc_states_book.nd (pi_tup (pv 6)) (blkOk_by (N := ["machine", "rules", "kind", "lot", "lots", "exit_number", "pairs", "state", "old", "new"]) (sc := defScope s_states_book) (own := [("old", 8), ("new", 9)]) (by decide +kernel)) (fun _ _ _ _ _ => (pg_tup (by rfl) (pgs_cons (pg_name (i := 8) sc_states_book.nd rfl (Or.inl rfl)) (pgs_cons (pg_name (i := 9) sc_states_book.nd rfl (Or.inl rfl)) pgs_nil)))) (fun _ _ _ _ _ => pts_nil) (fun _ _ _ _ _ => (pe_tup (pa_cons pe_str (pa_cons (pv 2) (pa_cons (pv 5) (pa_cons (pe_tup (pa_cons (pv 8) pa_nil)) (pa_cons (pe_tup pa_nil) (pa_cons pe_str (pa_cons (pv 9) pa_nil)))))))))) pa_nil)))))))
    (pss_one (ps_ret (pe_makeG T.k_RawBook G_RawBook_init (hr.mono (by decide)) rfl T.g_RawBook pass0 (pa_cons (pe_fld (pv 0) rfl) (pa_cons (pe_op op_repA (pe_tup (pa_cons pe_int pa_nil)) (pe_fld (pv 0) rfl)) (pa_cons (pe_callTy call_tuple_of (by rfl) T.f_tuple (by decide +kernel) (pa_cons (pv 1) pa_nil)) (pa_cons (pe_tup pa_nil) pa_nil))))))))))
theorem ok_states_book {P : Program} {w : World} {K : PySem.W.Frag} {mg : Str → Option Value} {base : Heap} (T : Txt K mg) (G_RawBook_init : OkF P w K mg base CX0 3 (He.ma K (He.ga K "RawBook") "__init__") ["self", "bag", "owners", "rules", "rewriters"] (sp_RawBook_init K)) : OkF P w K mg base CX0 5 (He.ga K "states_book") ["machine"] (sp_states_book K) := by
  obtain ⟨fd, F⟩ := T.d_states_book
  exact ⟨⟨fd, F.ok sc_states_book (fun _ _ _ _ h => S1.len h) (fun _ _ _ _ _ _ _ _ hr h => ⟨t_states_book K, PSs.nox (dv_states_book T G_RawBook_init hr), by obtain ⟨a0, rfl, h⟩ := S1.op h; exact rd_states_book T h⟩), FunD.bindsN F fun _ _ _ _ _ _ us hl => match us, hl with | [_], _ => rfl⟩, F.kp⟩
theorem dv_check_kinds {P : Program} {w : World} {K : PySem.W.Frag} {mg : Str → Option Value} {base : Heap} (T : Txt K mg) (G_is_lot : OkF P w K mg base CX0 4 (He.ga K "is_lot") ["thing", "many"] (sp_is_lot K)) {f : Addr} {cdv : Value} {A : Around} {outer : List Env} {s : Shared} {H : Hp} {E : XK} (hr : Room 4 (A.deeper (envOfC "check_kinds" (defScope s_check_kinds) s.heap.objs.size f cdv))) :
    PSs (cxOf (L2.CX P w) P w K mg base ["machine", "thing"] "check_kinds" (defScope s_check_kinds) f cdv A outer s H E) (defBody s_check_kinds) (t_check_kinds K E) := by
  exact (pss_one (ps_if (pt_not (pt_val (pe_callG G_is_lot (hr.mono (by decide)) rfl T.g_is_lot pass0 (pa_cons (pv 1) (pa_cons (pe_callB call_len_seq (by rfl) T.f_len (by decide +kernel) (pa_cons (pe_fld (pe_fld (pv 0) rfl) rfl) pa_nil)) pa_nil))))) (pss_one (ps_raise rfl (takes_of rfl rfl rfl rfl) (pmk_own0 PySem.F.excBase_ValueError T.exc_NoKinds.1 T.g_NoKinds T.keep_NoKinds (raises_own T.exc_NoKinds.2.2.1 T.exc_NoKinds.2.2.2) (by exact rfl)))) pss_nil))
theorem ok_check_kinds {P : Program} {w : World} {K : PySem.W.Frag} {mg : Str → Option Value} {base : Heap} (T : Txt K mg) (G_is_lot : OkF P w K mg base CX0 4 (He.ga K "is_lot") ["thing", "many"] (sp_is_lot K)) : OkF P w K mg base (L2.CX P w) 5 (He.ga K "check_kinds") ["machine", "thing"] (sp_check_kinds K) := by
  obtain ⟨fd, F⟩ := T.d_check_kinds
  exact ⟨⟨fd, F.ok sc_check_kinds (fun _ _ _ _ h => SX2.len h) (fun _ _ _ _ _ _ _ _ hr h => ⟨t_check_kinds K _, dv_check_kinds T G_is_lot hr, by obtain ⟨a0, a1, rfl, h⟩ := SX2.op h; exact rd_check_kinds T h⟩), FunD.bindsN F fun _ _ _ _ _ _ us hl => match us, hl with | [_, _], _ => rfl⟩, F.kp⟩
theorem dv_book_ahead {P : Program} {w : World} {K : PySem.W.Frag} {mg : Str → Option Value} {base : Heap} (T : Txt K mg) (G_RawBook_init : OkF P w K mg base CX0 3 (He.ma K (He.ga K "RawBook") "__init__") ["self", "bag", "owners", "rules", "rewriters"] (sp_RawBook_init K)) (G_states_book : OkF P w K mg base CX0 5 (He.ga K "states_book") ["machine"] (sp_states_book K)) {f : Addr} {cdv : Value} {A : Around} {outer : List Env} {s : Shared} {H : Hp} {E : XK} (hr : Room 5 (A.deeper (envOfC "book_ahead" (defScope s_book_ahead) s.heap.objs.size f cdv))) :
    PSs (cxOf CX0 P w K mg base ["machine", "wanted", "barred", "many", "states", "kind", "rules", "lots", "exit_number", "pairs", "old", "new", "owners", "state"] "book_ahead" (defScope s_book_ahead) f cdv A outer s H E).nox (defBody s_book_ahead) (t_book_ahead K) := by
  exact (pss_cons (ps_set (i := 3) sc_book_ahead.nd rfl (Or.inr rfl) (pe_fld (pv 0) rfl))
    (pss_cons (ps_set (i := 4) sc_book_ahead.nd rfl (Or.inl rfl) (pe_listRg rfl rfl T.f_list (prg_1 rfl T.f_range (pv 3))))
    (pss_cons (ps_setLc (i := 6) (own := [("kind", 5)]) (wi := (iTup K (tVar 1))) (g := (gName 5)) (tt := tYes) (te := (tTup (tCons (tC (.str "here")) (tCons (tVar 5) (tCons (tTup tNil) (tCons (tOp rMulI (tC (.int 2)) (tVar 3)) tNil)))))) rfl sc_book_ahead.nd rfl rfl (sw_true rfl rfl rfl (by decide +kernel)) (pi_tup (pv 1)) (blkOk_by (N := ["machine", "wanted", "barred", "many", "states", "kind", "rules", "lots", "exit_number", "pairs", "old", "new", "owners", "state"]) (sc := defScope s_book_ahead) (own := [("kind", 5)]) (by decide +kernel)) (fun _ _ _ _ _ => (pg_name (i := 5) sc_book_ahead.nd rfl (Or.inl rfl))) (fun _ _ _ _ _ => pts_nil) (fun _ _ _ _ _ => (pe_tup (pa_cons pe_str (pa_cons (pv 5) (pa_cons (pe_tup pa_nil) (pa_cons (pe_op op_mul pe_int (pv 3)) pa_nil)))))))
    (pss_cons (ps_for PassesOwn.never rfl (pi_range1 rfl T.f_range (pa_cons (pe_callB call_len_seq (by rfl) T.f_len (by decide +kernel) (pa_cons (pe_fld (pe_fld (pv 0) rfl) rfl) pa_nil)) pa_nil)) (pg_name (i := 5) sc_book_ahead.nd rfl (Or.inr rfl)) (pss_one (ps_if (pt_cmpR op_notIn_seq (pv 5) (pv 2) (by rfl)) (pss_one (ps_expr (pe_bm PySem.F.plainAttrs_list PySem.F.slot_list_extend PySem.F.type_list_extend mt_extend (pv 6) (pa_cons (pe_lc (own := [("state", 13)]) (wi := (iList K (tVar 4))) (g := (gName 13)) (tt := tYes) (te := (tTup (tCons (tC (.str "here")) (tCons (tVar 5) (tCons (tTup (tCons (tOp rAddI (tVar 3) (tVar 13)) tNil)) (tCons (tOp rAddI (tOp rAddI (tOp rMulI (tC (.int 2)) (tVar 3)) (tC (.int 1))) (tVar 13)) tNil)))))) rfl sc_book_ahead.nd (pi_list (pv 4)) (blkOk_by (N := ["machine", "wanted", "barred", "many", "states", "kind", "rules", "lots", "exit_number", "pairs", "old", "new", "owners", "state"]) (sc := defScope s_book_ahead) (own := [("state", 13)]) (by decide +kernel)) (fun _ _ _ _ _ => (pg_name (i := 13) sc_book_ahead.nd rfl (Or.inl rfl))) (fun _ _ _ _ _ => pts_nil) (fun _ _ _ _ _ => (pe_tup (pa_cons pe_str (pa_cons (pv 5) (pa_cons (pe_tup (pa_cons (pe_op op_add (pv 3) (pv 13)) pa_nil)) (pa_cons (pe_op op_add (pe_op op_add (pe_op op_mul pe_int (pv 3)) pe_int) (pv 13)) pa_nil))))))) pa_nil)))) pss_nil)))
    (pss_cons (ps_for PassesOwn.never rfl (pi_enumT (by rfl) T.f_enumerate (pa_cons (pe_fld (pv 0) rfl) pa_nil)) (pg_tup (by rfl) (pgs_cons (pg_name (i := 5) sc_book_ahead.nd rfl (Or.inr rfl)) (pgs_cons (pg_name (i := 7) sc_book_ahead.nd rfl (Or.inl rfl)) pgs_nil))) (pss_one (ps_for PassesOwn.never rfl (pi_enumT (by rfl) T.f_enumerate (pa_cons (pv 7) pa_nil)) (pg_tup (by rfl) (pgs_cons (pg_name (i := 8) sc_book_ahead.nd rfl (Or.inl rfl)) (pgs_cons (pg_name (i := 9) sc_book_ahead.nd rfl (Or.inl rfl)) pgs_nil))) (pss_one (ps_for PassesOwn.never rfl (pi_tup (pv 9)) (pg_tup (by rfl) (pgs_cons (pg_name (i := 10) sc_book_ahead.nd rfl (Or.inl rfl)) (pgs_cons (pg_name (i := 11) sc_book_ahead.nd rfl (Or.inl rfl)) pgs_nil))) (pss_cons (ps_expr (pe_bm PySem.F.plainAttrs_list PySem.F.slot_list_append PySem.F.type_list_append mt_append (pv 6) (pa_cons (pe_tup (pa_cons pe_str (pa_cons (pv 5) (pa_cons (pv 8) (pa_cons (pe_tup pa_nil) (pa_cons (pe_tup (pa_cons (pe_op op_mul pe_int (pv 3)) pa_nil)) (pa_cons pe_str (pa_cons (pe_op op_add (pv 3) (pv 10)) pa_nil)))))))) pa_nil)))
    (pss_one (ps_expr (pe_bm PySem.F.plainAttrs_list PySem.F.slot_list_append PySem.F.type_list_append mt_append (pv 6) (pa_cons (pe_tup (pa_cons pe_str (pa_cons (pv 5) (pa_cons (pv 8) (pa_cons (pe_tup pa_nil) (pa_cons (pe_tup (pa_cons (pe_op op_add (pe_op op_add (pe_op op_mul pe_int (pv 3)) pe_int) (pv 11)) pa_nil)) (pa_cons pe_str (pa_cons (pe_op op_add (pv 3) (pv 10)) pa_nil)))))))) pa_nil))))))))))
    (pss_cons (ps_set (i := 12) sc_book_ahead.nd rfl (Or.inl rfl) (pe_op op_repA (pe_tup (pa_cons pe_int pa_nil)) (pe_op op_add (pe_op op_mul pe_int (pv 3)) pe_int)))
    (pss_one (ps_ret (pe_makeG T.k_RawBook G_RawBook_init (hr.mono (by decide)) rfl T.g_RawBook pass0 (pa_cons (pe_fld (pv 0) rfl) (pa_cons (pv 12) (pa_cons (pe_op op_catA (pe_fld (pe_callG G_states_book (hr.mono (by decide)) rfl T.g_states_book pass0 (pa_cons (pv 0) pa_nil)) rfl) (pe_callTy call_tuple_of (by rfl) T.f_tuple (by decide +kernel) (pa_cons (pv 6) pa_nil))) (pa_cons (pe_tup pa_nil) pa_nil)))))))))))))
theorem ok_book_ahead {P : Program} {w : World} {K : PySem.W.Frag} {mg : Str → Option Value} {base : Heap} (T : Txt K mg) (G_RawBook_init : OkF P w K mg base CX0 3 (He.ma K (He.ga K "RawBook") "__init__") ["self", "bag", "owners", "rules", "rewriters"] (sp_RawBook_init K)) (G_states_book : OkF P w K mg base CX0 5 (He.ga K "states_book") ["machine"] (sp_states_book K)) : OkF P w K mg base CX0 6 (He.ga K "book_ahead") ["machine", "wanted", "barred"] (sp_book_ahead K) := by
  obtain ⟨fd, F⟩ := T.d_book_ahead
  exact ⟨⟨fd, F.ok sc_book_ahead (fun _ _ _ _ h => S3.len h) (fun _ _ _ _ _ _ _ _ hr h => ⟨t_book_ahead K, PSs.nox (dv_book_ahead T G_RawBook_init G_states_book hr), by obtain ⟨a0, a1, a2, rfl, h⟩ := S3.op h; exact rd_book_ahead T h⟩), FunD.bindsN F fun _ _ _ _ _ _ us hl => match us, hl with | [_, _, _], _ => rfl⟩, F.kp⟩
theorem dv_ahead_book {P : Program} {w : World} {K : PySem.W.Frag} {mg : Str → Option Value} {base : Heap} (T : Txt K mg) (G_book_ahead : OkF P w K mg base CX0 6 (He.ga K "book_ahead") ["machine", "wanted", "barred"] (sp_book_ahead K)) (G_check_kinds : OkF P w K mg base (L2.CX P w) 5 (He.ga K "check_kinds") ["machine", "thing"] (sp_check_kinds K)) {f : Addr} {cdv : Value} {A : Around} {outer : List Env} {s : Shared} {H : Hp} {E : XK} (hr : Room 6 (A.deeper (envOfC "ahead_book" (defScope s_ahead_book) s.heap.objs.size f cdv))) :
    PSs (cxOf (L2.CX P w) P w K mg base ["machine", "wanted", "barred"] "ahead_book" (defScope s_ahead_book) f cdv A outer s H E) (defBody s_ahead_book) (t_ahead_book K E) := by
  exact (pss_cons (ps_expr (pe_callG G_check_kinds (hr.mono (by decide)) rfl T.g_check_kinds (passes_call (takes_of rfl rfl rfl rfl) fun _ _ _ _ h => h) (pa_cons (pv 0) (pa_cons (pv 1) pa_nil))))
    (pss_cons (ps_expr (pe_callG G_check_kinds (hr.mono (by decide)) rfl T.g_check_kinds (passes_call (takes_of rfl rfl rfl rfl) fun _ _ _ _ h => h) (pa_cons (pv 0) (pa_cons (pv 2) pa_nil))))
    (pss_one (ps_ret (pe_callG G_book_ahead (hr.mono (by decide)) rfl T.g_book_ahead pass0 (pa_cons (pv 0) (pa_cons (pv 1) (pa_cons (pv 2) pa_nil))))))))
theorem ok_ahead_book {P : Program} {w : World} {K : PySem.W.Frag} {mg : Str → Option Value} {base : Heap} (T : Txt K mg) (G_book_ahead : OkF P w K mg base CX0 6 (He.ga K "book_ahead") ["machine", "wanted", "barred"] (sp_book_ahead K)) (G_check_kinds : OkF P w K mg base (L2.CX P w) 5 (He.ga K "check_kinds") ["machine", "thing"] (sp_check_kinds K)) : OkF P w K mg base (L2.CX P w) 7 (He.ga K "ahead_book") ["machine", "wanted", "barred"] (sp_ahead_book K) := by
  obtain ⟨fd, F⟩ := T.d_ahead_book
  exact ⟨⟨fd, F.ok sc_ahead_book (fun _ _ _ _ h => SX3.len h) (fun _ _ _ _ _ _ _ _ hr h => ⟨t_ahead_book K _, dv_ahead_book T G_book_ahead G_check_kinds hr, by obtain ⟨a0, a1, a2, rfl, h⟩ := SX3.op h; exact rd_ahead_book T h⟩), FunD.bindsN F fun _ _ _ _ _ _ us hl => match us, hl with | [_, _, _], _ => rfl⟩, F.kp⟩
theorem dv_on_states {P : Program} {w : World} {K : PySem.W.Frag} {mg : Str → Option Value} {base : Heap} (T : Txt K mg)  {f : Addr} {cdv : Value} {A : Around} {outer : List Env} {s : Shared} {H : Hp} {E : XK} (hr : Room 0 (A.deeper (envOfC "on_states" (defScope s_on_states) s.heap.objs.size f cdv))) :
    PSs (cxOf CX0 P w K mg base ["machine", "lot", "many"] "on_states" (defScope s_on_states) f cdv A outer s H E).nox (defBody s_on_states) (t_on_states K) := by
  exact (pss_cons (ps_set (i := 2) sc_on_states.nd rfl (Or.inl rfl) (pe_fld (pv 0) rfl))
    (pss_one (ps_ret (pe_op op_and (pe_op op_and (pv 1) (pe_op op_shr (pv 1) (pv 2))) (pe_op op_sub (pe_op op_shl pe_int (pv 2)) pe_int)))))
theorem ok_on_states {P : Program} {w : World} {K : PySem.W.Frag} {mg : Str → Option Value} {base : Heap} (T : Txt K mg)  : OkF P w K mg base CX0 1 (He.ga K "on_states") ["machine", "lot"] (sp_on_states K) := by
  obtain ⟨fd, F⟩ := T.d_on_states
  exact ⟨⟨fd, F.ok sc_on_states (fun _ _ _ _ h => S2.len h) (fun _ _ _ _ _ _ _ _ hr h => ⟨t_on_states K, PSs.nox (dv_on_states T  hr), by obtain ⟨a0, a1, rfl, h⟩ := S2.op h; exact rd_on_states T h⟩), FunD.bindsN F fun _ _ _ _ _ _ us hl => match us, hl with | [_, _], _ => rfl⟩, F.kp⟩
theorem dv_on_lots {P : Program} {w : World} {K : PySem.W.Frag} {mg : Str → Option Value} {base : Heap} (T : Txt K mg) (G_begin_state : OkF P w K mg base CX0 3 (He.ga K "begin_state") ["book", "program"] (sp_begin_state K)) (G_on_states : OkF P w K mg base CX0 1 (He.ga K "on_states") ["machine", "lot"] (sp_on_states K)) (G_turn_rounds : OkF P w K mg base CX0 3 (He.ga K "turn_rounds") ["book", "ways", "state", "own"] (sp_turn_rounds K)) {f : Addr} {cdv : Value} {A : Around} {outer : List Env} {s : Shared} {H : Hp} {E : XK} (hr : Room 3 (A.deeper (envOfC "on_lots" (defScope s_on_lots) s.heap.objs.size f cdv))) :
    PSs (cxOf CX0 P w K mg base ["machine", "program", "book", "whole", "lots", "lot"] "on_lots" (defScope s_on_lots) f cdv A outer s H E).nox (defBody s_on_lots) (t_on_lots K) := by
  exact (pss_cons (ps_set (i := 3) sc_on_lots.nd rfl (Or.inl rfl) (pe_op op_sub (pe_op op_shl pe_int (pe_op op_add (pe_op op_mul pe_int (pe_fld (pv 0) rfl)) pe_int)) pe_int))
    (pss_cons (ps_set (i := 4) sc_on_lots.nd rfl (Or.inl rfl) (pe_ix ix_tup (pe_callG G_turn_rounds (hr.mono (by decide)) rfl T.g_turn_rounds pass0 (pa_cons (pv 2) (pa_cons (pe_fld (pv 1) rfl) (pa_cons (pe_callG G_begin_state (hr.mono (by decide)) rfl T.g_begin_state pass0 (pa_cons (pv 2) (pa_cons (pv 1) pa_nil))) (pa_cons (pv 3) pa_nil))))) pe_int (fun _ _ => rfl)))
    (pss_one (ps_ret (pe_lc (own := [("lot", 5)]) (wi := (iList K (tVar 4))) (g := (gName 5)) (tt := tYes) (te := (tCall (sp_on_states K) [] E0 (tCons (tVar 0) (tCons (tVar 5) tNil)))) rfl sc_on_lots.nd (pi_list (pv 4)) (blkOk_by (N := ["machine", "program", "book", "whole", "lots", "lot"]) (sc := defScope s_on_lots) (own := [("lot", 5)]) (by decide +kernel)) (fun _ _ _ _ _ => (pg_name (i := 5) sc_on_lots.nd rfl (Or.inl rfl))) (fun _ _ _ _ _ => pts_nil) (fun _ _ _ _ _ => (pe_callG G_on_states (hr.mono (by decide)) rfl T.g_on_states pass0 (pa_cons (pv 0) (pa_cons (pv 5) pa_nil)))))))))
theorem ok_on_lots {P : Program} {w : World} {K : PySem.W.Frag} {mg : Str → Option Value} {base : Heap} (T : Txt K mg) (G_begin_state : OkF P w K mg base CX0 3 (He.ga K "begin_state") ["book", "program"] (sp_begin_state K)) (G_on_states : OkF P w K mg base CX0 1 (He.ga K "on_states") ["machine", "lot"] (sp_on_states K)) (G_turn_rounds : OkF P w K mg base CX0 3 (He.ga K "turn_rounds") ["book", "ways", "state", "own"] (sp_turn_rounds K)) : OkF P w K mg base CX0 4 (He.ga K "on_lots") ["machine", "program", "book"] (sp_on_lots K) := by
  obtain ⟨fd, F⟩ := T.d_on_lots
  exact ⟨⟨fd, F.ok sc_on_lots (fun _ _ _ _ h => S3.len h) (fun _ _ _ _ _ _ _ _ hr h => ⟨t_on_lots K, PSs.nox (dv_on_lots T G_begin_state G_on_states G_turn_rounds hr), by obtain ⟨a0, a1, a2, rfl, h⟩ := S3.op h; exact rd_on_lots T h⟩), FunD.bindsN F fun _ _ _ _ _ _ us hl => match us, hl with | [_, _, _], _ => rfl⟩, F.kp⟩
theorem dv_looks_on {P : Program} {w : World} {K : PySem.W.Frag} {mg : Str → Option Value} {base : Heap} (T : Txt K mg) (G_book_ahead : OkF P w K mg base CX0 6 (He.ga K "book_ahead") ["machine", "wanted", "barred"] (sp_book_ahead K)) (G_check_kinds : OkF P w K mg base (L2.CX P w) 5 (He.ga K "check_kinds") ["machine", "thing"] (sp_check_kinds K)) (G_on_lots : OkF P w K mg base CX0 4 (He.ga K "on_lots") ["machine", "program", "book"] (sp_on_lots K)) {f : Addr} {cdv : Value} {A : Around} {outer : List Env} {s : Shared} {H : Hp} {E : XK} (hr : Room 6 (A.deeper (envOfC "looks_on" (defScope s_looks_on) s.heap.objs.size f cdv))) :
    PSs (cxOf (L2.CX P w) P w K mg base ["machine", "program", "wanted", "barred", "found", "place", "states"] "looks_on" (defScope s_looks_on) f cdv A outer s H E) (defBody s_looks_on) (t_looks_on K E) := by
  exact (pss_cons (ps_expr (pe_callG G_check_kinds (hr.mono (by decide)) rfl T.g_check_kinds (passes_call (takes_of rfl rfl rfl rfl) fun _ _ _ _ h => h) (pa_cons (pv 0) (pa_cons (pv 2) pa_nil))))
    (pss_cons (ps_expr (pe_callG G_check_kinds (hr.mono (by decide)) rfl T.g_check_kinds (passes_call (takes_of rfl rfl rfl rfl) fun _ _ _ _ h => h) (pa_cons (pv 0) (pa_cons (pv 3) pa_nil))))
    (pss_cons (ps_set (i := 4) sc_looks_on.nd rfl (Or.inl rfl) (pe_callG G_on_lots (hr.mono (by decide)) rfl T.g_on_lots pass0 (pa_cons (pv 0) (pa_cons (pv 1) (pa_cons (pe_callG G_book_ahead (hr.mono (by decide)) rfl T.g_book_ahead pass0 (pa_cons (pv 0) (pa_cons (pv 2) (pa_cons (pv 3) pa_nil)))) pa_nil)))))
    (pss_one (ps_ret (pe_lc (own := [("place", 5), ("states", 6)]) (wi := (iEnum K (tCons (tVar 4) tNil))) (g := (gTup K 2 (gCons (gName 5) (gCons (gName 6) gNil)))) (tt := (tTest (tOp rGtI (tVar 6) (tC (.int 0))))) (te := (tVar 5)) rfl sc_looks_on.nd (pi_enum (by rfl) T.f_enumerate (pa_cons (pv 4) pa_nil)) (blkOk_by (N := ["machine", "program", "wanted", "barred", "found", "place", "states"]) (sc := defScope s_looks_on) (own := [("place", 5), ("states", 6)]) (by decide +kernel)) (fun _ _ _ _ _ => (pg_tup (by rfl) (pgs_cons (pg_name (i := 5) sc_looks_on.nd rfl (Or.inl rfl)) (pgs_cons (pg_name (i := 6) sc_looks_on.nd rfl (Or.inl rfl)) pgs_nil)))) (fun _ _ _ _ _ => (pts_one (pt_cmpR op_gt (pv 6) pe_int (nomark _)))) (fun _ _ _ _ _ => (pv 5))))))))
theorem ok_looks_on {P : Program} {w : World} {K : PySem.W.Frag} {mg : Str → Option Value} {base : Heap} (T : Txt K mg) (G_book_ahead : OkF P w K mg base CX0 6 (He.ga K "book_ahead") ["machine", "wanted", "barred"] (sp_book_ahead K)) (G_check_kinds : OkF P w K mg base (L2.CX P w) 5 (He.ga K "check_kinds") ["machine", "thing"] (sp_check_kinds K)) (G_on_lots : OkF P w K mg base CX0 4 (He.ga K "on_lots") ["machine", "program", "book"] (sp_on_lots K)) : OkF P w K mg base (L2.CX P w) 7 (He.ga K "looks_on") ["machine", "program", "wanted", "barred"] (sp_looks_on K) := by
  obtain ⟨fd, F⟩ := T.d_looks_on
  exact ⟨⟨fd, F.ok sc_looks_on (fun _ _ _ _ h => SX4.len h) (fun _ _ _ _ _ _ _ _ hr h => ⟨t_looks_on K _, dv_looks_on T G_book_ahead G_check_kinds G_on_lots hr, by obtain ⟨a0, a1, a2, a3, rfl, h⟩ := SX4.op h; exact rd_looks_on T h⟩), FunD.bindsN F fun _ _ _ _ _ _ us hl => match us, hl with | [_, _, _, _], _ => rfl⟩, F.kp⟩
theorem dv_law_hand {P : Program} {w : World} {K : PySem.W.Frag} {mg : Str → Option Value} {base : Heap} (T : Txt K mg)  {f : Addr} {cdv : Value} {A : Around} {outer : List Env} {s : Shared} {H : Hp} {E : XK} (hr : Room 0 (A.deeper (envOfC "_law_hand" (defScope s_law_hand) s.heap.objs.size f cdv))) :
    PSs (cxOf CX0 P w K mg base ["_law_script", "_law_cells", "_law_cell"] "_law_hand" (defScope s_law_hand) f cdv A outer s H E).nox (defBody s_law_hand) (t_law_hand K) := by
  exact (pss_cons (ps_setLc (i := 1) (own := [("_law_cell", 2)]) (wi := (iList K (tSl (rSlL K) (tVar 0) tNoPart (tPart (tC (.int 63)))))) (g := (gName 2)) (tt := tYes) (te := (tCB rAbsI (tCons (tCB rInt1 (tCons (tVar 2) tNil)) tNil))) rfl sc_law_hand.nd rfl rfl (sw_true rfl rfl rfl (by decide +kernel)) (pi_list (pe_slice sl_list (pv 0) po_none (po_some pe_int))) (blkOk_by (N := ["_law_script", "_law_cells", "_law_cell"]) (sc := defScope s_law_hand) (own := [("_law_cell", 2)]) (by decide +kernel)) (fun _ _ _ _ _ => (pg_name (i := 2) sc_law_hand.nd rfl (Or.inl rfl))) (fun _ _ _ _ _ => pts_nil) (fun _ _ _ _ _ => (pe_callB call_abs (by rfl) T.f_abs (by decide +kernel) (pa_cons (pe_callTy call_int1 (by rfl) T.f_int (by decide +kernel) (pa_cons (pv 2) pa_nil)) pa_nil))))
    (pss_one (ps_ret (pe_lst (pa_cons (pv 1) (pa_cons pe_int (pa_cons pe_int (pa_cons (pe_op op_add pe_int (pe_callB call_len_seq (by rfl) T.f_len (by decide +kernel) (pa_cons (pv 1) pa_nil))) (pa_cons pe_int pa_nil)))))))))
theorem ok_law_hand {P : Program} {w : World} {K : PySem.W.Frag} {mg : Str → Option Value} {base : Heap} (T : Txt K mg)  : OkF P w K mg base CX0 1 (He.ga K "_law_hand") ["_law_script"] (sp_law_hand K) := by
  obtain ⟨fd, F⟩ := T.d_law_hand
  exact ⟨⟨fd, F.ok sc_law_hand (fun _ _ _ _ h => S1.len h) (fun _ _ _ _ _ _ _ _ hr h => ⟨t_law_hand K, PSs.nox (dv_law_hand T  hr), by obtain ⟨a0, rfl, h⟩ := S1.op h; exact rd_law_hand T h⟩), FunD.bindsN F fun _ _ _ _ _ _ us hl => match us, hl with | [_], _ => rfl⟩, F.kp⟩
theorem dv_law_draw {P : Program} {w : World} {K : PySem.W.Frag} {mg : Str → Option Value} {base : Heap} (T : Txt K mg)  {f : Addr} {cdv : Value} {A : Around} {outer : List Env} {s : Shared} {H : Hp} {E : XK} (hr : Room 0 (A.deeper (envOfC "_law_draw" (defScope s_law_draw) s.heap.objs.size f cdv))) :
    PSs (cxOf CX0 P w K mg base ["_law_hand_here", "_law_many", "_law_cell", "_law_digit", "_law_number"] "_law_draw" (defScope s_law_draw) f cdv A outer s H E).nox (defBody s_law_draw) (t_law_draw K) := by
  exact (pss_cons (ps_if (PW.pt (pw_and (pt_cmpR op_eq (pe_ix ix_list (pv 0) pe_int (fun _ _ => rfl)) pe_int (nomark _)) (pw_and1 (pt_cmpR op_lt (pe_ix ix_list (pv 0) pe_int (fun _ _ => rfl)) (pe_callB call_len_seq (by rfl) T.f_len (by decide +kernel) (pa_cons (pe_ix ix_list (pv 0) pe_int (fun _ _ => rfl)) pa_nil)) (nomark _))))) (pss_cons (ps_set (i := 2) sc_law_draw.nd rfl (Or.inl rfl) (pe_ix ix_list (pe_ix ix_list (pv 0) pe_int (fun _ _ => rfl)) (pe_ix ix_list (pv 0) pe_int (fun _ _ => rfl)) (fun _ _ => rfl)))
    (pss_cons (ps_asg (pe_op op_add (pe_ix ix_list (pv 0) pe_int (fun _ _ => rfl)) pe_int) (pg_sub (pv 0) pe_int set_list))
    (pss_cons (ps_asg (pe_op op_mod (pe_callTy call_int1 (by rfl) T.f_int (by decide +kernel) (pa_cons (pe_op op_add (pe_op op_add (pe_op op_mul (pe_ix ix_list (pv 0) pe_int (fun _ _ => rfl)) pe_int) (pv 2)) pe_int) pa_nil)) pe_int) (pg_sub (pv 0) pe_int set_list))
    (pss_one (ps_if (pt_cmpR op_ge (pv 2) (pe_op op_pow pe_int pe_int) (nomark _)) (pss_one (ps_asg (pv 2) (pg_sub (pv 0) pe_int set_list))) pss_nil))))) pss_nil)
    (pss_cons (ps_if (pt_cmpR op_gt (pe_ix ix_list (pv 0) pe_int (fun _ _ => rfl)) pe_int (nomark _)) (pss_cons (ps_set (i := 3) sc_law_draw.nd rfl (Or.inl rfl) (pe_op op_mod (pe_callTy call_int1 (by rfl) T.f_int (by decide +kernel) (pa_cons (pe_ix ix_list (pv 0) pe_int (fun _ _ => rfl)) pa_nil)) (pv 1)))
    (pss_cons (ps_asg (pe_op op_fdiv (pe_ix ix_list (pv 0) pe_int (fun _ _ => rfl)) (pv 1)) (pg_sub (pv 0) pe_int set_list))
    (pss_one (ps_ret (pv 3))))) pss_nil)
    (pss_cons (ps_asg (pe_op op_add (pe_ix ix_list (pv 0) pe_int (fun _ _ => rfl)) pe_int) (pg_sub (pv 0) pe_int set_list))
    (pss_cons (ps_set (i := 4) sc_law_draw.nd rfl (Or.inl rfl) (pe_op op_mod (pe_callTy call_int1 (by rfl) T.f_int (by decide +kernel) (pa_cons (pe_op op_mul (pe_callTy call_int1 (by rfl) T.f_int (by decide +kernel) (pa_cons (pe_op op_add (pe_ix ix_list (pv 0) pe_int (fun _ _ => rfl)) (pe_op op_mul pe_int (pe_ix ix_list (pv 0) pe_int (fun _ _ => rfl)))) pa_nil)) pe_int) pa_nil)) pe_int))
    (pss_cons (ps_set (i := 4) sc_law_draw.nd rfl (Or.inl rfl) (pe_op op_mod (pe_callTy call_int1 (by rfl) T.f_int (by decide +kernel) (pa_cons (pe_op op_mul (pv 4) (pe_op op_add (pe_op op_fdiv (pv 4) pe_int) pe_int)) pa_nil)) pe_int))
    (pss_cons (ps_set (i := 4) sc_law_draw.nd rfl (Or.inl rfl) (pe_op op_mod (pe_callTy call_int1 (by rfl) T.f_int (by decide +kernel) (pa_cons (pe_op op_mul (pv 4) (pe_op op_add (pe_op op_fdiv (pv 4) pe_int) pe_int)) pa_nil)) pe_int))
    (pss_one (ps_ret (pe_op op_mod (pe_callTy call_int1 (by rfl) T.f_int (by decide +kernel) (pa_cons (pe_op op_fdiv (pv 4) pe_int) pa_nil)) (pv 1))))))))))
theorem ok_law_draw {P : Program} {w : World} {K : PySem.W.Frag} {mg : Str → Option Value} {base : Heap} (T : Txt K mg)  : OkF P w K mg base CX0 1 (He.ga K "_law_draw") ["_law_hand_here", "_law_many"] (sp_law_draw K) := by
  obtain ⟨fd, F⟩ := T.d_law_draw
  exact ⟨⟨fd, F.ok sc_law_draw (fun _ _ _ _ h => S2.len h) (fun _ _ _ _ _ _ _ _ hr h => ⟨t_law_draw K, PSs.nox (dv_law_draw T  hr), by obtain ⟨a0, a1, rfl, h⟩ := S2.op h; exact rd_law_draw T h⟩), FunD.bindsN F fun _ _ _ _ _ _ us hl => match us, hl with | [_, _], _ => rfl⟩, F.kp⟩
theorem dv_law_some {P : Program} {w : World} {K : PySem.W.Frag} {mg : Str → Option Value} {base : Heap} (T : Txt K mg) (G_law_draw : OkF P w K mg base CX0 1 (He.ga K "_law_draw") ["_law_hand_here", "_law_many"] (sp_law_draw K)) {f : Addr} {cdv : Value} {A : Around} {outer : List Env} {s : Shared} {H : Hp} {E : XK} (hr : Room 1 (A.deeper (envOfC "_law_some" (defScope s_law_some) s.heap.objs.size f cdv))) :
    PSs (cxOf CX0 P w K mg base ["_law_hand_here", "_law_many", "_law_share", "_law_k"] "_law_some" (defScope s_law_some) f cdv A outer s H E).nox (defBody s_law_some) (t_law_some K) := by
  exact (pss_one (ps_ret (pe_callTy call_tuple_of (by rfl) T.f_tuple (by decide +kernel) (pa_cons (pe_lc (own := [("_law_k", 3)]) (wi := (iRng1 (tCons (tVar 1) tNil))) (g := (gName 3)) (tt := (tTest (tOp rEq (tCall (sp_law_draw K) [] E0 (tCons (tVar 0) (tCons (tVar 2) tNil))) (tC (.int 0))))) (te := (tVar 3)) rfl sc_law_some.nd (pi_range1 rfl T.f_range (pa_cons (pv 1) pa_nil)) (blkOk_by (N := ["_law_hand_here", "_law_many", "_law_share", "_law_k"]) (sc := defScope s_law_some) (own := [("_law_k", 3)]) (by decide +kernel)) (fun _ _ _ _ _ => (pg_name (i := 3) sc_law_some.nd rfl (Or.inl rfl))) (fun _ _ _ _ _ => (pts_one (pt_cmpR op_eq (pe_callG G_law_draw (hr.mono (by decide)) rfl T.g__law_draw pass0 (pa_cons (pv 0) (pa_cons (pv 2) pa_nil))) pe_int (nomark _)))) (fun _ _ _ _ _ => (pv 3))) pa_nil))))
theorem ok_law_some {P : Program} {w : World} {K : PySem.W.Frag} {mg : Str → Option Value} {base : Heap} (T : Txt K mg) (G_law_draw : OkF P w K mg base CX0 1 (He.ga K "_law_draw") ["_law_hand_here", "_law_many"] (sp_law_draw K)) : OkF P w K mg base CX0 2 (He.ga K "_law_some") ["_law_hand_here", "_law_many", "_law_share"] (sp_law_some K) := by
  obtain ⟨fd, F⟩ := T.d_law_some
  exact ⟨⟨fd, F.ok sc_law_some (fun _ _ _ _ h => S3.len h) (fun _ _ _ _ _ _ _ _ hr h => ⟨t_law_some K, PSs.nox (dv_law_some T G_law_draw hr), by obtain ⟨a0, a1, a2, rfl, h⟩ := S3.op h; exact rd_law_some T h⟩), FunD.bindsN F fun _ _ _ _ _ _ us hl => match us, hl with | [_, _, _], _ => rfl⟩, F.kp⟩
theorem dv_law_exits {P : Program} {w : World} {K : PySem.W.Frag} {mg : Str → Option Value} {base : Heap} (T : Txt K mg) (G_law_draw : OkF P w K mg base CX0 1 (He.ga K "_law_draw") ["_law_hand_here", "_law_many"] (sp_law_draw K)) {f : Addr} {cdv : Value} {A : Around} {outer : List Env} {s : Shared} {H : Hp} {E : XK} (hr : Room 1 (A.deeper (envOfC "_law_exits" (defScope s_law_exits) s.heap.objs.size f cdv))) :
    PSs (cxOf CX0 P w K mg base ["_law_hand_here", "_law_kinds", "_law_most", "_law_rest", "_law_k", "_law_found"] "_law_exits" (defScope s_law_exits) f cdv A outer s H E).nox (defBody s_law_exits) (t_law_exits K) := by
  exact (pss_cons (ps_set (i := 3) sc_law_exits.nd rfl (Or.inl rfl) (pe_lst (pa_cons (pe_op op_add pe_int (pe_callG G_law_draw (hr.mono (by decide)) rfl T.g__law_draw pass0 (pa_cons (pv 0) (pa_cons (pv 2) pa_nil)))) pa_nil)))
    (pss_cons (ps_for PassesOwn.never rfl (pi_range1 rfl T.f_range (pa_cons (pe_callG G_law_draw (hr.mono (by decide)) rfl T.g__law_draw pass0 (pa_cons (pv 0) (pa_cons (pv 1) pa_nil))) pa_nil)) (pg_name (i := 4) sc_law_exits.nd rfl (Or.inl rfl)) (pss_one (ps_expr (pe_bm PySem.F.plainAttrs_list PySem.F.slot_list_append PySem.F.type_list_append mt_append (pv 3) (pa_cons (pe_callG G_law_draw (hr.mono (by decide)) rfl T.g__law_draw pass0 (pa_cons (pv 0) (pa_cons (pe_op op_add (pv 2) pe_int) pa_nil))) pa_nil)))))
    (pss_cons (ps_set (i := 5) sc_law_exits.nd rfl (Or.inl rfl) (pe_lst pa_nil))
    (pss_cons (ps_for PassesOwn.never rfl (pi_range1 rfl T.f_range (pa_cons (pe_callB call_len_seq (by rfl) T.f_len (by decide +kernel) (pa_cons (pv 3) pa_nil)) pa_nil)) (pg_name (i := 4) sc_law_exits.nd rfl (Or.inl rfl)) (pss_one (ps_expr (pe_bm PySem.F.plainAttrs_list PySem.F.slot_list_append PySem.F.type_list_append mt_append (pv 5) (pa_cons (pe_bm PySem.F.plainAttrs_list PySem.F.slot_list_pop PySem.F.type_list_pop mt_popAt (pv 3) (pa_cons (pe_callG G_law_draw (hr.mono (by decide)) rfl T.g__law_draw pass0 (pa_cons (pv 0) (pa_cons (pe_callB call_len_seq (by rfl) T.f_len (by decide +kernel) (pa_cons (pv 3) pa_nil)) pa_nil))) pa_nil)) pa_nil)))))
    (pss_one (ps_ret (pe_callTy call_tuple_of (by rfl) T.f_tuple (by decide +kernel) (pa_cons (pv 5) pa_nil))))))))
theorem ok_law_exits {P : Program} {w : World} {K : PySem.W.Frag} {mg : Str → Option Value} {base : Heap} (T : Txt K mg) (G_law_draw : OkF P w K mg base CX0 1 (He.ga K "_law_draw") ["_law_hand_here", "_law_many"] (sp_law_draw K)) : OkF P w K mg base CX0 2 (He.ga K "_law_exits") ["_law_hand_here", "_law_kinds", "_law_most"] (sp_law_exits K) := by
  obtain ⟨fd, F⟩ := T.d_law_exits
  exact ⟨⟨fd, F.ok sc_law_exits (fun _ _ _ _ h => S3.len h) (fun _ _ _ _ _ _ _ _ hr h => ⟨t_law_exits K, PSs.nox (dv_law_exits T G_law_draw hr), by obtain ⟨a0, a1, a2, rfl, h⟩ := S3.op h; exact rd_law_exits T h⟩), FunD.bindsN F fun _ _ _ _ _ _ us hl => match us, hl with | [_, _, _], _ => rfl⟩, F.kp⟩
theorem dv_law_program {P : Program} {w : World} {K : PySem.W.Frag} {mg : Str → Option Value} {base : Heap} (T : Txt K mg) (G_law_draw : OkF P w K mg base CX0 1 (He.ga K "_law_draw") ["_law_hand_here", "_law_many"] (sp_law_draw K)) {f : Addr} {cdv : Value} {A : Around} {outer : List Env} {s : Shared} {H : Hp} {E : XK} (hr : Room 1 (A.deeper (envOfC "_law_program" (defScope s_law_program) s.heap.objs.size f cdv))) :
    PSs (cxOf CX0 P w K mg base ["_law_hand_here", "_law_exits_here", "_law_most", "_law_many", "_law_chain", "_law_share", "_law_k", "_law_kinds", "_law_ways", "_law_place", "_law_lots", "_law_goals", "_law_j", "_law_goal"] "_law_program" (defScope s_law_program) f cdv A outer s H E).nox (defBody s_law_program) (t_law_program K) := by
  exact (pss_cons (ps_set (i := 3) sc_law_program.nd rfl (Or.inr rfl) (pe_op op_add pe_int (pe_callG G_law_draw (hr.mono (by decide)) rfl T.g__law_draw pass0 (pa_cons (pv 0) (pa_cons (pv 2) pa_nil)))))
    (pss_cons (ps_set (i := 4) sc_law_program.nd rfl (Or.inl rfl) (pe_cmpR op_eq (pe_callG G_law_draw (hr.mono (by decide)) rfl T.g__law_draw pass0 (pa_cons (pv 0) (pa_cons pe_int pa_nil))) pe_int (nomark _)))
    (pss_cons (ps_set (i := 5) sc_law_program.nd rfl (Or.inl rfl) (pe_op op_add pe_int (pe_callG G_law_draw (hr.mono (by decide)) rfl T.g__law_draw pass0 (pa_cons (pv 0) (pa_cons pe_int pa_nil)))))
    (pss_cons (ps_set (i := 7) sc_law_program.nd rfl (Or.inl rfl) (pe_callTy call_tuple_of (by rfl) T.f_tuple (by decide +kernel) (pa_cons (pe_lc (own := [("_law_k", 6)]) (wi := (iRng1 (tCons (tVar 3) tNil))) (g := (gName 6)) (tt := tYes) (te := (tCall (sp_law_draw K) [] E0 (tCons (tVar 0) (tCons (tCB (rLenS K) (tCons (tVar 1) tNil)) tNil)))) rfl sc_law_program.nd (pi_range1 rfl T.f_range (pa_cons (pv 3) pa_nil)) (blkOk_by (N := ["_law_hand_here", "_law_exits_here", "_law_most", "_law_many", "_law_chain", "_law_share", "_law_k", "_law_kinds", "_law_ways", "_law_place", "_law_lots", "_law_goals", "_law_j", "_law_goal"]) (sc := defScope s_law_program) (own := [("_law_k", 6)]) (by decide +kernel)) (fun _ _ _ _ _ => (pg_name (i := 6) sc_law_program.nd rfl (Or.inl rfl))) (fun _ _ _ _ _ => pts_nil) (fun _ _ _ _ _ => (pe_callG G_law_draw (hr.mono (by decide)) rfl T.g__law_draw pass0 (pa_cons (pv 0) (pa_cons (pe_callB call_len_seq (by rfl) T.f_len (by decide +kernel) (pa_cons (pv 1) pa_nil)) pa_nil))))) pa_nil)))
    (pss_cons (ps_set (i := 8) sc_law_program.nd rfl (Or.inl rfl) (pe_lst pa_nil))
    (pss_cons (ps_for PassesOwn.never rfl (pi_range1 rfl T.f_range (pa_cons (pv 3) pa_nil)) (pg_name (i := 9) sc_law_program.nd rfl (Or.inl rfl)) (pss_cons (ps_set (i := 10) sc_law_program.nd rfl (Or.inl rfl) (pe_lst pa_nil))
    (pss_cons (ps_for PassesOwn.never rfl (pi_range1 rfl T.f_range (pa_cons (pe_ix ix_tup (pv 1) (pe_ix ix_tup (pv 7) (pv 9) (fun _ _ => rfl)) (fun _ _ => rfl)) pa_nil)) (pg_name (i := 6) sc_law_program.nd rfl (Or.inl rfl)) (pss_cons (ps_set (i := 11) sc_law_program.nd rfl (Or.inr rfl) (pe_lc (own := [("_law_j", 12)]) (wi := (iRng1 (tCons (tCall (sp_law_draw K) [] E0 (tCons (tVar 0) (tCons (tOp rAddI (tVar 5) (tC (.int 1))) tNil))) tNil))) (g := (gName 12)) (tt := tYes) (te := (tCall (sp_law_draw K) [] E0 (tCons (tVar 0) (tCons (tVar 3) tNil)))) rfl sc_law_program.nd (pi_range1 rfl T.f_range (pa_cons (pe_callG G_law_draw (hr.mono (by decide)) rfl T.g__law_draw pass0 (pa_cons (pv 0) (pa_cons (pe_op op_add (pv 5) pe_int) pa_nil))) pa_nil)) (blkOk_by (N := ["_law_hand_here", "_law_exits_here", "_law_most", "_law_many", "_law_chain", "_law_share", "_law_k", "_law_kinds", "_law_ways", "_law_place", "_law_lots", "_law_goals", "_law_j", "_law_goal"]) (sc := defScope s_law_program) (own := [("_law_j", 12)]) (by decide +kernel)) (fun _ _ _ _ _ => (pg_name (i := 12) sc_law_program.nd rfl (Or.inl rfl))) (fun _ _ _ _ _ => pts_nil) (fun _ _ _ _ _ => (pe_callG G_law_draw (hr.mono (by decide)) rfl T.g__law_draw pass0 (pa_cons (pv 0) (pa_cons (pv 3) pa_nil))))))
    (pss_cons (ps_if (PW.pt (pw_and (pt_val (pv 4)) (pw_and (pt_cmpR op_eq (pv 6) pe_int (nomark _)) (pw_and1 (pt_cmpR op_lt (pe_op op_add (pv 9) pe_int) (pv 3) (nomark _)))))) (pss_one (ps_expr (pe_bm PySem.F.plainAttrs_list PySem.F.slot_list_append PySem.F.type_list_append mt_append (pv 11) (pa_cons (pe_op op_add (pv 9) pe_int) pa_nil)))) pss_nil)
    (pss_one (ps_expr (pe_bm PySem.F.plainAttrs_list PySem.F.slot_list_append PySem.F.type_list_append mt_append (pv 10) (pa_cons (pe_callTy call_tuple_of (by rfl) T.f_tuple (by decide +kernel) (pa_cons (pe_lc (own := [("_law_goal", 13)]) (wi := (iRng1 (tCons (tVar 3) tNil))) (g := (gName 13)) (tt := (tTest (tOp (rIn K false) (tVar 13) (tVar 11)))) (te := (tVar 13)) rfl sc_law_program.nd (pi_range1 rfl T.f_range (pa_cons (pv 3) pa_nil)) (blkOk_by (N := ["_law_hand_here", "_law_exits_here", "_law_most", "_law_many", "_law_chain", "_law_share", "_law_k", "_law_kinds", "_law_ways", "_law_place", "_law_lots", "_law_goals", "_law_j", "_law_goal"]) (sc := defScope s_law_program) (own := [("_law_goal", 13)]) (by decide +kernel)) (fun _ _ _ _ _ => (pg_name (i := 13) sc_law_program.nd rfl (Or.inl rfl))) (fun _ _ _ _ _ => (pts_one (pt_cmpR op_in_seq (pv 13) (pv 11) (by rfl)))) (fun _ _ _ _ _ => (pv 13))) pa_nil)) pa_nil)))))))
    (pss_one (ps_expr (pe_bm PySem.F.plainAttrs_list PySem.F.slot_list_append PySem.F.type_list_append mt_append (pv 8) (pa_cons (pe_callTy call_tuple_of (by rfl) T.f_tuple (by decide +kernel) (pa_cons (pv 10) pa_nil)) pa_nil)))))))
    (pss_one (ps_ret (pe_tup (pa_cons (pv 7) (pa_cons (pe_callTy call_tuple_of (by rfl) T.f_tuple (by decide +kernel) (pa_cons (pv 8) pa_nil)) pa_nil)))))))))))
theorem ok_law_program {P : Program} {w : World} {K : PySem.W.Frag} {mg : Str → Option Value} {base : Heap} (T : Txt K mg) (G_law_draw : OkF P w K mg base CX0 1 (He.ga K "_law_draw") ["_law_hand_here", "_law_many"] (sp_law_draw K)) : OkF P w K mg base CX0 2 (He.ga K "_law_program") ["_law_hand_here", "_law_exits_here", "_law_most"] (sp_law_program K) := by
  obtain ⟨fd, F⟩ := T.d_law_program
  exact ⟨⟨fd, F.ok sc_law_program (fun _ _ _ _ h => S3.len h) (fun _ _ _ _ _ _ _ _ hr h => ⟨t_law_program K, PSs.nox (dv_law_program T G_law_draw hr), by obtain ⟨a0, a1, a2, rfl, h⟩ := S3.op h; exact rd_law_program T h⟩), FunD.bindsN F fun _ _ _ _ _ _ us hl => match us, hl with | [_, _, _], _ => rfl⟩, F.kp⟩
theorem dv_law_steps {P : Program} {w : World} {K : PySem.W.Frag} {mg : Str → Option Value} {base : Heap} (T : Txt K mg) (G_law_some : OkF P w K mg base CX0 2 (He.ga K "_law_some") ["_law_hand_here", "_law_many", "_law_share"] (sp_law_some K)) {f : Addr} {cdv : Value} {A : Around} {outer : List Env} {s : Shared} {H : Hp} {E : XK} (hr : Room 2 (A.deeper (envOfC "_law_steps" (defScope s_law_steps) s.heap.objs.size f cdv))) :
    PSs (cxOf CX0 P w K mg base ["_law_hand_here", "_law_exits_here", "_law_many", "_law_share", "_law_steps_here", "_law_out", "_law_lots", "_law_k", "_law_codes", "_law_code"] "_law_steps" (defScope s_law_steps) f cdv A outer s H E).nox (defBody s_law_steps) (t_law_steps K) := by
  exact (pss_cons (ps_set (i := 4) sc_law_steps.nd rfl (Or.inl rfl) (pe_lst pa_nil))
    (pss_cons (ps_for PassesOwn.never rfl (pi_tup (pv 1)) (pg_name (i := 5) sc_law_steps.nd rfl (Or.inl rfl)) (pss_cons (ps_set (i := 6) sc_law_steps.nd rfl (Or.inl rfl) (pe_lst pa_nil))
    (pss_cons (ps_for PassesOwn.never rfl (pi_range1 rfl T.f_range (pa_cons (pv 5) pa_nil)) (pg_name (i := 7) sc_law_steps.nd rfl (Or.inl rfl)) (pss_cons (ps_set (i := 8) sc_law_steps.nd rfl (Or.inl rfl) (pe_callG G_law_some (hr.mono (by decide)) rfl T.g__law_some pass0 (pa_cons (pv 0) (pa_cons (pe_op op_mul (pv 2) (pv 2)) (pa_cons (pv 3) pa_nil)))))
    (pss_one (ps_expr (pe_bm PySem.F.plainAttrs_list PySem.F.slot_list_append PySem.F.type_list_append mt_append (pv 6) (pa_cons (pe_callTy call_tuple_of (by rfl) T.f_tuple (by decide +kernel) (pa_cons (pe_lc (own := [("_law_code", 9)]) (wi := (iTup K (tVar 8))) (g := (gName 9)) (tt := tYes) (te := (tTup (tCons (tOp rDivI (tVar 9) (tVar 2)) (tCons (tOp rModI (tCB rInt1 (tCons (tVar 9) tNil)) (tVar 2)) tNil)))) rfl sc_law_steps.nd (pi_tup (pv 8)) (blkOk_by (N := ["_law_hand_here", "_law_exits_here", "_law_many", "_law_share", "_law_steps_here", "_law_out", "_law_lots", "_law_k", "_law_codes", "_law_code"]) (sc := defScope s_law_steps) (own := [("_law_code", 9)]) (by decide +kernel)) (fun _ _ _ _ _ => (pg_name (i := 9) sc_law_steps.nd rfl (Or.inl rfl))) (fun _ _ _ _ _ => pts_nil) (fun _ _ _ _ _ => (pe_tup (pa_cons (pe_op op_fdiv (pv 9) (pv 2)) (pa_cons (pe_op op_mod (pe_callTy call_int1 (by rfl) T.f_int (by decide +kernel) (pa_cons (pv 9) pa_nil)) (pv 2)) pa_nil))))) pa_nil)) pa_nil))))))
    (pss_one (ps_expr (pe_bm PySem.F.plainAttrs_list PySem.F.slot_list_append PySem.F.type_list_append mt_append (pv 4) (pa_cons (pe_callTy call_tuple_of (by rfl) T.f_tuple (by decide +kernel) (pa_cons (pv 6) pa_nil)) pa_nil)))))))
    (pss_one (ps_ret (pe_callTy call_tuple_of (by rfl) T.f_tuple (by decide +kernel) (pa_cons (pv 4) pa_nil))))))
theorem ok_law_steps {P : Program} {w : World} {K : PySem.W.Frag} {mg : Str → Option Value} {base : Heap} (T : Txt K mg) (G_law_some : OkF P w K mg base CX0 2 (He.ga K "_law_some") ["_law_hand_here", "_law_many", "_law_share"] (sp_law_some K)) : OkF P w K mg base CX0 3 (He.ga K "_law_steps") ["_law_hand_here", "_law_exits_here", "_law_many", "_law_share"] (sp_law_steps K) := by
  obtain ⟨fd, F⟩ := T.d_law_steps
  exact ⟨⟨fd, F.ok sc_law_steps (fun _ _ _ _ h => S4.len h) (fun _ _ _ _ _ _ _ _ hr h => ⟨t_law_steps K, PSs.nox (dv_law_steps T G_law_some hr), by obtain ⟨a0, a1, a2, a3, rfl, h⟩ := S4.op h; exact rd_law_steps T h⟩), FunD.bindsN F fun _ _ _ _ _ _ us hl => match us, hl with | [_, _, _, _], _ => rfl⟩, F.kp⟩
theorem dv_law_starts {P : Program} {w : World} {K : PySem.W.Frag} {mg : Str → Option Value} {base : Heap} (T : Txt K mg) (G_law_draw : OkF P w K mg base CX0 1 (He.ga K "_law_draw") ["_law_hand_here", "_law_many"] (sp_law_draw K)) (G_law_some : OkF P w K mg base CX0 2 (He.ga K "_law_some") ["_law_hand_here", "_law_many", "_law_share"] (sp_law_some K)) {f : Addr} {cdv : Value} {A : Around} {outer : List Env} {s : Shared} {H : Hp} {E : XK} (hr : Room 2 (A.deeper (envOfC "_law_starts" (defScope s_law_starts) s.heap.objs.size f cdv))) :
    PSs (cxOf CX0 P w K mg base ["_law_hand_here", "_law_exits_here", "_law_many", "_law_begin", "_law_starts_here", "_law_kind", "_law_lot"] "_law_starts" (defScope s_law_starts) f cdv A outer s H E).nox (defBody s_law_starts) (t_law_starts K) := by
  exact (pss_cons (ps_set (i := 3) sc_law_starts.nd rfl (Or.inl rfl) (pe_callG G_law_draw (hr.mono (by decide)) rfl T.g__law_draw pass0 (pa_cons (pv 0) (pa_cons (pe_op op_add (pe_callB call_len_seq (by rfl) T.f_len (by decide +kernel) (pa_cons (pv 1) pa_nil)) pe_int) pa_nil))))
    (pss_cons (ps_set (i := 4) sc_law_starts.nd rfl (Or.inl rfl) (pe_lst pa_nil))
    (pss_cons (ps_for PassesOwn.never rfl (pi_range1 rfl T.f_range (pa_cons (pe_callB call_len_seq (by rfl) T.f_len (by decide +kernel) (pa_cons (pv 1) pa_nil)) pa_nil)) (pg_name (i := 5) sc_law_starts.nd rfl (Or.inl rfl)) (pss_cons (ps_set (i := 6) sc_law_starts.nd rfl (Or.inl rfl) (pe_callG G_law_some (hr.mono (by decide)) rfl T.g__law_some pass0 (pa_cons (pv 0) (pa_cons (pv 2) (pa_cons pe_int pa_nil)))))
    (pss_cons (ps_if (PW.pt (pw_and (pt_cmpR op_eq (pv 5) (pv 3) (nomark _)) (pw_and1 (pt_cmpR op_eq (pe_callB call_len_seq (by rfl) T.f_len (by decide +kernel) (pa_cons (pv 6) pa_nil)) pe_int (nomark _))))) (pss_one (ps_set (i := 6) sc_law_starts.nd rfl (Or.inl rfl) (pe_tup (pa_cons (pe_callG G_law_draw (hr.mono (by decide)) rfl T.g__law_draw pass0 (pa_cons (pv 0) (pa_cons (pv 2) pa_nil))) pa_nil)))) pss_nil)
    (pss_one (ps_expr (pe_bm PySem.F.plainAttrs_list PySem.F.slot_list_append PySem.F.type_list_append mt_append (pv 4) (pa_cons (pv 6) pa_nil)))))))
    (pss_one (ps_ret (pe_callTy call_tuple_of (by rfl) T.f_tuple (by decide +kernel) (pa_cons (pv 4) pa_nil)))))))
theorem ok_law_starts {P : Program} {w : World} {K : PySem.W.Frag} {mg : Str → Option Value} {base : Heap} (T : Txt K mg) (G_law_draw : OkF P w K mg base CX0 1 (He.ga K "_law_draw") ["_law_hand_here", "_law_many"] (sp_law_draw K)) (G_law_some : OkF P w K mg base CX0 2 (He.ga K "_law_some") ["_law_hand_here", "_law_many", "_law_share"] (sp_law_some K)) : OkF P w K mg base CX0 3 (He.ga K "_law_starts") ["_law_hand_here", "_law_exits_here", "_law_many"] (sp_law_starts K) := by
  obtain ⟨fd, F⟩ := T.d_law_starts
  exact ⟨⟨fd, F.ok sc_law_starts (fun _ _ _ _ h => S3.len h) (fun _ _ _ _ _ _ _ _ hr h => ⟨t_law_starts K, PSs.nox (dv_law_starts T G_law_draw G_law_some hr), by obtain ⟨a0, a1, a2, rfl, h⟩ := S3.op h; exact rd_law_starts T h⟩), FunD.bindsN F fun _ _ _ _ _ _ us hl => match us, hl with | [_, _, _], _ => rfl⟩, F.kp⟩
theorem dv_law_machine {P : Program} {w : World} {K : PySem.W.Frag} {mg : Str → Option Value} {base : Heap} (T : Txt K mg) (G_law_draw : OkF P w K mg base CX0 1 (He.ga K "_law_draw") ["_law_hand_here", "_law_many"] (sp_law_draw K)) (G_law_starts : OkF P w K mg base CX0 3 (He.ga K "_law_starts") ["_law_hand_here", "_law_exits_here", "_law_many"] (sp_law_starts K)) (G_law_steps : OkF P w K mg base CX0 3 (He.ga K "_law_steps") ["_law_hand_here", "_law_exits_here", "_law_many", "_law_share"] (sp_law_steps K)) {f : Addr} {cdv : Value} {A : Around} {outer : List Env} {s : Shared} {H : Hp} {E : XK} (hr : Room 3 (A.deeper (envOfC "_law_machine" (defScope s_law_machine) s.heap.objs.size f cdv))) :
    PSs (cxOf CX0 P w K mg base ["_law_hand_here", "_law_exits_here", "_law_most", "_law_many", "_law_steps_here"] "_law_machine" (defScope s_law_machine) f cdv A outer s H E).nox (defBody s_law_machine) (t_law_machine K) := by
  exact (pss_cons (ps_set (i := 3) sc_law_machine.nd rfl (Or.inl rfl) (pe_op op_add pe_int (pe_callG G_law_draw (hr.mono (by decide)) rfl T.g__law_draw pass0 (pa_cons (pv 0) (pa_cons (pv 2) pa_nil)))))
    (pss_cons (ps_set (i := 4) sc_law_machine.nd rfl (Or.inl rfl) (pe_callG G_law_steps (hr.mono (by decide)) rfl T.g__law_steps pass0 (pa_cons (pv 0) (pa_cons (pv 1) (pa_cons (pv 3) (pa_cons (pe_op op_add pe_int (pe_callG G_law_draw (hr.mono (by decide)) rfl T.g__law_draw pass0 (pa_cons (pv 0) (pa_cons pe_int pa_nil)))) pa_nil))))))
    (pss_one (ps_ret (pe_tup (pa_cons (pv 3) (pa_cons (pv 4) (pa_cons (pe_callG G_law_starts (hr.mono (by decide)) rfl T.g__law_starts pass0 (pa_cons (pv 0) (pa_cons (pv 1) (pa_cons (pv 3) pa_nil)))) pa_nil))))))))
theorem ok_law_machine {P : Program} {w : World} {K : PySem.W.Frag} {mg : Str → Option Value} {base : Heap} (T : Txt K mg) (G_law_draw : OkF P w K mg base CX0 1 (He.ga K "_law_draw") ["_law_hand_here", "_law_many"] (sp_law_draw K)) (G_law_starts : OkF P w K mg base CX0 3 (He.ga K "_law_starts") ["_law_hand_here", "_law_exits_here", "_law_many"] (sp_law_starts K)) (G_law_steps : OkF P w K mg base CX0 3 (He.ga K "_law_steps") ["_law_hand_here", "_law_exits_here", "_law_many", "_law_share"] (sp_law_steps K)) : OkF P w K mg base CX0 4 (He.ga K "_law_machine") ["_law_hand_here", "_law_exits_here", "_law_most"] (sp_law_machine K) := by
  obtain ⟨fd, F⟩ := T.d_law_machine
  exact ⟨⟨fd, F.ok sc_law_machine (fun _ _ _ _ h => S3.len h) (fun _ _ _ _ _ _ _ _ hr h => ⟨t_law_machine K, PSs.nox (dv_law_machine T G_law_draw G_law_starts G_law_steps hr), by obtain ⟨a0, a1, a2, rfl, h⟩ := S3.op h; exact rd_law_machine T h⟩), FunD.bindsN F fun _ _ _ _ _ _ us hl => match us, hl with | [_, _, _], _ => rfl⟩, F.kp⟩
theorem dv_law_nexts {P : Program} {w : World} {K : PySem.W.Frag} {mg : Str → Option Value} {base : Heap} (T : Txt K mg)  {f : Addr} {cdv : Value} {A : Around} {outer : List Env} {s : Shared} {H : Hp} {E : XK} (hr : Room 0 (A.deeper (envOfC "_law_nexts" (defScope s_law_nexts) s.heap.objs.size f cdv))) :
    PSs (cxOf CX0 P w K mg base ["_law_machine_here", "_law_kinds", "_law_ways", "_law_place", "_law_state", "_law_found", "_law_steps_here", "_law_k", "_law_old", "_law_new", "_law_to"] "_law_nexts" (defScope s_law_nexts) f cdv A outer s H E).nox (defBody s_law_nexts) (t_law_nexts K) := by
  exact (pss_cons (ps_set (i := 5) sc_law_nexts.nd rfl (Or.inl rfl) (pe_lst pa_nil))
    (pss_cons (ps_set (i := 6) sc_law_nexts.nd rfl (Or.inl rfl) (pe_ix ix_tup (pe_ix ix_tup (pv 0) pe_int (fun _ _ => rfl)) (pe_ix ix_tup (pv 1) (pv 3) (fun _ _ => rfl)) (fun _ _ => rfl)))
    (pss_cons (ps_for PassesOwn.never rfl (pi_range1 rfl T.f_range (pa_cons (pe_callB call_len_seq (by rfl) T.f_len (by decide +kernel) (pa_cons (pv 6) pa_nil)) pa_nil)) (pg_name (i := 7) sc_law_nexts.nd rfl (Or.inr rfl)) (pss_one (ps_for PassesOwn.never rfl (pi_tup (pe_ix ix_tup (pv 6) (pv 7) (fun _ _ => rfl))) (pg_tup (by rfl) (pgs_cons (pg_name (i := 8) sc_law_nexts.nd rfl (Or.inl rfl)) (pgs_cons (pg_name (i := 9) sc_law_nexts.nd rfl (Or.inr rfl)) pgs_nil))) (pss_one (ps_if (pt_cmpR op_eq (pv 8) (pv 4) (nomark _)) (pss_one (ps_expr (pe_bm PySem.F.plainAttrs_list PySem.F.slot_list_extend PySem.F.type_list_extend mt_extend (pv 5) (pa_cons (pe_lc (own := [("_law_to", 10)]) (wi := (iTup K (tOp (rIxT K) (tOp (rIxT K) (tVar 2) (tVar 3)) (tVar 7)))) (g := (gName 10)) (tt := tYes) (te := (tTup (tCons (tVar 7) (tCons (tVar 10) (tCons (tVar 9) tNil))))) rfl sc_law_nexts.nd (pi_tup (pe_ix ix_tup (pe_ix ix_tup (pv 2) (pv 3) (fun _ _ => rfl)) (pv 7) (fun _ _ => rfl))) (blkOk_by (N := ["_law_machine_here", "_law_kinds", "_law_ways", "_law_place", "_law_state", "_law_found", "_law_steps_here", "_law_k", "_law_old", "_law_new", "_law_to"]) (sc := defScope s_law_nexts) (own := [("_law_to", 10)]) (by decide +kernel)) (fun _ _ _ _ _ => (pg_name (i := 10) sc_law_nexts.nd rfl (Or.inl rfl))) (fun _ _ _ _ _ => pts_nil) (fun _ _ _ _ _ => (pe_tup (pa_cons (pv 7) (pa_cons (pv 10) (pa_cons (pv 9) pa_nil)))))) pa_nil)))) pss_nil)))))
    (pss_one (ps_ret (pv 5))))))
theorem ok_law_nexts {P : Program} {w : World} {K : PySem.W.Frag} {mg : Str → Option Value} {base : Heap} (T : Txt K mg)  : OkF P w K mg base CX0 1 (He.ga K "_law_nexts") ["_law_machine_here", "_law_kinds", "_law_ways", "_law_place", "_law_state"] (sp_law_nexts K) := by
  obtain ⟨fd, F⟩ := T.d_law_nexts
  exact ⟨⟨fd, F.ok sc_law_nexts (fun _ _ _ _ h => S5.len h) (fun _ _ _ _ _ _ _ _ hr h => ⟨t_law_nexts K, PSs.nox (dv_law_nexts T  hr), by obtain ⟨a0, a1, a2, a3, a4, rfl, h⟩ := S5.op h; exact rd_law_nexts T h⟩), FunD.bindsN F fun _ _ _ _ _ _ us hl => match us, hl with | [_, _, _, _, _], _ => rfl⟩, F.kp⟩
theorem dv_law_far {P : Program} {w : World} {K : PySem.W.Frag} {mg : Str → Option Value} {base : Heap} (T : Txt K mg) (G_law_nexts : OkF P w K mg base CX0 1 (He.ga K "_law_nexts") ["_law_machine_here", "_law_kinds", "_law_ways", "_law_place", "_law_state"] (sp_law_nexts K)) {f : Addr} {cdv : Value} {A : Around} {outer : List Env} {s : Shared} {H : Hp} {E : XK} (hr : Room 1 (A.deeper (envOfC "_law_far" (defScope s_law_far) s.heap.objs.size f cdv))) :
    PSs (cxOf CX0 P w K mg base ["_law_machine_here", "_law_kinds", "_law_ways", "_law_far_here", "_law_now", "_law_place", "_law_state", "_law_at", "_law_here", "_law_told"] "_law_far" (defScope s_law_far) f cdv A outer s H E).nox (defBody s_law_far) (t_law_far K) := by
  exact (pss_cons (ps_set (i := 3) sc_law_far.nd rfl (Or.inl rfl) pe_dnewT)
    (pss_cons (ps_set (i := 4) sc_law_far.nd rfl (Or.inl rfl) (pe_lst pa_nil))
    (pss_cons (ps_for PassesOwn.never rfl (pi_range1 rfl T.f_range (pa_cons (pe_callB call_len_seq (by rfl) T.f_len (by decide +kernel) (pa_cons (pv 1) pa_nil)) pa_nil)) (pg_name (i := 5) sc_law_far.nd rfl (Or.inl rfl)) (pss_one (ps_for PassesOwn.never rfl (pi_tup (pe_ix ix_tup (pe_ix ix_tup (pv 0) pe_int (fun _ _ => rfl)) (pe_ix ix_tup (pv 1) (pv 5) (fun _ _ => rfl)) (fun _ _ => rfl))) (pg_name (i := 6) sc_law_far.nd rfl (Or.inl rfl)) (pss_cons (ps_dput (hu_of hr) (pv 3) (pe_tup (pa_cons (pv 5) (pa_cons (pv 6) pa_nil))) pe_int rfl)
    (pss_one (ps_expr (pe_bm PySem.F.plainAttrs_list PySem.F.slot_list_append PySem.F.type_list_append mt_append (pv 4) (pa_cons (pe_tup (pa_cons (pv 5) (pa_cons (pv 6) pa_nil))) pa_nil))))))))
    (pss_cons (ps_for PassesOwn.never rfl (pi_range1 rfl T.f_range (pa_cons (pe_op op_mul (pe_callB call_len_seq (by rfl) T.f_len (by decide +kernel) (pa_cons (pv 1) pa_nil)) (pe_ix ix_tup (pv 0) pe_int (fun _ _ => rfl))) pa_nil)) (pg_name (i := 7) sc_law_far.nd rfl (Or.inl rfl)) (pss_one (ps_if (pt_cmpR op_lt (pv 7) (pe_callB call_len_seq (by rfl) T.f_len (by decide +kernel) (pa_cons (pv 4) pa_nil)) (nomark _)) (pss_cons (ps_set (i := 8) sc_law_far.nd rfl (Or.inl rfl) (pe_ix ix_list (pv 4) (pv 7) (fun _ _ => rfl)))
    (pss_one (ps_for PassesOwn.never rfl (pi_list (pe_callG G_law_nexts (hr.mono (by decide)) rfl T.g__law_nexts pass0 (pa_cons (pv 0) (pa_cons (pv 1) (pa_cons (pv 2) (pa_cons (pe_ix ix_tup (pv 8) pe_int (fun _ _ => rfl)) (pa_cons (pe_ix ix_tup (pv 8) pe_int (fun _ _ => rfl)) pa_nil))))))) (pg_name (i := 9) sc_law_far.nd rfl (Or.inl rfl)) (pss_one (ps_if (pt_cmp (pc_dnotin (hu_of hr) (pe_slice sl_tupA (pv 9) (po_some pe_int) po_none) (pv 3)) (by rfl)) (pss_cons (ps_dput (hu_of hr) (pv 3) (pe_slice sl_tupA (pv 9) (po_some pe_int) po_none) (pe_op op_add (pe_dget (hu_of hr) (pv 3) (pv 8) (fun _ _ => rfl)) pe_int) rfl)
    (pss_one (ps_expr (pe_bm PySem.F.plainAttrs_list PySem.F.slot_list_append PySem.F.type_list_append mt_append (pv 4) (pa_cons (pe_slice sl_tupA (pv 9) (po_some pe_int) po_none) pa_nil))))) pss_nil))))) pss_nil)))
    (pss_one (ps_ret (pv 3)))))))
theorem ok_law_far {P : Program} {w : World} {K : PySem.W.Frag} {mg : Str → Option Value} {base : Heap} (T : Txt K mg) (G_law_nexts : OkF P w K mg base CX0 1 (He.ga K "_law_nexts") ["_law_machine_here", "_law_kinds", "_law_ways", "_law_place", "_law_state"] (sp_law_nexts K)) : OkF P w K mg base CX0 2 (He.ga K "_law_far") ["_law_machine_here", "_law_kinds", "_law_ways"] (sp_law_far K) := by
  obtain ⟨fd, F⟩ := T.d_law_far
  exact ⟨⟨fd, F.ok sc_law_far (fun _ _ _ _ h => S3.len h) (fun _ _ _ _ _ _ _ _ hr h => ⟨t_law_far K, PSs.nox (dv_law_far T G_law_nexts hr), by obtain ⟨a0, a1, a2, rfl, h⟩ := S3.op h; exact rd_law_far T h⟩), FunD.bindsN F fun _ _ _ _ _ _ us hl => match us, hl with | [_, _, _], _ => rfl⟩, F.kp⟩
theorem dv_law_on {P : Program} {w : World} {K : PySem.W.Frag} {mg : Str → Option Value} {base : Heap} (T : Txt K mg) (G_law_nexts : OkF P w K mg base CX0 1 (He.ga K "_law_nexts") ["_law_machine_here", "_law_kinds", "_law_ways", "_law_place", "_law_state"] (sp_law_nexts K)) {f : Addr} {cdv : Value} {A : Around} {outer : List Env} {s : Shared} {H : Hp} {E : XK} (hr : Room 1 (A.deeper (envOfC "_law_on" (defScope s_law_on) s.heap.objs.size f cdv))) :
    PSs (cxOf CX0 P w K mg base ["_law_machine_here", "_law_kinds", "_law_ways", "_law_wanted", "_law_barred", "_law_on_here", "_law_turn", "_law_grown", "_law_place", "_law_state", "_law_goals", "_law_goes", "_law_k", "_law_to", "_law_new"] "_law_on" (defScope s_law_on) f cdv A outer s H E).nox (defBody s_law_on) (t_law_on K) := by
  exact (pss_cons (ps_set (i := 5) sc_law_on.nd rfl (Or.inr rfl) pe_dnewT)
    (pss_cons (ps_for PassesOwn.never rfl (pi_range1 rfl T.f_range (pa_cons (pe_op op_add (pe_op op_mul (pe_callB call_len_seq (by rfl) T.f_len (by decide +kernel) (pa_cons (pv 1) pa_nil)) (pe_ix ix_tup (pv 0) pe_int (fun _ _ => rfl))) pe_int) pa_nil)) (pg_name (i := 6) sc_law_on.nd rfl (Or.inl rfl)) (pss_cons (ps_set (i := 7) sc_law_on.nd rfl (Or.inl rfl) pe_bl)
    (pss_cons (ps_for PassesOwn.never rfl (pi_range1 rfl T.f_range (pa_cons (pe_callB call_len_seq (by rfl) T.f_len (by decide +kernel) (pa_cons (pv 1) pa_nil)) pa_nil)) (pg_name (i := 8) sc_law_on.nd rfl (Or.inl rfl)) (pss_one (ps_for PassesOwn.never rfl (pi_range1 rfl T.f_range (pa_cons (pe_ix ix_tup (pv 0) pe_int (fun _ _ => rfl)) pa_nil)) (pg_name (i := 9) sc_law_on.nd rfl (Or.inl rfl)) (pss_cons (ps_set (i := 10) sc_law_on.nd rfl (Or.inl rfl) (pe_callG G_law_nexts (hr.mono (by decide)) rfl T.g__law_nexts pass0 (pa_cons (pv 0) (pa_cons (pv 1) (pa_cons (pv 2) (pa_cons (pv 8) (pa_cons (pv 9) pa_nil)))))))
    (pss_cons (ps_setLc (i := 11) (own := [("_law_k", 12), ("_law_to", 13), ("_law_new", 14)]) (wi := (iList K (tVar 10))) (g := (gTup K 3 (gCons (gName 12) (gCons (gName 13) (gCons (gName 14) gNil))))) (tt := tYes) (te := (tOrV (tOp (rIn K false) (tOp (rIxT K) (tVar 1) (tVar 13)) (tVar 3)) (tAndV (tOp (rIn K true) (tOp (rIxT K) (tVar 1) (tVar 13)) (tVar 4)) (tDIn (tTup (tCons (tVar 13) (tCons (tVar 14) tNil))) (tVar 5))))) rfl sc_law_on.nd rfl rfl (sw_true rfl rfl rfl (by decide +kernel)) (pi_list (pv 10)) (blkOk_by (N := ["_law_machine_here", "_law_kinds", "_law_ways", "_law_wanted", "_law_barred", "_law_on_here", "_law_turn", "_law_grown", "_law_place", "_law_state", "_law_goals", "_law_goes", "_law_k", "_law_to", "_law_new"]) (sc := defScope s_law_on) (own := [("_law_k", 12), ("_law_to", 13), ("_law_new", 14)]) (by decide +kernel)) (fun _ _ _ _ _ => (pg_tup (by rfl) (pgs_cons (pg_name (i := 12) sc_law_on.nd rfl (Or.inl rfl)) (pgs_cons (pg_name (i := 13) sc_law_on.nd rfl (Or.inl rfl)) (pgs_cons (pg_name (i := 14) sc_law_on.nd rfl (Or.inl rfl)) pgs_nil))))) (fun _ _ _ _ _ => pts_nil) (fun _ _ _ _ _ => (pe_or (pe_cmpR op_in_seq (pe_ix ix_tup (pv 1) (pv 13) (fun _ _ => rfl)) (pv 3) (by rfl)) (pe_one (pe_and (pe_cmpR op_notIn_seq (pe_ix ix_tup (pv 1) (pv 13) (fun _ _ => rfl)) (pv 4) (by rfl)) (pe_one (pe_cmp (pc_din (hu_of hr) (pe_tup (pa_cons (pv 13) (pa_cons (pv 14) pa_nil))) (pv 5)) (by rfl))))))))
    (pss_one (ps_if (PW.pt (pw_and (pt_val (pe_callB (cr_any rfl) (by rfl) T.f_any (by decide +kernel) (pa_cons (pv 11) pa_nil))) (pw_and1 (pt_cmp (pc_dnotin (hu_of hr) (pe_tup (pa_cons (pv 8) (pa_cons (pv 9) pa_nil))) (pv 5)) (by rfl))))) (pss_cons (ps_dput (hu_of hr) (pv 5) (pe_tup (pa_cons (pv 8) (pa_cons (pv 9) pa_nil))) pe_bl rfl)
    (pss_one (ps_set (i := 7) sc_law_on.nd rfl (Or.inl rfl) pe_bl))) pss_nil)))))))
    (pss_one (ps_if (pt_not (pt_val (pv 7))) (pss_one ps_break) pss_nil)))))
    (pss_one (ps_ret (pv 5)))))
theorem ok_law_on {P : Program} {w : World} {K : PySem.W.Frag} {mg : Str → Option Value} {base : Heap} (T : Txt K mg) (G_law_nexts : OkF P w K mg base CX0 1 (He.ga K "_law_nexts") ["_law_machine_here", "_law_kinds", "_law_ways", "_law_place", "_law_state"] (sp_law_nexts K)) : OkF P w K mg base CX0 2 (He.ga K "_law_on") ["_law_machine_here", "_law_kinds", "_law_ways", "_law_wanted", "_law_barred"] (sp_law_on K) := by
  obtain ⟨fd, F⟩ := T.d_law_on
  exact ⟨⟨fd, F.ok sc_law_on (fun _ _ _ _ h => S5.len h) (fun _ _ _ _ _ _ _ _ hr h => ⟨t_law_on K, PSs.nox (dv_law_on T G_law_nexts hr), by obtain ⟨a0, a1, a2, a3, a4, rfl, h⟩ := S5.op h; exact rd_law_on T h⟩), FunD.bindsN F fun _ _ _ _ _ _ us hl => match us, hl with | [_, _, _, _, _], _ => rfl⟩, F.kp⟩
theorem dv_law_looking {P : Program} {w : World} {K : PySem.W.Frag} {mg : Str → Option Value} {base : Heap} (T : Txt K mg) (G_law_far : OkF P w K mg base CX0 2 (He.ga K "_law_far") ["_law_machine_here", "_law_kinds", "_law_ways"] (sp_law_far K)) (G_law_on : OkF P w K mg base CX0 2 (He.ga K "_law_on") ["_law_machine_here", "_law_kinds", "_law_ways", "_law_wanted", "_law_barred"] (sp_law_on K)) {f : Addr} {cdv : Value} {A : Around} {outer : List Env} {s : Shared} {H : Hp} {E : XK} (hr : Room 2 (A.deeper (envOfC "_law_looking" (defScope s_law_looking) s.heap.objs.size f cdv))) :
    PSs (cxOf CX0 P w K mg base ["_law_machine_here", "_law_kinds", "_law_ways", "_law_wanted", "_law_barred", "_law_far_here", "_law_on_here", "_law_found", "_law_place", "_law_state"] "_law_looking" (defScope s_law_looking) f cdv A outer s H E).nox (defBody s_law_looking) (t_law_looking K) := by
  exact (pss_cons (ps_set (i := 5) sc_law_looking.nd rfl (Or.inr rfl) (pe_callG G_law_far (hr.mono (by decide)) rfl T.g__law_far pass0 (pa_cons (pv 0) (pa_cons (pv 1) (pa_cons (pv 2) pa_nil)))))
    (pss_cons (ps_set (i := 6) sc_law_looking.nd rfl (Or.inr rfl) (pe_callG G_law_on (hr.mono (by decide)) rfl T.g__law_on pass0 (pa_cons (pv 0) (pa_cons (pv 1) (pa_cons (pv 2) (pa_cons (pv 3) (pa_cons (pv 4) pa_nil)))))))
    (pss_cons (ps_set (i := 7) sc_law_looking.nd rfl (Or.inl rfl) (pe_lst pa_nil))
    (pss_cons (ps_for PassesOwn.never rfl (pi_range1 rfl T.f_range (pa_cons (pe_callB call_len_seq (by rfl) T.f_len (by decide +kernel) (pa_cons (pv 1) pa_nil)) pa_nil)) (pg_name (i := 8) sc_law_looking.nd rfl (Or.inr rfl)) (pss_one (ps_if (pt_val (pe_callB (cr_any rfl) (by rfl) T.f_any (by decide +kernel) (pa_cons (pe_lc (own := [("_law_state", 9)]) (wi := (iRng1 (tCons (tOp (rIxT K) (tVar 0) (tC (.int 0))) tNil))) (g := (gName 9)) (tt := tYes) (te := (tAndV (tDIn (tTup (tCons (tVar 8) (tCons (tVar 9) tNil))) (tVar 5)) (tDIn (tTup (tCons (tVar 8) (tCons (tVar 9) tNil))) (tVar 6)))) rfl sc_law_looking.nd (pi_range1 rfl T.f_range (pa_cons (pe_ix ix_tup (pv 0) pe_int (fun _ _ => rfl)) pa_nil)) (blkOk_by (N := ["_law_machine_here", "_law_kinds", "_law_ways", "_law_wanted", "_law_barred", "_law_far_here", "_law_on_here", "_law_found", "_law_place", "_law_state"]) (sc := defScope s_law_looking) (own := [("_law_state", 9)]) (by decide +kernel)) (fun _ _ _ _ _ => (pg_name (i := 9) sc_law_looking.nd rfl (Or.inl rfl))) (fun _ _ _ _ _ => pts_nil) (fun _ _ _ _ _ => (pe_and (pe_cmp (pc_din (hu_of hr) (pe_tup (pa_cons (pv 8) (pa_cons (pv 9) pa_nil))) (pv 5)) (by rfl)) (pe_one (pe_cmp (pc_din (hu_of hr) (pe_tup (pa_cons (pv 8) (pa_cons (pv 9) pa_nil))) (pv 6)) (by rfl)))))) pa_nil))) (pss_one (ps_expr (pe_bm PySem.F.plainAttrs_list PySem.F.slot_list_append PySem.F.type_list_append mt_append (pv 7) (pa_cons (pv 8) pa_nil)))) pss_nil)))
    (pss_one (ps_ret (pv 7)))))))
theorem ok_law_looking {P : Program} {w : World} {K : PySem.W.Frag} {mg : Str → Option Value} {base : Heap} (T : Txt K mg) (G_law_far : OkF P w K mg base CX0 2 (He.ga K "_law_far") ["_law_machine_here", "_law_kinds", "_law_ways"] (sp_law_far K)) (G_law_on : OkF P w K mg base CX0 2 (He.ga K "_law_on") ["_law_machine_here", "_law_kinds", "_law_ways", "_law_wanted", "_law_barred"] (sp_law_on K)) : OkF P w K mg base CX0 3 (He.ga K "_law_looking") ["_law_machine_here", "_law_kinds", "_law_ways", "_law_wanted", "_law_barred"] (sp_law_looking K) := by
  obtain ⟨fd, F⟩ := T.d_law_looking
  exact ⟨⟨fd, F.ok sc_law_looking (fun _ _ _ _ h => S5.len h) (fun _ _ _ _ _ _ _ _ hr h => ⟨t_law_looking K, PSs.nox (dv_law_looking T G_law_far G_law_on hr), by obtain ⟨a0, a1, a2, a3, a4, rfl, h⟩ := S5.op h; exact rd_law_looking T h⟩), FunD.bindsN F fun _ _ _ _ _ _ us hl => match us, hl with | [_, _, _, _, _], _ => rfl⟩, F.kp⟩
theorem dv_law_is_int {P : Program} {w : World} {K : PySem.W.Frag} {mg : Str → Option Value} {base : Heap} (T : Txt K mg)  {f : Addr} {cdv : Value} {A : Around} {outer : List Env} {s : Shared} {H : Hp} {E : XK} (hr : Room 0 (A.deeper (envOfC "_law_is_int" (defScope s_law_is_int) s.heap.objs.size f cdv))) :
    PSs (cxOf CX0 P w K mg base ["_law_thing"] "_law_is_int" (defScope s_law_is_int) f cdv A outer s H E).nox (defBody s_law_is_int) (t_law_is_int K) := by
  exact (pss_one (ps_ret (pe_and (pe_callB call_isi (by rfl) T.f_isinstance (by decide +kernel) (pa_cons (pv 0) (pa_cons (pe_bltn (v := .ty "int") rfl T.f_int (by decide +kernel) rfl) pa_nil))) (pe_one (pe_not (pe_callB call_isi (by rfl) T.f_isinstance (by decide +kernel) (pa_cons (pv 0) (pa_cons (pe_bltn (v := .ty "bool") rfl T.f_bool (by decide +kernel) rfl) pa_nil))))))))
theorem ok_law_is_int {P : Program} {w : World} {K : PySem.W.Frag} {mg : Str → Option Value} {base : Heap} (T : Txt K mg)  : OkF P w K mg base CX0 1 (He.ga K "_law_is_int") ["_law_thing"] (sp_law_is_int K) := by
  obtain ⟨fd, F⟩ := T.d_law_is_int
  exact ⟨⟨fd, F.ok sc_law_is_int (fun _ _ _ _ h => S1.len h) (fun _ _ _ _ _ _ _ _ hr h => ⟨t_law_is_int K, PSs.nox (dv_law_is_int T  hr), by obtain ⟨a0, rfl, h⟩ := S1.op h; exact rd_law_is_int T h⟩), FunD.bindsN F fun _ _ _ _ _ _ us hl => match us, hl with | [_], _ => rfl⟩, F.kp⟩
theorem dv_law_is_index {P : Program} {w : World} {K : PySem.W.Frag} {mg : Str → Option Value} {base : Heap} (T : Txt K mg) (G_law_is_int : OkF P w K mg base CX0 1 (He.ga K "_law_is_int") ["_law_thing"] (sp_law_is_int K)) {f : Addr} {cdv : Value} {A : Around} {outer : List Env} {s : Shared} {H : Hp} {E : XK} (hr : Room 1 (A.deeper (envOfC "_law_is_index" (defScope s_law_is_index) s.heap.objs.size f cdv))) :
    PSs (cxOf CX0 P w K mg base ["_law_thing", "_law_many"] "_law_is_index" (defScope s_law_is_index) f cdv A outer s H E).nox (defBody s_law_is_index) (t_law_is_index K) := by
  exact (pss_one (ps_ret (pe_and (pe_callG G_law_is_int (hr.mono (by decide)) rfl T.g__law_is_int pass0 (pa_cons (pv 0) pa_nil)) (pe_one (pe_chain op_le op_lt pe_int (pv 0) (pv 1))))))
theorem ok_law_is_index {P : Program} {w : World} {K : PySem.W.Frag} {mg : Str → Option Value} {base : Heap} (T : Txt K mg) (G_law_is_int : OkF P w K mg base CX0 1 (He.ga K "_law_is_int") ["_law_thing"] (sp_law_is_int K)) : OkF P w K mg base CX0 2 (He.ga K "_law_is_index") ["_law_thing", "_law_many"] (sp_law_is_index K) := by
  obtain ⟨fd, F⟩ := T.d_law_is_index
  exact ⟨⟨fd, F.ok sc_law_is_index (fun _ _ _ _ h => S2.len h) (fun _ _ _ _ _ _ _ _ hr h => ⟨t_law_is_index K, PSs.nox (dv_law_is_index T G_law_is_int hr), by obtain ⟨a0, a1, rfl, h⟩ := S2.op h; exact rd_law_is_index T h⟩), FunD.bindsN F fun _ _ _ _ _ _ us hl => match us, hl with | [_, _], _ => rfl⟩, F.kp⟩
theorem dv_law_is_lot {P : Program} {w : World} {K : PySem.W.Frag} {mg : Str → Option Value} {base : Heap} (T : Txt K mg) (G_law_is_index : OkF P w K mg base CX0 2 (He.ga K "_law_is_index") ["_law_thing", "_law_many"] (sp_law_is_index K)) {f : Addr} {cdv : Value} {A : Around} {outer : List Env} {s : Shared} {H : Hp} {E : XK} (hr : Room 2 (A.deeper (envOfC "_law_is_lot" (defScope s_law_is_lot) s.heap.objs.size f cdv))) :
    PSs (cxOf CX0 P w K mg base ["_law_thing", "_law_many", "_law_one", "_law_other", "_law_item"] "_law_is_lot" (defScope s_law_is_lot) f cdv A outer s H E).nox (defBody s_law_is_lot) (t_law_is_lot K) := by
  exact (pss_cons (ps_if (PW.pt (pw_or (pt_not (pt_val (pe_callB call_isi (by rfl) T.f_isinstance (by decide +kernel) (pa_cons (pv 0) (pa_cons (pe_bltn (v := .ty "tuple") rfl T.f_tuple (by decide +kernel) rfl) pa_nil))))) (pw_or1 (pt_not (pt_val (pe_callB (cr_all rfl) (by rfl) T.f_all (by decide +kernel) (pa_cons (pe_lc (own := [("_law_item", 4)]) (wi := (iTup K (tVar 0))) (g := (gName 4)) (tt := tYes) (te := (tCall (sp_law_is_index K) [] E0 (tCons (tVar 4) (tCons (tVar 1) tNil)))) rfl sc_law_is_lot.nd (pi_tup (pv 0)) (blkOk_by (N := ["_law_thing", "_law_many", "_law_one", "_law_other", "_law_item"]) (sc := defScope s_law_is_lot) (own := [("_law_item", 4)]) (by decide +kernel)) (fun _ _ _ _ _ => (pg_name (i := 4) sc_law_is_lot.nd rfl (Or.inl rfl))) (fun _ _ _ _ _ => pts_nil) (fun _ _ _ _ _ => (pe_callG G_law_is_index (hr.mono (by decide)) rfl T.g__law_is_index pass0 (pa_cons (pv 4) (pa_cons (pv 1) pa_nil))))) pa_nil))))))) (pss_one (ps_ret pe_bl)) pss_nil)
    (pss_one (ps_ret (pe_callB (cr_all rfl) (by rfl) T.f_all (by decide +kernel) (pa_cons (pe_lc (own := [("_law_one", 2), ("_law_other", 3)]) (wi := (RZ.iZipA K (tCons (tVar 0) (tCons (tSl (rSlA K) (tVar 0) (tPart (tC (.int 1))) tNoPart) tNil)))) (g := (gTup K 2 (gCons (gName 2) (gCons (gName 3) gNil)))) (tt := tYes) (te := (tOp rLtI (tVar 2) (tVar 3))) rfl sc_law_is_lot.nd (RZ.pi_zipA (by rfl) T.f_zip (pa_cons (pv 0) (pa_cons (pe_slice sl_tupA (pv 0) (po_some pe_int) po_none) pa_nil))) (blkOk_by (N := ["_law_thing", "_law_many", "_law_one", "_law_other", "_law_item"]) (sc := defScope s_law_is_lot) (own := [("_law_one", 2), ("_law_other", 3)]) (by decide +kernel)) (fun _ _ _ _ _ => (pg_tup (by rfl) (pgs_cons (pg_name (i := 2) sc_law_is_lot.nd rfl (Or.inl rfl)) (pgs_cons (pg_name (i := 3) sc_law_is_lot.nd rfl (Or.inl rfl)) pgs_nil)))) (fun _ _ _ _ _ => pts_nil) (fun _ _ _ _ _ => (pe_cmpR op_lt (pv 2) (pv 3) (nomark _)))) pa_nil)))))
theorem ok_law_is_lot {P : Program} {w : World} {K : PySem.W.Frag} {mg : Str → Option Value} {base : Heap} (T : Txt K mg) (G_law_is_index : OkF P w K mg base CX0 2 (He.ga K "_law_is_index") ["_law_thing", "_law_many"] (sp_law_is_index K)) : OkF P w K mg base CX0 3 (He.ga K "_law_is_lot") ["_law_thing", "_law_many"] (sp_law_is_lot K) := by
  obtain ⟨fd, F⟩ := T.d_law_is_lot
  exact ⟨⟨fd, F.ok sc_law_is_lot (fun _ _ _ _ h => S2.len h) (fun _ _ _ _ _ _ _ _ hr h => ⟨t_law_is_lot K, PSs.nox (dv_law_is_lot T G_law_is_index hr), by obtain ⟨a0, a1, rfl, h⟩ := S2.op h; exact rd_law_is_lot T h⟩), FunD.bindsN F fun _ _ _ _ _ _ us hl => match us, hl with | [_, _], _ => rfl⟩, F.kp⟩
theorem dv_law_odd {P : Program} {w : World} {K : PySem.W.Frag} {mg : Str → Option Value} {base : Heap} (T : Txt K mg) (G_law_draw : OkF P w K mg base CX0 1 (He.ga K "_law_draw") ["_law_hand_here", "_law_many"] (sp_law_draw K)) (G_law_is_int : OkF P w K mg base CX0 1 (He.ga K "_law_is_int") ["_law_thing"] (sp_law_is_int K)) {f : Addr} {cdv : Value} {A : Around} {outer : List Env} {s : Shared} {H : Hp} {E : XK} (hr : Room 1 (A.deeper (envOfC "_law_odd" (defScope s_law_odd) s.heap.objs.size f cdv))) :
    PSs (cxOf CX0 P w K mg base ["_law_hand_here", "_law_good", "_law_way"] "_law_odd" (defScope s_law_odd) f cdv A outer s H E).nox (defBody s_law_odd) (t_law_odd K) := by
  exact (pss_cons (ps_set (i := 2) sc_law_odd.nd rfl (Or.inl rfl) (pe_callG G_law_draw (hr.mono (by decide)) rfl T.g__law_draw pass0 (pa_cons (pv 0) (pa_cons pe_int pa_nil))))
    (pss_cons (ps_if (PW.pt (pw_and (pt_cmpR op_lt (pv 2) pe_int (nomark _)) (pw_and1 (pt_val (pe_callB call_isi (by rfl) T.f_isinstance (by decide +kernel) (pa_cons (pv 1) (pa_cons (pe_bltn (v := .ty "tuple") rfl T.f_tuple (by decide +kernel) rfl) pa_nil))))))) (pss_one (ps_ret (pe_ix ix_list (pe_lst (pa_cons (pe_slice sl_tupA (pv 1) (po_some pe_int) po_none) (pa_cons (pe_op op_catA (pv 1) (pe_slice sl_tupA (pv 1) (po_some (pe_un un_neg pe_int)) po_none)) (pa_cons (pe_revT (pv 1)) (pa_cons (pe_callTy call_list_of (by rfl) T.f_list (by decide +kernel) (pa_cons (pv 1) pa_nil)) (pa_cons (pe_op op_catA (pv 1) (pe_tup (pa_cons pe_int pa_nil))) (pa_cons (pe_slice sl_tupA (pv 1) po_none (po_some (pe_un un_neg pe_int))) pa_nil))))))) (pv 2) (fun _ _ => rfl)))) pss_nil)
    (pss_cons (ps_if (PW.pt (pw_and (pt_cmpR op_lt (pv 2) pe_int (nomark _)) (pw_and1 (pt_val (pe_callG G_law_is_int (hr.mono (by decide)) rfl T.g__law_is_int pass0 (pa_cons (pv 1) pa_nil)))))) (pss_one (ps_ret (pe_ix ix_list (pe_lst (pa_cons (pe_op op_add (pv 1) pe_int) (pa_cons (pe_op op_sub (pv 1) pe_int) (pa_cons (pe_op op_add (pv 1) (pe_op op_pow pe_int pe_int)) (pa_cons (pe_un un_neg (pv 1)) (pa_cons (pe_callTy call_bool1 (by rfl) T.f_bool (by decide +kernel) (pa_cons (pv 1) pa_nil)) (pa_cons (pe_callTy call_str_int (by rfl) T.f_str (by decide +kernel) (pa_cons (pv 1) pa_nil)) pa_nil))))))) (pv 2) (fun _ _ => rfl)))) pss_nil)
    (pss_one (ps_ret (pe_ix ix_list (pe_lst (pa_cons pe_non (pa_cons pe_bl (pa_cons pe_bl (pa_cons (pe_un un_neg pe_int) (pa_cons (pe_tup pa_nil) (pa_cons pe_str (pa_cons (pe_lst pa_nil) (pa_cons pe_dnewK (pa_cons (pe_tup (pa_cons pe_int pa_nil)) (pa_cons (pe_op op_pow pe_int pe_int) (pa_cons (pe_tup (pa_cons (pe_tup (pa_cons pe_int pa_nil)) pa_nil)) (pa_cons (pe_tup (pa_cons pe_non pa_nil)) pa_nil))))))))))))) (pv 2) (fun _ _ => rfl)))))))
theorem ok_law_odd {P : Program} {w : World} {K : PySem.W.Frag} {mg : Str → Option Value} {base : Heap} (T : Txt K mg) (G_law_draw : OkF P w K mg base CX0 1 (He.ga K "_law_draw") ["_law_hand_here", "_law_many"] (sp_law_draw K)) (G_law_is_int : OkF P w K mg base CX0 1 (He.ga K "_law_is_int") ["_law_thing"] (sp_law_is_int K)) : OkF P w K mg base CX0 2 (He.ga K "_law_odd") ["_law_hand_here", "_law_good"] (sp_law_odd K) := by
  obtain ⟨fd, F⟩ := T.d_law_odd
  exact ⟨⟨fd, F.ok sc_law_odd (fun _ _ _ _ h => S2.len h) (fun _ _ _ _ _ _ _ _ hr h => ⟨t_law_odd K, PSs.nox (dv_law_odd T G_law_draw G_law_is_int hr), by obtain ⟨a0, a1, rfl, h⟩ := S2.op h; exact rd_law_odd T h⟩), FunD.bindsN F fun _ _ _ _ _ _ us hl => match us, hl with | [_, _], _ => rfl⟩, F.kp⟩
theorem dv_law_spoiled0 {P : Program} {w : World} {K : PySem.W.Frag} {mg : Str → Option Value} {base : Heap} (T : Txt K mg) (G_law_draw : OkF P w K mg base CX0 1 (He.ga K "_law_draw") ["_law_hand_here", "_law_many"] (sp_law_draw K)) (G_law_odd : OkF P w K mg base CX0 2 (He.ga K "_law_odd") ["_law_hand_here", "_law_good"] (sp_law_odd K)) {f : Addr} {cdv : Value} {A : Around} {outer : List Env} {s : Shared} {H : Hp} {E : XK} (hr : Room 2 (A.deeper (envOfC "_law_spoiled" (defScope s_law_spoiled) s.heap.objs.size f cdv))) :
    PSs (cxOf CX0 P w K mg base ["_law_hand_here", "_law_thing", "_law_deep", "_law_at"] "_law_spoiled" (defScope s_law_spoiled) f cdv A outer s H E).nox (defBody s_law_spoiled) (t_law_spoiled0 K) := by
  exact (pss_cons (ps_if (PW.pt (pw_and (pt_val (pe_callB call_isi (by rfl) T.f_isinstance (by decide +kernel) (pa_cons (pv 1) (pa_cons (pe_bltn (v := .ty "tuple") rfl T.f_tuple (by decide +kernel) rfl) pa_nil)))) (pw_and (pt_cmpR op_gt (pe_callB call_len_seq (by rfl) T.f_len (by decide +kernel) (pa_cons (pv 1) pa_nil)) pe_int (nomark _)) (pw_and (pt_cmpR op_gt (pv 2) pe_int (nomark _)) (pw_and1 (pt_cmpR op_gt (pe_callG G_law_draw (hr.mono (by decide)) rfl T.g__law_draw pass0 (pa_cons (pv 0) (pa_cons pe_int pa_nil))) pe_int (nomark _))))))) pss_never pss_nil)
    (pss_one (ps_ret (pe_callG G_law_odd (hr.mono (by decide)) rfl T.g__law_odd pass0 (pa_cons (pv 0) (pa_cons (pv 1) pa_nil))))))
theorem ok_law_spoiled0 {P : Program} {w : World} {K : PySem.W.Frag} {mg : Str → Option Value} {base : Heap} (T : Txt K mg) (G_law_draw : OkF P w K mg base CX0 1 (He.ga K "_law_draw") ["_law_hand_here", "_law_many"] (sp_law_draw K)) (G_law_odd : OkF P w K mg base CX0 2 (He.ga K "_law_odd") ["_law_hand_here", "_law_good"] (sp_law_odd K)) : OkF P w K mg base CX0 3 (He.ga K "_law_spoiled") ["_law_hand_here", "_law_thing", "_law_deep"] (sp_law_spoiled0 K) := by
  obtain ⟨fd, F⟩ := T.d_law_spoiled
  exact ⟨⟨fd, F.ok sc_law_spoiled0 (fun _ _ _ _ h => S3.len h) (fun _ _ _ _ _ _ _ _ hr h => ⟨t_law_spoiled0 K, PSs.nox (dv_law_spoiled0 T G_law_draw G_law_odd hr), by obtain ⟨a0, a1, a2, rfl, h⟩ := S3.op h; exact rd_law_spoiled0 T h⟩), FunD.bindsN F fun _ _ _ _ _ _ us hl => match us, hl with | [_, _, _], _ => rfl⟩, F.kp⟩
theorem dv_law_spoiled {P : Program} {w : World} {K : PySem.W.Frag} {mg : Str → Option Value} {base : Heap} (T : Txt K mg) (G_law_draw : OkF P w K mg base CX0 1 (He.ga K "_law_draw") ["_law_hand_here", "_law_many"] (sp_law_draw K)) (G_law_odd : OkF P w K mg base CX0 2 (He.ga K "_law_odd") ["_law_hand_here", "_law_good"] (sp_law_odd K)) (G_law_spoiled0 : OkF P w K mg base CX0 3 (He.ga K "_law_spoiled") ["_law_hand_here", "_law_thing", "_law_deep"] (sp_law_spoiled0 K)) {f : Addr} {cdv : Value} {A : Around} {outer : List Env} {s : Shared} {H : Hp} {E : XK} (hr : Room 3 (A.deeper (envOfC "_law_spoiled" (defScope s_law_spoiled) s.heap.objs.size f cdv))) :
    PSs (cxOf CX0 P w K mg base ["_law_hand_here", "_law_thing", "_law_deep", "_law_at"] "_law_spoiled" (defScope s_law_spoiled) f cdv A outer s H E).nox (defBody s_law_spoiled) (t_law_spoiled K) := by
  exact (pss_cons (ps_if (PW.pt (pw_and (pt_val (pe_callB call_isi (by rfl) T.f_isinstance (by decide +kernel) (pa_cons (pv 1) (pa_cons (pe_bltn (v := .ty "tuple") rfl T.f_tuple (by decide +kernel) rfl) pa_nil)))) (pw_and (pt_cmpR op_gt (pe_callB call_len_seq (by rfl) T.f_len (by decide +kernel) (pa_cons (pv 1) pa_nil)) pe_int (nomark _)) (pw_and (pt_cmpR op_gt (pv 2) pe_int (nomark _)) (pw_and1 (pt_cmpR op_gt (pe_callG G_law_draw (hr.mono (by decide)) rfl T.g__law_draw pass0 (pa_cons (pv 0) (pa_cons pe_int pa_nil))) pe_int (nomark _))))))) (pss_cons (ps_set (i := 3) sc_law_spoiled.nd rfl (Or.inl rfl) (pe_callG G_law_draw (hr.mono (by decide)) rfl T.g__law_draw pass0 (pa_cons (pv 0) (pa_cons (pe_callB call_len_seq (by rfl) T.f_len (by decide +kernel) (pa_cons (pv 1) pa_nil)) pa_nil))))
    (pss_one (ps_ret (pe_op op_catA (pe_op op_catA (pe_slice sl_tupA (pv 1) po_none (po_some (pv 3))) (pe_tup (pa_cons (pe_callG G_law_spoiled0 (hr.mono (by decide)) rfl T.g__law_spoiled pass0 (pa_cons (pv 0) (pa_cons (pe_ix ix_tup (pv 1) (pv 3) (fun _ _ => rfl)) (pa_cons (pe_op op_sub (pv 2) pe_int) pa_nil)))) pa_nil))) (pe_slice sl_tupA (pv 1) (po_some (pe_op op_add (pv 3) pe_int)) po_none))))) pss_nil)
    (pss_one (ps_ret (pe_callG G_law_odd (hr.mono (by decide)) rfl T.g__law_odd pass0 (pa_cons (pv 0) (pa_cons (pv 1) pa_nil))))))
theorem ok_law_spoiled {P : Program} {w : World} {K : PySem.W.Frag} {mg : Str → Option Value} {base : Heap} (T : Txt K mg) (G_law_draw : OkF P w K mg base CX0 1 (He.ga K "_law_draw") ["_law_hand_here", "_law_many"] (sp_law_draw K)) (G_law_odd : OkF P w K mg base CX0 2 (He.ga K "_law_odd") ["_law_hand_here", "_law_good"] (sp_law_odd K)) (G_law_spoiled0 : OkF P w K mg base CX0 3 (He.ga K "_law_spoiled") ["_law_hand_here", "_law_thing", "_law_deep"] (sp_law_spoiled0 K)) : OkF P w K mg base CX0 4 (He.ga K "_law_spoiled") ["_law_hand_here", "_law_thing", "_law_deep"] (sp_law_spoiled K) := by
  obtain ⟨fd, F⟩ := T.d_law_spoiled
  exact ⟨⟨fd, F.ok sc_law_spoiled (fun _ _ _ _ h => S3.len h) (fun _ _ _ _ _ _ _ _ hr h => ⟨t_law_spoiled K, PSs.nox (dv_law_spoiled T G_law_draw G_law_odd G_law_spoiled0 hr), by obtain ⟨a0, a1, a2, rfl, h⟩ := S3.op h; exact rd_law_spoiled T h⟩), FunD.bindsN F fun _ _ _ _ _ _ us hl => match us, hl with | [_, _, _], _ => rfl⟩, F.kp⟩
theorem dv_law_ahead_rules {P : Program} {w : World} {K : PySem.W.Frag} {mg : Str → Option Value} {base : Heap} (T : Txt K mg)  {f : Addr} {cdv : Value} {A : Around} {outer : List Env} {s : Shared} {H : Hp} {E : XK} (hr : Room 0 (A.deeper (envOfC "_law_ahead_rules" (defScope s_law_ahead_rules) s.heap.objs.size f cdv))) :
    PSs (cxOf CX0 P w K mg base ["_law_exits_here", "_law_machine_here", "_law_wanted", "_law_barred", "_law_many", "_law_steps_here", "_law_starts_here", "_law_rules", "_law_kind", "_law_k", "_law_old", "_law_new", "_law_state"] "_law_ahead_rules" (defScope s_law_ahead_rules) f cdv A outer s H E).nox (defBody s_law_ahead_rules) (t_law_ahead_rules K) := by
  exact (pss_cons (ps_asg (pv 1) (pg_tup (by rfl) (pgs_cons (pg_name (i := 4) sc_law_ahead_rules.nd rfl (Or.inr rfl)) (pgs_cons (pg_name (i := 5) sc_law_ahead_rules.nd rfl (Or.inl rfl)) (pgs_cons (pg_name (i := 6) sc_law_ahead_rules.nd rfl (Or.inl rfl)) pgs_nil)))))
    (pss_cons (ps_set (i := 7) sc_law_ahead_rules.nd rfl (Or.inl rfl) (pe_lst pa_nil))
    (pss_cons (ps_for PassesOwn.never rfl (pi_range1 rfl T.f_range (pa_cons (pe_callB call_len_seq (by rfl) T.f_len (by decide +kernel) (pa_cons (pv 0) pa_nil)) pa_nil)) (pg_name (i := 8) sc_law_ahead_rules.nd rfl (Or.inr rfl)) (pss_one (ps_expr (pe_bm PySem.F.plainAttrs_list PySem.F.slot_list_extend PySem.F.type_list_extend mt_extend (pv 7) (pa_cons (pe_lc (own := [("_law_state", 12)]) (wi := (iTup K (tOp (rIxT K) (tVar 6) (tVar 8)))) (g := (gName 12)) (tt := tYes) (te := (tTup (tCons (tC (.str "here")) (tCons (tVar 8) (tCons (tTup tNil) (tCons (tVar 12) tNil)))))) rfl sc_law_ahead_rules.nd (pi_tup (pe_ix ix_tup (pv 6) (pv 8) (fun _ _ => rfl))) (blkOk_by (N := ["_law_exits_here", "_law_machine_here", "_law_wanted", "_law_barred", "_law_many", "_law_steps_here", "_law_starts_here", "_law_rules", "_law_kind", "_law_k", "_law_old", "_law_new", "_law_state"]) (sc := defScope s_law_ahead_rules) (own := [("_law_state", 12)]) (by decide +kernel)) (fun _ _ _ _ _ => (pg_name (i := 12) sc_law_ahead_rules.nd rfl (Or.inl rfl))) (fun _ _ _ _ _ => pts_nil) (fun _ _ _ _ _ => (pe_tup (pa_cons pe_str (pa_cons (pv 8) (pa_cons (pe_tup pa_nil) (pa_cons (pv 12) pa_nil))))))) pa_nil)))))
    (pss_cons (ps_for PassesOwn.never rfl (pi_range1 rfl T.f_range (pa_cons (pe_callB call_len_seq (by rfl) T.f_len (by decide +kernel) (pa_cons (pv 0) pa_nil)) pa_nil)) (pg_name (i := 8) sc_law_ahead_rules.nd rfl (Or.inr rfl)) (pss_one (ps_for PassesOwn.never rfl (pi_range1 rfl T.f_range (pa_cons (pe_ix ix_tup (pv 0) (pv 8) (fun _ _ => rfl)) pa_nil)) (pg_name (i := 9) sc_law_ahead_rules.nd rfl (Or.inr rfl)) (pss_one (ps_expr (pe_bm PySem.F.plainAttrs_list PySem.F.slot_list_extend PySem.F.type_list_extend mt_extend (pv 7) (pa_cons (pe_lc (own := [("_law_old", 10), ("_law_new", 11)]) (wi := (iTup K (tOp (rIxT K) (tOp (rIxT K) (tVar 5) (tVar 8)) (tVar 9)))) (g := (gTup K 2 (gCons (gName 10) (gCons (gName 11) gNil)))) (tt := tYes) (te := (tTup (tCons (tC (.str "way")) (tCons (tVar 8) (tCons (tVar 9) (tCons (tTup (tCons (tVar 10) tNil)) (tCons (tTup tNil) (tCons (tC (.str "far")) (tCons (tVar 11) tNil))))))))) rfl sc_law_ahead_rules.nd (pi_tup (pe_ix ix_tup (pe_ix ix_tup (pv 5) (pv 8) (fun _ _ => rfl)) (pv 9) (fun _ _ => rfl))) (blkOk_by (N := ["_law_exits_here", "_law_machine_here", "_law_wanted", "_law_barred", "_law_many", "_law_steps_here", "_law_starts_here", "_law_rules", "_law_kind", "_law_k", "_law_old", "_law_new", "_law_state"]) (sc := defScope s_law_ahead_rules) (own := [("_law_old", 10), ("_law_new", 11)]) (by decide +kernel)) (fun _ _ _ _ _ => (pg_tup (by rfl) (pgs_cons (pg_name (i := 10) sc_law_ahead_rules.nd rfl (Or.inl rfl)) (pgs_cons (pg_name (i := 11) sc_law_ahead_rules.nd rfl (Or.inl rfl)) pgs_nil)))) (fun _ _ _ _ _ => pts_nil) (fun _ _ _ _ _ => (pe_tup (pa_cons pe_str (pa_cons (pv 8) (pa_cons (pv 9) (pa_cons (pe_tup (pa_cons (pv 10) pa_nil)) (pa_cons (pe_tup pa_nil) (pa_cons pe_str (pa_cons (pv 11) pa_nil)))))))))) pa_nil)))))))
    (pss_cons (ps_expr (pe_bm PySem.F.plainAttrs_list PySem.F.slot_list_extend PySem.F.type_list_extend mt_extend (pv 7) (pa_cons (pe_lc (own := [("_law_kind", 8)]) (wi := (iTup K (tVar 2))) (g := (gName 8)) (tt := tYes) (te := (tTup (tCons (tC (.str "here")) (tCons (tVar 8) (tCons (tTup tNil) (tCons (tOp rMulI (tC (.int 2)) (tVar 4)) tNil)))))) rfl sc_law_ahead_rules.nd (pi_tup (pv 2)) (blkOk_by (N := ["_law_exits_here", "_law_machine_here", "_law_wanted", "_law_barred", "_law_many", "_law_steps_here", "_law_starts_here", "_law_rules", "_law_kind", "_law_k", "_law_old", "_law_new", "_law_state"]) (sc := defScope s_law_ahead_rules) (own := [("_law_kind", 8)]) (by decide +kernel)) (fun _ _ _ _ _ => (pg_name (i := 8) sc_law_ahead_rules.nd rfl (Or.inl rfl))) (fun _ _ _ _ _ => pts_nil) (fun _ _ _ _ _ => (pe_tup (pa_cons pe_str (pa_cons (pv 8) (pa_cons (pe_tup pa_nil) (pa_cons (pe_op op_mul pe_int (pv 4)) pa_nil))))))) pa_nil)))
    (pss_cons (ps_for PassesOwn.never rfl (pi_range1 rfl T.f_range (pa_cons (pe_callB call_len_seq (by rfl) T.f_len (by decide +kernel) (pa_cons (pv 0) pa_nil)) pa_nil)) (pg_name (i := 8) sc_law_ahead_rules.nd rfl (Or.inr rfl)) (pss_one (ps_if (pt_cmpR op_notIn_seq (pv 8) (pv 3) (by rfl)) (pss_one (ps_expr (pe_bm PySem.F.plainAttrs_list PySem.F.slot_list_extend PySem.F.type_list_extend mt_extend (pv 7) (pa_cons (pe_lc (own := [("_law_state", 12)]) (wi := (iRng1 (tCons (tVar 4) tNil))) (g := (gName 12)) (tt := tYes) (te := (tTup (tCons (tC (.str "here")) (tCons (tVar 8) (tCons (tTup (tCons (tOp rAddI (tVar 4) (tVar 12)) tNil)) (tCons (tOp rAddI (tOp rAddI (tOp rMulI (tC (.int 2)) (tVar 4)) (tC (.int 1))) (tVar 12)) tNil)))))) rfl sc_law_ahead_rules.nd (pi_range1 rfl T.f_range (pa_cons (pv 4) pa_nil)) (blkOk_by (N := ["_law_exits_here", "_law_machine_here", "_law_wanted", "_law_barred", "_law_many", "_law_steps_here", "_law_starts_here", "_law_rules", "_law_kind", "_law_k", "_law_old", "_law_new", "_law_state"]) (sc := defScope s_law_ahead_rules) (own := [("_law_state", 12)]) (by decide +kernel)) (fun _ _ _ _ _ => (pg_name (i := 12) sc_law_ahead_rules.nd rfl (Or.inl rfl))) (fun _ _ _ _ _ => pts_nil) (fun _ _ _ _ _ => (pe_tup (pa_cons pe_str (pa_cons (pv 8) (pa_cons (pe_tup (pa_cons (pe_op op_add (pv 4) (pv 12)) pa_nil)) (pa_cons (pe_op op_add (pe_op op_add (pe_op op_mul pe_int (pv 4)) pe_int) (pv 12)) pa_nil))))))) pa_nil)))) pss_nil)))
    (pss_cons (ps_for PassesOwn.never rfl (pi_range1 rfl T.f_range (pa_cons (pe_callB call_len_seq (by rfl) T.f_len (by decide +kernel) (pa_cons (pv 0) pa_nil)) pa_nil)) (pg_name (i := 8) sc_law_ahead_rules.nd rfl (Or.inr rfl)) (pss_one (ps_for PassesOwn.never rfl (pi_range1 rfl T.f_range (pa_cons (pe_ix ix_tup (pv 0) (pv 8) (fun _ _ => rfl)) pa_nil)) (pg_name (i := 9) sc_law_ahead_rules.nd rfl (Or.inr rfl)) (pss_one (ps_for PassesOwn.never rfl (pi_tup (pe_ix ix_tup (pe_ix ix_tup (pv 5) (pv 8) (fun _ _ => rfl)) (pv 9) (fun _ _ => rfl))) (pg_tup (by rfl) (pgs_cons (pg_name (i := 10) sc_law_ahead_rules.nd rfl (Or.inl rfl)) (pgs_cons (pg_name (i := 11) sc_law_ahead_rules.nd rfl (Or.inl rfl)) pgs_nil))) (pss_cons (ps_expr (pe_bm PySem.F.plainAttrs_list PySem.F.slot_list_append PySem.F.type_list_append mt_append (pv 7) (pa_cons (pe_tup (pa_cons pe_str (pa_cons (pv 8) (pa_cons (pv 9) (pa_cons (pe_tup pa_nil) (pa_cons (pe_tup (pa_cons (pe_op op_mul pe_int (pv 4)) pa_nil)) (pa_cons pe_str (pa_cons (pe_op op_add (pv 4) (pv 10)) pa_nil)))))))) pa_nil)))
    (pss_one (ps_expr (pe_bm PySem.F.plainAttrs_list PySem.F.slot_list_append PySem.F.type_list_append mt_append (pv 7) (pa_cons (pe_tup (pa_cons pe_str (pa_cons (pv 8) (pa_cons (pv 9) (pa_cons (pe_tup pa_nil) (pa_cons (pe_tup (pa_cons (pe_op op_add (pe_op op_add (pe_op op_mul pe_int (pv 4)) pe_int) (pv 11)) pa_nil)) (pa_cons pe_str (pa_cons (pe_op op_add (pv 4) (pv 10)) pa_nil)))))))) pa_nil))))))))))
    (pss_one (ps_ret (pe_callTy call_tuple_of (by rfl) T.f_tuple (by decide +kernel) (pa_cons (pv 7) pa_nil)))))))))))
theorem ok_law_ahead_rules {P : Program} {w : World} {K : PySem.W.Frag} {mg : Str → Option Value} {base : Heap} (T : Txt K mg)  : OkF P w K mg base CX0 1 (He.ga K "_law_ahead_rules") ["_law_exits_here", "_law_machine_here", "_law_wanted", "_law_barred"] (sp_law_ahead_rules K) := by
  obtain ⟨fd, F⟩ := T.d_law_ahead_rules
  exact ⟨⟨fd, F.ok sc_law_ahead_rules (fun _ _ _ _ h => S4.len h) (fun _ _ _ _ _ _ _ _ hr h => ⟨t_law_ahead_rules K, PSs.nox (dv_law_ahead_rules T  hr), by obtain ⟨a0, a1, a2, a3, rfl, h⟩ := S4.op h; exact rd_law_ahead_rules T h⟩), FunD.bindsN F fun _ _ _ _ _ _ us hl => match us, hl with | [_, _, _, _], _ => rfl⟩, F.kp⟩
theorem dv_law_refused {P : Program} {w : World} {K : PySem.W.Frag} {mg : Str → Option Value} {base : Heap} (T : Txt K mg) (G_ahead_book : OkF P w K mg base (L2.CX P w) 7 (He.ga K "ahead_book") ["machine", "wanted", "barred"] (sp_ahead_book K)) (G_looks_on : OkF P w K mg base (L2.CX P w) 7 (He.ga K "looks_on") ["machine", "program", "wanted", "barred"] (sp_looks_on K)) {f : Addr} {cdv : Value} {A : Around} {outer : List Env} {s : Shared} {H : Hp} {E : XK} (hr : Room 7 (A.deeper (envOfC "_law_refused" (defScope s_law_refused) s.heap.objs.size f cdv))) :
    PSs (cxOf CX0 P w K mg base ["_law_made", "_law_program_here", "_law_wanted", "_law_barred", "_law_first", "_law_second"] "_law_refused" (defScope s_law_refused) f cdv A outer s H E).nox (defBody s_law_refused) (t_law_refused K) := by
  exact (pss_cons (ps_try_only (tb := fun W => (tSeq (tDrop (tCallS (sp_ahead_book K) (WE W) (tCons (tVar 0) (tCons (tVar 2) (tCons (tVar 3) tNil)))))
    (tAsg (tC (.bl false)) (gName 4)))) (ts := fun _ _ _ => (tAsg (tC (.bl true)) (gName 4))) (Wout := fun _ _ _ _ => False) rfl rfl ⟨rfl, by decide, Or.inl T.g_NoKinds⟩ takes0 (fun W pn xe tk _ => (pss_cons (ps_expr (pe_callSG G_ahead_book (hr.mono (by decide)) rfl T.g_ahead_book (fun σ => passAt tk σ) (pa_cons (pv 0) (pa_cons (pv 2) (pa_cons (pv 3) pa_nil)))))
    (pss_one (ps_set (i := 4) sc_law_refused.nd rfl (Or.inl rfl) pe_bl)))) (fun a oe cls d pn hz hf => (pss_one (ps_set (i := 4) sc_law_refused.nd rfl (Or.inl rfl) pe_bl))))
    (pss_cons (ps_try_only (tb := fun W => (tSeq (tDrop (tCallS (sp_looks_on K) (WE W) (tCons (tVar 0) (tCons (tVar 1) (tCons (tVar 2) (tCons (tVar 3) tNil))))))
    (tAsg (tC (.bl false)) (gName 5)))) (ts := fun _ _ _ => (tAsg (tC (.bl true)) (gName 5))) (Wout := fun _ _ _ _ => False) rfl rfl ⟨rfl, by decide, Or.inl T.g_NoKinds⟩ takes0 (fun W pn xe tk _ => (pss_cons (ps_expr (pe_callSG G_looks_on (hr.mono (by decide)) rfl T.g_looks_on (fun σ => passAt tk σ) (pa_cons (pv 0) (pa_cons (pv 1) (pa_cons (pv 2) (pa_cons (pv 3) pa_nil))))))
    (pss_one (ps_set (i := 5) sc_law_refused.nd rfl (Or.inl rfl) pe_bl)))) (fun a oe cls d pn hz hf => (pss_one (ps_set (i := 5) sc_law_refused.nd rfl (Or.inl rfl) pe_bl))))
    (pss_one (ps_ret (pe_lst (pa_cons (pv 4) (pa_cons (pv 5) pa_nil)))))))
theorem ok_law_refused {P : Program} {w : World} {K : PySem.W.Frag} {mg : Str → Option Value} {base : Heap} (T : Txt K mg) (G_ahead_book : OkF P w K mg base (L2.CX P w) 7 (He.ga K "ahead_book") ["machine", "wanted", "barred"] (sp_ahead_book K)) (G_looks_on : OkF P w K mg base (L2.CX P w) 7 (He.ga K "looks_on") ["machine", "program", "wanted", "barred"] (sp_looks_on K)) : OkF P w K mg base CX0 8 (He.ga K "_law_refused") ["_law_made", "_law_program_here", "_law_wanted", "_law_barred"] (sp_law_refused K) := by
  obtain ⟨fd, F⟩ := T.d_law_refused
  exact ⟨⟨fd, F.ok sc_law_refused (fun _ _ _ _ h => S4.len h) (fun _ _ _ _ _ _ _ _ hr h => ⟨t_law_refused K, PSs.nox (dv_law_refused T G_ahead_book G_looks_on hr), by obtain ⟨a0, a1, a2, a3, rfl, h⟩ := S4.op h; exact rd_law_refused T h⟩), FunD.bindsN F fun _ _ _ _ _ _ us hl => match us, hl with | [_, _, _, _], _ => rfl⟩, F.kp⟩
theorem dv_law {P : Program} {w : World} {K : PySem.W.Frag} {mg : Str → Option Value} {base : Heap} (T : Txt K mg) (G_Bag_eq : OkF P w K mg base CX0 1 (He.ma K (He.ga K "Bag") "__eq__") ["self", "other"] (sp_Bag_eq K)) (G_Bag_init : OkF P w K mg base CX0 4 (He.ma K (He.ga K "Bag") "__init__") ["self", "exits"] (sp_Bag_init K)) (G_Machine_init : OkF P w K mg base CX0 6 (He.ma K (He.ga K "Machine") "__init__") ["self", "bag", "many", "steps", "starts"] (sp_Machine_init K)) (G_Program_init : OkF P w K mg base CX0 6 (He.ma K (He.ga K "Program") "__init__") ["self", "bag", "kinds", "ways"] (sp_Program_init K)) (G_RawBook_bag : OkF P w K mg base CX0 1 (He.ma K (He.ga K "RawBook") "bag") ["self"] (sp_RawBook_bag K)) (G_RawBook_owners : OkF P w K mg base CX0 1 (He.ma K (He.ga K "RawBook") "owners") ["self"] (sp_RawBook_owners K)) (G_RawBook_rewriters : OkF P w K mg base CX0 1 (He.ma K (He.ga K "RawBook") "rewriters") ["self"] (sp_RawBook_rewriters K)) (G_RawBook_rules : OkF P w K mg base CX0 1 (He.ma K (He.ga K "RawBook") "rules") ["self"] (sp_RawBook_rules K)) (G_law_ahead_rules : OkF P w K mg base CX0 1 (He.ga K "_law_ahead_rules") ["_law_exits_here", "_law_machine_here", "_law_wanted", "_law_barred"] (sp_law_ahead_rules K)) (G_law_draw : OkF P w K mg base CX0 1 (He.ga K "_law_draw") ["_law_hand_here", "_law_many"] (sp_law_draw K)) (G_law_exits : OkF P w K mg base CX0 2 (He.ga K "_law_exits") ["_law_hand_here", "_law_kinds", "_law_most"] (sp_law_exits K)) (G_law_hand : OkF P w K mg base CX0 1 (He.ga K "_law_hand") ["_law_script"] (sp_law_hand K)) (G_law_is_lot : OkF P w K mg base CX0 3 (He.ga K "_law_is_lot") ["_law_thing", "_law_many"] (sp_law_is_lot K)) (G_law_looking : OkF P w K mg base CX0 3 (He.ga K "_law_looking") ["_law_machine_here", "_law_kinds", "_law_ways", "_law_wanted", "_law_barred"] (sp_law_looking K)) (G_law_machine : OkF P w K mg base CX0 4 (He.ga K "_law_machine") ["_law_hand_here", "_law_exits_here", "_law_most"] (sp_law_machine K)) (G_law_program : OkF P w K mg base CX0 2 (He.ga K "_law_program") ["_law_hand_here", "_law_exits_here", "_law_most"] (sp_law_program K)) (G_law_refused : OkF P w K mg base CX0 8 (He.ga K "_law_refused") ["_law_made", "_law_program_here", "_law_wanted", "_law_barred"] (sp_law_refused K)) (G_law_some : OkF P w K mg base CX0 2 (He.ga K "_law_some") ["_law_hand_here", "_law_many", "_law_share"] (sp_law_some K)) (G_law_spoiled : OkF P w K mg base CX0 4 (He.ga K "_law_spoiled") ["_law_hand_here", "_law_thing", "_law_deep"] (sp_law_spoiled K)) (G_ahead_book : OkF P w K mg base (L2.CX P w) 7 (He.ga K "ahead_book") ["machine", "wanted", "barred"] (sp_ahead_book K)) (G_led : OkF P w K mg base CX0 9 (He.ga K "led") ["book", "program", "row"] (sp_led K)) (G_looks_on : OkF P w K mg base (L2.CX P w) 7 (He.ga K "looks_on") ["machine", "program", "wanted", "barred"] (sp_looks_on K)) {f : Addr} {cdv : Value} {A : Around} {outer : List Env} {s : Shared} {H : Hp} {E : XK} (hr : Room 9 (A.deeper (envOfC "law" (defScope s_law) s.heap.objs.size f cdv))) :
    PSs (cxOf CX0 P w K mg base ["_law_script", "_law_hand_here", "_law_exits_here", "_law_machine_here", "_law_wanted", "_law_barred", "_law_kinds", "_law_ways", "_law_bag", "_law_made", "_law_program_here", "_law_book", "_law_second", "_law_more", "_law_due", "_law_last", "_law_place", "_law_lot", "_law_turn", "_law_one", "_law_other", "_law_bad", "_law_state"] "law" (defScope s_law) f cdv A outer s H E).nox (defBody s_law) (t_law K) := by
  exact (pss_cons (ps_set (i := 1) sc_law.nd rfl (Or.inl rfl) (pe_callG G_law_hand (hr.mono (by decide)) rfl T.g__law_hand pass0 (pa_cons (pv 0) pa_nil)))
    (pss_cons (ps_set (i := 2) sc_law.nd rfl (Or.inl rfl) (pe_callG G_law_exits (hr.mono (by decide)) rfl T.g__law_exits pass0 (pa_cons (pv 1) (pa_cons pe_int (pa_cons pe_int pa_nil)))))
    (pss_cons (ps_set (i := 3) sc_law.nd rfl (Or.inr rfl) (pe_callG G_law_machine (hr.mono (by decide)) rfl T.g__law_machine pass0 (pa_cons (pv 1) (pa_cons (pv 2) (pa_cons pe_int pa_nil)))))
    (pss_cons (ps_set (i := 4) sc_law.nd rfl (Or.inl rfl) (pe_callG G_law_some (hr.mono (by decide)) rfl T.g__law_some pass0 (pa_cons (pv 1) (pa_cons (pe_callB call_len_seq (by rfl) T.f_len (by decide +kernel) (pa_cons (pv 2) pa_nil)) (pa_cons pe_int pa_nil)))))
    (pss_cons (ps_set (i := 5) sc_law.nd rfl (Or.inl rfl) (pe_callG G_law_some (hr.mono (by decide)) rfl T.g__law_some pass0 (pa_cons (pv 1) (pa_cons (pe_callB call_len_seq (by rfl) T.f_len (by decide +kernel) (pa_cons (pv 2) pa_nil)) (pa_cons pe_int pa_nil)))))
    (pss_cons (ps_asg (pe_callG G_law_program (hr.mono (by decide)) rfl T.g__law_program pass0 (pa_cons (pv 1) (pa_cons (pv 2) (pa_cons pe_int pa_nil)))) (pg_tup (by rfl) (pgs_cons (pg_name (i := 6) sc_law.nd rfl (Or.inl rfl)) (pgs_cons (pg_name (i := 7) sc_law.nd rfl (Or.inl rfl)) pgs_nil))))
    (pss_cons (ps_set (i := 8) sc_law.nd rfl (Or.inl rfl) (pe_makeG T.k_Bag G_Bag_init (hr.mono (by decide)) rfl T.g_Bag pass0 (pa_cons (pv 2) pa_nil)))
    (pss_cons (ps_set (i := 9) sc_law.nd rfl (Or.inl rfl) (pe_makeG T.k_Machine G_Machine_init (hr.mono (by decide)) rfl T.g_Machine pass0 (pa_cons (pv 8) (pa_cons (pe_ix ix_tup (pv 3) pe_int (fun _ _ => rfl)) (pa_cons (pe_ix ix_tup (pv 3) pe_int (fun _ _ => rfl)) (pa_cons (pe_ix ix_tup (pv 3) pe_int (fun _ _ => rfl)) pa_nil))))))
    (pss_cons (ps_set (i := 10) sc_law.nd rfl (Or.inl rfl) (pe_makeG T.k_Program G_Program_init (hr.mono (by decide)) rfl T.g_Program pass0 (pa_cons (pv 8) (pa_cons (pv 6) (pa_cons (pv 7) pa_nil)))))
    (pss_cons (ps_set (i := 11) sc_law.nd rfl (Or.inl rfl) (pe_callG G_ahead_book (hr.mono (by decide)) rfl T.g_ahead_book passL (pa_cons (pv 9) (pa_cons (pv 4) (pa_cons (pv 5) pa_nil)))))
    (pss_cons (ps_if (PW.pt (pw_or (pt_not (pt_val (pe_callB call_isi (by rfl) T.f_isinstance (by decide +kernel) (pa_cons (pv 11) (pa_cons (pe_glob (v := .ref (He.ga K "Book")) rfl T.g_Book rfl) pa_nil))))) (pw_or (pt_not (pt_cmpR (op_bagEq T G_Bag_eq (hr.mono (by decide))) (pe_methG0 (pv 11) T.c_RawBook T.m_RawBook_bag G_RawBook_bag (hr.mono (by decide)) pass0) (pv 8) (nomark _))) (pw_or1 (pt_cmpR (op_neD hr.units) (pe_methG0 (pv 11) T.c_RawBook T.m_RawBook_rewriters G_RawBook_rewriters (hr.mono (by decide)) pass0) (pe_tup pa_nil) (nomark _)))))) (pss_one (ps_ret pe_bl)) pss_nil)
    (pss_cons (ps_if (PW.pt (pw_or (pt_cmpR (op_neD hr.units) (pe_methG0 (pv 11) T.c_RawBook T.m_RawBook_owners G_RawBook_owners (hr.mono (by decide)) pass0) (pe_op op_repA (pe_tup (pa_cons pe_int pa_nil)) (pe_op op_add (pe_op op_mul pe_int (pe_ix ix_tup (pv 3) pe_int (fun _ _ => rfl))) pe_int)) (nomark _)) (pw_or1 (pt_cmpR (op_neD hr.units) (pe_methG0 (pv 11) T.c_RawBook T.m_RawBook_rules G_RawBook_rules (hr.mono (by decide)) pass0) (pe_callG G_law_ahead_rules (hr.mono (by decide)) rfl T.g__law_ahead_rules pass0 (pa_cons (pv 2) (pa_cons (pv 3) (pa_cons (pv 4) (pa_cons (pv 5) pa_nil))))) (nomark _))))) (pss_one (ps_ret pe_bl)) pss_nil)
    (pss_cons (ps_set (i := 12) sc_law.nd rfl (Or.inl rfl) (pe_lst (pa_cons (pe_callG G_law_some (hr.mono (by decide)) rfl T.g__law_some pass0 (pa_cons (pv 1) (pa_cons (pe_callB call_len_seq (by rfl) T.f_len (by decide +kernel) (pa_cons (pv 2) pa_nil)) (pa_cons pe_int pa_nil)))) (pa_cons (pe_callG G_law_some (hr.mono (by decide)) rfl T.g__law_some pass0 (pa_cons (pv 1) (pa_cons (pe_callB call_len_seq (by rfl) T.f_len (by decide +kernel) (pa_cons (pv 2) pa_nil)) (pa_cons pe_int pa_nil)))) pa_nil))))
    (pss_cons (ps_set (i := 13) sc_law.nd rfl (Or.inl rfl) (pe_callG G_ahead_book (hr.mono (by decide)) rfl T.g_ahead_book passL (pa_cons (pv 9) (pa_cons (pe_ix ix_list (pv 12) pe_int (fun _ _ => rfl)) (pa_cons (pe_ix ix_list (pv 12) pe_int (fun _ _ => rfl)) pa_nil)))))
    (pss_cons (ps_if (pt_cmpR (op_neD hr.units) (pe_methG0 (pv 13) T.c_RawBook T.m_RawBook_rules G_RawBook_rules (hr.mono (by decide)) pass0) (pe_callG G_law_ahead_rules (hr.mono (by decide)) rfl T.g__law_ahead_rules pass0 (pa_cons (pv 2) (pa_cons (pv 3) (pa_cons (pe_ix ix_list (pv 12) pe_int (fun _ _ => rfl)) (pa_cons (pe_ix ix_list (pv 12) pe_int (fun _ _ => rfl)) pa_nil))))) (nomark _)) (pss_one (ps_ret pe_bl)) pss_nil)
    (pss_cons (ps_if (pt_cmpR (op_neD hr.units) (pe_callG G_looks_on (hr.mono (by decide)) rfl T.g_looks_on passL (pa_cons (pv 9) (pa_cons (pv 10) (pa_cons (pe_ix ix_list (pv 12) pe_int (fun _ _ => rfl)) (pa_cons (pe_ix ix_list (pv 12) pe_int (fun _ _ => rfl)) pa_nil))))) (pe_callG G_law_looking (hr.mono (by decide)) rfl T.g__law_looking pass0 (pa_cons (pv 3) (pa_cons (pv 6) (pa_cons (pv 7) (pa_cons (pe_ix ix_list (pv 12) pe_int (fun _ _ => rfl)) (pa_cons (pe_ix ix_list (pv 12) pe_int (fun _ _ => rfl)) pa_nil)))))) (nomark _)) (pss_one (ps_ret pe_bl)) pss_nil)
    (pss_cons (ps_set (i := 14) sc_law.nd rfl (Or.inl rfl) (pe_callG G_law_looking (hr.mono (by decide)) rfl T.g__law_looking pass0 (pa_cons (pv 3) (pa_cons (pv 6) (pa_cons (pv 7) (pa_cons (pv 4) (pa_cons (pv 5) pa_nil)))))))
    (pss_cons (ps_if (pt_cmpR (op_neD hr.units) (pe_callG G_looks_on (hr.mono (by decide)) rfl T.g_looks_on passL (pa_cons (pv 9) (pa_cons (pv 10) (pa_cons (pv 4) (pa_cons (pv 5) pa_nil))))) (pv 14) (nomark _)) (pss_one (ps_ret pe_bl)) pss_nil)
    (pss_cons (ps_set (i := 15) sc_law.nd rfl (Or.inl rfl) (pe_ix ix_list (pe_callG G_led (hr.mono (by decide)) rfl T.g_led pass0 (pa_cons (pv 11) (pa_cons (pv 10) (pa_cons (pe_tup (pa_cons (pe_tup (pa_cons pe_str (pa_cons (pe_tup (pa_cons pe_int pa_nil)) pa_nil))) pa_nil)) pa_nil)))) (pe_un un_neg pe_int) (fun _ _ => rfl)))
    (pss_cons (ps_for PassesOwn.never rfl (pi_range1 rfl T.f_range (pa_cons (pe_callB call_len_seq (by rfl) T.f_len (by decide +kernel) (pa_cons (pv 6) pa_nil)) pa_nil)) (pg_name (i := 16) sc_law.nd rfl (Or.inl rfl)) (pss_cons (ps_set (i := 17) sc_law.nd rfl (Or.inr rfl) (pe_ix ix_tup (pe_ix ix_list (pv 15) (pv 16) (fun _ _ => rfl)) pe_int (fun _ _ => rfl)))
    (pss_one (ps_if (pt_cmpR op_ne (pe_callB (cr_any rfl) (by rfl) T.f_any (by decide +kernel) (pa_cons (pe_lc (own := [("_law_state", 22)]) (wi := (iRng1 (tCons (tOp (rIxT K) (tVar 3) (tC (.int 0))) tNil))) (g := (gName 22)) (tt := tYes) (te := (tAndV (tOp (rIn K false) (tVar 22) (tVar 17)) (tOp (rIn K false) (tOp rAddI (tOp (rIxT K) (tVar 3) (tC (.int 0))) (tVar 22)) (tVar 17)))) rfl sc_law.nd (pi_range1 rfl T.f_range (pa_cons (pe_ix ix_tup (pv 3) pe_int (fun _ _ => rfl)) pa_nil)) (blkOk_by (N := ["_law_script", "_law_hand_here", "_law_exits_here", "_law_machine_here", "_law_wanted", "_law_barred", "_law_kinds", "_law_ways", "_law_bag", "_law_made", "_law_program_here", "_law_book", "_law_second", "_law_more", "_law_due", "_law_last", "_law_place", "_law_lot", "_law_turn", "_law_one", "_law_other", "_law_bad", "_law_state"]) (sc := defScope s_law) (own := [("_law_state", 22)]) (by decide +kernel)) (fun _ _ _ _ _ => (pg_name (i := 22) sc_law.nd rfl (Or.inl rfl))) (fun _ _ _ _ _ => pts_nil) (fun _ _ _ _ _ => (pe_and (pe_cmpR op_in_seq (pv 22) (pv 17) (by rfl)) (pe_one (pe_cmpR op_in_seq (pe_op op_add (pe_ix ix_tup (pv 3) pe_int (fun _ _ => rfl)) (pv 22)) (pv 17) (by rfl)))))) pa_nil)) (pe_cmpR op_in_seq (pv 16) (pv 14) (by rfl)) (nomark _)) (pss_one (ps_ret pe_bl)) pss_nil))))
    (pss_cons (ps_for PassesOwn.never rfl (pi_range1 rfl T.f_range (pa_cons pe_int pa_nil)) (pg_name (i := 18) sc_law.nd rfl (Or.inl rfl)) (pss_cons (ps_set (i := 19) sc_law.nd rfl (Or.inl rfl) (pe_ix ix_list (pe_lst (pa_cons (pv 4) (pa_cons (pe_callG G_law_spoiled (hr.mono (by decide)) rfl T.g__law_spoiled pass0 (pa_cons (pv 1) (pa_cons (pv 4) (pa_cons pe_int pa_nil)))) pa_nil))) (pe_callG G_law_draw (hr.mono (by decide)) rfl T.g__law_draw pass0 (pa_cons (pv 1) (pa_cons pe_int pa_nil))) (fun _ _ => rfl)))
    (pss_cons (ps_set (i := 20) sc_law.nd rfl (Or.inl rfl) (pe_ix ix_list (pe_lst (pa_cons (pv 5) (pa_cons (pe_callG G_law_spoiled (hr.mono (by decide)) rfl T.g__law_spoiled pass0 (pa_cons (pv 1) (pa_cons (pv 5) (pa_cons pe_int pa_nil)))) pa_nil))) (pe_callG G_law_draw (hr.mono (by decide)) rfl T.g__law_draw pass0 (pa_cons (pv 1) (pa_cons pe_int pa_nil))) (fun _ _ => rfl)))
    (pss_cons (ps_set (i := 21) sc_law.nd rfl (Or.inl rfl) (pe_or (pe_not (pe_callG G_law_is_lot (hr.mono (by decide)) rfl T.g__law_is_lot pass0 (pa_cons (pv 19) (pa_cons (pe_callB call_len_seq (by rfl) T.f_len (by decide +kernel) (pa_cons (pv 2) pa_nil)) pa_nil)))) (pe_one (pe_not (pe_callG G_law_is_lot (hr.mono (by decide)) rfl T.g__law_is_lot pass0 (pa_cons (pv 20) (pa_cons (pe_callB call_len_seq (by rfl) T.f_len (by decide +kernel) (pa_cons (pv 2) pa_nil)) pa_nil)))))))
    (pss_one (ps_if (pt_cmpR (op_neD hr.units) (pe_callG G_law_refused (hr.mono (by decide)) rfl T.g__law_refused pass0 (pa_cons (pv 9) (pa_cons (pv 10) (pa_cons (pv 19) (pa_cons (pv 20) pa_nil))))) (pe_lst (pa_cons (pv 21) (pa_cons (pv 21) pa_nil))) (nomark _)) (pss_one (ps_ret pe_bl)) pss_nil))))))
    (pss_one (ps_ret pe_bl)))))))))))))))))))))))
theorem ok_law {P : Program} {w : World} {K : PySem.W.Frag} {mg : Str → Option Value} {base : Heap} (T : Txt K mg) (G_Bag_eq : OkF P w K mg base CX0 1 (He.ma K (He.ga K "Bag") "__eq__") ["self", "other"] (sp_Bag_eq K)) (G_Bag_init : OkF P w K mg base CX0 4 (He.ma K (He.ga K "Bag") "__init__") ["self", "exits"] (sp_Bag_init K)) (G_Machine_init : OkF P w K mg base CX0 6 (He.ma K (He.ga K "Machine") "__init__") ["self", "bag", "many", "steps", "starts"] (sp_Machine_init K)) (G_Program_init : OkF P w K mg base CX0 6 (He.ma K (He.ga K "Program") "__init__") ["self", "bag", "kinds", "ways"] (sp_Program_init K)) (G_RawBook_bag : OkF P w K mg base CX0 1 (He.ma K (He.ga K "RawBook") "bag") ["self"] (sp_RawBook_bag K)) (G_RawBook_owners : OkF P w K mg base CX0 1 (He.ma K (He.ga K "RawBook") "owners") ["self"] (sp_RawBook_owners K)) (G_RawBook_rewriters : OkF P w K mg base CX0 1 (He.ma K (He.ga K "RawBook") "rewriters") ["self"] (sp_RawBook_rewriters K)) (G_RawBook_rules : OkF P w K mg base CX0 1 (He.ma K (He.ga K "RawBook") "rules") ["self"] (sp_RawBook_rules K)) (G_law_ahead_rules : OkF P w K mg base CX0 1 (He.ga K "_law_ahead_rules") ["_law_exits_here", "_law_machine_here", "_law_wanted", "_law_barred"] (sp_law_ahead_rules K)) (G_law_draw : OkF P w K mg base CX0 1 (He.ga K "_law_draw") ["_law_hand_here", "_law_many"] (sp_law_draw K)) (G_law_exits : OkF P w K mg base CX0 2 (He.ga K "_law_exits") ["_law_hand_here", "_law_kinds", "_law_most"] (sp_law_exits K)) (G_law_hand : OkF P w K mg base CX0 1 (He.ga K "_law_hand") ["_law_script"] (sp_law_hand K)) (G_law_is_lot : OkF P w K mg base CX0 3 (He.ga K "_law_is_lot") ["_law_thing", "_law_many"] (sp_law_is_lot K)) (G_law_looking : OkF P w K mg base CX0 3 (He.ga K "_law_looking") ["_law_machine_here", "_law_kinds", "_law_ways", "_law_wanted", "_law_barred"] (sp_law_looking K)) (G_law_machine : OkF P w K mg base CX0 4 (He.ga K "_law_machine") ["_law_hand_here", "_law_exits_here", "_law_most"] (sp_law_machine K)) (G_law_program : OkF P w K mg base CX0 2 (He.ga K "_law_program") ["_law_hand_here", "_law_exits_here", "_law_most"] (sp_law_program K)) (G_law_refused : OkF P w K mg base CX0 8 (He.ga K "_law_refused") ["_law_made", "_law_program_here", "_law_wanted", "_law_barred"] (sp_law_refused K)) (G_law_some : OkF P w K mg base CX0 2 (He.ga K "_law_some") ["_law_hand_here", "_law_many", "_law_share"] (sp_law_some K)) (G_law_spoiled : OkF P w K mg base CX0 4 (He.ga K "_law_spoiled") ["_law_hand_here", "_law_thing", "_law_deep"] (sp_law_spoiled K)) (G_ahead_book : OkF P w K mg base (L2.CX P w) 7 (He.ga K "ahead_book") ["machine", "wanted", "barred"] (sp_ahead_book K)) (G_led : OkF P w K mg base CX0 9 (He.ga K "led") ["book", "program", "row"] (sp_led K)) (G_looks_on : OkF P w K mg base (L2.CX P w) 7 (He.ga K "looks_on") ["machine", "program", "wanted", "barred"] (sp_looks_on K)) : OkF P w K mg base CX0 10 (He.ga K "law") ["_law_script"] (sp_law K) := by
  obtain ⟨fd, F⟩ := T.d_law
  exact ⟨⟨fd, F.ok sc_law (fun _ _ _ _ h => S1.len h) (fun _ _ _ _ _ _ _ _ hr h => ⟨t_law K, PSs.nox (dv_law T G_Bag_eq G_Bag_init G_Machine_init G_Program_init G_RawBook_bag G_RawBook_owners G_RawBook_rewriters G_RawBook_rules G_law_ahead_rules G_law_draw G_law_exits G_law_hand G_law_is_lot G_law_looking G_law_machine G_law_program G_law_refused G_law_some G_law_spoiled G_ahead_book G_led G_looks_on hr), by obtain ⟨a0, rfl, h⟩ := S1.op h; exact rd_law T h⟩), FunD.bindsN F fun _ _ _ _ _ _ us hl => match us, hl with | [_], _ => rfl⟩, F.kp⟩
end NB
set_option Elab.async false
set_option linter.all false
set_option maxRecDepth 100000
set_option maxHeartbeats 0
namespace NB
open PySem PyProof.Rows L2
def fn : List He.DefD := [
  ⟨("is_integer", none), "is_integer", "is_integer", defArgs s_is_integer, defBody s_is_integer, defScope s_is_integer, [], []⟩,
  ⟨("is_between", none), "is_between", "is_between", defArgs s_is_between, defBody s_is_between, defScope s_is_between, [], []⟩,
  ⟨("is_index", none), "is_index", "is_index", defArgs s_is_index, defBody s_is_index, defScope s_is_index, [], []⟩,
  ⟨("is_lot", none), "is_lot", "is_lot", defArgs s_is_lot, defBody s_is_lot, defScope s_is_lot, [], []⟩,
  ⟨("mask_of", none), "mask_of", "mask_of", defArgs s_mask_of, defBody s_mask_of, defScope s_mask_of, [], []⟩,
  ⟨("lot_of", none), "lot_of", "lot_of", defArgs s_lot_of, defBody s_lot_of, defScope s_lot_of, [], []⟩,
  ⟨("RawBook", some "keep"), "keep", "Book.keep", defArgs s_RawBook_keep, defBody s_RawBook_keep, defScope s_RawBook_keep, [], []⟩,
  ⟨("RawBook", some "bag"), "bag", "Book.bag", defArgs s_RawBook_bag, defBody s_RawBook_bag, defScope s_RawBook_bag, [], []⟩,
  ⟨("RawBook", some "owners"), "owners", "Book.owners", defArgs s_RawBook_owners, defBody s_RawBook_owners, defScope s_RawBook_owners, [], []⟩,
  ⟨("RawBook", some "rules"), "rules", "Book.rules", defArgs s_RawBook_rules, defBody s_RawBook_rules, defScope s_RawBook_rules, [], []⟩,
  ⟨("RawBook", some "rewriters"), "rewriters", "Book.rewriters", defArgs s_RawBook_rewriters, defBody s_RawBook_rewriters, defScope s_RawBook_rewriters, [], []⟩,
  ⟨("RawBook", some "__init__"), "__init__", "RawBook.__init__", defArgs s_RawBook_init, defBody s_RawBook_init, defScope s_RawBook_init, [], []⟩,
  ⟨("all_mask", none), "all_mask", "all_mask", defArgs s_all_mask, defBody s_all_mask, defScope s_all_mask, [], []⟩,
  ⟨("own_mask", none), "own_mask", "own_mask", defArgs s_own_mask, defBody s_own_mask, defScope s_own_mask, [], []⟩,
  ⟨("State", some "__init__"), "__init__", "State.__init__", defArgs s_State_init, defBody s_State_init, defScope s_State_init, [], []⟩,
  ⟨("State", some "stands"), "stands", "State.stands", defArgs s_State_stands, defBody s_State_stands, defScope s_State_stands, [], []⟩,
  ⟨("begin_state", none), "begin_state", "begin_state", defArgs s_begin_state, defBody s_begin_state, defScope s_begin_state, [], []⟩,
  ⟨("are_lookers", none), "are_lookers", "are_lookers", defArgs s_are_lookers, defBody s_are_lookers, defScope s_are_lookers, [], []⟩,
  ⟨("is_move", none), "is_move", "is_move", defArgs s_is_move, defBody s_is_move, defScope s_is_move, [], []⟩,
  ⟨("is_row", none), "is_row", "is_row", defArgs s_is_row, defBody s_is_row, defScope s_is_row, [], []⟩,
  ⟨("check_row", none), "check_row", "check_row", defArgs s_check_row, defBody s_check_row, defScope s_check_row, [], []⟩,
  ⟨("is_open", none), "is_open", "is_open", defArgs s_is_open, defBody s_is_open, defScope s_is_open, [], []⟩,
  ⟨("made_lots", none), "made_lots", "made_lots", defArgs s_made_lots, defBody s_made_lots, defScope s_made_lots, [], []⟩,
  ⟨("make_along", none), "make_along", "make_along", defArgs s_make_along, defBody s_make_along, defScope s_make_along, [], []⟩,
  ⟨("turn_rounds", none), "turn_rounds", "turn_rounds", defArgs s_turn_rounds, defBody s_turn_rounds, defScope s_turn_rounds, [], []⟩,
  ⟨("turn_state", none), "turn_state", "turn_state", defArgs s_turn_state, defBody s_turn_state, defScope s_turn_state, [], []⟩,
  ⟨("move_on", none), "move_on", "move_on", defArgs s_move_on, defBody s_move_on, defScope s_move_on, [], []⟩,
  ⟨("states_of", none), "states_of", "states_of", defArgs s_states_of, defBody s_states_of, defScope s_states_of, [], []⟩,
  ⟨("led", none), "led", "led", defArgs s_led, defBody s_led, defScope s_led, [], []⟩,
  ⟨("are_exits", none), "are_exits", "are_exits", defArgs s_are_exits, defBody s_are_exits, defScope s_are_exits, [], []⟩,
  ⟨("Bag", some "__init__"), "__init__", "Bag.__init__", defArgs s_Bag_init, defBody s_Bag_init, defScope s_Bag_init, [], []⟩,
  ⟨("Bag", some "__eq__"), "__eq__", "Bag.__eq__", defArgs s_Bag_eq, defBody s_Bag_eq, defScope s_Bag_eq, [], []⟩,
  ⟨("are_ways", none), "are_ways", "are_ways", defArgs s_are_ways, defBody s_are_ways, defScope s_are_ways, [], []⟩,
  ⟨("are_kinds", none), "are_kinds", "are_kinds", defArgs s_are_kinds, defBody s_are_kinds, defScope s_are_kinds, [], []⟩,
  ⟨("Program", some "__init__"), "__init__", "Program.__init__", defArgs s_Program_init, defBody s_Program_init, defScope s_Program_init, [], []⟩,
  ⟨("Program", some "keep"), "keep", "Program.keep", defArgs s_Program_keep, defBody s_Program_keep, defScope s_Program_keep, [], []⟩,
  ⟨("are_pairs", none), "are_pairs", "are_pairs", defArgs s_are_pairs, defBody s_are_pairs, defScope s_are_pairs, [], []⟩,
  ⟨("are_steps", none), "are_steps", "are_steps", defArgs s_are_steps, defBody s_are_steps, defScope s_are_steps, [], []⟩,
  ⟨("are_starts", none), "are_starts", "are_starts", defArgs s_are_starts, defBody s_are_starts, defScope s_are_starts, [], []⟩,
  ⟨("Machine", some "__init__"), "__init__", "Machine.__init__", defArgs s_Machine_init, defBody s_Machine_init, defScope s_Machine_init, [], []⟩,
  ⟨("states_book", none), "states_book", "states_book", defArgs s_states_book, defBody s_states_book, defScope s_states_book, [], []⟩,
  ⟨("check_kinds", none), "check_kinds", "check_kinds", defArgs s_check_kinds, defBody s_check_kinds, defScope s_check_kinds, [], []⟩,
  ⟨("book_ahead", none), "book_ahead", "book_ahead", defArgs s_book_ahead, defBody s_book_ahead, defScope s_book_ahead, [], []⟩,
  ⟨("ahead_book", none), "ahead_book", "ahead_book", defArgs s_ahead_book, defBody s_ahead_book, defScope s_ahead_book, [], []⟩,
  ⟨("on_states", none), "on_states", "on_states", defArgs s_on_states, defBody s_on_states, defScope s_on_states, [], []⟩,
  ⟨("on_lots", none), "on_lots", "on_lots", defArgs s_on_lots, defBody s_on_lots, defScope s_on_lots, [], []⟩,
  ⟨("looks_on", none), "looks_on", "looks_on", defArgs s_looks_on, defBody s_looks_on, defScope s_looks_on, [], []⟩,
  ⟨("_law_hand", none), "_law_hand", "_law_hand", defArgs s_law_hand, defBody s_law_hand, defScope s_law_hand, [], []⟩,
  ⟨("_law_draw", none), "_law_draw", "_law_draw", defArgs s_law_draw, defBody s_law_draw, defScope s_law_draw, [], []⟩,
  ⟨("_law_some", none), "_law_some", "_law_some", defArgs s_law_some, defBody s_law_some, defScope s_law_some, [], []⟩,
  ⟨("_law_exits", none), "_law_exits", "_law_exits", defArgs s_law_exits, defBody s_law_exits, defScope s_law_exits, [], []⟩,
  ⟨("_law_program", none), "_law_program", "_law_program", defArgs s_law_program, defBody s_law_program, defScope s_law_program, [], []⟩,
  ⟨("_law_steps", none), "_law_steps", "_law_steps", defArgs s_law_steps, defBody s_law_steps, defScope s_law_steps, [], []⟩,
  ⟨("_law_starts", none), "_law_starts", "_law_starts", defArgs s_law_starts, defBody s_law_starts, defScope s_law_starts, [], []⟩,
  ⟨("_law_machine", none), "_law_machine", "_law_machine", defArgs s_law_machine, defBody s_law_machine, defScope s_law_machine, [], []⟩,
  ⟨("_law_nexts", none), "_law_nexts", "_law_nexts", defArgs s_law_nexts, defBody s_law_nexts, defScope s_law_nexts, [], []⟩,
  ⟨("_law_far", none), "_law_far", "_law_far", defArgs s_law_far, defBody s_law_far, defScope s_law_far, [], []⟩,
  ⟨("_law_on", none), "_law_on", "_law_on", defArgs s_law_on, defBody s_law_on, defScope s_law_on, [], []⟩,
  ⟨("_law_looking", none), "_law_looking", "_law_looking", defArgs s_law_looking, defBody s_law_looking, defScope s_law_looking, [], []⟩,
  ⟨("_law_is_int", none), "_law_is_int", "_law_is_int", defArgs s_law_is_int, defBody s_law_is_int, defScope s_law_is_int, [], []⟩,
  ⟨("_law_is_index", none), "_law_is_index", "_law_is_index", defArgs s_law_is_index, defBody s_law_is_index, defScope s_law_is_index, [], []⟩,
  ⟨("_law_is_lot", none), "_law_is_lot", "_law_is_lot", defArgs s_law_is_lot, defBody s_law_is_lot, defScope s_law_is_lot, [], []⟩,
  ⟨("_law_odd", none), "_law_odd", "_law_odd", defArgs s_law_odd, defBody s_law_odd, defScope s_law_odd, [], []⟩,
  ⟨("_law_spoiled", none), "_law_spoiled", "_law_spoiled", defArgs s_law_spoiled, defBody s_law_spoiled, defScope s_law_spoiled, [], []⟩,
  ⟨("_law_ahead_rules", none), "_law_ahead_rules", "_law_ahead_rules", defArgs s_law_ahead_rules, defBody s_law_ahead_rules, defScope s_law_ahead_rules, [], []⟩,
  ⟨("_law_refused", none), "_law_refused", "_law_refused", defArgs s_law_refused, defBody s_law_refused, defScope s_law_refused, [], []⟩,
  ⟨("law", none), "law", "law", defArgs s_law, defBody s_law, defScope s_law, [], []⟩]
def fa0 : List He.Fa := [.glo "is_integer", .glo "is_between", .glo "is_index", .glo "is_lot", .glo "mask_of", .glo "lot_of", .glo "all_mask", .glo "own_mask", .glo "begin_state", .glo "are_lookers", .glo "is_move", .glo "is_row", .glo "check_row", .glo "is_open", .glo "made_lots", .glo "make_along", .glo "turn_rounds", .glo "turn_state", .glo "move_on", .glo "states_of", .glo "led", .glo "are_exits", .glo "are_ways", .glo "are_kinds", .glo "are_pairs", .glo "are_steps", .glo "are_starts", .glo "states_book", .glo "check_kinds", .glo "book_ahead"]
def fa1 : List He.Fa := [.glo "ahead_book", .glo "on_states", .glo "on_lots", .glo "looks_on", .glo "_law_hand", .glo "_law_draw", .glo "_law_some", .glo "_law_exits", .glo "_law_program", .glo "_law_steps", .glo "_law_starts", .glo "_law_machine", .glo "_law_nexts", .glo "_law_far", .glo "_law_on", .glo "_law_looking", .glo "_law_is_int", .glo "_law_is_index", .glo "_law_is_lot", .glo "_law_odd", .glo "_law_spoiled", .glo "_law_ahead_rules", .glo "_law_refused", .glo "law", .glo "Bag", .glo "Machine", .glo "Program", .glo "RawBook", .glo "Book", .glo "State"]
def fa2 : List He.Fa := [.glo "NoKinds", .free "len", .free "range", .free "isinstance", .free "all", .free "any", .free "tuple", .free "list", .free "int", .free "bool", .free "str", .free "max", .free "abs", .free "enumerate", .free "zip", .int "MOST_MOVES" 5, .int "MOST_PLACES" 60, .int "MOST_STATES" 4, .cls "Bag", .mkr "Bag", .noat "Bag" "kept_exits", .cls "Machine", .mkr "Machine", .noat "Machine" "kept_bag", .noat "Machine" "kept_many", .noat "Machine" "kept_steps", .noat "Machine" "kept_starts", .cls "Program", .mkr "Program", .noat "Program" "kept_bag"]
def fa3 : List He.Fa := [.noat "Program" "kept_kinds", .noat "Program" "kept_ways", .cls "RawBook", .mkr "RawBook", .noat "RawBook" "kept_bag", .noat "RawBook" "kept_owners", .noat "RawBook" "kept_rules", .noat "RawBook" "kept_rewriters", .noat "RawBook" "here_rules", .noat "RawBook" "way_rules", .cls "State", .mkr "State", .noat "State" "sorts", .noat "State" "shut", .noat "State" "lots", .meth "RawBook" "keep", .meth "RawBook" "bag", .meth "RawBook" "owners", .meth "RawBook" "rules", .meth "RawBook" "rewriters", .meth "State" "stands", .meth "Bag" "__eq__", .meth "Program" "keep", .exc "NoKinds", .exm "NoKinds" "NoKinds" true, .keep "NoKinds"]
def fa : List He.Fa := fa0 ++ fa1 ++ fa2 ++ fa3
def lo0 : List Str := ["BlindError", "NoBag", "NoRow", "NoKinds", "NoProgram", "NoBook", "NoMachine", "is_integer", "is_between", "is_index", "is_lot", "mask_of", "lot_of", "MOST_DOUBTS", "MOST_LOOKERS", "MOST_RULES", "MOST_REWRITERS", "MOST_CHANGES", "SIDES", "are_any_owners", "are_owners", "is_kind", "is_exit", "is_rule", "are_rules", "is_change", "is_strike", "is_rewriter", "are_any_rewriters", "are_rewriters"]
def lo1 : List Str := ["Book", "RawBook", "all_mask", "own_mask", "MOST_MOVES", "State", "begin_state", "are_lookers", "is_move", "is_row", "check_row", "is_open", "made_lots", "make_along", "turn_rounds", "turn_state", "sweep_state", "changed_stand", "rewritten_state", "move_on", "states_of", "led", "MOST_PLACES", "are_exits", "Bag", "are_ways", "are_kinds", "Program", "MOST_STATES", "are_pairs"]
def lo2 : List Str := ["are_steps", "are_starts", "Machine", "states_book", "check_kinds", "book_ahead", "ahead_book", "on_states", "on_lots", "looks_on", "_law_hand", "_law_draw", "_law_some", "_law_exits", "_law_program", "_law_steps", "_law_starts", "_law_machine", "_law_nexts", "_law_far", "_law_stood", "_law_on", "_law_looking", "_law_is_int", "_law_is_index", "_law_is_lot", "_law_odd", "_law_spoiled", "_law_ahead_rules", "_law_refused"]
def lo : List Str := lo0 ++ lo1 ++ lo2
-- law at 98
abbrev RR : PySem.W.OpenRow := PySem.W.OpenLaw.row PySem.Challenge.rw_neverblinder_k79_whole_books_that_look_a
def exB (K : PySem.W.Frag) : Bool :=
  decide (PySem.W.kitOne K (.ref (He.ga K "RawBook")) (.ref (He.ga K "Book")) = some true) &&
  (["RawBook", "Bag"] : List Str).all fun c => He.eqO (PySem.W.findIn K (.ref (He.ga K c)) "__class__") (some (some (.builtin "object.__class__"))) && decide (PySem.W.mroIn K (He.ga K c) (.type "object") = some true)
/-! ### the objects that the module's names reach -/
def valsAt (o : Option Obj) : List Addr := match o with
  | some ⟨_, _, .dict es _, _⟩ => es.toList.flatMap fun e => He.refV e.val
  | _ => []
def codeAt (o : Option Obj) : List Addr := match o with
  | some ⟨_, _, .func fd, _⟩ => He.refV fd.code
  | _ => []
def nsAt (o : Option Obj) : List Addr := match o with
  | some ⟨_, _, .cls cd, _⟩ => [cd.ns]
  | _ => []
def asM (g : Addr → Option Obj) : List Addr :=
  (fun l1 => (fun l2 => (fun l3 => mainGlobals :: (l2 ++ (l1 ++ (l3 ++ (l1 ++ l3).flatMap fun a => codeAt (g a))))) (l2.flatMap fun a => valsAt (g a))) (l1.flatMap fun a => nsAt (g a))) (valsAt (g mainGlobals))
abbrev AlM : Type := He.AlD × Bool
def obsM (fa : List He.Fa) (fn : List He.DefD) (ex : PySem.W.Frag → Bool) (g : Addr → Option Obj) : AlM := (fun K => (He.obsD fa fn K, ex K)) (He.frG g (asM g))
def hookM (fa : List He.Fa) (fn : List He.DefD) (ex : PySem.W.Frag → Bool) : PySem.W.Hook where
  α := AlM
  obs := fun s => obsM fa fn ex s.heap.get?
  val := fun _ => (He.valD fn, true)
  says := fun _ h => ∃ K : PySem.W.Frag, K.In h ∧ He.SaysD fa fn K ∧ ex K = true
  of := fun _ _ e => ⟨_, He.frG_in, congrArg (fun z : AlM => z.1) e, congrArg (fun z : AlM => z.2) e⟩
  keeps := fun _ _ _ ⟨K, hK, c⟩ k => ⟨K, PySem.W.Frag.In.keeps hK k, c⟩
theorem obsM_eq {fa : List He.Fa} {fn : List He.DefD} {ex : PySem.W.Frag → Bool} {g : Addr → Option Obj} {s : Shared} (h : ∀ a, g a = s.heap.get? a) : obsM fa fn ex g = (hookM fa fn ex).obs s := by
  have e : g = s.heap.get? := funext h
  rw [e] <;> rfl
abbrev hk : PySem.W.Hook := hookM (fa) (fn) (exB)
def ob (s : PySem.W.SharedT) : AlM := obsM (fa) (fn) (exB) (HandSHeadRun.getT s)
theorem run (w : World) : HandSHeadRun.RunEq RR (PySem.W.view RR.prog [98]) hk ob 6000 lo w := by
  intro os
  kernel_rfl
end NB
set_option pp.maxSteps 900
set_option Elab.async false
set_option linter.all false
set_option maxRecDepth 100000
set_option maxHeartbeats 4000000
namespace NB
open PySem PyProof.Rows L2

theorem txt_of {K : PySem.W.Frag} {h : Heap} {mg : Str → Option Value} (X : K.In h) (G : h.Ns mainGlobals mg) (c : He.SaysD fa fn K) (ex : exB K = true) : Txt K mg := by
  have e := ex
  unfold exB at e
  rw [Bool.and_eq_true, List.all_eq_true] at e
  obtain ⟨e1, e2⟩ := e
  have eR := e2 "RawBook" (by simp)
  have eB := e2 "Bag" (by simp)
  rw [Bool.and_eq_true] at eR eB
  exact {
    g_is_integer := He.glo_ok X G (c.fact 0 (f := .glo "is_integer") rfl)
    g_is_between := He.glo_ok X G (c.fact 1 (f := .glo "is_between") rfl)
    g_is_index := He.glo_ok X G (c.fact 2 (f := .glo "is_index") rfl)
    g_is_lot := He.glo_ok X G (c.fact 3 (f := .glo "is_lot") rfl)
    g_mask_of := He.glo_ok X G (c.fact 4 (f := .glo "mask_of") rfl)
    g_lot_of := He.glo_ok X G (c.fact 5 (f := .glo "lot_of") rfl)
    g_all_mask := He.glo_ok X G (c.fact 6 (f := .glo "all_mask") rfl)
    g_own_mask := He.glo_ok X G (c.fact 7 (f := .glo "own_mask") rfl)
    g_begin_state := He.glo_ok X G (c.fact 8 (f := .glo "begin_state") rfl)
    g_are_lookers := He.glo_ok X G (c.fact 9 (f := .glo "are_lookers") rfl)
    g_is_move := He.glo_ok X G (c.fact 10 (f := .glo "is_move") rfl)
    g_is_row := He.glo_ok X G (c.fact 11 (f := .glo "is_row") rfl)
    g_check_row := He.glo_ok X G (c.fact 12 (f := .glo "check_row") rfl)
    g_is_open := He.glo_ok X G (c.fact 13 (f := .glo "is_open") rfl)
    g_made_lots := He.glo_ok X G (c.fact 14 (f := .glo "made_lots") rfl)
    g_make_along := He.glo_ok X G (c.fact 15 (f := .glo "make_along") rfl)
    g_turn_rounds := He.glo_ok X G (c.fact 16 (f := .glo "turn_rounds") rfl)
    g_turn_state := He.glo_ok X G (c.fact 17 (f := .glo "turn_state") rfl)
    g_move_on := He.glo_ok X G (c.fact 18 (f := .glo "move_on") rfl)
    g_states_of := He.glo_ok X G (c.fact 19 (f := .glo "states_of") rfl)
    g_led := He.glo_ok X G (c.fact 20 (f := .glo "led") rfl)
    g_are_exits := He.glo_ok X G (c.fact 21 (f := .glo "are_exits") rfl)
    g_are_ways := He.glo_ok X G (c.fact 22 (f := .glo "are_ways") rfl)
    g_are_kinds := He.glo_ok X G (c.fact 23 (f := .glo "are_kinds") rfl)
    g_are_pairs := He.glo_ok X G (c.fact 24 (f := .glo "are_pairs") rfl)
    g_are_steps := He.glo_ok X G (c.fact 25 (f := .glo "are_steps") rfl)
    g_are_starts := He.glo_ok X G (c.fact 26 (f := .glo "are_starts") rfl)
    g_states_book := He.glo_ok X G (c.fact 27 (f := .glo "states_book") rfl)
    g_check_kinds := He.glo_ok X G (c.fact 28 (f := .glo "check_kinds") rfl)
    g_book_ahead := He.glo_ok X G (c.fact 29 (f := .glo "book_ahead") rfl)
    g_ahead_book := He.glo_ok X G (c.fact 30 (f := .glo "ahead_book") rfl)
    g_on_states := He.glo_ok X G (c.fact 31 (f := .glo "on_states") rfl)
    g_on_lots := He.glo_ok X G (c.fact 32 (f := .glo "on_lots") rfl)
    g_looks_on := He.glo_ok X G (c.fact 33 (f := .glo "looks_on") rfl)
    g__law_hand := He.glo_ok X G (c.fact 34 (f := .glo "_law_hand") rfl)
    g__law_draw := He.glo_ok X G (c.fact 35 (f := .glo "_law_draw") rfl)
    g__law_some := He.glo_ok X G (c.fact 36 (f := .glo "_law_some") rfl)
    g__law_exits := He.glo_ok X G (c.fact 37 (f := .glo "_law_exits") rfl)
    g__law_program := He.glo_ok X G (c.fact 38 (f := .glo "_law_program") rfl)
    g__law_steps := He.glo_ok X G (c.fact 39 (f := .glo "_law_steps") rfl)
    g__law_starts := He.glo_ok X G (c.fact 40 (f := .glo "_law_starts") rfl)
    g__law_machine := He.glo_ok X G (c.fact 41 (f := .glo "_law_machine") rfl)
    g__law_nexts := He.glo_ok X G (c.fact 42 (f := .glo "_law_nexts") rfl)
    g__law_far := He.glo_ok X G (c.fact 43 (f := .glo "_law_far") rfl)
    g__law_on := He.glo_ok X G (c.fact 44 (f := .glo "_law_on") rfl)
    g__law_looking := He.glo_ok X G (c.fact 45 (f := .glo "_law_looking") rfl)
    g__law_is_int := He.glo_ok X G (c.fact 46 (f := .glo "_law_is_int") rfl)
    g__law_is_index := He.glo_ok X G (c.fact 47 (f := .glo "_law_is_index") rfl)
    g__law_is_lot := He.glo_ok X G (c.fact 48 (f := .glo "_law_is_lot") rfl)
    g__law_odd := He.glo_ok X G (c.fact 49 (f := .glo "_law_odd") rfl)
    g__law_spoiled := He.glo_ok X G (c.fact 50 (f := .glo "_law_spoiled") rfl)
    g__law_ahead_rules := He.glo_ok X G (c.fact 51 (f := .glo "_law_ahead_rules") rfl)
    g__law_refused := He.glo_ok X G (c.fact 52 (f := .glo "_law_refused") rfl)
    g_law := He.glo_ok X G (c.fact 53 (f := .glo "law") rfl)
    g_Bag := He.glo_ok X G (c.fact 54 (f := .glo "Bag") rfl)
    g_Machine := He.glo_ok X G (c.fact 55 (f := .glo "Machine") rfl)
    g_Program := He.glo_ok X G (c.fact 56 (f := .glo "Program") rfl)
    g_RawBook := He.glo_ok X G (c.fact 57 (f := .glo "RawBook") rfl)
    g_Book := He.glo_ok X G (c.fact 58 (f := .glo "Book") rfl)
    g_State := He.glo_ok X G (c.fact 59 (f := .glo "State") rfl)
    g_NoKinds := He.glo_ok X G (c.fact 60 (f := .glo "NoKinds") rfl)
    f_len := He.free_ok X G (c.fact 61 (f := .free "len") rfl)
    f_range := He.free_ok X G (c.fact 62 (f := .free "range") rfl)
    f_isinstance := He.free_ok X G (c.fact 63 (f := .free "isinstance") rfl)
    f_all := He.free_ok X G (c.fact 64 (f := .free "all") rfl)
    f_any := He.free_ok X G (c.fact 65 (f := .free "any") rfl)
    f_tuple := He.free_ok X G (c.fact 66 (f := .free "tuple") rfl)
    f_list := He.free_ok X G (c.fact 67 (f := .free "list") rfl)
    f_int := He.free_ok X G (c.fact 68 (f := .free "int") rfl)
    f_bool := He.free_ok X G (c.fact 69 (f := .free "bool") rfl)
    f_str := He.free_ok X G (c.fact 70 (f := .free "str") rfl)
    f_max := He.free_ok X G (c.fact 71 (f := .free "max") rfl)
    f_abs := He.free_ok X G (c.fact 72 (f := .free "abs") rfl)
    f_enumerate := He.free_ok X G (c.fact 73 (f := .free "enumerate") rfl)
    f_zip := He.free_ok X G (c.fact 74 (f := .free "zip") rfl)
    int_MOST_MOVES := He.int_ok X G (c.fact 75 (f := .int "MOST_MOVES" 5) rfl)
    int_MOST_PLACES := He.int_ok X G (c.fact 76 (f := .int "MOST_PLACES" 60) rfl)
    int_MOST_STATES := He.int_ok X G (c.fact 77 (f := .int "MOST_STATES" 4) rfl)
    c_Bag := He.cls_ok (c.fact 78 (f := .cls "Bag") rfl)
    k_Bag := He.mkr_ok (c.fact 79 (f := .mkr "Bag") rfl)
    n_Bag_kept_exits := He.noat_ok (c.fact 80 (f := .noat "Bag" "kept_exits") rfl)
    c_Machine := He.cls_ok (c.fact 81 (f := .cls "Machine") rfl)
    k_Machine := He.mkr_ok (c.fact 82 (f := .mkr "Machine") rfl)
    n_Machine_kept_bag := He.noat_ok (c.fact 83 (f := .noat "Machine" "kept_bag") rfl)
    n_Machine_kept_many := He.noat_ok (c.fact 84 (f := .noat "Machine" "kept_many") rfl)
    n_Machine_kept_steps := He.noat_ok (c.fact 85 (f := .noat "Machine" "kept_steps") rfl)
    n_Machine_kept_starts := He.noat_ok (c.fact 86 (f := .noat "Machine" "kept_starts") rfl)
    c_Program := He.cls_ok (c.fact 87 (f := .cls "Program") rfl)
    k_Program := He.mkr_ok (c.fact 88 (f := .mkr "Program") rfl)
    n_Program_kept_bag := He.noat_ok (c.fact 89 (f := .noat "Program" "kept_bag") rfl)
    n_Program_kept_kinds := He.noat_ok (c.fact 90 (f := .noat "Program" "kept_kinds") rfl)
    n_Program_kept_ways := He.noat_ok (c.fact 91 (f := .noat "Program" "kept_ways") rfl)
    c_RawBook := He.cls_ok (c.fact 92 (f := .cls "RawBook") rfl)
    k_RawBook := He.mkr_ok (c.fact 93 (f := .mkr "RawBook") rfl)
    n_RawBook_kept_bag := He.noat_ok (c.fact 94 (f := .noat "RawBook" "kept_bag") rfl)
    n_RawBook_kept_owners := He.noat_ok (c.fact 95 (f := .noat "RawBook" "kept_owners") rfl)
    n_RawBook_kept_rules := He.noat_ok (c.fact 96 (f := .noat "RawBook" "kept_rules") rfl)
    n_RawBook_kept_rewriters := He.noat_ok (c.fact 97 (f := .noat "RawBook" "kept_rewriters") rfl)
    n_RawBook_here_rules := He.noat_ok (c.fact 98 (f := .noat "RawBook" "here_rules") rfl)
    n_RawBook_way_rules := He.noat_ok (c.fact 99 (f := .noat "RawBook" "way_rules") rfl)
    c_State := He.cls_ok (c.fact 100 (f := .cls "State") rfl)
    k_State := He.mkr_ok (c.fact 101 (f := .mkr "State") rfl)
    n_State_sorts := He.noat_ok (c.fact 102 (f := .noat "State" "sorts") rfl)
    n_State_shut := He.noat_ok (c.fact 103 (f := .noat "State" "shut") rfl)
    n_State_lots := He.noat_ok (c.fact 104 (f := .noat "State" "lots") rfl)
    m_RawBook_keep := He.meth_ok (c.fact 105 (f := .meth "RawBook" "keep") rfl)
    m_RawBook_bag := He.meth_ok (c.fact 106 (f := .meth "RawBook" "bag") rfl)
    m_RawBook_owners := He.meth_ok (c.fact 107 (f := .meth "RawBook" "owners") rfl)
    m_RawBook_rules := He.meth_ok (c.fact 108 (f := .meth "RawBook" "rules") rfl)
    m_RawBook_rewriters := He.meth_ok (c.fact 109 (f := .meth "RawBook" "rewriters") rfl)
    m_State_stands := He.meth_ok (c.fact 110 (f := .meth "State" "stands") rfl)
    m_Bag_eq := He.meth_ok (c.fact 111 (f := .meth "Bag" "__eq__") rfl)
    m_Program_keep := He.meth_ok (c.fact 112 (f := .meth "Program" "keep") rfl)
    exc_NoKinds := He.exc_ok (c.fact 113 (f := .exc "NoKinds") rfl)
    exm_NoKinds := He.exm_ok (c.fact 114 (f := .exm "NoKinds" "NoKinds" true) rfl)
    keep_NoKinds := He.keep_ok (c.fact 115 (f := .keep "NoKinds") rfl)
    d_is_integer := c.def_ 0 (d := ⟨("is_integer", none), "is_integer", "is_integer", defArgs s_is_integer, defBody s_is_integer, defScope s_is_integer, [], []⟩) rfl
    d_is_between := c.def_ 1 (d := ⟨("is_between", none), "is_between", "is_between", defArgs s_is_between, defBody s_is_between, defScope s_is_between, [], []⟩) rfl
    d_is_index := c.def_ 2 (d := ⟨("is_index", none), "is_index", "is_index", defArgs s_is_index, defBody s_is_index, defScope s_is_index, [], []⟩) rfl
    d_is_lot := c.def_ 3 (d := ⟨("is_lot", none), "is_lot", "is_lot", defArgs s_is_lot, defBody s_is_lot, defScope s_is_lot, [], []⟩) rfl
    d_mask_of := c.def_ 4 (d := ⟨("mask_of", none), "mask_of", "mask_of", defArgs s_mask_of, defBody s_mask_of, defScope s_mask_of, [], []⟩) rfl
    d_lot_of := c.def_ 5 (d := ⟨("lot_of", none), "lot_of", "lot_of", defArgs s_lot_of, defBody s_lot_of, defScope s_lot_of, [], []⟩) rfl
    d_RawBook_keep := c.def_ 6 (d := ⟨("RawBook", some "keep"), "keep", "Book.keep", defArgs s_RawBook_keep, defBody s_RawBook_keep, defScope s_RawBook_keep, [], []⟩) rfl
    d_RawBook_bag := c.def_ 7 (d := ⟨("RawBook", some "bag"), "bag", "Book.bag", defArgs s_RawBook_bag, defBody s_RawBook_bag, defScope s_RawBook_bag, [], []⟩) rfl
    d_RawBook_owners := c.def_ 8 (d := ⟨("RawBook", some "owners"), "owners", "Book.owners", defArgs s_RawBook_owners, defBody s_RawBook_owners, defScope s_RawBook_owners, [], []⟩) rfl
    d_RawBook_rules := c.def_ 9 (d := ⟨("RawBook", some "rules"), "rules", "Book.rules", defArgs s_RawBook_rules, defBody s_RawBook_rules, defScope s_RawBook_rules, [], []⟩) rfl
    d_RawBook_rewriters := c.def_ 10 (d := ⟨("RawBook", some "rewriters"), "rewriters", "Book.rewriters", defArgs s_RawBook_rewriters, defBody s_RawBook_rewriters, defScope s_RawBook_rewriters, [], []⟩) rfl
    d_RawBook_init := c.def_ 11 (d := ⟨("RawBook", some "__init__"), "__init__", "RawBook.__init__", defArgs s_RawBook_init, defBody s_RawBook_init, defScope s_RawBook_init, [], []⟩) rfl
    d_all_mask := c.def_ 12 (d := ⟨("all_mask", none), "all_mask", "all_mask", defArgs s_all_mask, defBody s_all_mask, defScope s_all_mask, [], []⟩) rfl
    d_own_mask := c.def_ 13 (d := ⟨("own_mask", none), "own_mask", "own_mask", defArgs s_own_mask, defBody s_own_mask, defScope s_own_mask, [], []⟩) rfl
    d_State_init := c.def_ 14 (d := ⟨("State", some "__init__"), "__init__", "State.__init__", defArgs s_State_init, defBody s_State_init, defScope s_State_init, [], []⟩) rfl
    d_State_stands := c.def_ 15 (d := ⟨("State", some "stands"), "stands", "State.stands", defArgs s_State_stands, defBody s_State_stands, defScope s_State_stands, [], []⟩) rfl
    d_begin_state := c.def_ 16 (d := ⟨("begin_state", none), "begin_state", "begin_state", defArgs s_begin_state, defBody s_begin_state, defScope s_begin_state, [], []⟩) rfl
    d_are_lookers := c.def_ 17 (d := ⟨("are_lookers", none), "are_lookers", "are_lookers", defArgs s_are_lookers, defBody s_are_lookers, defScope s_are_lookers, [], []⟩) rfl
    d_is_move := c.def_ 18 (d := ⟨("is_move", none), "is_move", "is_move", defArgs s_is_move, defBody s_is_move, defScope s_is_move, [], []⟩) rfl
    d_is_row := c.def_ 19 (d := ⟨("is_row", none), "is_row", "is_row", defArgs s_is_row, defBody s_is_row, defScope s_is_row, [], []⟩) rfl
    d_check_row := c.def_ 20 (d := ⟨("check_row", none), "check_row", "check_row", defArgs s_check_row, defBody s_check_row, defScope s_check_row, [], []⟩) rfl
    d_is_open := c.def_ 21 (d := ⟨("is_open", none), "is_open", "is_open", defArgs s_is_open, defBody s_is_open, defScope s_is_open, [], []⟩) rfl
    d_made_lots := c.def_ 22 (d := ⟨("made_lots", none), "made_lots", "made_lots", defArgs s_made_lots, defBody s_made_lots, defScope s_made_lots, [], []⟩) rfl
    d_make_along := c.def_ 23 (d := ⟨("make_along", none), "make_along", "make_along", defArgs s_make_along, defBody s_make_along, defScope s_make_along, [], []⟩) rfl
    d_turn_rounds := c.def_ 24 (d := ⟨("turn_rounds", none), "turn_rounds", "turn_rounds", defArgs s_turn_rounds, defBody s_turn_rounds, defScope s_turn_rounds, [], []⟩) rfl
    d_turn_state := c.def_ 25 (d := ⟨("turn_state", none), "turn_state", "turn_state", defArgs s_turn_state, defBody s_turn_state, defScope s_turn_state, [], []⟩) rfl
    d_move_on := c.def_ 26 (d := ⟨("move_on", none), "move_on", "move_on", defArgs s_move_on, defBody s_move_on, defScope s_move_on, [], []⟩) rfl
    d_states_of := c.def_ 27 (d := ⟨("states_of", none), "states_of", "states_of", defArgs s_states_of, defBody s_states_of, defScope s_states_of, [], []⟩) rfl
    d_led := c.def_ 28 (d := ⟨("led", none), "led", "led", defArgs s_led, defBody s_led, defScope s_led, [], []⟩) rfl
    d_are_exits := c.def_ 29 (d := ⟨("are_exits", none), "are_exits", "are_exits", defArgs s_are_exits, defBody s_are_exits, defScope s_are_exits, [], []⟩) rfl
    d_Bag_init := c.def_ 30 (d := ⟨("Bag", some "__init__"), "__init__", "Bag.__init__", defArgs s_Bag_init, defBody s_Bag_init, defScope s_Bag_init, [], []⟩) rfl
    d_Bag_eq := c.def_ 31 (d := ⟨("Bag", some "__eq__"), "__eq__", "Bag.__eq__", defArgs s_Bag_eq, defBody s_Bag_eq, defScope s_Bag_eq, [], []⟩) rfl
    d_are_ways := c.def_ 32 (d := ⟨("are_ways", none), "are_ways", "are_ways", defArgs s_are_ways, defBody s_are_ways, defScope s_are_ways, [], []⟩) rfl
    d_are_kinds := c.def_ 33 (d := ⟨("are_kinds", none), "are_kinds", "are_kinds", defArgs s_are_kinds, defBody s_are_kinds, defScope s_are_kinds, [], []⟩) rfl
    d_Program_init := c.def_ 34 (d := ⟨("Program", some "__init__"), "__init__", "Program.__init__", defArgs s_Program_init, defBody s_Program_init, defScope s_Program_init, [], []⟩) rfl
    d_Program_keep := c.def_ 35 (d := ⟨("Program", some "keep"), "keep", "Program.keep", defArgs s_Program_keep, defBody s_Program_keep, defScope s_Program_keep, [], []⟩) rfl
    d_are_pairs := c.def_ 36 (d := ⟨("are_pairs", none), "are_pairs", "are_pairs", defArgs s_are_pairs, defBody s_are_pairs, defScope s_are_pairs, [], []⟩) rfl
    d_are_steps := c.def_ 37 (d := ⟨("are_steps", none), "are_steps", "are_steps", defArgs s_are_steps, defBody s_are_steps, defScope s_are_steps, [], []⟩) rfl
    d_are_starts := c.def_ 38 (d := ⟨("are_starts", none), "are_starts", "are_starts", defArgs s_are_starts, defBody s_are_starts, defScope s_are_starts, [], []⟩) rfl
    d_Machine_init := c.def_ 39 (d := ⟨("Machine", some "__init__"), "__init__", "Machine.__init__", defArgs s_Machine_init, defBody s_Machine_init, defScope s_Machine_init, [], []⟩) rfl
    d_states_book := c.def_ 40 (d := ⟨("states_book", none), "states_book", "states_book", defArgs s_states_book, defBody s_states_book, defScope s_states_book, [], []⟩) rfl
    d_check_kinds := c.def_ 41 (d := ⟨("check_kinds", none), "check_kinds", "check_kinds", defArgs s_check_kinds, defBody s_check_kinds, defScope s_check_kinds, [], []⟩) rfl
    d_book_ahead := c.def_ 42 (d := ⟨("book_ahead", none), "book_ahead", "book_ahead", defArgs s_book_ahead, defBody s_book_ahead, defScope s_book_ahead, [], []⟩) rfl
    d_ahead_book := c.def_ 43 (d := ⟨("ahead_book", none), "ahead_book", "ahead_book", defArgs s_ahead_book, defBody s_ahead_book, defScope s_ahead_book, [], []⟩) rfl
    d_on_states := c.def_ 44 (d := ⟨("on_states", none), "on_states", "on_states", defArgs s_on_states, defBody s_on_states, defScope s_on_states, [], []⟩) rfl
    d_on_lots := c.def_ 45 (d := ⟨("on_lots", none), "on_lots", "on_lots", defArgs s_on_lots, defBody s_on_lots, defScope s_on_lots, [], []⟩) rfl
    d_looks_on := c.def_ 46 (d := ⟨("looks_on", none), "looks_on", "looks_on", defArgs s_looks_on, defBody s_looks_on, defScope s_looks_on, [], []⟩) rfl
    d_law_hand := c.def_ 47 (d := ⟨("_law_hand", none), "_law_hand", "_law_hand", defArgs s_law_hand, defBody s_law_hand, defScope s_law_hand, [], []⟩) rfl
    d_law_draw := c.def_ 48 (d := ⟨("_law_draw", none), "_law_draw", "_law_draw", defArgs s_law_draw, defBody s_law_draw, defScope s_law_draw, [], []⟩) rfl
    d_law_some := c.def_ 49 (d := ⟨("_law_some", none), "_law_some", "_law_some", defArgs s_law_some, defBody s_law_some, defScope s_law_some, [], []⟩) rfl
    d_law_exits := c.def_ 50 (d := ⟨("_law_exits", none), "_law_exits", "_law_exits", defArgs s_law_exits, defBody s_law_exits, defScope s_law_exits, [], []⟩) rfl
    d_law_program := c.def_ 51 (d := ⟨("_law_program", none), "_law_program", "_law_program", defArgs s_law_program, defBody s_law_program, defScope s_law_program, [], []⟩) rfl
    d_law_steps := c.def_ 52 (d := ⟨("_law_steps", none), "_law_steps", "_law_steps", defArgs s_law_steps, defBody s_law_steps, defScope s_law_steps, [], []⟩) rfl
    d_law_starts := c.def_ 53 (d := ⟨("_law_starts", none), "_law_starts", "_law_starts", defArgs s_law_starts, defBody s_law_starts, defScope s_law_starts, [], []⟩) rfl
    d_law_machine := c.def_ 54 (d := ⟨("_law_machine", none), "_law_machine", "_law_machine", defArgs s_law_machine, defBody s_law_machine, defScope s_law_machine, [], []⟩) rfl
    d_law_nexts := c.def_ 55 (d := ⟨("_law_nexts", none), "_law_nexts", "_law_nexts", defArgs s_law_nexts, defBody s_law_nexts, defScope s_law_nexts, [], []⟩) rfl
    d_law_far := c.def_ 56 (d := ⟨("_law_far", none), "_law_far", "_law_far", defArgs s_law_far, defBody s_law_far, defScope s_law_far, [], []⟩) rfl
    d_law_on := c.def_ 57 (d := ⟨("_law_on", none), "_law_on", "_law_on", defArgs s_law_on, defBody s_law_on, defScope s_law_on, [], []⟩) rfl
    d_law_looking := c.def_ 58 (d := ⟨("_law_looking", none), "_law_looking", "_law_looking", defArgs s_law_looking, defBody s_law_looking, defScope s_law_looking, [], []⟩) rfl
    d_law_is_int := c.def_ 59 (d := ⟨("_law_is_int", none), "_law_is_int", "_law_is_int", defArgs s_law_is_int, defBody s_law_is_int, defScope s_law_is_int, [], []⟩) rfl
    d_law_is_index := c.def_ 60 (d := ⟨("_law_is_index", none), "_law_is_index", "_law_is_index", defArgs s_law_is_index, defBody s_law_is_index, defScope s_law_is_index, [], []⟩) rfl
    d_law_is_lot := c.def_ 61 (d := ⟨("_law_is_lot", none), "_law_is_lot", "_law_is_lot", defArgs s_law_is_lot, defBody s_law_is_lot, defScope s_law_is_lot, [], []⟩) rfl
    d_law_odd := c.def_ 62 (d := ⟨("_law_odd", none), "_law_odd", "_law_odd", defArgs s_law_odd, defBody s_law_odd, defScope s_law_odd, [], []⟩) rfl
    d_law_spoiled := c.def_ 63 (d := ⟨("_law_spoiled", none), "_law_spoiled", "_law_spoiled", defArgs s_law_spoiled, defBody s_law_spoiled, defScope s_law_spoiled, [], []⟩) rfl
    d_law_ahead_rules := c.def_ 64 (d := ⟨("_law_ahead_rules", none), "_law_ahead_rules", "_law_ahead_rules", defArgs s_law_ahead_rules, defBody s_law_ahead_rules, defScope s_law_ahead_rules, [], []⟩) rfl
    d_law_refused := c.def_ 65 (d := ⟨("_law_refused", none), "_law_refused", "_law_refused", defArgs s_law_refused, defBody s_law_refused, defScope s_law_refused, [], []⟩) rfl
    d_law := c.def_ 66 (d := ⟨("law", none), "law", "law", defArgs s_law, defBody s_law, defScope s_law, [], []⟩) rfl
    i_RawBook := ⟨He.eqO_ok eR.1, of_decide_eq_true eR.2⟩
    i_Bag := ⟨He.eqO_ok eB.1, of_decide_eq_true eB.2⟩
    s_book := of_decide_eq_true e1 }
theorem fn_law {P : Program} {w : World} {K : PySem.W.Frag} {mg : Str → Option Value} {base : Heap} (T : Txt K mg) {f : Addr} {fd : FuncData} (F : FunD K "law" "law" (defArgs s_law) (defBody s_law) (defScope s_law) [] [] f fd) : FnOk P w K mg base CX0 10 f fd ["_law_script"] (sp_law K) := by
  have G_is_integer := ok_is_integer (P := P) (w := w) (K := K) (mg := mg) (base := base) T 
  have G_is_between := ok_is_between (P := P) (w := w) (K := K) (mg := mg) (base := base) T G_is_integer
  have G_is_index := ok_is_index (P := P) (w := w) (K := K) (mg := mg) (base := base) T G_is_between
  have G_is_lot := ok_is_lot (P := P) (w := w) (K := K) (mg := mg) (base := base) T G_is_index
  have G_mask_of := ok_mask_of (P := P) (w := w) (K := K) (mg := mg) (base := base) T 
  have G_lot_of := ok_lot_of (P := P) (w := w) (K := K) (mg := mg) (base := base) T 
  have G_RawBook_keep := ok_RawBook_keep (P := P) (w := w) (K := K) (mg := mg) (base := base) T G_mask_of
  have G_RawBook_bag := ok_RawBook_bag (P := P) (w := w) (K := K) (mg := mg) (base := base) T 
  have G_RawBook_owners := ok_RawBook_owners (P := P) (w := w) (K := K) (mg := mg) (base := base) T 
  have G_RawBook_rules := ok_RawBook_rules (P := P) (w := w) (K := K) (mg := mg) (base := base) T 
  have G_RawBook_rewriters := ok_RawBook_rewriters (P := P) (w := w) (K := K) (mg := mg) (base := base) T 
  have G_RawBook_init := ok_RawBook_init (P := P) (w := w) (K := K) (mg := mg) (base := base) T G_RawBook_keep
  have G_all_mask := ok_all_mask (P := P) (w := w) (K := K) (mg := mg) (base := base) T 
  have G_own_mask := ok_own_mask (P := P) (w := w) (K := K) (mg := mg) (base := base) T G_mask_of
  have G_State_init := ok_State_init (P := P) (w := w) (K := K) (mg := mg) (base := base) T 
  have G_State_stands := ok_State_stands (P := P) (w := w) (K := K) (mg := mg) (base := base) T G_lot_of
  have G_begin_state := ok_begin_state (P := P) (w := w) (K := K) (mg := mg) (base := base) T G_State_init G_all_mask
  have G_are_lookers := ok_are_lookers (P := P) (w := w) (K := K) (mg := mg) (base := base) T G_is_lot
  have G_is_move := ok_is_move (P := P) (w := w) (K := K) (mg := mg) (base := base) T G_are_lookers
  have G_is_row := ok_is_row (P := P) (w := w) (K := K) (mg := mg) (base := base) T G_is_move
  have G_check_row := ok_check_row (P := P) (w := w) (K := K) (mg := mg) (base := base) T G_is_row
  have G_is_open := ok_is_open (P := P) (w := w) (K := K) (mg := mg) (base := base) T 
  have G_make_along := ok_make_along (P := P) (w := w) (K := K) (mg := mg) (base := base) T 
  have G_made_lots := ok_made_lots (P := P) (w := w) (K := K) (mg := mg) (base := base) T G_is_open G_make_along
  have G_turn_rounds := ok_turn_rounds (P := P) (w := w) (K := K) (mg := mg) (base := base) T G_lot_of G_made_lots
  have G_turn_state := ok_turn_state (P := P) (w := w) (K := K) (mg := mg) (base := base) T G_State_init G_turn_rounds
  have G_move_on := ok_move_on (P := P) (w := w) (K := K) (mg := mg) (base := base) T G_own_mask G_turn_state
  have G_states_of := ok_states_of (P := P) (w := w) (K := K) (mg := mg) (base := base) T G_begin_state G_move_on
  have G_led := ok_led (P := P) (w := w) (K := K) (mg := mg) (base := base) T G_State_stands G_check_row G_states_of
  have G_are_exits := ok_are_exits (P := P) (w := w) (K := K) (mg := mg) (base := base) T G_is_between
  have G_Bag_init := ok_Bag_init (P := P) (w := w) (K := K) (mg := mg) (base := base) T G_are_exits
  have G_Bag_eq := ok_Bag_eq (P := P) (w := w) (K := K) (mg := mg) (base := base) T 
  have G_are_ways := ok_are_ways (P := P) (w := w) (K := K) (mg := mg) (base := base) T G_is_lot
  have G_are_kinds := ok_are_kinds (P := P) (w := w) (K := K) (mg := mg) (base := base) T G_is_index
  have G_Program_keep := ok_Program_keep (P := P) (w := w) (K := K) (mg := mg) (base := base) T 
  have G_Program_init := ok_Program_init (P := P) (w := w) (K := K) (mg := mg) (base := base) T G_Program_keep G_are_kinds G_are_ways
  have G_are_pairs := ok_are_pairs (P := P) (w := w) (K := K) (mg := mg) (base := base) T G_is_index
  have G_are_steps := ok_are_steps (P := P) (w := w) (K := K) (mg := mg) (base := base) T G_are_pairs
  have G_are_starts := ok_are_starts (P := P) (w := w) (K := K) (mg := mg) (base := base) T G_is_lot
  have G_Machine_init := ok_Machine_init (P := P) (w := w) (K := K) (mg := mg) (base := base) T G_are_starts G_are_steps G_is_between
  have G_states_book := ok_states_book (P := P) (w := w) (K := K) (mg := mg) (base := base) T G_RawBook_init
  have G_check_kinds := ok_check_kinds (P := P) (w := w) (K := K) (mg := mg) (base := base) T G_is_lot
  have G_book_ahead := ok_book_ahead (P := P) (w := w) (K := K) (mg := mg) (base := base) T G_RawBook_init G_states_book
  have G_ahead_book := ok_ahead_book (P := P) (w := w) (K := K) (mg := mg) (base := base) T G_book_ahead G_check_kinds
  have G_on_states := ok_on_states (P := P) (w := w) (K := K) (mg := mg) (base := base) T 
  have G_on_lots := ok_on_lots (P := P) (w := w) (K := K) (mg := mg) (base := base) T G_begin_state G_on_states G_turn_rounds
  have G_looks_on := ok_looks_on (P := P) (w := w) (K := K) (mg := mg) (base := base) T G_book_ahead G_check_kinds G_on_lots
  have G_law_hand := ok_law_hand (P := P) (w := w) (K := K) (mg := mg) (base := base) T 
  have G_law_draw := ok_law_draw (P := P) (w := w) (K := K) (mg := mg) (base := base) T 
  have G_law_some := ok_law_some (P := P) (w := w) (K := K) (mg := mg) (base := base) T G_law_draw
  have G_law_exits := ok_law_exits (P := P) (w := w) (K := K) (mg := mg) (base := base) T G_law_draw
  have G_law_program := ok_law_program (P := P) (w := w) (K := K) (mg := mg) (base := base) T G_law_draw
  have G_law_steps := ok_law_steps (P := P) (w := w) (K := K) (mg := mg) (base := base) T G_law_some
  have G_law_starts := ok_law_starts (P := P) (w := w) (K := K) (mg := mg) (base := base) T G_law_draw G_law_some
  have G_law_machine := ok_law_machine (P := P) (w := w) (K := K) (mg := mg) (base := base) T G_law_draw G_law_starts G_law_steps
  have G_law_nexts := ok_law_nexts (P := P) (w := w) (K := K) (mg := mg) (base := base) T 
  have G_law_far := ok_law_far (P := P) (w := w) (K := K) (mg := mg) (base := base) T G_law_nexts
  have G_law_on := ok_law_on (P := P) (w := w) (K := K) (mg := mg) (base := base) T G_law_nexts
  have G_law_looking := ok_law_looking (P := P) (w := w) (K := K) (mg := mg) (base := base) T G_law_far G_law_on
  have G_law_is_int := ok_law_is_int (P := P) (w := w) (K := K) (mg := mg) (base := base) T 
  have G_law_is_index := ok_law_is_index (P := P) (w := w) (K := K) (mg := mg) (base := base) T G_law_is_int
  have G_law_is_lot := ok_law_is_lot (P := P) (w := w) (K := K) (mg := mg) (base := base) T G_law_is_index
  have G_law_odd := ok_law_odd (P := P) (w := w) (K := K) (mg := mg) (base := base) T G_law_draw G_law_is_int
  have G_law_spoiled0 := ok_law_spoiled0 (P := P) (w := w) (K := K) (mg := mg) (base := base) T G_law_draw G_law_odd
  have G_law_spoiled := ok_law_spoiled (P := P) (w := w) (K := K) (mg := mg) (base := base) T G_law_draw G_law_odd G_law_spoiled0
  have G_law_ahead_rules := ok_law_ahead_rules (P := P) (w := w) (K := K) (mg := mg) (base := base) T 
  have G_law_refused := ok_law_refused (P := P) (w := w) (K := K) (mg := mg) (base := base) T G_ahead_book G_looks_on
  exact F.ok sc_law (fun _ _ _ _ h => S1.len h) (fun _ _ _ _ _ _ _ _ hr h => ⟨t_law K, PSs.nox (dv_law T G_Bag_eq G_Bag_init G_Machine_init G_Program_init G_RawBook_bag G_RawBook_owners G_RawBook_rewriters G_RawBook_rules G_law_ahead_rules G_law_draw G_law_exits G_law_hand G_law_is_lot G_law_looking G_law_machine G_law_program G_law_refused G_law_some G_law_spoiled G_ahead_book G_led G_looks_on hr), by obtain ⟨a0, rfl, h⟩ := S1.op h; exact rd_law T h⟩)
theorem facts {P : Program} {w : World} {K : PySem.W.Frag} {h : Heap} {mg : Str → Option Value} {f : Addr} (X : K.In h) (G : h.Ns mainGlobals mg) (hfa : mg ("law" : Str) = some (.ref f)) (c : He.SaysD fa fn K) (ex : exB K = true) :
    ∃ fd : FuncData, (∀ (s : Shared) (v : Value), BindsTo s fd ⟨[v], []⟩ [("_law_script", v)]) ∧ ∀ base : Heap, K.In base → base.Ns mainGlobals mg → FnOk P w K mg base CX0 10 f fd ["_law_script"] (sp_law K) := by
  have T := txt_of X G c ex
  obtain ⟨fd, F⟩ := T.d_law
  have e := hfa.symm.trans T.g_law
  cases e
  have b := FunD.bindsA (ps := ["_law_script"]) F fun _ _ _ _ _ _ us hl => match us, hl with | [_], _ => rfl
  exact ⟨fd, fun s v => b s [v] rfl, fun base _ _ => fn_law T F⟩
theorem ob_eq (s : PySem.W.SharedT) : ob s = hk.obs s.abs := obsM_eq (HandSHeadRun.getT_eq s)
end NB
open PySem PySem.W PySem.Calls PyProof.Rows
theorem PySem.Challenge.cw_neverblinder_k79_whole_books_that_look_a_holds : PySem.Challenge.rw_neverblinder_k79_whole_books_that_look_a.Holds := by
  w_on; o_law
  refine HandSHeadRun.head_any (r := OpenLaw.row PySem.Challenge.rw_neverblinder_k79_whole_books_that_look_a) (q := view (OpenLaw.row PySem.Challenge.rw_neverblinder_k79_whole_books_that_look_a).prog [98]) (H := NB.hk) (ob := NB.ob) (M := 6000) (loose := NB.lo) (d := HandSHeadRun.topDef (OpenLaw.row PySem.Challenge.rw_neverblinder_k79_whole_books_that_look_a).prog 98) (kwd := []) NB.ob_eq
    (by kernel_rfl) (fun s => by kernel_rfl) NB.run (by kernel_rfl) (by kernel_rfl) (by kernel_rfl) (by rfl) (by first | assumption | decide +kernel) (by decide +kernel) ⟨rfl, rfl, rfl, rfl, rfl, by decide +kernel⟩ ?hw ?hc
  case hw => w_witness2
  case hc =>
    refine L2.walk_ofE (l := PySem.Challenge.rw_neverblinder_k79_whole_books_that_look_a) (n := 63) (k := 10) (x := "_law_script") (CX := L2.CX0) rfl (by decide) (by kernel_rfl) ⟨rfl, by decide, by decide⟩ ?F (fun _ _ _ _ z => z)
    intro w mg fa h Y G hmg0
    obtain ⟨K, KX, c, ex⟩ := Y
    have hmg : mg ("law" : PySem.Str) = some (.ref fa) := by
      have e : (HandSHeadRun.topDef (OpenLaw.row PySem.Challenge.rw_neverblinder_k79_whole_books_that_look_a).prog 98).name = ("law" : PySem.Str) := by kernel_rfl
      rw [← e]
      exact hmg0
    obtain ⟨fd, hb, hF⟩ := NB.facts (P := (PySem.Challenge.rw_neverblinder_k79_whole_books_that_look_a).prog) (w := w) KX G hmg c ex
    exact ⟨K, fd, NB.sp_law K, KX, hb, fun H a ns hl _ hS => ⟨a, ns, rfl, hS, hl, fun _ => rfl⟩, hF⟩
