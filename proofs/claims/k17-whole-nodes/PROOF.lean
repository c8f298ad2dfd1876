import PyProof.Rows.All
import Wide.All
import OpenK.AllK
import Wide.FinOn
import HandS.ForMost
import HandS.DictComp
import HandS.DictEq
import HandS.DeepEq
import HandS.IsInst
import HandS.StrMore
import HandS.TryOnly
import HandS.NoneIn
import HandS.Conv
import HandS.Codes
import HandS.Style
import HandS.Flow
import HandS.Walk
import HandS.WrittenGet
import HandS.HeadHook2
import KE.KUnpackStar
import KE.GoesEnum
import PySem.Challenge.RW_watchednodes_k17_whole_nodes_go_with_the
set_option Elab.async false
set_option linter.all false
set_option maxRecDepth 100000
set_option maxHeartbeats 4000000
/-! Own rules over the layer: star targets, enumerate of a tuple, == of tuples of dicts, rjust with a sign, calls by Cal. -/
namespace N17
open PySem PySem.Spec PyProof.Rows
open L2 hiding CX0 E0 pass0 Fun Fun.ok fun_mk
open C8 (Cal CX0 E0 pass0)

/-! ### calls by Cal: no argument; with keywords -/
section
variable {X : Cx} {k j : Nat} {x : Str} {sp : Sp} {dvs : List V} {p pos : Pos}
theorem pe_c0 (c : Cal X.prog X.w X.K X.mg X.base k x sp dvs) (hr : Room j X.A) (hk : k ≤ j) (hg : Gl X x) (hdb : (x == ("__debug__" : Str)) = false := by decide) :
    PE X (.Call (.Name x p) [] [] pos) (tCall sp dvs E0 tNil) := by
  obtain ⟨f, fd, ps, ds, F, hm, kp, b, d⟩ := c.ex
  exact pe_call0 F (hr.mono hk) hg hm kp b d pass0 hdb
/-- two by their places, one by its name -/
def g2 {α : Type} : List α → List α → List α
  | [a, b], [c] => [a, b, c]
  | _, _ => []
/-- a def with keyword-only parameters behind: called by its name -/
structure CalK (P : Program) (w : World) (K : PySem.W.Frag) (mg : Str → Option Value) (base : Heap) (k : Nat) (x : Str) (ks : List Str) (sp : Sp) : Prop where
  ex : ∃ (f : Addr) (fd : FuncData) (ps : List Str), FnOk P w K mg base CX0 k f fd ps sp ∧ mg x = some (.ref f) ∧ PySem.W.keepIn K (.ref f) = true ∧ KBinds K fd ps ks g2 g2
theorem pe_ck {ks : List Str} {e : Expr} {es : List Expr} {kws : List Keyword} {t tk : TA} (c : CalK X.prog X.w X.K X.mg X.base k x ks sp) (hr : Room j X.A) (hk : k ≤ j) (hg : Gl X x) (ha : PA X (e :: es) t) (hkw : PK X kws tk)
    (hall : (backToKw pos (keywordEach kws X.env)).all (·.1.isSome) = true := by rfl) (hks : (backToKw pos (keywordEach kws X.env)).filterMap (·.1) = ks := by rfl)
    (hdb : (x == ("__debug__" : Str)) = false := by decide) (he : starEach (e :: es) X.env = (false, eval e X.env) :: starEach es X.env := by rfl)
    (hpl : ((backTo pos (starEach (e :: es) X.env)).any (·.1) || (backToKw pos (keywordEach kws X.env)).any (·.1.isNone)) = false := by rfl) :
    PE X (.Call (.Name x p) (e :: es) kws pos) (tCallK sp g2 E0 t tk) := by
  obtain ⟨f, fd, ps, F, hm, kp, b⟩ := c.ex
  exact pe_callK F (hr.mono hk) hg hm kp b pass0 ha hkw hall hks hdb he hpl
theorem calK0 {P : Program} {w : World} {K : PySem.W.Frag} {mg : Str → Option Value} {base : Heap} {x : Str} {st : Stmt} {f : Addr} {fd : FuncData} {N ps ks : List Str} {k : Nat} {sp : Sp} (F : C8.Def K mg x st f fd)
    (b : KBinds K fd ps ks g2 g2) (Z : FnScope N ps (C8.fnScope st)) (len : ∀ vs H Q E, sp vs H Q E → vs.length = ps.length)
    (hbody : ∀ (cdv : Value) (A : Around) (outer : List Env) (s : Shared) (H : Hp) (vs : List V) (Q : VK) (E : XK), Room k (A.deeper (envOfC x (C8.fnScope st) s.heap.objs.size f cdv)) → sp vs H Q E →
      ∃ t, PSs (cxOf CX0 P w K mg base N x (C8.fnScope st) f cdv A outer s H E).nox (C8.fnBody st) t ∧ t { nx := fun _ H' => Q .non H', rt := Q } (L2.start N vs) H) : CalK P w K mg base (k + 1) x ks sp :=
  ⟨f, fd, ps, C8.fn0 F.fn Z len hbody, F.mgf, F.kp, b⟩
end

/-! ### s.rjust(n, c) -/
theorem mt_rjustF {X : Cx} : MtR X "str.rjust" (fun x xs H Q => ∃ (a f : Str) (i : Int), x = .str a ∧ xs = [.int i, .str f] ∧ PadOk i = true ∧ f.length = 1 ∧ Q (.str (Txt.rjustF a i (f.cps.getD 0 0))) H) := by
  intro pins s σ H x xs v us Q I rx rs h
  obtain ⟨a, f, i, rfl, rfl, hp, hf, q⟩ := h
  obtain ⟨t, rfl⟩ := rx
  cases rs with
  | cons r1 rs =>
    cases rs with
    | cons r2 rs =>
      cases rs
      obtain ⟨u, rfl⟩ := r1
      obtain ⟨u2, rfl⟩ := r2
      exact PyProof.Rows.rjust_fill hp hf fun t' k => ⟨.str _, H, I.tok k, ⟨t', rfl⟩, q⟩

/-! ### a, b, *c = a tuple -/
/-- n plain names ahead, the starred one last -/
def gStar (K : PySem.W.Frag) (n : Nat) (t : TGs) : TG := fun v σ H Q => ∃ a xs, v = .ref a ∧ SqT K H a xs ∧ n ≤ xs.length ∧ xs.length ≤ 100 ∧
  ∀ p, H p = none → t (xs.take n ++ [.ref p]) σ (upd H p (.lst (xs.drop n))) Q
theorem pgs_star {X : Cx} {e : Expr} {sp : Pos} {t : TG} (h : PG X e t) : PGs X [.Starred e sp] (gCons t gNil) := by
  refine ⟨fun pins s σ H vs us Q I r h' => ?_⟩
  obtain ⟨v, vr, e1, h1⟩ := h'
  subst e1
  cases r with
  | cons r rr =>
    show wpAny _ _ (assignInOrder (assign e X.env :: []) _) _ _ s
    refine assignInOrder_cons (thn (h.run pins s σ H _ _ _ I r h1) fun _ s1 ⟨σ1, H1, I1, q1⟩ => ?_)
    exact assignInOrder_nil ⟨σ1, H1, I1, q1.2⟩
theorem pg_star {X : Cx} {es : List Expr} {k n : Nat} {t : TGs} {pos : Pos} (hc : X.calm = true) (h : PGs X es t)
    (hn : (assignEach es X.env).length = n + 1 := by rfl) (hst : (assignEach es X.env).findIdx? (·.1) = some n := by rfl) : PG X (.Tuple es k pos) (gStar X.K n t) := by
  refine ⟨fun pins s σ H v u Q I r hw => ?_⟩
  obtain ⟨a, xs, e1, hq, hl, hm, hw⟩ := hw
  subst e1
  cases r
  obtain ⟨its, rv, ht, hz⟩ := I.tuple hq
  have hlen := rv.length
  rw [assign_Tuple]
  refine wpAny_bind (wpAny_standAt ?_)
  unfold unpack
  rw [hn, hst]
  refine wpAny_bind (wpAny_holding ?_)
  have hah := I.ok.hd hc
  have hlt : a ≠ s.heap.objs.size := by
    obtain ⟨o, ho, _⟩ := id ht
    exact Nat.ne_of_lt (Heap.lt_size ho)
  unfold unpackItems notIterableAtAll
  refine wpAny_bind (wpAny_bind (wpAny_specialOf ht.typeIs slot_tuple_iter.lookup (wpAny_pure ?_)))
  simp only [Bool.false_eq_true, if_false]
  refine wpAny_bind (wpAny_holding (iter_tuple ht ?_))
  have hsz : its.toArray.size = xs.length := by simp [hlen]
  refine wpAny_bind (wpAny_holding (draw_tuple hlt n 0 _ _ ⟨_, Heap.get?_push_size _ rfl, rfl, rfl⟩ (ht.push _) (by rw [hsz]; omega) fun g1 it1 sb1 => ?_))
  have ht1 : IsTup g1 a its.toArray := (ht.push _).extBut sb1.extBut hlt
  rw [Nat.zero_add] at it1
  obtain ⟨oi, hoi, _⟩ := id it1
  obtain ⟨ol, hol, _⟩ := id ht1
  have hfirst : (List.take n (List.drop 0 its.toArray.toList)).length = n := by
    rw [List.drop_zero, List.length_take, List.toList_toArray]
    omega
  simp only [hfirst, Nat.lt_irrefl, if_false]
  refine wpAny_bind (wpAny_holding (PySem.W.kun_collect (s := { s with heap := g1 }) (T := "tuple_iterator") (.inr (.inr (.inr rfl))) (Walks.tuple (A := X.A.in1) hah s.heap.objs.size a hlt its.toArray) (fun j u st => st.1.typeIs) (k := n) (by rw [hsz]; omega) ⟨it1, ht1⟩ (Heap.lt_size hoi) (Heap.lt_size hol) (fun g2 tk hk => ?_) (by rw [hsz]; exact Nat.le_trans hm (by decide))))
  have hrest : (its.toArray.toList.drop n).length - (n + 1 - 1 - n) = (its.toArray.toList.drop n).length := by omega
  have hno : ¬ (its.toArray.toList.drop n).length < n + 1 - 1 - n := by omega
  simp only [hno, if_false, hrest, List.toList_toArray, List.take_length, List.drop_length, List.drop_zero, List.append_nil]
  have keep : ∀ b o, s.heap.get? b = some o → g2.get? b = some o := fun b o e => hk b o (Nat.ne_of_lt (Heap.lt_size e)) ((sb1.2 b (Nat.ne_of_lt (Heap.lt_size e))).trans (Heap.get?_push_of_some _ e))
  have I2 : Inv X pins σ H { s with heap := g2, toks := tk } := I.kept keep
  have rvd : Vals (xs.drop n) (its.drop n) := rv.drop n
  unfold newList
  refine wpAny_bind (wpAny_newObj_type ?_ ?_)
  · refine wpAny_pure ?_
    have hf : H g2.objs.size = none := I2.hok.fresh (Nat.le_refl _)
    have I3 : Inv X pins σ (upd H g2.objs.size (.lst (xs.drop n))) { s with heap := g2.push { cls := .type "list", data := .seq (its.drop n).toArray 0 }, toks := tk } :=
      I2.laid (t' := tk) (fun b o e => Heap.get?_push_of_some _ e) (Nat.le_refl _) ⟨by rw [List.length_drop]; exact Nat.le_trans (Nat.sub_le _ _) (Nat.le_trans hm (by decide)), its.drop n, 0, rvd, Heap.get?_push_size _ rfl⟩
    have r3 : Vals (xs.take n ++ [.ref g2.objs.size]) (its.take n ++ [.ref g2.objs.size]) := (rv.take n).append (.cons rfl .nil)
    have q := h.run pins _ σ _ _ _ Q I3 r3 (hw _ hf)
    exact q
  · have hz2 : (its.drop n).toArray.size ≤ sizeLine := by
      rw [List.size_toArray, List.length_drop, ← hlen]
      exact Nat.le_trans (Nat.sub_le _ _) (Nat.le_trans hm (by decide))

    exact hz2
/-! ### enumerate of a tuple -/
def tI (a : Addr) : Obj := { cls := .type "tuple_iterator", data := .fields #[.ref a, .int 0 0] }
def enO (it : Addr) : Obj := { cls := .type "enumerate", data := .fields #[.none, .bool false, .ref it, rawInt 0, .none, .none] }
theorem meets_enT (t : Addr) (items : Array Value) : Meets (Builtin.«enumerate.__new__» ⟨[.type "enumerate", .ref t], []⟩)
    (fun _ R s => s.heap.IsTuple t items ∧ R (.ok (.ret (.ref (s.heap.push (tI t)).objs.size))) { s with heap := (s.heap.push (tI t)).push (enO s.heap.objs.size) }) :=
  .of_wp fun prog w A R s hh => by
    obtain ⟨hp, gn, dr, tk, os⟩ := s
    obtain ⟨hT, hR⟩ := hh
    have sb := sub_enumerate
    have stp : ∀ {A' : Around} {E : Value → Shared → Prop} {Q : Value → Shared → Prop}, Q (.ref hp.objs.size) ⟨hp.push (tI t), gn, dr, tk, os⟩ → wpAny (model prog w) A' (pyIter (.ref t)) Q E ⟨hp, gn, dr, tk, os⟩ :=
      fun q => (begins_tuple t items).iter prog w _ _ ⟨hp, gn, dr, tk, os⟩ _ hT q
    wp_walk using stp
    refine wpAny_stack_any fun st => wpAny_pure ?_
    split
    · rename_i c _ _ _ _ _
      cases (c == Value.type "enumerate")
      · wp_walk using stp
        exact ⟨_, rfl, hR⟩
      · wp_walk using stp
        exact ⟨_, rfl, hR⟩
    · wp_walk using stp
      exact ⟨_, rfl, hR⟩
section
variable {prog : Program} {w : World} {A : Around} {E : Value → Shared → Prop} {s : Shared}
theorem call_enT {t : Addr} {items : Array Value} {Q : Value → Shared → Prop} (hT : s.heap.IsTuple t items)
    (k : ∀ g, IsEnum g (s.heap.objs.size + 1) s.heap.objs.size 0 .none → g.IsTupleIter s.heap.objs.size t 0 → g.objs.size = s.heap.objs.size + 2 →
      (∀ b o, s.heap.get? b = some o → g.get? b = some o) → Q (.ref (s.heap.objs.size + 1)) { s with heap := g }) : wpAny (model prog w) A (call (.type "enumerate") [.ref t]) Q E s := by
  refine callType_new F.called_enumerate (by decide) (F.typeCall_enumerate_1 _) (F.newCall_enumerate_1 _) (fun obj => F.args_object_init_2 obj _) F.entry_enumerate_new (meets_enT t items) ⟨hT, ?_⟩
  have z1 : (s.heap.push (tI t)).objs.size = s.heap.objs.size + 1 := Heap.size_push ..
  show _ ∧ _
  rw [z1]
  have e0 : IsEnum ((s.heap.push (tI t)).push (enO s.heap.objs.size)) (s.heap.objs.size + 1) s.heap.objs.size 0 .none := by
    have q := Heap.get?_push_size (s.heap.push (tI t)) (o := enO s.heap.objs.size) rfl
    rw [z1] at q
    exact q
  exact ⟨⟨_, e0, rfl⟩, k _ e0 ⟨_, Heap.get?_push_of_some _ (Heap.get?_push_size _ rfl), rfl, rfl⟩ (by rw [Heap.size_push, z1]) fun b o x => Heap.get?_push_of_some _ (Heap.get?_push_of_some _ x)⟩
end
/-- the tuple at a, each item in a new pair with its number -/
def Itu (K : PySem.W.Frag) (a : Addr) : It :=
  ⟨fun i H => ∃ (xs : List V) (x : V), SqT K H a xs ∧ xs[i]? = some x, fun i H v H' => ∃ T x, v = .ref T ∧ H T = none ∧ H' = upd H T (.tup [.int (i : Nat), x]) ∧ ∀ xs, SqT K H a xs → xs[i]? = some x, fun i H => ∃ xs : List V, SqT K H a xs ∧ xs.length = i⟩
theorem turn_enT {P : Program} {w : World} {K : PySem.W.Frag} {elts : List Expr} {kk : Nat} {tpos : Pos} (a e it : Addr) :
    Turn P w K (.Tuple elts kk tpos) (Itu K a) [e, it] e (fun i h => (∃ old, IsEnum h e it ((i : Nat) : Int) old) ∧ h.IsTupleIter it a i ∧ e ≠ it) where
  mem := by simp
  obj := fun i h st b hb => by
    obtain ⟨⟨old, he⟩, ⟨o, ho, hc, hd⟩, _⟩ := st
    have z : b = e ∨ b = it := by simpa using hb
    rcases z with z | z
    · subst z; exact ⟨_, he, fun v q => nomatch q⟩
    · subst z; exact ⟨o, ho, fun v q => by rw [hd] at q; cases q⟩
  keep := fun i h h' st k => let ⟨⟨old, he⟩, hi, hne⟩ := st; ⟨⟨old, k e (by simp) _ he⟩, hi.at fun o q => k it (by simp) o q, hne⟩
  item := by
    intro X hP hw hK hc i pins s σ H E I hf st hg
    subst hP hw hK
    obtain ⟨⟨old, he⟩, hit, hne⟩ := st
    obtain ⟨xs, x, hq, hx⟩ := hg
    obtain ⟨its, rv, p, hz⟩ := I.tuple hq
    obtain ⟨u, hu, ru⟩ := rv.get hx
    have hel : e < s.heap.objs.size := Heap.lt_size he
    have hil : it < s.heap.objs.size := let ⟨_, q, _⟩ := hit; Heap.lt_size q
    have hai : a ≠ it := fun z => by
      obtain ⟨o1, q1, c1, _⟩ := hit
      obtain ⟨o2, q2, c2, _⟩ := p
      rw [z, q1] at q2
      cases q2
      rw [c1] at c2
      exact absurd c2 (by decide)
    have hia : i < its.toArray.size := by
      rcases Nat.lt_or_ge i its.toArray.size with z | z
      · exact z
      · rw [List.size_toArray] at z
        rw [List.getElem?_eq_none z] at hu
        cases hu
    have hp : s.heap.IsTuple a its.toArray := p
    refine wpAny_pyNext_enum_itemD (Draws.tuple (A := X.A.in1) (I.ok.hd hc) it a hai its.toArray) he ⟨hit, hp⟩ hia hne (by
      intro m
      have z : e = it ∨ e = a := by simpa using m
      rcases z with z | z
      · exact hne z
      · obtain ⟨o2, q2, c2, _⟩ := p
        have q3 : s.heap.get? e = _ := he
        rw [← z, q3] at q2
        cases q2
        exact absurd (show Value.type "enumerate" = Value.type "tuple" from c2) (by decide)) fun y g tk hy ho st' hT hsz hk => ?_
    have ey : y = u := by
      have h1 : its[i]? = some y := by simpa using hy
      rw [hu] at h1
      exact (Option.some.inj h1).symm
    subst ey
    refine ⟨_, rfl, wpAny_letOwnedTupleGo_enum (s := { s with heap := g, toks := tk + 1 }) ho fun g2 he2 sb => ?_⟩
    have hT2 : g2.get? s.heap.objs.size = some { cls := .type "tuple", data := .seq #[.int i tk, y] } := (sb.2 _ (Nat.ne_of_gt hel)).trans hT
    have new : ObjOk X.prog X.w (upd H s.heap.objs.size (.tup [.int (i : Nat), x])) g2 s.heap.objs.size (.tup [.int (i : Nat), x]) :=
      ⟨by show 2 ≤ sizeLine; decide, [.int i tk, y], .cons ⟨_, rfl⟩ (.cons ru .nil), ⟨_, hT2, rfl, _, rfl⟩⟩
    have I1 : Inv X pins σ (upd H s.heap.objs.size (.tup [.int (i : Nat), x])) { s with heap := g2, toks := tk + 1 } :=
      I.turnedNew (ch := [e, it]) (fun b ob hb q => (sb.2 b (fun z => hb (by simp [z]))).trans (hk b ob (fun z => hb (by simp [z])) (fun z => hb (by simp [z])) q)) hf (Nat.le_refl _) new
    refine ⟨.ref s.heap.objs.size, _, I1, rfl, ⟨_, x, rfl, I.hok.fresh (Nat.le_refl _), rfl, fun ys hy => by rw [I.tuple_inj hy hq]; exact hx⟩, ⟨⟨y, ?_⟩, st'.1.at fun o q => (sb.2 it (Ne.symm hne)).trans q, hne⟩, fun b hb => ?_⟩
    · rw [show ((i + 1 : Nat) : Int) = (i : Int) + 1 by omega]
      exact he2
    · have lb : b < s.heap.objs.size := by
        have z : b = e ∨ b = it := by simpa using hb
        rcases z with z | z
        · rw [z]; exact hel
        · rw [z]; exact hil
      rw [upd_ne (Nat.ne_of_lt lb)]
      exact (hf b hb).1
  done := by
    intro X hP hw hK hc i pins s σ H E I hf st hg
    subst hP hw hK
    obtain ⟨⟨old, he⟩, hit, hne⟩ := st
    obtain ⟨xs, hq, hx⟩ := hg
    obtain ⟨its, rv, p, hz⟩ := I.tuple hq
    obtain ⟨f0, f1, f2, f3, f4, f5⟩ := hf it (by simp)
    have hl := rv.length
    have hai : a ≠ it := fun z => by
      obtain ⟨o1, q1, c1, _⟩ := hit
      obtain ⟨o2, q2, c2, _⟩ := p
      rw [z, q1] at q2
      cases q2
      rw [c1] at c2
      exact absurd c2 (by decide)
    have hp : s.heap.IsTuple a its.toArray := p
    have en : its.toArray.size = i := by rw [List.size_toArray]; omega
    exact wpAny_pyNext_enum_endD (Draws.tuple (A := X.A.in1) (I.ok.hd hc) it a hai its.toArray) he (show _ ∧ _ from ⟨by rw [en]; exact hit, hp⟩) fun g eb => ⟨rfl, I.turned (t' := s.toks) (fun b o hb q => eb b o hb q) f0 f1 f3 f4 f5⟩
  self := fun A i s Q E st h => let ⟨⟨_, he⟩, _⟩ := st; wpAny_pyIter_enum he h
def iEnT (K : PySem.W.Frag) (ta : TA) : TI := fun σ H R => ta σ H fun vs H1 => ∃ a xs, vs = [.ref a] ∧ SqT K H1 a xs ∧ R (Itu K a) H1
theorem pi_enT {X : Cx} {e : Expr} {ta : TA} {p pos tpos : Pos} {elts : List Expr} {kk : Nat} (hg : Gl X "enumerate") (hm : X.mg "enumerate" = none) (ha : PA X [e] ta) (hs : starEach [e] X.env = [(false, eval e X.env)] := by rfl) :
    PI X (.Tuple elts kk tpos) (.Call (.Name "enumerate" p) [e] [] pos) (iEnT X.K ta) := by
  refine ⟨fun pins s σ H R I h => ?_⟩
  refine Call_ (ld_blt I hg hm boot_enumerate (PyProof.Rows.callWith_type1 (thn (ha.run pos pins s σ H _ I h) fun us s1 ⟨vs, H1, I1, r1, q1⟩ => ?_) hs rfl))
  obtain ⟨a, xs, ex, hq, q⟩ := q1
  subst ex
  cases r1 with
  | cons r rr =>
    cases rr
    cases r
    obtain ⟨its, rv, p', hz⟩ := I1.tuple hq
    have pt : s1.heap.IsTuple a its.toArray := p'
    refine call_enT pt fun g he hit hsz hk => wpAny_pyIter_enum he ?_
    have I2 : Inv X pins σ H1 { s1 with heap := g } := I1.kept (t' := s1.toks) hk
    refine ⟨s1.heap.objs.size + 1, [s1.heap.objs.size + 1, s1.heap.objs.size], _, _, H1, rfl, I2, turn_enT a (s1.heap.objs.size + 1) s1.heap.objs.size, ⟨⟨.none, he⟩, hit, Nat.succ_ne_self _⟩, fun b hb => ?_, q⟩
    have z : b = s1.heap.objs.size + 1 ∨ b = s1.heap.objs.size := by simpa using hb
    have hle : s1.heap.objs.size ≤ b := by
      rcases z with z | z
      · rw [z]; exact Nat.le_succ _
      · rw [z]; exact Nat.le_refl _
    exact I1.fpOk hle (I1.hok.fresh hle)
theorem walk_enT {K : PySem.W.Frag} {a : Addr} {xs : List V} : Walk (Itu K a) xs.length (fun H => SqT K H a xs) (YPair (fun i => some (.int (i : Nat))) (fun i => xs[i]?)) :=
  ⟨fun i _ hi q => ⟨xs, xs[i], q, by simp [hi]⟩, fun _ q => ⟨xs, q, rfl⟩, fun i H x H' _ q y => by
    obtain ⟨T, v, e, n, e2, f⟩ := y
    exact ⟨T, .int (i : Nat), v, e, n, e2, rfl, f xs q⟩⟩

/-! ### a dict comprehension over anything walked -/
theorem dc_it {J : It} {n : Nat} {G : Hp → Prop} {Y : Nat → Hp → V → Hp → Prop} (w : Walk J n G Y) {g : TG} {tt : TT} {tk tv : TE} {vs : List Nat} {σ : L2.St} {H1 : Hp} {D : Addr} {Qd : Hp → Prop} (Pv : Nat → Hp → Prop) (h0 : Pv 0 (upd H1 D (.dK [])))
    (hG : ∀ i H, i ≤ n → Pv i H → G H)
    (hs : ∀ i x H H', i < n → Pv i H → Y i H x H' → g x (wipe σ vs) H' fun σ2 H2 => wipe σ2 vs = wipe σ vs ∧ tt σ2 H2 fun b H3 =>
      if b = true then tk σ2 H3 fun y H4 => tv σ2 H4 fun z H5 => ∃ kvs k, y = kV k ∧ H5 D = some (.dK kvs) ∧ kvs.length < sizeLine ∧ Pv (i + 1) (upd H5 D (.dK (putK kvs k z))) else Pv (i + 1) H3) (hd : ∀ H, Pv n H → Qd H) :
    ∃ W : Nat → Nat → Hp → Prop, (∃ m, W 0 m (upd H1 D (.dK []))) ∧ ∀ i m H, W i m H →
      (J.stop i H ∧ Qd H) ∨ (J.go i H ∧ ∃ Nx : Hp → Prop, (∀ H', Nx H' → ∃ m', m' < m ∧ W (i + 1) m' H') ∧ ∀ x H', J.yld i H x H' → g x (wipe σ vs) H' fun σ2 H2 => wipe σ2 vs = wipe σ vs ∧ tt σ2 H2 fun b H3 =>
        if b = true then tk σ2 H3 fun y H4 => tv σ2 H4 fun z H5 => ∃ kvs k, y = kV k ∧ H5 D = some (.dK kvs) ∧ kvs.length < sizeLine ∧ Nx (upd H5 D (.dK (putK kvs k z))) else Nx H3) := by
  refine ⟨fun i m H => m = n - i ∧ i ≤ n ∧ Pv i H, ⟨n, by simp, Nat.zero_le _, h0⟩, ?_⟩
  rintro i m H ⟨rfl, hi, p⟩
  have q := hG i H hi p
  by_cases c : i < n
  · exact .inr ⟨w.goes i H c q, Pv (i + 1), fun H' p' => ⟨n - (i + 1), by omega, rfl, c, p'⟩, fun x H' y => hs i x H H' c p (w.yields i H x H' c q y)⟩
  · have e : i = n := by omega
    subst e
    exact .inl ⟨w.stops H q, hd H p⟩

/-! ### == of two tuples of dicts -/
section
variable {prog : Program} {w : World}
theorem tup_eqIn (l b : Addr) (xs ys : Array Value) (n m : Nat) (dl db : Option Addr) (sl sb : Array (Option Value)) (hsz : xs.size = ys.size) :
    MeetsIn prog w (Builtin.«tuple.__eq__» ⟨[.ref l, .ref b], []⟩)
      (fun A R s => s.heap.get? l = some { cls := .type "tuple", dict := dl, data := .seq xs n, slots := sl } ∧ s.heap.get? b = some { cls := .type "tuple", dict := db, data := .seq ys m, slots := sb } ∧
        (∀ j (h1 : j < xs.size) (h2 : j < ys.size), SeqAt.EqP prog w A.in1 s xs[j] ys[j] true) ∧ R (.ok (.ret (.bool true))) s) := by
  intro A R s hh
  obtain ⟨hp, gn, dr, tk, os⟩ := s
  obtain ⟨hl, hb, he, hR⟩ := hh
  have f2 := AutoSeq1.sub_tuple_tuple
  have hZ : (xs.toList.zip ys.toList).length = xs.size := by simp [hsz]
  wp_walk using wpAny_loadPart' hl, wpAny_loadPart' hb, wpAny_forIn_list _ (fun rest b s' => b.1 = none ∧ s' = ⟨hp, gn, dr, tk, os⟩ ∧ ∃ i, rest = (xs.toList.zip ys.toList).drop i) _
  case turn =>
    rintro ⟨y, x⟩ rest b s' ⟨hb', rfl, i, hz⟩
    have hlt : i < (xs.toList.zip ys.toList).length := by
      rcases Nat.lt_or_ge i (xs.toList.zip ys.toList).length with q | q
      · exact q
      · rw [List.drop_of_length_le q] at hz
        cases hz
    have h1 : i < xs.size := by rw [← hZ]; exact hlt
    have h2 : i < ys.size := by rw [← hsz]; exact h1
    rw [List.drop_eq_getElem_cons hlt] at hz
    injection hz with hyx hrest
    obtain rfl : y = xs[i] := by simpa using congrArg Prod.fst hyx
    obtain rfl : x = ys[i] := by simpa using congrArg Prod.snd hyx
    refine wpAny_bind (he i h1 h2 _ _ ?_)
    wp_walk
    exact ⟨rfl, rfl, i + 1, hrest⟩
  case fin =>
    rintro ⟨b1, b2⟩ s' ⟨hb', rfl, i, hz⟩
    simp only at hb'
    subst hb'
    wp_walk
    simpa [Builtin.Tuple.tupleCompareSizes, hsz] using hR
  case h =>
    exact ⟨rfl, rfl, 0, rfl⟩
theorem tup_neIn (l b : Addr) (xs ys : Array Value) (n m : Nat) (dl db : Option Addr) (sl sb : Array (Option Value)) (hsz : xs.size = ys.size) :
    MeetsIn prog w (Builtin.«tuple.__ne__» ⟨[.ref l, .ref b], []⟩)
      (fun A R s => s.heap.get? l = some { cls := .type "tuple", dict := dl, data := .seq xs n, slots := sl } ∧ s.heap.get? b = some { cls := .type "tuple", dict := db, data := .seq ys m, slots := sb } ∧
        (∀ j (h1 : j < xs.size) (h2 : j < ys.size), SeqAt.EqP prog w A.in1 s xs[j] ys[j] true) ∧ R (.ok (.ret (.bool false))) s) := by
  intro A R s hh
  obtain ⟨hp, gn, dr, tk, os⟩ := s
  obtain ⟨hl, hb, he, hR⟩ := hh
  have f2 := AutoSeq1.sub_tuple_tuple
  have hZ : (xs.toList.zip ys.toList).length = xs.size := by simp [hsz]
  wp_walk using wpAny_loadPart' hl, wpAny_loadPart' hb, wpAny_forIn_list _ (fun rest b s' => b.1 = none ∧ s' = ⟨hp, gn, dr, tk, os⟩ ∧ ∃ i, rest = (xs.toList.zip ys.toList).drop i) _
  case turn =>
    rintro ⟨y, x⟩ rest b s' ⟨hb', rfl, i, hz⟩
    have hlt : i < (xs.toList.zip ys.toList).length := by
      rcases Nat.lt_or_ge i (xs.toList.zip ys.toList).length with q | q
      · exact q
      · rw [List.drop_of_length_le q] at hz
        cases hz
    have h1 : i < xs.size := by rw [← hZ]; exact hlt
    have h2 : i < ys.size := by rw [← hsz]; exact h1
    rw [List.drop_eq_getElem_cons hlt] at hz
    injection hz with hyx hrest
    obtain rfl : y = xs[i] := by simpa using congrArg Prod.fst hyx
    obtain rfl : x = ys[i] := by simpa using congrArg Prod.snd hyx
    refine wpAny_bind (he i h1 h2 _ _ ?_)
    wp_walk
    exact ⟨rfl, rfl, i + 1, hrest⟩
  case fin =>
    rintro ⟨b1, b2⟩ s' ⟨hb', rfl, i, hz⟩
    simp only at hb'
    subst hb'
    wp_walk
    simpa [Builtin.Tuple.tupleCompareSizes, hsz, bne] using hR
  case h =>
    exact ⟨rfl, rfl, 0, rfl⟩
theorem rc_tup (op : CmpOp) (r : Bool) {A : Around} {s : Shared} {l b : Addr} {xs ys : Array Value} (hl : s.heap.IsTuple l xs) (hb : s.heap.IsTuple b ys) (hsz : xs.size = ys.size) (hu : A.units < cLine)
    (ho : op = .Eq ∧ r = true ∨ op = .NotEq ∧ r = false) (he : ∀ j (h1 : j < xs.size) (h2 : j < ys.size), SeqAt.EqP prog w A.in1 s xs[j] ys[j] true) (E Q : Value → Shared → Prop) (h : Q (.bool r) s) :
    wpAny (model prog w) A (richCompare op (.ref l) (.ref b)) Q E s := by
  obtain ⟨⟨c1, d1, t1, s1⟩, o1, hc1, n1, hd1⟩ := id hl
  obtain ⟨⟨c2, d2, t2, s2⟩, o2, hc2, n2, hd2⟩ := id hb
  simp only at hc1 hd1 hc2 hd2
  subst hc1 hd1 hc2 hd2
  have ta : s.TypeIs (.ref l) "tuple" := ⟨_, o1, rfl⟩
  have tb : s.TypeIs (.ref b) "tuple" := ⟨_, o2, rfl⟩
  rcases ho with ⟨rfl, rfl⟩ | ⟨rfl, rfl⟩
  · exact wpAny_richCompare_same_room (op := .Eq) ta tb F.slot_tuple_eq (call_meetsIn F.slot_tuple_eq ta F.entry_tuple_eq (F.args_tuple_eq_2 _ _) (tup_eqIn l b xs ys n1 n2 d1 d2 s1 s2 hsz) ⟨o1, o2, he, (fun x => nomatch x), h⟩) hu
  · exact wpAny_richCompare_same_room (op := .NotEq) ta tb F.slot_tuple_ne (call_meetsIn F.slot_tuple_ne ta F.entry_tuple_ne (F.args_tuple_ne_2 _ _) (tup_neIn l b xs ys n1 n2 d1 d2 s1 s2 hsz) ⟨o1, o2, he, (fun x => nomatch x), h⟩) hu
end
/-- equal: as EqV, or tuples of such, nested n deep -/
def EqT (K : PySem.W.Frag) (H : Hp) : Nat → V → V → Prop
  | 0 => EqV K H 3
  | n + 1 => fun x y => EqV K H 3 x y ∨ ∃ a b xs ys, x = .ref a ∧ y = .ref b ∧ SqT K H a xs ∧ SqT K H b ys ∧ Paired (EqT K H n) xs ys
section
variable {X : Cx} {pins : List (Addr × Obj)} {σ : L2.St} {H : Hp} {s : Shared}
theorem tupR_run (I : Inv X pins σ H s) (op : CmpOp) (r : Bool) {A : Around} {F : V → V → Prop} (hu : A.units < cLine) (ho : op = .Eq ∧ r = true ∨ op = .NotEq ∧ r = false)
    (ih : ∀ x y v u, F x y → RelV x v → RelV y u → SeqAt.EqP X.prog X.w A.in1 s v u true) {a b : Addr} {xs ys : List V} (ha : SqT X.K H a xs) (hb : SqT X.K H b ys) (hp : Paired F xs ys)
    (E Q : Value → Shared → Prop) (q : Q (.bool r) s) : wpAny (model X.prog X.w) A (richCompare op (.ref a) (.ref b)) Q E s := by
  obtain ⟨us, r1, p1, _⟩ := I.tuple ha
  obtain ⟨ws, r2, p2, _⟩ := I.tuple hb
  have hsz : us.toArray.size = ws.toArray.size := by
    rw [List.size_toArray, List.size_toArray, ← r1.length, ← r2.length]
    exact Paired.length hp
  refine rc_tup op r p1 p2 hsz hu ho (fun j h1 h2 => ?_) E Q q
  have k := items_run ih hp r1 r2 j (by simpa using h1) (by simpa using h2)
  simpa using k
theorem eqT_run (I : Inv X pins σ H s) : ∀ (n : Nat) (A : Around), A.units + n + 3 < cLine → ∀ (x y : V) (v u : Value), EqT X.K H n x y → RelV x v → RelV y u → SeqAt.EqP X.prog X.w A s v u true
  | 0, A, hu, x, y, v, u, h, rx, ry => eqV_run I 3 A (by omega) x y v u h rx ry
  | n + 1, A, hu, x, y, v, u, h, rx, ry => by
    rcases h with h | ⟨a, b, xs, ys, rfl, rfl, ha, hb, hp⟩
    · exact eqV_run I 3 A (by omega) x y v u h rx ry
    · cases (show v = Value.ref a from rx)
      cases (show u = Value.ref b from ry)
      by_cases e : a = b
      · subst e
        exact (SeqAt.EqAt.same _).eqP
      · exact SeqAt.eqP_refs e fun E Q q => tupR_run I .Eq true (by omega) (.inl ⟨rfl, rfl⟩) (eqT_run I n A.in1 (by show A.units + 1 + n + 3 < cLine; omega)) ha hb hp E Q q
/-- two tuples that are equal, == and != -/
def rEqT (K : PySem.W.Frag) (r : Bool) : R2 := fun x y H Q => ∃ a b xs ys, x = .ref a ∧ y = .ref b ∧ SqT K H a xs ∧ SqT K H b ys ∧ Paired (EqT K H 4) xs ys ∧ Q (.bl r) H
theorem op_eqT (hu : X.A.units + 64 < cLine) : OpR X (compareOp .Eq) (rEqT X.K true) := by
  intro pins s σ H x y v u Q I rx ry h
  obtain ⟨a, b, xs, ys, rfl, rfl, ha, hb, hp, q⟩ := h
  cases (show v = Value.ref a from rx)
  cases (show u = Value.ref b from ry)
  exact tupR_run I .Eq true (by omega) (.inl ⟨rfl, rfl⟩) (eqT_run I 4 X.A.in1 (by show X.A.units + 1 + 4 + 3 < cLine; omega)) ha hb hp _ _ ⟨.bl true, H, I, rfl, q⟩
theorem op_neT (hu : X.A.units + 64 < cLine) : OpR X (compareOp .NotEq) (rEqT X.K false) := by
  intro pins s σ H x y v u Q I rx ry h
  obtain ⟨a, b, xs, ys, rfl, rfl, ha, hb, hp, q⟩ := h
  cases (show v = Value.ref a from rx)
  cases (show u = Value.ref b from ry)
  exact tupR_run I .NotEq false (by omega) (.inr ⟨rfl, rfl⟩) (eqT_run I 4 X.A.in1 (by show X.A.units + 1 + 4 + 3 < cLine; omega)) ha hb hp _ _ ⟨.bl false, H, I, rfl, q⟩
end

end N17

set_option Elab.async false
set_option linter.all false
set_option maxRecDepth 100000
set_option maxHeartbeats 4000000
namespace N17
open PySem PySem.Spec PyProof.Rows
open L2 hiding CX0 E0 pass0 Fun Fun.ok fun_mk
open C8 (Cal CX0 E0 pass0)

/-! ### the text by places -/
def topS (i : Nat) : Stmt := PySem.Challenge.pw_watchednodes_k17_whole_nodes_go_with_the.main.body.getD i (.Pass ⟨0, 0, 0, 0⟩)

/-! ### heaps -/
theorem sm_at {H H' : Hp} {a : Addr} {o : HO} (e : Same H H') (h : H a = some o) : H' a = some o := e a o h
theorem sm_tr {H H1 H2 : Hp} (b : Same H1 H2) (a : Same H H1) : Same H H2 := a.trans b
theorem sm_new {H : Hp} {p : Addr} {o : HO} (h : H p = none) : Same H (upd H p o) := fun b x e => by
  rw [upd_ne (ne_of_none e h)]
  exact e
/-- an object that H doesn't know may change -/
theorem sm_mut {H H' : Hp} {p : Addr} {o : HO} (e : Same H H') (h : H p = none) : Same H (upd H' p o) := fun b x hb => by
  rw [upd_ne (ne_of_none hb h)]
  exact e b x hb
theorem sm_free {H H' : Hp} {p : Addr} (e : Same H H') (h : H' p = none) : H p = none := e.free h
theorem sm_t {K : PySem.W.Frag} {H H' : Hp} {a : Addr} {xs : List V} (e : Same H H') (h : SqT K H a xs) : SqT K H' a xs := by
  rcases h with (h | ⟨o, h⟩) | h
  · exact .inl (.inl (e _ _ h))
  · exact .inl (.inr ⟨o, e _ _ h⟩)
  · exact .inr h
/-- all but a as it was -/
def SameX (a : Addr) (H H' : Hp) : Prop := ∀ b o, b ≠ a → H b = some o → H' b = some o
def isLst : HO → Bool
  | .lst _ => true
  | _ => false
/-- the pool of draws -/
def Pool (H : Hp) (a : Addr) : Prop := ∃ x y : Int, H a = some (.lst [.int x, .int y]) ∧ 0 ≤ x ∧ 0 ≤ y ∧ y < 2147483647
theorem Pool.mono {H H' : Hp} {a : Addr} (e : Same H H') (p : Pool H a) : Pool H' a := let ⟨x, y, h, r⟩ := p; ⟨x, y, e _ _ h, r⟩
theorem sx_at {a b : Addr} {H H' : Hp} {o : HO} (e : SameX a H H') (p : Pool H a) (h : H b = some o) (n : isLst o = false) : H' b = some o := by
  refine e b o (fun z => ?_) h
  obtain ⟨x, y, hp, _⟩ := p
  subst z
  rw [hp] at h
  cases h
  cases n
theorem SameX.refl (a : Addr) (H : Hp) : SameX a H H := fun _ _ _ h => h
theorem SameX.trans {a : Addr} {H H1 H2 : Hp} (e : SameX a H H1) (f : SameX a H1 H2) : SameX a H H2 := fun b o n h => f b o n (e b o n h)
theorem sm_x {a : Addr} {H H' : Hp} (e : Same H H') : SameX a H H' := fun b o _ h => e b o h
theorem SameX.tr1 {a : Addr} {H H1 H2 : Hp} (f : Same H1 H2) (e : SameX a H H1) : SameX a H H2 := e.trans (sm_x f)
theorem SameX.tr2 {a : Addr} {H H1 H2 : Hp} (f : SameX a H1 H2) (e : SameX a H H1) : SameX a H H2 := e.trans f
theorem SameX.free {a p : Addr} {H H' : Hp} (e : SameX a H H') (n : p ≠ a) (h : H' p = none) : H p = none := by
  cases q : H p with
  | none => rfl
  | some o =>
    rw [e p o n q] at h
    cases h
/-- a new object, its heap opaque -/
@[elab_as_elim] theorem newH {motive : Hp → Prop} {H : Hp} {p : Addr} {o : HO} (np : H p = none) (k : ∀ H', Same H H' → H' p = some o → motive H') : motive (upd H p o) := k _ (sm_new np) upd_same
/-- an object changed, the heap opaque -/
@[elab_as_elim] theorem chgH {motive : Hp → Prop} {H : Hp} {p : Addr} {o : HO} (k : ∀ H', SameX p H H' → H' p = some o → motive H') : motive (upd H p o) := k _ (fun b u n h => by rw [upd_ne n]; exact h) upd_same
theorem sz5 {n : Nat} (h : n ≤ 1000) : n ≤ sizeLine := Nat.le_of_lt (small1000 h)
theorem iteTF {c : Bool} {A B : Prop} (h1 : c = true → A) (h2 : c = false → B) : if c = true then A else B := by
  cases c with
  | true => exact iteT (h1 rfl)
  | false => exact iteF (h2 rfl)
end N17

set_option Elab.async false
set_option linter.all false
set_option maxRecDepth 100000
set_option maxHeartbeats 4000000
namespace N17
open PySem PySem.Spec PyProof.Rows
open SX (S)

/-! ### words, parts, paths as lists of signs -/
abbrev Cs := List Nat
def Let (c : Nat) : Prop := 97 ≤ c ∧ c ≤ 122
def Fig (c : Nat) : Prop := 48 ≤ c ∧ c ≤ 57
def IsWord (l : Cs) : Prop := 1 ≤ l.length ∧ l.length ≤ 8 ∧ ∀ c ∈ l, Let c
def IsPart (l : Cs) : Prop := IsWord l ∨ ∃ w f, l = w ++ 45 :: f ∧ IsWord w ∧ f.length = 6 ∧ ∀ c ∈ f, Fig c
def IsText (l : Cs) : Prop := l.length ≤ 40 ∧ ∀ c ∈ l, 32 ≤ c ∧ c ≤ 126
/-- the path of some parts -/
def pathL (ps : List Cs) : Cs := 47 :: TL.joinL [47] ps
structure Parts (ps : List Cs) : Prop where
  few : ps.length ≤ 5
  each : ∀ p ∈ ps, IsPart p
def IsPath (x : Str) : Prop := ∃ ps, Parts ps ∧ x = S (pathL ps)

theorem IsPart.sign {p : Cs} (h : IsPart p) : ∀ c ∈ p, Let c ∨ Fig c ∨ c = 45 := by
  rcases h with h | ⟨w, f, rfl, hw, _, hf⟩
  · exact fun c hc => .inl (h.2.2 c hc)
  · intro c hc
    rcases List.mem_append.mp hc with hc | hc
    · exact .inl (hw.2.2 c hc)
    · rcases List.mem_cons.mp hc with rfl | hc
      · exact .inr (.inr rfl)
      · exact .inr (.inl (hf c hc))
theorem IsPart.free {p : Cs} (h : IsPart p) : 47 ∉ p := fun m => by
  have := h.sign 47 m
  unfold Let Fig at this
  omega
theorem IsPart.len {p : Cs} (h : IsPart p) : 1 ≤ p.length ∧ p.length ≤ 15 := by
  rcases h with h | ⟨w, f, rfl, hw, hl, _⟩
  · exact ⟨h.1, by have := h.2.1; omega⟩
  · rw [List.length_append, List.length_cons, hl]
    have := hw.1
    have := hw.2.1
    omega
theorem IsPart.ne {p : Cs} (h : IsPart p) : p ≠ [] := fun e => by
  have := h.len.1
  rw [e] at this
  exact absurd this (by decide)
theorem joinL_len : ∀ ps : List Cs, (∀ p ∈ ps, p.length ≤ 15) → (TL.joinL [47] ps).length ≤ 16 * ps.length
  | [], _ => by simp [TL.joinL]
  | [p], h => by
    have := h p (by simp)
    show p.length ≤ 16
    omega
  | p :: q :: r, h => by
    have h1 := h p (by simp)
    have ih := joinL_len (q :: r) fun z hz => h z (List.mem_cons_of_mem _ hz)
    show (p ++ ([47] ++ TL.joinL [47] (q :: r))).length ≤ 16 * (p :: q :: r).length
    rw [List.length_append, List.length_append]
    simp only [List.length_cons, List.length_nil] at ih ⊢
    omega
theorem Parts.len {ps : List Cs} (h : Parts ps) : (pathL ps).length ≤ 81 := by
  have := joinL_len ps fun p hp => (h.each p hp).len.2
  have := h.few
  show (TL.joinL [47] ps).length + 1 ≤ 81
  omega
theorem pathL_cons {ps : List Cs} (h : ps ≠ []) : pathL ps = TL.joinL [47] ([] :: ps) := by
  cases ps with
  | nil => exact absurd rfl h
  | cons p r => rfl
theorem split_path {ps : List Cs} (h : Parts ps) (hne : ps ≠ []) : TL.spl [47] 0 [] (pathL ps) = [] :: ps := by
  rw [pathL_cons hne]
  refine SX.spl_join (by simp) fun p hp => ?_
  rcases List.mem_cons.mp hp with rfl | hp
  · simp
  · exact (h.each p hp).free
theorem split_root : TL.spl [47] 0 [] (pathL []) = [[], []] := by decide
theorem joinL_ne {p : Cs} {r : List Cs} (h : p ≠ []) : TL.joinL [47] (p :: r) ≠ [] := by
  cases r with
  | nil => exact h
  | cons q r => exact fun e => h (List.append_eq_nil_iff.mp e).1
theorem path_root {ps : List Cs} (h : Parts ps) : S (pathL ps) = S [47] ↔ ps = [] := by
  constructor
  · intro e
    cases ps with
    | nil => rfl
    | cons p r =>
      have e1 : 47 :: TL.joinL [47] (p :: r) = [47] := SX.S_inj e
      injection e1 with _ e2
      exact absurd e2 (joinL_ne (h.each p (by simp)).ne)
  · rintro rfl
    rfl
theorem path_inj {ps qs : List Cs} (h : Parts ps) (g : Parts qs) (e : S (pathL ps) = S (pathL qs)) : ps = qs := by
  by_cases h0 : ps = []
  · subst h0
    exact ((path_root g).mp e.symm).symm
  · by_cases g0 : qs = []
    · subst g0
      exact (path_root h).mp e
    · have e1 : pathL ps = pathL qs := SX.S_inj e
      have e2 := split_path h h0
      rw [e1, split_path g g0] at e2
      injection e2 with _ e3
      exact e3.symm
theorem Parts.up {ps : List Cs} (h : Parts ps) : Parts ps.dropLast :=
  ⟨by rw [List.length_dropLast]; have := h.few; omega, fun p hp => h.each p (List.dropLast_subset _ hp)⟩
theorem root_parts : Parts [] := ⟨by decide, fun _ h => by cases h⟩
theorem str_slash : ("/" : Str) = S [47] := by decide +kernel
theorem root_path : IsPath ("/" : Str) := ⟨[], root_parts, str_slash⟩
theorem IsPath.len {x : Str} (h : IsPath x) : x.length ≤ 81 := by
  obtain ⟨ps, hp, rfl⟩ := h
  rw [SX.S_len]
  exact hp.len
theorem starts_slash (l : Cs) : Txt.startswith (S (47 :: l)) ("/" : Str) = true := by
  rw [str_slash]
  unfold Txt.startswith
  rw [StrLaws.subAt_eq]
  simp [SX.S_len]
/-- the signs that are a slash -/
theorem cnt_join : ∀ ps : List Cs, ps.length ≤ (TL.joinL [47] ps).count 47 + 1
  | [] => by simp
  | [p] => by simp
  | p :: q :: r => by
    have ih := cnt_join (q :: r)
    show (p :: q :: r).length ≤ (p ++ ([47] ++ TL.joinL [47] (q :: r))).count 47 + 1
    rw [List.count_append, List.count_append]
    simp only [List.length_cons, List.count_cons_self, List.count_nil] at ih ⊢
    omega
theorem countIn_cnt (c : Nat) : ∀ l : Cs, cnt c l = ((l.count c : Nat) : Int)
  | [] => rfl
  | d :: r => by
    rw [cnt_cons, countIn_cnt c r, List.count_cons]
    by_cases h : d = c
    · subst h
      simp
      omega
    · simp [h]
theorem count_slash {ps : List Cs} : (ps.length : Int) ≤ Txt.count (S (pathL ps)) ("/" : Str) := by
  rw [str_slash, count_cnt]
  show (ps.length : Int) ≤ cnt 47 (pathL ps)
  rw [countIn_cnt]
  have := cnt_join ps
  show (ps.length : Int) ≤ (((47 :: TL.joinL [47] ps).count 47 : Nat) : Int)
  rw [List.count_cons_self]
  omega
/-! ### partition at a dash; figures -/
theorem IsWord.nodash {w : Cs} (h : IsWord w) : 45 ∉ w := fun m => by
  have := h.2.2 45 m
  unfold Let at this
  omega
theorem part_word {w : Cs} (h : IsWord w) : Txt.partition (S w) ("-" : Str) = (S w, S [], S []) := by
  have e : ("-" : Str) = S [45] := by decide +kernel
  rw [e]
  exact SX.partition_none (by simp) (SX.par_head_none h.nodash)
theorem part_dash {w f : Cs} (h : IsWord w) : Txt.partition (S (w ++ 45 :: f)) ("-" : Str) = (S w, S [45], S f) := by
  have e : ("-" : Str) = S [45] := by decide +kernel
  rw [e]
  exact SX.partition_some (by simp) (SX.par_head (sep := []) f h.nodash)
theorem numL_fig (n : Nat) : ∀ c ∈ TL.numL n, Fig c := fun c hc => by
  have := TL.numL_digits n c hc
  unfold Fig
  omega
theorem numL_6 {n : Nat} (h : n < 100000) : (TL.numL n).length ≤ 5 := TL.numL_len (by decide) (by simpa using h)
theorem numL_pos (n : Nat) : 1 ≤ (TL.numL n).length := List.length_pos_iff.mpr (TL.numL_ne n)
/-- six figures -/
def six (n : Nat) : Cs := List.replicate (6 - (TL.numL n).length) 48 ++ TL.numL n
theorem six_len {n : Nat} (h : n < 100000) : (six n).length = 6 := by
  have := numL_6 h
  unfold six
  rw [List.length_append, List.length_replicate]
  omega
theorem six_fig (n : Nat) : ∀ c ∈ six n, Fig c := fun c hc => by
  rcases List.mem_append.mp hc with hc | hc
  · rw [(List.mem_replicate.mp hc).2]
    unfold Fig
    omega
  · exact numL_fig n c hc
theorem num_str (n : Nat) : ((toString ((n : Nat) : Int) : String) : Str) = S (TL.numL n) := SX.num_S n
theorem rjust_six {n : Nat} (h : n < 100000) : Txt.rjustF (S (TL.numL n)) 6 48 = S (six n) := by
  have := numL_6 h
  unfold Txt.rjustF
  rw [if_neg (by rw [SX.S_len]; omega), SX.S_len]
  refine TL.ext_tl ?_
  show (Array.replicate (Int.toNat 6 - (TL.numL n).length) 48 ++ (TL.numL n).toArray ++ Array.replicate 0 48).toList = six n
  simp [six]
theorem tail_six {n : Nat} (h : n < 100000) : L2.cutS (S [48, 48, 48, 48, 48] ++ S (TL.numL n)) (some (-6)) none = S (six n) := by
  have h1 := numL_6 h
  have h0 := numL_pos n
  rw [SX.S_cat]
  unfold L2.cutS
  have e : ∀ m : Nat, 6 ≤ m → HT.sIx m 0 (some (-6)) = m - 6 := fun m hm => by
    show (if (-6 : Int) < 0 then ((-6 : Int) + (m : Int)).toNat else min (-6 : Int).toNat m) = _
    rw [if_pos (by decide)]
    omega
  have hl : (S ([48, 48, 48, 48, 48] ++ TL.numL n)).length = 5 + (TL.numL n).length := by rw [SX.S_len]; simp; omega
  rw [e _ (by rw [hl]; omega), HT.sIx_none, hl]
  refine TL.ext_tl ?_
  show (([48, 48, 48, 48, 48] ++ TL.numL n).drop (5 + (TL.numL n).length - 6)).take (5 + (TL.numL n).length - (5 + (TL.numL n).length - 6)) = six n
  rw [show 5 + (TL.numL n).length - 6 = (TL.numL n).length - 1 by omega, List.take_of_length_le (by rw [List.length_drop, List.length_append]; simp <;> omega)]
  rw [List.drop_append_of_le_length (by simp; omega)]
  unfold six
  have e5 : ([48, 48, 48, 48, 48] : Cs) = List.replicate 5 48 := rfl
  rw [e5, List.drop_replicate, show 5 - ((TL.numL n).length - 1) = 6 - (TL.numL n).length by omega]
theorem word_dash {w : Cs} (h : IsWord w) {n : Nat} (hn : n < 100000) : IsPart (w ++ 45 :: six n) := .inr ⟨w, six n, rfl, h, six_len hn, six_fig n⟩
/-- a part without a dash is a word -/
theorem IsPart.word {p : Cs} (h : IsPart p) (n : 45 ∉ p) : IsWord p := by
  rcases h with h | ⟨w, f, rfl, _⟩
  · exact h
  · exact absurd (by simp) n
/-- the last part with figures behind -/
theorem joinL_snoc : ∀ (ps : List Cs) (p : Cs), TL.joinL [47] (ps ++ [p]) = (if ps = [] then p else TL.joinL [47] ps ++ 47 :: p)
  | [], p => rfl
  | [a], p => rfl
  | a :: b :: r, p => by
    have ih := joinL_snoc (b :: r) p
    rw [if_neg (by simp)] at ih
    rw [if_neg (by simp)]
    show a ++ ([47] ++ TL.joinL [47] (b :: r ++ [p])) = a ++ ([47] ++ TL.joinL [47] (b :: r)) ++ 47 :: p
    rw [ih]
    simp
theorem pathL_snoc (ps : List Cs) (p : Cs) : pathL (ps ++ [p]) = (if ps = [] then [] else pathL ps) ++ 47 :: p := by
  unfold pathL
  rw [joinL_snoc]
  by_cases h : ps = []
  · rw [if_pos h, if_pos h]
    rfl
  · rw [if_neg h, if_neg h]
    rfl
theorem pathL_app (ps : List Cs) (p q : Cs) : pathL (ps ++ [p]) ++ q = pathL (ps ++ [p ++ q]) := by
  rw [pathL_snoc, pathL_snoc, List.append_assoc]
  rfl
theorem Parts.snoc {ps : List Cs} {p : Cs} (h : Parts ps) (hl : ps.length < 5) (hp : IsPart p) : Parts (ps ++ [p]) :=
  ⟨by rw [List.length_append, List.length_singleton]; omega, fun q hq => by
    rcases List.mem_append.mp hq with hq | hq
    · exact h.each q hq
    · rw [List.mem_singleton.mp hq]
      exact hp⟩
theorem Parts.reset {ps : List Cs} {p q : Cs} (h : Parts (ps ++ [p])) (hp : IsPart q) : Parts (ps ++ [q]) :=
  ⟨by have := h.few; rw [List.length_append, List.length_singleton] at *; exact this, fun r hr => by
    rcases List.mem_append.mp hr with hr | hr
    · exact h.each r (List.mem_append_left _ hr)
    · rw [List.mem_singleton.mp hr]
      exact hp⟩
theorem snoc_of {ps : List Cs} (h : ps ≠ []) : ∃ qs p, ps = qs ++ [p] := ⟨ps.dropLast, ps.getLast h, (List.dropLast_concat_getLast h).symm⟩

/-! ### sorted texts without doubles: just one such list -/
def leS (a b : Str) : Prop := a.cps.toList ≤ b.cps.toList
theorem rising_pw : ∀ (r : List Str) (p : Str), risingS p r = true → (p :: r).Pairwise leS
  | [], p, _ => by simp
  | x :: r, p, h => by
    have h' : (!ltCps x.cps.toList p.cps.toList && risingS x r) = true := h
    rw [Bool.and_eq_true, Bool.not_eq_true'] at h'
    have ih := rising_pw r x h'.2
    have hx : leS p x := by
      have e := h'.1
      rw [ltCps_eq] at e
      exact List.not_lt.mp (of_decide_eq_false e)
    refine List.pairwise_cons.mpr ⟨fun y hy => ?_, ih⟩
    rcases List.mem_cons.mp hy with rfl | hy
    · exact hx
    · exact List.le_trans hx ((List.pairwise_cons.mp ih).1 y hy)
theorem sorted_pw : ∀ {l : List Str}, sortedS l = true → l.Pairwise leS
  | [], _ => List.Pairwise.nil
  | x :: r, h => rising_pw r x h
theorem sorted_one {l m ks : List Str} (h1 : l.Perm ks) (s1 : sortedS l = true) (h2 : m.Perm ks) (s2 : sortedS m = true) : l = m :=
  List.Perm.eq_of_pairwise (fun a b _ _ h g => TL.ext_tl (List.le_antisymm h g)) (sorted_pw s1) (sorted_pw s2) (h1.trans h2.symm)
end N17

set_option Elab.async false
set_option linter.all false
set_option maxRecDepth 100000
set_option maxHeartbeats 4000000
namespace N17
open PySem PySem.Spec PyProof.Rows
open L2 hiding CX0 E0 pass0 Fun Fun.ok fun_mk
open C8 (Cal CX0 E0 pass0)
open SX (S)

/-! ### d.get(k) of a written dict, the key there -/
def KDic (K : PySem.W.Frag) (w : World) (p : Addr) : Prop := (p == sysModules) = false ∧ ∃ es n, K.lookup p = some ⟨.type "dict", none, .dict es n, #[]⟩ ∧ PySem.W.KeysLit w.params es.toList
def tKGet (K : PySem.W.Frag) (w : World) (td ty : TE) : TE := fun σ H Q => td σ H fun x H1 => ∃ p, x = .ref p ∧ KDic K w p ∧ ty σ H1 fun y H2 => ∃ (z : Str) (v : V) (u : Value), y = .str z ∧ PySem.W.nsIn K p z = some (some u) ∧ RelV v u ∧ Q v H2
theorem pe_kget {X : Cx} {o e : Expr} {apos cpos : Pos} {td ty : TE} (ho : PE X o td) (he : PE X e ty) (m : M1 X o "get" apos e cpos) : PE X (.Call (.Attribute o "get" apos) [e] [] cpos) (tKGet X.K X.w td ty) := by
  refine ⟨fun pins s σ H Q I h => ?_⟩
  refine wpAny_Call_method m.base m.few m.line PySem.F.plainAttrs_dict PySem.F.slot_dict_get PySem.F.type_dict_get (thn (ho.run pins s σ H _ I h) fun u s1 ⟨x, H1, I1, rx, p, ex, ⟨hs, es, n, hl, hk⟩, q1⟩ => ?_)
  subst ex
  obtain rfl : u = Value.ref p := rx
  have hm := PySem.W.mapOf_K (prog := X.prog) (w := X.w) I1.kIn hl hk
  refine ⟨hm.typeIs, hm.noDict, ?_⟩
  rw [m.trees]
  refine Calls.callWith_builtin rfl (Calls.evalArgs_plain (Calls.spliced_cons (thn (he.run pins s1 σ H1 _ I1 q1) fun iv s2 ⟨y, H2, I2, ry, z, v, u2, ey, hn, rv, q2⟩ => Calls.spliced_nil ?_)))
  subst ey
  obtain ⟨t, rfl⟩ := (show ∃ t, iv = Value.str z t from ry)
  have hm2 := PySem.W.mapOf_K (prog := X.prog) (w := X.w) I2.kIn hl hk
  refine call_meetsIn PySem.F.slot_dict_get hm2.typeIs PySem.F.entry_dict_get (PySem.F.args_dict_get_2 _ _) (meets_dict_get (strKind X.prog X.w) p (strKind_is X.prog X.w z t) hs) ⟨_, hm2, ?_⟩
  rw [PySem.W.find_K hl hn]
  exact ⟨v, H2, I2.tok _, rv, q2⟩

/-! ### what the walk asks of the top -/
structure Tx (K : PySem.W.Frag) (w : World) (mg : Str → Option Value) : Prop where
  n_len : mg "len" = none
  n_isinstance : mg "isinstance" = none
  n_all : mg "all" = none
  n_sorted : mg "sorted" = none
  n_dict : mg "dict" = none
  n_tuple : mg "tuple" = none
  n_range : mg "range" = none
  n_int : mg "int" = none
  n_str : mg "str" = none
  n_abs : mg "abs" = none
  n_max : mg "max" = none
  n_min : mg "min" = none
  n_enumerate : mg "enumerate" = none
  n_bool : mg "bool" = none
  g_LETTERS : ∃ u, mg "LETTERS" = some u ∧ RelV (.str "abcdefghijklmnopqrstuvwxyz") u
  g_FIGURES : ∃ u, mg "FIGURES" = some u ∧ RelV (.str "0123456789") u
  g_LONGEST : ∃ u, mg "LONGEST" = some u ∧ RelV (.int 8) u
  g_MOST_PARTS : ∃ u, mg "MOST_PARTS" = some u ∧ RelV (.int 5) u
  g_MANY_FIGURES : ∃ u, mg "MANY_FIGURES" = some u ∧ RelV (.int 6) u
  g_ROOT : ∃ u, mg "ROOT" = some u ∧ RelV (.str "/") u
  g_MOST_NODES : ∃ u, mg "MOST_NODES" = some u ∧ RelV (.int 60) u
  g_MOST_MADE : ∃ u, mg "MOST_MADE" = some u ∧ RelV (.int 999999) u
  g_MOST_TEXT : ∃ u, mg "MOST_TEXT" = some u ∧ RelV (.int 40) u
  g_MOST_DEEDS : ∃ u, mg "MOST_DEEDS" = some u ∧ RelV (.int 6) u
  g_MOST_LIMIT : ∃ u, mg "MOST_LIMIT" = some u ∧ RelV (.int 1000) u
  long : ∃ p, (∃ u, mg "LONG" = some u ∧ RelV (.ref p) u) ∧ KDic K w p ∧ (∃ t, PySem.W.nsIn K p "make" = some (some (.int 5 t))) ∧ (∃ t, PySem.W.nsIn K p "put" = some (some (.int 4 t))) ∧
    (∃ t, PySem.W.nsIn K p "drop" = some (some (.int 3 t))) ∧ (∃ t, PySem.W.nsIn K p "see" = some (some (.int 3 t)))
  ok : ∃ a, (∃ u, mg "OK" = some u ∧ RelV (.ref a) u) ∧ ∀ H, SqT K H a [.str "ok", .non]
  never : ∃ a b, (∃ u, mg "NEVER" = some u ∧ RelV (.ref a) u) ∧ ∀ H, SqT K H a [.non, .int 0, .non, .ref b]
/-! ### rules within a comprehension: the written part named -/
theorem ixk_tup {X : Cx} (K : PySem.W.Frag) (h : X.K = K) : IxR X (rIxT K) := h ▸ ix_tup
theorem ixk_list {X : Cx} (K : PySem.W.Frag) (h : X.K = K) : IxR X (rIxL K) := h ▸ ix_list
theorem opk_in_seq {X : Cx} (K : PySem.W.Frag) (h : X.K = K) : OpR X (compareOp .In) (rIn K false) := h ▸ op_in_seq
theorem opk_notIn_seq {X : Cx} (K : PySem.W.Frag) (h : X.K = K) : OpR X (compareOp .NotIn) (rIn K true) := h ▸ op_notIn_seq
/-! ### readings in short -/
theorem isi {K : PySem.W.Frag} {H : Hp} {x : V} {t c : String} {b : Bool} {Q : VK} (h : TyX K H x (.type t)) (e : kitB t c = some b) (q : Q (.bl b) H) : rIsi K [x, .ty c] H Q := ⟨x, _, _, _, b, rfl, .ty c, h, kit_ty e, q⟩
theorem ty_tup {K : PySem.W.Frag} {H : Hp} {a : Addr} {xs : List V} (h : H a = some (.tup xs)) : TyX K H (.ref a) (.type "tuple") := .base (.tup h)
theorem sqt {K : PySem.W.Frag} {H : Hp} {a : Addr} {xs : List V} (h : H a = some (.tup xs)) : SqT K H a xs := .inl (.inl h)
theorem sql {K : PySem.W.Frag} {H : Hp} {a : Addr} {xs : List V} (h : H a = some (.lst xs)) : SqL K H a xs := .inl (.inl h)
theorem len_str {K : PySem.W.Frag} {H : Hp} {z : Str} {Q : VK} (h : z.length ≤ 1000) (q : Q (.int z.length) H) : ∃ x n, [V.str z] = [x] ∧ LenV K x H n ∧ Q (.int n) H := ⟨_, _, rfl, ⟨sz5 h, rfl⟩, q⟩
theorem len_tup {K : PySem.W.Frag} {H : Hp} {a : Addr} {xs : List V} {Q : VK} (h : SqT K H a xs) (q : Q (.int xs.length) H) : ∃ x n, [V.ref a] = [x] ∧ LenV K x H n ∧ Q (.int n) H := ⟨_, _, rfl, .inr ⟨xs, h, rfl⟩, q⟩
theorem len_lst {K : PySem.W.Frag} {H : Hp} {a : Addr} {xs : List V} {Q : VK} (h : SqL K H a xs) (q : Q (.int xs.length) H) : ∃ x n, [V.ref a] = [x] ∧ LenV K x H n ∧ Q (.int n) H := ⟨_, _, rfl, .inl ⟨xs, h, rfl⟩, q⟩
theorem andT {x : V} {A B : Prop} (e : x = .bl true) (h : A) : ∃ c, x = .bl c ∧ if c = true then A else B := ⟨true, e, iteT h⟩
theorem andF {x : V} {A B : Prop} (e : x = .bl false) (h : B) : ∃ c, x = .bl c ∧ if c = true then A else B := ⟨false, e, iteF h⟩
theorem dec_t {p : Prop} [Decidable p] {Q : Bool → Prop} (h : p) (q : Q true) : Q (decide p) := by rw [decide_eq_true h]; exact q
theorem dec_f {p : Prop} [Decidable p] {Q : Bool → Prop} (h : ¬ p) (q : Q false) : Q (decide p) := by rw [decide_eq_false h]; exact q

theorem iteD {p A B : Prop} [Decidable p] (h : p) (q : A) : if decide p = true then A else B := by rw [decide_eq_true h]; exact iteT q
theorem iteDn {p A B : Prop} [Decidable p] (h : ¬ p) (q : B) : if decide p = true then A else B := by rw [decide_eq_false h]; exact iteF q
theorem let_mem {c : Nat} (h : Let c) : c ∈ (("abcdefghijklmnopqrstuvwxyz" : Str)).cps.toList := by
  have z : ∀ c, c < 123 → 97 ≤ c → c ∈ (("abcdefghijklmnopqrstuvwxyz" : Str)).cps.toList := by decide +kernel
  exact z c (by have := h.2; omega) h.1
theorem fig_mem {c : Nat} (h : Fig c) : c ∈ (("0123456789" : Str)).cps.toList := by
  have z : ∀ c, c < 58 → 48 ≤ c → c ∈ (("0123456789" : Str)).cps.toList := by decide +kernel
  exact z c (by have := h.2; omega) h.1
theorem sign_mem {l : Cs} {i c : Nat} (h : (S l).cps[i]? = some c) : c ∈ l := by
  have : l[i]? = some c := by simpa using h
  exact List.mem_of_getElem? this
/-- a comprehension that keeps all that stood: vals i is the i-th turn's item, if any -/
theorem lc_opt {J : It} {n : Nat} {G : Hp → Prop} {Y : Nat → Hp → V → Hp → Prop} (w : Walk J n G Y) {g : TG} {tt : TT} {te : TE} {vs : List Nat} {σ : L2.St} {H1 : Hp} {D : Addr} {Qd : Hp → Prop} (vals : Nat → Option V) (nD : H1 D = none) (hn : n ≤ 1000)
    (hG : ∀ H, Same H1 H → G H)
    (hs : ∀ i x H H' (Nx : Hp → Prop), i < n → Same H1 H → H D ≠ none → Y i H x H' → (∀ y H4, vals i = some y → Same H H4 → ∃ acc, H4 D = some (.lst acc) ∧ acc.length < sizeLine ∧ Nx (upd H4 D (.lst (acc ++ [y])))) → (∀ H3, vals i = none → Same H H3 → Nx H3) →
      g x (wipe σ vs) H' fun σ2 H2 => wipe σ2 vs = wipe σ vs ∧ tt σ2 H2 fun b H3 => if b = true then te σ2 H3 fun y H4 => ∃ acc, H4 D = some (.lst acc) ∧ acc.length < sizeLine ∧ Nx (upd H4 D (.lst (acc ++ [y]))) else Nx H3)
    (hd : ∀ H, Same H1 H → H D = some (.lst ((List.range n).filterMap vals)) → Qd H) :
    ∃ W : Nat → Nat → Hp → Prop, (∃ m, W 0 m (upd H1 D (.lst []))) ∧ ∀ i m H, W i m H →
      (J.stop i H ∧ Qd H) ∨ (J.go i H ∧ ∃ Nx : Hp → Prop, (∀ H', Nx H' → ∃ m', m' < m ∧ W (i + 1) m' H') ∧ ∀ x H', J.yld i H x H' → g x (wipe σ vs) H' fun σ2 H2 => wipe σ2 vs = wipe σ vs ∧ tt σ2 H2 fun b H3 =>
        if b = true then te σ2 H3 fun y H4 => ∃ acc, H4 D = some (.lst acc) ∧ acc.length < sizeLine ∧ Nx (upd H4 D (.lst (acc ++ [y]))) else Nx H3) := by
  refine lc_it w (fun i H => Same H1 H ∧ H D = some (.lst ((List.range i).filterMap vals))) ⟨sm_new nD, upd_same⟩ (fun i H _ p => hG H p.1) (fun i x H H' hi p y => ?_) (fun H p => hd H p.1 p.2)
  obtain ⟨p1, p2⟩ := p
  have er : (List.range (i + 1)).filterMap vals = (List.range i).filterMap vals ++ (vals i).toList := by
    rw [List.range_succ, List.filterMap_append]
    cases h : vals i <;> simp [h]
  refine hs i x H H' _ hi p1 (by rw [p2]; exact fun z => nomatch z) y (fun v H4 e4 s4 => ⟨_, s4 _ _ p2, ?_, sm_mut (p1.trans s4) nD, ?_⟩) fun H3 e3 s3 => ⟨p1.trans s3, ?_⟩
  · refine small1000 (Nat.le_trans (List.length_filterMap_le _ _) ?_)
    rw [List.length_range]
    omega
  · rw [upd_same, er, e4]
    rfl
  · rw [er, e3]
    simpa using s3 _ _ p2
/-- a lock opened -/
theorem sm_unlock {H H' : Hp} {d : Addr} {u : HO} {f : HO} (e : Same (upd H d f) H') (h : H d = some u) : Same H (upd H' d u) := fun b o hb => by
  by_cases z : b = d
  · subst z
    rw [h] at hb
    cases hb
    exact upd_same
  · rw [upd_ne z]
    exact e b o (by rw [upd_ne z]; exact hb)
theorem lk_at {H : Hp} {d b : Addr} {kvs : List (Key × V)} {xs : List V} {f : HO} (h : H d = some (.dK kvs)) (hb : H b = some (.tup xs)) : upd H d f b = some (.tup xs) := by
  rw [upd_ne (ne_of hb h (by intro z; cases z))]
  exact hb
theorem filterMap_some {n : Nat} {f : Nat → V} : (List.range n).filterMap (fun i => some (f i)) = (List.range n).map f := by
  rw [List.filterMap_eq_map']
/-- all([.. for sign in a text]), each True -/
theorem trues (n : Nat) : (List.range n).filterMap (fun _ => some (V.bl true)) = (List.replicate n true).map V.bl := by
  rw [List.map_replicate]
  induction n with
  | zero => rfl
  | succ n ih => rw [List.range_succ, List.filterMap_append, ih, List.replicate_succ']; rfl
theorem trues_all (n : Nat) : (List.replicate n true).all id = true := by simp
section
variable {P : Program} {w : World} {K : PySem.W.Frag} {mg : Str → Option Value} {base : Heap} {f : Addr} {fd : FuncData}

/-! ### is_whole, is_word -/
abbrev s_is_whole : Stmt := topS 11
theorem sc_is_whole : FnScope ["thing"] ["thing"] (C8.fnScope s_is_whole) := C8.fnScope_by (by decide +kernel)
def spIsWhole : Sp := fun vs H Q _ => ∃ i, vs = [.int i] ∧ Q (.bl true) H
theorem ok_is_whole (F : C8.Def K mg "is_whole" s_is_whole f fd) (b : Binds K fd ["thing"] []) (T : Tx K w mg) : Cal P w K mg base 1 "is_whole" spIsWhole [] := by
  refine C8.cal0 F b .nil sc_is_whole (fun vs H Q E h => ?_) (fun cdv A outer s H vs Q E hr h => ?_)
  · obtain ⟨i, rfl, _⟩ := h
    rfl
  · obtain ⟨i, rfl, k⟩ := h
    refine ⟨_, (pss_one (ps_ret (pe_and (pe_callB call_isi (by rfl) T.n_isinstance (by decide +kernel) (pa_cons (pv 0) (pa_cons (pe_bltn (v := .ty "int") (by rfl) T.n_int (by decide +kernel) rfl) pa_nil))) (pe_one (pe_not (pe_callB call_isi (by rfl) T.n_isinstance (by decide +kernel) (pa_cons (pv 0) (pa_cons (pe_bltn (v := .ty "bool") (by rfl) T.n_bool (by decide +kernel) rfl) pa_nil)))))))), ?_⟩
    exact ⟨_, rfl, _, _, _, _, true, rfl, .ty _, .base (.int i), kit_ty (by decide +kernel), true, rfl, iteT ⟨_, rfl, _, _, _, _, false, rfl, .ty _, .base (.int i), kit_ty (by decide +kernel), false, rfl, k⟩⟩
abbrev s_is_word : Stmt := topS 12
theorem sc_is_word : FnScope ["thing", "sign"] ["thing"] (C8.fnScope s_is_word) := C8.fnScope_by (by decide +kernel)
def spIsWord : Sp := fun vs H Q _ => ∃ l, vs = [.str (S l)] ∧ IsWord l ∧ ∀ H', Same H H' → Q (.bl true) H'
theorem ok_is_word (F : C8.Def K mg "is_word" s_is_word f fd) (b : Binds K fd ["thing"] []) (T : Tx K w mg) : Cal P w K mg base 1 "is_word" spIsWord [] := by
  refine C8.cal0 F b .nil sc_is_word (fun vs H Q E h => ?_) (fun cdv A outer s H vs Q E hr h => ?_)
  · obtain ⟨l, rfl, _⟩ := h
    rfl
  · obtain ⟨l, rfl, hl, k⟩ := h
    refine ⟨_, (pss_one (ps_ret (pe_and (pe_callB call_isi (by rfl) T.n_isinstance (by decide +kernel) (pa_cons (pv 0) (pa_cons (pe_bltn (v := .ty "str") (by rfl) T.n_str (by decide +kernel) rfl) pa_nil))) (pe_and (pe_chain op_le op_le pe_int (pe_callB call_len (by rfl) T.n_len (by decide +kernel) (pa_cons (pv 0) pa_nil)) (C8.pe_gc (by rfl) T.g_LONGEST)) (pe_one (pe_callB (cr_all rfl) (by rfl) T.n_all (by decide +kernel) (pa_cons (pe_lc rfl sc_is_word.nd (pi_str (pv 0)) (L2.blkOk_by (own := [("sign", 1)]) (N := ["thing", "sign"]) (sc := C8.fnScope s_is_word) (by decide +kernel)) (fun _ _ _ _ _ => (pg_name (i := 1) sc_is_word.nd rfl (Or.inl rfl))) (fun _ _ _ _ _ => pts_nil) (fun _ _ _ _ _ => (pe_cmpR op_in_sign (pv 1) (C8.pe_gc (by rfl) T.g_LETTERS) (by rfl)))) pa_nil))))))), ?_⟩
    have h8 : (S l).length ≤ 8 ∧ 1 ≤ (S l).length := by rw [SX.S_len]; exact ⟨hl.2.1, hl.1⟩
    refine ⟨_, rfl, _, _, _, _, true, rfl, .ty _, .base (.str _), kit_ty (by decide +kernel), true, rfl, iteT ⟨_, rfl, _, _, rfl, ⟨sz5 (by omega), rfl⟩, _, _, rfl, rfl, _, rfl, ?_⟩⟩
    refine iteD (by omega) ⟨_, _, rfl, rfl, _, rfl, iteD (by omega) ?_⟩
    refine ⟨_, rfl, _, rfl, fun D nD => lc_opt walk_str (fun _ => some (.bl true)) nD (by show (S l).length ≤ 1000; omega) (fun _ _ => trivial) (fun i x Ha Hb Nx hi sm nd y kp dr => ?_) (fun Ha sm hD => ?_)⟩
    · obtain ⟨rfl, c, hc, rfl⟩ := y
      refine ⟨rfl, _, rfl, _, _, rfl, rfl, ?_⟩
      rw [decide_eq_true (let_mem (hl.2.2 c (sign_mem hc)))]
      exact kp _ _ rfl (Same.refl _)
    · refine ⟨_, List.replicate (S l).cps.size true, rfl, sql (by rw [hD, trues]), ?_⟩
      rw [trues_all]
      exact k _ sm
abbrev s_is_part : Stmt := topS 13
theorem sc_is_part : FnScope ["thing", "word", "sign", "figures", "one"] ["thing"] (C8.fnScope s_is_part) := C8.fnScope_by (by decide +kernel)
def spIsPart : Sp := fun vs H Q _ => ∃ l, vs = [.str (S l)] ∧ IsPart l ∧ ∀ H', Same H H' → Q (.bl true) H'
theorem ok_is_part (F : C8.Def K mg "is_part" s_is_part f fd) (b : Binds K fd ["thing"] []) (T : Tx K w mg) (c_is_word : Cal P w K mg base 1 "is_word" spIsWord []) : Cal P w K mg base 2 "is_part" spIsPart [] := by
  refine C8.cal0 F b .nil sc_is_part (fun vs H Q E h => ?_) (fun cdv A outer s H vs Q E hr h => ?_)
  · obtain ⟨l, rfl, _⟩ := h
    rfl
  · obtain ⟨l, rfl, hl, k⟩ := h
    have hll : (S l).length ≤ 15 := by rw [SX.S_len]; exact hl.len.2
    refine ⟨_, (pss_cons (ps_if (pt_not (pt_val (pe_callB call_isi (by rfl) T.n_isinstance (by decide +kernel) (pa_cons (pv 0) (pa_cons (pe_bltn (v := .ty "str") (by rfl) T.n_str (by decide +kernel) rfl) pa_nil))))) (pss_one (ps_ret pe_bl)) pss_nil)
        (pss_cons (ps_asg (pe_partition (pv 0) pe_str) (pg_tup rfl (pgs_cons (pg_name (i := 1) sc_is_part.nd rfl (Or.inl rfl)) (pgs_cons (pg_name (i := 2) sc_is_part.nd rfl (Or.inl rfl)) (pgs_cons (pg_name (i := 3) sc_is_part.nd rfl (Or.inl rfl)) pgs_nil)))))
        (pss_cons (ps_if (pt_cmpR op_eq (pv 2) pe_str (nomark _)) (pss_one (ps_ret (C8.pe_c c_is_word hr (by decide) (by rfl) (pa_cons (pv 1) pa_nil)))) pss_nil)
        (pss_one (ps_ret (pe_and (C8.pe_c c_is_word hr (by decide) (by rfl) (pa_cons (pv 1) pa_nil)) (pe_and (pe_cmpR op_eq (pe_callB call_len (by rfl) T.n_len (by decide +kernel) (pa_cons (pv 3) pa_nil)) (C8.pe_gc (by rfl) T.g_MANY_FIGURES) (nomark _)) (pe_one (pe_callB (cr_all rfl) (by rfl) T.n_all (by decide +kernel) (pa_cons (pe_lc rfl sc_is_part.nd (pi_str (pv 3)) (L2.blkOk_by (own := [("one", 4)]) (N := ["thing", "word", "sign", "figures", "one"]) (sc := C8.fnScope s_is_part) (by decide +kernel)) (fun _ _ _ _ _ => (pg_name (i := 4) sc_is_part.nd rfl (Or.inl rfl))) (fun _ _ _ _ _ => pts_nil) (fun _ _ _ _ _ => (pe_cmpR op_in_sign (pv 4) (C8.pe_gc (by rfl) T.g_FIGURES) (by rfl)))) pa_nil)))))))))), ?_⟩
    refine ⟨_, rfl, _, _, _, _, true, rfl, .ty _, .base (.str _), kit_ty (by decide +kernel), _, rfl, iteF ?_⟩
    refine ⟨_, rfl, ⟨_, rfl⟩, _, _, rfl, rfl, rfl, sz5 (by omega), fun p np => newH np fun H1 e1 h1 => ⟨p, _, rfl, sqt h1, rfl, _, _, rfl, _, _, rfl, _, _, rfl, rfl, ?_⟩⟩
    rcases hl with hw | ⟨w', fs, rfl, hw, hf, hd⟩
    · have ep := part_word hw
      refine ⟨_, rfl, rfl, _, rfl, iteD (by rw [ep]; rfl) ⟨_, rfl, l, by rw [ep]; rfl, hw, fun H2 e2 => k _ (e1.trans e2)⟩⟩
    · have ep := part_dash (f := fs) hw
      refine ⟨_, rfl, rfl, _, rfl, iteDn (by rw [ep]; exact fun z => nomatch z) ⟨_, rfl, w', by rw [ep]; rfl, hw, fun H2 e2 => ⟨true, rfl, iteT ?_⟩⟩⟩
      have e3 : (Txt.partition (S (w' ++ 45 :: fs)) ("-" : Str)).2.2 = S fs := by rw [ep]
      refine ⟨_, rfl, _, _, rfl, ⟨sz5 (by rw [e3, SX.S_len]; omega), rfl⟩, rfl, _, rfl, iteD (by rw [e3, SX.S_len, hf]; rfl) ?_⟩
      refine ⟨_, rfl, _, rfl, fun D nD => lc_opt walk_str (fun _ => some (.bl true)) nD (by rw [e3]; show (S fs).length ≤ 1000; rw [SX.S_len]; omega) (fun _ _ => trivial) (fun i x Ha Hb Nx hi sm nd y kp dr => ?_) (fun Ha sm hD => ?_)⟩
      · obtain ⟨rfl, c, hc, rfl⟩ := y
        refine ⟨rfl, _, rfl, _, _, rfl, rfl, ?_⟩
        rw [e3] at hc
        rw [decide_eq_true (fig_mem (hd c (sign_mem hc)))]
        exact kp _ _ rfl (Same.refl _)
      · refine ⟨_, List.replicate _ true, rfl, sql (by rw [hD, trues]), ?_⟩
        rw [trues_all]
        exact k _ ((e1.trans e2).trans sm)
end
end N17

set_option Elab.async false
set_option linter.all false
set_option maxRecDepth 100000
set_option maxHeartbeats 4000000
namespace N17
open PySem PySem.Spec PyProof.Rows
open L2 hiding CX0 E0 pass0 Fun Fun.ok fun_mk
open C8 (Cal CX0 E0 pass0)
open SX (S)
theorem cut_from (xs : List V) (k : Nat) : cutV xs (some (k : Int)) none = xs.drop k := by
  unfold cutV
  rw [HT.sIx_nat, HT.sIx_none]
  by_cases h : k ≤ xs.length
  · rw [Nat.min_eq_left h]
    exact List.take_of_length_le (by rw [List.length_drop]; omega)
  · rw [Nat.min_eq_right (by omega), List.drop_length, List.drop_eq_nil_of_le (by omega)]
    simp
theorem cut_last (xs : List V) : cutV xs none (some (-1)) = xs.dropLast := by
  unfold cutV
  rw [HT.sIx_none]
  have e : HT.sIx xs.length xs.length (some (-1)) = xs.length - 1 := by
    show (if (-1 : Int) < 0 then ((-1 : Int) + (xs.length : Int)).toNat else min (-1 : Int).toNat xs.length) = _
    rw [if_pos (by decide)]
    omega
  rw [e, List.drop_zero, Nat.sub_zero, List.dropLast_eq_take]
section
variable {P : Program} {w : World} {K : PySem.W.Frag} {mg : Str → Option Value} {base : Heap} {f : Addr} {fd : FuncData}

theorem sum_lens : ∀ ps : List Cs, (∀ q ∈ ps, q.length ≤ 15) → ((ps.map S).map (·.length)).sum ≤ 15 * ps.length
  | [], _ => by simp
  | a :: r, hq => by
    have h1 := hq a (by simp)
    have h2 := sum_lens r fun q h => hq q (List.mem_cons_of_mem _ h)
    simp only [List.map_cons, List.sum_cons, List.length_cons, SX.S_len] at *
    omega
def pvs (ps : List Cs) : List V := ps.map fun l => .str (S l)
theorem pvs_len (ps : List Cs) : (pvs ps).length = ps.length := List.length_map ..
theorem slash_split {ps : List Cs} (hp : Parts ps) (h0 : ps ≠ []) : Txt.split (S (pathL ps)) ("/" : Str) = ([] :: ps).map S := by
  rw [str_slash, SX.split_S (by simp) (by decide), split_path hp h0]
theorem slash_split0 : Txt.split (S (pathL [])) ("/" : Str) = [[], []].map S := by
  rw [str_slash, SX.split_S (by simp) (by decide), split_root]
abbrev s_parts_of : Stmt := topS 14
theorem sc_parts_of : FnScope ["path"] ["path"] (C8.fnScope s_parts_of) := C8.fnScope_by (by decide +kernel)
def spPartsOf : Sp := fun vs H Q _ => ∃ ps, vs = [.str (S (pathL ps))] ∧ Parts ps ∧ ∀ p H', Same H H' → H p = none → H' p = some (.lst (pvs ps)) → Q (.ref p) H'
theorem ok_parts_of (F : C8.Def K mg "parts_of" s_parts_of f fd) (b : Binds K fd ["path"] []) (T : Tx K w mg) : Cal P w K mg base 1 "parts_of" spPartsOf [] := by
  refine C8.cal0 F b .nil sc_parts_of (fun vs H Q E h => ?_) (fun cdv A outer s H vs Q E hr h => ?_)
  · obtain ⟨l, rfl, _⟩ := h
    rfl
  · obtain ⟨ps, rfl, hp, k⟩ := h
    refine ⟨_, (pss_one (ps_ret (pe_ifExp (pt_cmpR op_eq (pv 0) (C8.pe_gc (by rfl) T.g_ROOT) (nomark _)) (pe_lst pa_nil) (pe_slice sl_list (pe_split (pv 0) pe_str) (po_some pe_int) po_none)))), ?_⟩
    have hl : (S (pathL ps)).length ≤ 81 := by rw [SX.S_len]; exact hp.len
    refine ⟨_, rfl, rfl, _, rfl, ?_⟩
    by_cases h0 : ps = []
    · subst h0
      refine iteD (by rw [str_slash]; rfl) ⟨Nat.zero_le _, fun p np => newH np fun H1 e1 h1 => k p _ e1 np h1⟩
    · refine iteDn (fun z => h0 ((path_root hp).mp (by rw [← str_slash]; exact V.str.inj z))) ?_
      refine ⟨_, rfl, ⟨_, rfl⟩, _, _, rfl, rfl, rfl, sz5 (by omega), fun p np => newH np fun H1 e1 h1 => ⟨1, rfl, p, _, rfl, sql h1, fun q nq => newH nq fun H2 e2 h2 => ?_⟩⟩
      refine k q _ (e1.trans e2) (sm_free e1 nq) ?_
      rw [h2, show (1 : Int) = ((1 : Nat) : Int) from rfl, cut_from, slash_split hp h0]
      simp [pvs]
abbrev s_is_path : Stmt := topS 15
theorem sc_is_path : FnScope ["thing", "one"] ["thing"] (C8.fnScope s_is_path) := C8.fnScope_by (by decide +kernel)
def spIsPath : Sp := fun vs H Q _ => ∃ x, vs = [.str x] ∧ IsPath x ∧ ∀ H', Same H H' → Q (.bl true) H'
theorem ok_is_path (F : C8.Def K mg "is_path" s_is_path f fd) (b : Binds K fd ["thing"] []) (T : Tx K w mg) (c_is_part : Cal P w K mg base 2 "is_part" spIsPart []) (c_parts_of : Cal P w K mg base 1 "parts_of" spPartsOf []) : Cal P w K mg base 3 "is_path" spIsPath [] := by
  refine C8.cal0 F b .nil sc_is_path (fun vs H Q E h => ?_) (fun cdv A outer s H vs Q E hr h => ?_)
  · obtain ⟨l, rfl, _⟩ := h
    rfl
  · obtain ⟨x, rfl, ⟨ps, hp, rfl⟩, k⟩ := h
    refine ⟨_, (pss_cons (ps_if (PW.pt (pw_or (pt_not (pt_val (pe_callB call_isi (by rfl) T.n_isinstance (by decide +kernel) (pa_cons (pv 0) (pa_cons (pe_bltn (v := .ty "str") (by rfl) T.n_str (by decide +kernel) rfl) pa_nil))))) (pw_or1 (pt_not (pt_val (pe_m1 PySem.F.slot_str_startswith PySem.F.type_str_startswith mt_startswith (pv 0) pe_str)))))) (pss_one (ps_ret pe_bl)) pss_nil)
        (pss_one (ps_ret (pe_and (pe_cmpR op_le (pe_callB call_len (by rfl) T.n_len (by decide +kernel) (pa_cons (C8.pe_c c_parts_of hr (by decide) (by rfl) (pa_cons (pv 0) pa_nil)) pa_nil)) (C8.pe_gc (by rfl) T.g_MOST_PARTS) (nomark _)) (pe_one (pe_callB (cr_all rfl) (by rfl) T.n_all (by decide +kernel) (pa_cons (pe_lc rfl sc_is_path.nd (pi_list (C8.pe_c c_parts_of hr (by decide) (by rfl) (pa_cons (pv 0) pa_nil))) (L2.blkOk_by (own := [("one", 1)]) (N := ["thing", "one"]) (sc := C8.fnScope s_is_path) (by decide +kernel)) (fun _ _ _ _ _ => (pg_name (i := 1) sc_is_path.nd rfl (Or.inl rfl))) (fun _ _ _ _ _ => pts_nil) (fun _ _ _ _ _ => (C8.pe_c c_is_part hr (by decide) (by rfl) (pa_cons (pv 1) pa_nil)))) pa_nil))))))), ?_⟩
    have hst : Txt.startswith (S (pathL ps)) ("/" : Str) = true := starts_slash _
    refine ⟨_, rfl, _, _, _, _, true, rfl, .ty _, .base (.str _), kit_ty (by decide +kernel), _, rfl, _, rfl, ⟨_, rfl⟩, _, _, rfl, rfl, _, rfl, ?_⟩
    rw [hst]
    refine ⟨_, rfl, ps, rfl, hp, fun p H1 e1 np h1 => ⟨_, _, rfl, .inl ⟨_, sql h1, rfl⟩, _, _, rfl, rfl, _, rfl, iteD (by rw [pvs_len]; have := hp.few; omega) ?_⟩⟩
    refine ⟨_, rfl, ps, rfl, hp, fun q H2 e2 nq h2 => ⟨_, rfl, ⟨_, sql h2⟩, fun D nD => lc_opt walk_list (fun _ => some (.bl true)) nD (by rw [pvs_len]; have := hp.few; omega) (fun Ha sm => sql (sm _ _ h2)) (fun i x Ha Hb Nx hi sm nd y kp dr => ?_) (fun Ha sm hD => ?_)⟩⟩
    · obtain ⟨rfl, hx⟩ := y
      obtain ⟨l, hl, rfl⟩ : ∃ l ∈ ps, V.str (S l) = x := List.mem_map.mp (List.mem_of_getElem? hx)
      exact ⟨rfl, _, rfl, l, rfl, hp.each l hl, fun H3 e3 => kp _ _ rfl e3⟩
    · refine ⟨_, List.replicate _ true, rfl, sql (by rw [hD, trues]), ?_⟩
      rw [trues_all]
      exact k _ ((e1.trans e2).trans sm)
abbrev s_path_of : Stmt := topS 16
theorem sc_path_of : FnScope ["parts"] ["parts"] (C8.fnScope s_path_of) := C8.fnScope_by (by decide +kernel)
def spPathOf (K : PySem.W.Frag) : Sp := fun vs H Q _ => ∃ p ps, vs = [.ref p] ∧ SqL K H p (pvs ps) ∧ Parts ps ∧ Q (.str (S (pathL ps))) H
theorem ok_path_of (F : C8.Def K mg "path_of" s_path_of f fd) (b : Binds K fd ["parts"] []) (T : Tx K w mg) : Cal P w K mg base 1 "path_of" (spPathOf K) [] := by
  refine C8.cal0 F b .nil sc_path_of (fun vs H Q E h => ?_) (fun cdv A outer s H vs Q E hr h => ?_)
  · obtain ⟨p, ps, rfl, _⟩ := h
    rfl
  · obtain ⟨p, ps, rfl, hs, hp, k⟩ := h
    refine ⟨_, (pss_one (ps_ret (pe_op op_add_str (C8.pe_gc (by rfl) T.g_ROOT) (pe_join pe_str (pv 0))))), ?_⟩
    have e1 : Txt.join ("/" : Str) (ps.map S) = S (TL.joinL [47] ps) := by rw [str_slash, SX.join_S]
    have e2 : (S (TL.joinL [47] ps)).length ≤ 80 := by
      rw [SX.S_len]
      have := joinL_len ps fun q hq => (hp.each q hq).len.2
      have := hp.few
      omega
    refine ⟨⟨_, rfl⟩, _, rfl, _, _, ps.map S, rfl, rfl, .inl (by rw [List.map_map]; exact hs), ?_, ("/" : Str), _, rfl, rfl, ?_, ?_⟩
    · have hz := sum_lens ps fun q h => (hp.each q h).len.2
      have := hp.few
      have h1 : (("/" : Str)).length = 1 := rfl
      rw [h1, List.length_map]
      omega
    · rw [e1]; exact sz5 (by have : (("/" : Str)).length = 1 := rfl; omega)
    · rw [e1, str_slash, SX.S_cat]
      exact k
abbrev s_parent_of : Stmt := topS 17
theorem sc_parent_of : FnScope ["path"] ["path"] (C8.fnScope s_parent_of) := C8.fnScope_by (by decide +kernel)
def spParentOf : Sp := fun vs H Q _ => ∃ ps, vs = [.str (S (pathL ps))] ∧ Parts ps ∧ ∀ H', Same H H' → Q (.str (S (pathL ps.dropLast))) H'
theorem ok_parent_of (F : C8.Def K mg "parent_of" s_parent_of f fd) (b : Binds K fd ["path"] []) (T : Tx K w mg) (c_parts_of : Cal P w K mg base 1 "parts_of" spPartsOf []) (c_path_of : Cal P w K mg base 1 "path_of" (spPathOf K) []) : Cal P w K mg base 2 "parent_of" spParentOf [] := by
  refine C8.cal0 F b .nil sc_parent_of (fun vs H Q E h => ?_) (fun cdv A outer s H vs Q E hr h => ?_)
  · obtain ⟨l, rfl, _⟩ := h
    rfl
  · obtain ⟨ps, rfl, hp, k⟩ := h
    refine ⟨_, (pss_one (ps_ret (C8.pe_c c_path_of hr (by decide) (by rfl) (pa_cons (pe_slice sl_list (C8.pe_c c_parts_of hr (by decide) (by rfl) (pa_cons (pv 0) pa_nil)) po_none (po_some (pe_un un_neg pe_int))) pa_nil)))), ?_⟩
    refine ⟨_, rfl, ps, rfl, hp, fun p H1 e1 np h1 => ⟨_, rfl, _, rfl, p, _, rfl, sql h1, fun q nq => newH nq fun H2 e2 h2 => ⟨q, ps.dropLast, rfl, sql ?_, hp.up, k _ (e1.trans e2)⟩⟩⟩
    rw [h2, cut_last]
    simp [pvs, List.map_dropLast]
abbrev s_last_part : Stmt := topS 18
theorem sc_last_part : FnScope ["path"] ["path"] (C8.fnScope s_last_part) := C8.fnScope_by (by decide +kernel)
def spLastPart : Sp := fun vs H Q _ => ∃ ps p, vs = [.str (S (pathL (ps ++ [p])))] ∧ Parts (ps ++ [p]) ∧ ∀ H', Same H H' → Q (.str (S p)) H'
theorem ok_last_part (F : C8.Def K mg "last_part" s_last_part f fd) (b : Binds K fd ["path"] []) (T : Tx K w mg) (c_parts_of : Cal P w K mg base 1 "parts_of" spPartsOf []) : Cal P w K mg base 2 "last_part" spLastPart [] := by
  refine C8.cal0 F b .nil sc_last_part (fun vs H Q E h => ?_) (fun cdv A outer s H vs Q E hr h => ?_)
  · obtain ⟨l, p, rfl, _⟩ := h
    rfl
  · obtain ⟨ps, l, rfl, hp, k⟩ := h
    refine ⟨_, (pss_one (ps_ret (pe_ix ix_list (C8.pe_c c_parts_of hr (by decide) (by rfl) (pa_cons (pv 0) pa_nil)) (pe_un un_neg pe_int) (fun _ _ => rfl)))), ?_⟩
    refine ⟨_, rfl, _, rfl, hp, fun p H1 e1 np h1 => ⟨_, rfl, p, _, _, _, rfl, rfl, sql h1, ?_, k _ e1⟩⟩
    rw [show pvs (ps ++ [l]) = pvs ps ++ [V.str (S l)] by simp [pvs]]
    exact atI_last _ _
end
end N17

set_option Elab.async false
set_option linter.all false
set_option maxRecDepth 100000
set_option maxHeartbeats 4000000
namespace N17
open PySem PySem.Spec PyProof.Rows
open L2 hiding CX0 E0 pass0 Fun Fun.ok fun_mk
open C8 (Cal CX0 E0 pass0)
open SX (S)
/-! ### deeds -/
def cV : Option Int → V
  | none => .non
  | some i => .int i
def cOk (c : Option Int) : Prop := ∀ i, c = some i → 0 ≤ i
inductive Pl where
  | make (ps : List Cs) (p t : Cs) (own num : Bool)
  | put (x : Str) (t : Cs) (c : Option Int)
  | drop (x : Str) (c : Option Int)
  | see (x : Str) (c : Option Int)
def Pl.vs : Pl → List V
  | .make ps p t own num => [.str "make", .str (S (pathL (ps ++ [p]))), .str (S t), .bl own, .bl num]
  | .put x t c => [.str "put", .str x, .str (S t), cV c]
  | .drop x c => [.str "drop", .str x, cV c]
  | .see x c => [.str "see", .str x, cV c]
def PlOk : Pl → Prop
  | .make ps p t _ num => Parts (ps ++ [p]) ∧ IsText t ∧ (num = true → IsWord p)
  | .put x t c => IsPath x ∧ IsText t ∧ cOk c
  | .drop x c => IsPath x ∧ ¬ x = ("/" : Str) ∧ cOk c
  | .see x c => IsPath x ∧ cOk c
theorem snoc_root {ps : List Cs} {p : Cs} (h : Parts (ps ++ [p])) : ¬ S (pathL (ps ++ [p])) = ("/" : Str) := fun e => by
  rw [str_slash] at e
  have := (path_root h).mp e
  simp at this
theorem dn {p : Prop} [Decidable p] (h : ¬ p) : (!decide p) = true := by simp [h]
theorem dnF {p : Prop} [Decidable p] (h : p) : (!decide p) = false := by simp [h]
/-- not equal, tested -/
theorem iteNe {p A B : Prop} [Decidable p] (h : ¬ p) (q : A) : if (!decide p) = true then A else B := by rw [dn h]; exact iteT q
theorem iteEq {p A B : Prop} [Decidable p] (h : p) (q : B) : if (!decide p) = true then A else B := by rw [dnF h]; exact iteF q
section
variable {P : Program} {w : World} {K : PySem.W.Frag} {mg : Str → Option Value} {base : Heap} {f : Addr} {fd : FuncData}

abbrev s_is_text : Stmt := topS 24
theorem sc_is_text : FnScope ["thing", "sign"] ["thing"] (C8.fnScope s_is_text) := C8.fnScope_by (by decide +kernel)
def spIsText : Sp := fun vs H Q _ => ∃ l, vs = [.str (S l)] ∧ IsText l ∧ ∀ H', Same H H' → Q (.bl true) H'
theorem txt_le {c : Nat} (h : 32 ≤ c ∧ c ≤ 126) : (!decide ((⟨#[c]⟩ : Str).cps.toList < ((" " : Str)).cps.toList)) = true ∧ (!decide ((("~" : Str)).cps.toList < (⟨#[c]⟩ : Str).cps.toList)) = true := by
  have z : ∀ c, c < 127 → 32 ≤ c → (!decide (([c] : Cs) < ((" " : Str)).cps.toList)) = true ∧ (!decide ((("~" : Str)).cps.toList < ([c] : Cs))) = true := by decide +kernel
  exact z c (by omega) h.1
theorem ok_is_text (F : C8.Def K mg "is_text" s_is_text f fd) (b : Binds K fd ["thing"] []) (T : Tx K w mg) : Cal P w K mg base 1 "is_text" spIsText [] := by
  refine C8.cal0 F b .nil sc_is_text (fun vs H Q E h => ?_) (fun cdv A outer s H vs Q E hr h => ?_)
  · obtain ⟨l, rfl, _⟩ := h
    rfl
  · obtain ⟨l, rfl, hl, k⟩ := h
    have h40 : (S l).length ≤ 40 := by rw [SX.S_len]; exact hl.1
    refine ⟨_, (pss_one (ps_ret (pe_and (pe_callB call_isi (by rfl) T.n_isinstance (by decide +kernel) (pa_cons (pv 0) (pa_cons (pe_bltn (v := .ty "str") (by rfl) T.n_str (by decide +kernel) rfl) pa_nil))) (pe_and (pe_cmpR op_le (pe_callB call_len (by rfl) T.n_len (by decide +kernel) (pa_cons (pv 0) pa_nil)) (C8.pe_gc (by rfl) T.g_MOST_TEXT) (nomark _)) (pe_one (pe_callB (cr_all rfl) (by rfl) T.n_all (by decide +kernel) (pa_cons (pe_lc rfl sc_is_text.nd (pi_str (pv 0)) (L2.blkOk_by (own := [("sign", 1)]) (N := ["thing", "sign"]) (sc := C8.fnScope s_is_text) (by decide +kernel)) (fun _ _ _ _ _ => (pg_name (i := 1) sc_is_text.nd rfl (Or.inl rfl))) (fun _ _ _ _ _ => pts_nil) (fun _ _ _ _ _ => (pe_chain op_le_str op_le_str pe_str (pv 1) pe_str))) pa_nil))))))), ?_⟩
    refine ⟨_, rfl, _, _, _, _, true, rfl, .ty _, .base (.str _), kit_ty (by decide +kernel), _, rfl, _, rfl, _, _, rfl, ⟨sz5 (by omega), rfl⟩, _, _, rfl, rfl, _, rfl, iteD (by omega) ?_⟩
    refine ⟨_, rfl, _, rfl, fun D nD => lc_opt walk_str (fun _ => some (.bl true)) nD (by show (S l).length ≤ 1000; omega) (fun _ _ => trivial) (fun i x Ha Hb Nx hi sm nd y kp dr => ?_) (fun Ha sm hD => ?_)⟩
    · obtain ⟨rfl, c, hc, rfl⟩ := y
      have hh := txt_le (hl.2 c (sign_mem hc))
      refine ⟨rfl, _, rfl, _, _, rfl, rfl, _, rfl, ?_⟩
      rw [hh.1]
      refine ⟨_, _, rfl, rfl, ?_⟩
      rw [hh.2]
      exact kp _ _ rfl (Same.refl _)
    · refine ⟨_, List.replicate _ true, rfl, sql (by rw [hD, trues]), ?_⟩
      rw [trues_all]
      exact k _ sm
abbrev s_is_count : Stmt := topS 25
theorem sc_is_count : FnScope ["thing"] ["thing"] (C8.fnScope s_is_count) := C8.fnScope_by (by decide +kernel)
def spIsCount : Sp := fun vs H Q _ => ∃ c, vs = [cV c] ∧ cOk c ∧ Q (.bl true) H
theorem ok_is_count (F : C8.Def K mg "is_count" s_is_count f fd) (b : Binds K fd ["thing"] []) (T : Tx K w mg) (c_is_whole : Cal P w K mg base 1 "is_whole" spIsWhole []) : Cal P w K mg base 2 "is_count" spIsCount [] := by
  refine C8.cal0 F b .nil sc_is_count (fun vs H Q E h => ?_) (fun cdv A outer s H vs Q E hr h => ?_)
  · obtain ⟨l, rfl, _⟩ := h
    rfl
  · obtain ⟨c, rfl, hc, k⟩ := h
    refine ⟨_, (pss_one (ps_ret (pe_or (pe_cmp (pc_isN (pv 0)) rfl) (pe_one (pe_and (C8.pe_c c_is_whole hr (by decide) (by rfl) (pa_cons (pv 0) pa_nil)) (pe_one (pe_cmpR op_ge (pv 0) pe_int (nomark _)))))))), ?_⟩
    cases c with
    | none => exact ⟨_, rfl, _, rfl, k⟩
    | some i =>
      refine ⟨_, rfl, _, rfl, _, rfl, i, rfl, _, rfl, _, rfl, _, _, rfl, rfl, ?_⟩
      have e : decide ((0 : Int) ≤ i) = true := decide_eq_true (hc i rfl)
      show Q (V.bl (decide ((0 : Int) ≤ i))) H
      rw [e]
      exact k
abbrev s_is_make : Stmt := topS 26
theorem sc_is_make : FnScope ["path", "rest", "text", "own", "numbered"] ["path", "rest"] (C8.fnScope s_is_make) := C8.fnScope_by (by decide +kernel)
def spIsMake : Sp := fun vs H Q _ => ∃ ps p t own num r, vs = [.str (S (pathL (ps ++ [p]))), .ref r] ∧ H r = some (.lst [.str (S t), .bl own, .bl num]) ∧ PlOk (.make ps p t own num) ∧ ∀ H', Same H H' → Q (.bl true) H'
theorem ok_is_make (F : C8.Def K mg "is_make" s_is_make f fd) (b : Binds K fd ["path", "rest"] []) (T : Tx K w mg) (c_is_text : Cal P w K mg base 1 "is_text" spIsText []) (c_is_word : Cal P w K mg base 1 "is_word" spIsWord []) (c_last_part : Cal P w K mg base 2 "last_part" spLastPart []) :
    Cal P w K mg base 3 "is_make" spIsMake [] := by
  refine C8.cal0 F b .nil sc_is_make (fun vs H Q E h => ?_) (fun cdv A outer s H vs Q E hr h => ?_)
  · obtain ⟨_, _, _, _, _, _, rfl, _⟩ := h
    rfl
  · obtain ⟨ps, p, t, own, num, r, rfl, h1, ⟨hp, ht, hn⟩, k⟩ := h
    refine ⟨_, (pss_cons (ps_asg (pv 1) (pg_lst rfl (pgs_cons (pg_name (i := 2) sc_is_make.nd rfl (Or.inl rfl)) (pgs_cons (pg_name (i := 3) sc_is_make.nd rfl (Or.inl rfl)) (pgs_cons (pg_name (i := 4) sc_is_make.nd rfl (Or.inl rfl)) pgs_nil)))))
        (pss_cons (ps_if (PW.pt (pw_or (pt_cmpR op_eq (pv 0) (C8.pe_gc (by rfl) T.g_ROOT) (nomark _)) (pw_or (pt_not (pt_val (C8.pe_c c_is_text hr (by decide) (by rfl) (pa_cons (pv 2) pa_nil)))) (pw_or (pt_not (pt_val (pe_callB call_isi (by rfl) T.n_isinstance (by decide +kernel) (pa_cons (pv 3) (pa_cons (pe_bltn (v := .ty "bool") (by rfl) T.n_bool (by decide +kernel) rfl) pa_nil))))) (pw_or1 (pt_not (pt_val (pe_callB call_isi (by rfl) T.n_isinstance (by decide +kernel) (pa_cons (pv 4) (pa_cons (pe_bltn (v := .ty "bool") (by rfl) T.n_bool (by decide +kernel) rfl) pa_nil)))))))))) (pss_one (ps_ret pe_bl)) pss_nil)
        (pss_one (ps_ret (pe_or (pe_not (pv 4)) (pe_one (C8.pe_c c_is_word hr (by decide) (by rfl) (pa_cons (C8.pe_c c_last_part hr (by decide) (by rfl) (pa_cons (pv 0) pa_nil)) pa_nil)))))))), ?_⟩
    refine ⟨_, rfl, r, _, rfl, sql h1, rfl, _, _, rfl, _, _, rfl, _, _, rfl, rfl, ?_⟩
    refine ⟨_, rfl, rfl, _, rfl, iteDn (fun z => snoc_root hp (V.str.inj z)) ?_⟩
    refine ⟨_, rfl, t, rfl, ht, fun H1 e1 => ⟨_, rfl, _, rfl, _, _, _, _, true, rfl, .ty _, .base (.bl _), kit_ty (by decide +kernel), _, rfl, _, rfl, _, _, _, _, true, rfl, .ty _, .base (.bl _), kit_ty (by decide +kernel), _, rfl, ?_⟩⟩
    refine ⟨_, rfl, _, rfl, ?_⟩
    cases num with
    | false => exact ⟨_, rfl, k _ e1⟩
    | true => exact ⟨_, rfl, _, rfl, ps, p, rfl, hp, fun H2 e2 => ⟨p, rfl, hn rfl, fun H3 e3 => k _ ((e1.trans e2).trans e3)⟩⟩
abbrev s_is_plain : Stmt := topS 27
theorem sc_is_plain : FnScope ["thing", "word", "path", "rest"] ["thing"] (C8.fnScope s_is_plain) := C8.fnScope_by (by decide +kernel)
def spIsPlain : Sp := fun vs H Q _ => ∃ a, vs = [.ref a] ∧ ((∃ d : Pl, H a = some (.tup d.vs) ∧ PlOk d ∧ ∀ H', Same H H' → Q (.bl true) H') ∨ ∃ xs, H a = some (.tup xs) ∧ xs.length < 3 ∧ Q (.bl false) H)
theorem ok_is_plain (F : C8.Def K mg "is_plain" s_is_plain f fd) (b : Binds K fd ["thing"] []) (T : Tx K w mg) (c_is_path : Cal P w K mg base 3 "is_path" spIsPath []) (c_is_make : Cal P w K mg base 3 "is_make" spIsMake [])
    (c_is_text : Cal P w K mg base 1 "is_text" spIsText []) (c_is_count : Cal P w K mg base 2 "is_count" spIsCount []) : Cal P w K mg base 4 "is_plain" spIsPlain [] := by
  refine C8.cal0 F b .nil sc_is_plain (fun vs H Q E h => ?_) (fun cdv A outer s H vs Q E hr h => ?_)
  · obtain ⟨_, rfl, _⟩ := h
    rfl
  · obtain ⟨pL, g_LONG, kL, ⟨t1, n1⟩, ⟨t2, n2⟩, ⟨t3, n3⟩, ⟨t4, n4⟩⟩ := T.long
    obtain ⟨a, rfl, ⟨d, ha, hd, k⟩ | ⟨xs, ha, hx, k⟩⟩ := h
    · refine ⟨_, (pss_cons (ps_if (PW.pt (pw_or (pt_not (pt_val (pe_callB call_isi (by rfl) T.n_isinstance (by decide +kernel) (pa_cons (pv 0) (pa_cons (pe_bltn (v := .ty "tuple") (by rfl) T.n_tuple (by decide +kernel) rfl) pa_nil))))) (pw_or (pt_cmpR op_lt (pe_callB call_len (by rfl) T.n_len (by decide +kernel) (pa_cons (pv 0) pa_nil)) pe_int (nomark _)) (pw_or1 (pt_not (pt_val (pe_callB call_isi (by rfl) T.n_isinstance (by decide +kernel) (pa_cons (pe_ix ix_tup (pv 0) pe_int (fun _ _ => rfl)) (pa_cons (pe_bltn (v := .ty "str") (by rfl) T.n_str (by decide +kernel) rfl) pa_nil))))))))) (pss_one (ps_ret pe_bl)) pss_nil)
        (pss_cons (ps_asg (pv 0) (pg_star rfl (pgs_cons (pg_name (i := 1) sc_is_plain.nd rfl (Or.inl rfl)) (pgs_cons (pg_name (i := 2) sc_is_plain.nd rfl (Or.inl rfl)) (pgs_star (pg_name (i := 3) sc_is_plain.nd rfl (Or.inl rfl)))))))
        (pss_cons (ps_if (PW.pt (pw_or (pt_cmpR op_ne (pe_kget (C8.pe_gc (by rfl) g_LONG) (pv 1) ⟨by rfl, by rfl, by rfl, by rfl⟩) (pe_callB call_len (by rfl) T.n_len (by decide +kernel) (pa_cons (pv 0) pa_nil)) (nomark _)) (pw_or1 (pt_not (pt_val (C8.pe_c c_is_path hr (by decide) (by rfl) (pa_cons (pv 2) pa_nil))))))) (pss_one (ps_ret pe_bl)) pss_nil)
        (pss_cons (ps_if (pt_cmpR op_eq (pv 1) pe_str (nomark _)) (pss_one (ps_ret (C8.pe_c c_is_make hr (by decide) (by rfl) (pa_cons (pv 2) (pa_cons (pv 3) pa_nil))))) pss_nil)
        (pss_cons (ps_if (pt_cmpR op_eq (pv 1) pe_str (nomark _)) (pss_one (ps_ret (pe_and (C8.pe_c c_is_text hr (by decide) (by rfl) (pa_cons (pe_ix ix_list (pv 3) pe_int (fun _ _ => rfl)) pa_nil)) (pe_one (C8.pe_c c_is_count hr (by decide) (by rfl) (pa_cons (pe_ix ix_list (pv 3) pe_int (fun _ _ => rfl)) pa_nil)))))) pss_nil)
        (pss_one (ps_ret (pe_and (C8.pe_c c_is_count hr (by decide) (by rfl) (pa_cons (pe_ix ix_list (pv 3) pe_int (fun _ _ => rfl)) pa_nil)) (pe_one (pe_or (pe_cmpR op_eq (pv 1) pe_str (nomark _)) (pe_one (pe_cmpR op_ne (pv 2) (C8.pe_gc (by rfl) T.g_ROOT) (nomark _))))))))))))), ?_⟩
      have nL : 3 ≤ d.vs.length ∧ d.vs.length ≤ 5 := by cases d <;> exact ⟨Nat.le_of_ble_eq_true rfl, Nat.le_of_ble_eq_true rfl⟩
      refine ⟨_, rfl, _, _, _, _, true, rfl, .ty _, ty_tup ha, kit_ty (by decide +kernel), _, rfl, ?_⟩
      refine ⟨_, rfl, _, _, rfl, .inr ⟨_, sqt ha, rfl⟩, _, _, rfl, rfl, _, rfl, iteDn (by omega) ?_⟩
      cases d with
      | make ps p t own num =>
        refine ⟨_, rfl, a, _, _, _, rfl, rfl, sqt ha, rfl, _, _, _, _, true, rfl, .ty _, .base (.str _), kit_ty (by decide +kernel), _, rfl, ?_⟩
        refine ⟨_, rfl, a, _, rfl, sqt ha, Nat.le_of_ble_eq_true rfl, Nat.le_of_ble_eq_true rfl, fun r nr => newH nr fun H1 e1 h1 => ⟨_, _, rfl, _, _, rfl, _, _, rfl, rfl, ?_⟩⟩
        refine ⟨pL, rfl, kL, _, rfl, _, .int 5, _, rfl, n1, ⟨t1, rfl⟩, _, rfl, _, _, rfl, .inr ⟨_, sm_t e1 (sqt ha), rfl⟩, rfl, _, rfl, iteEq rfl ?_⟩
        refine ⟨_, rfl, _, rfl, ⟨_, hd.1, rfl⟩, fun H2 e2 => ⟨_, rfl, ?_⟩⟩
        refine ⟨_, rfl, rfl, _, rfl, iteD rfl ?_⟩
        exact ⟨_, rfl, _, rfl, ps, p, t, own, num, r, rfl, e2 _ _ h1, hd, fun H3 e3 => k _ ((e1.trans e2).trans e3)⟩
      | put x t c =>
        refine ⟨_, rfl, a, _, _, _, rfl, rfl, sqt ha, rfl, _, _, _, _, true, rfl, .ty _, .base (.str _), kit_ty (by decide +kernel), _, rfl, ?_⟩
        refine ⟨_, rfl, a, _, rfl, sqt ha, Nat.le_of_ble_eq_true rfl, Nat.le_of_ble_eq_true rfl, fun r nr => newH nr fun H1 e1 h1 => ⟨_, _, rfl, _, _, rfl, _, _, rfl, rfl, ?_⟩⟩
        refine ⟨pL, rfl, kL, _, rfl, _, .int 4, _, rfl, n2, ⟨t2, rfl⟩, _, rfl, _, _, rfl, .inr ⟨_, sm_t e1 (sqt ha), rfl⟩, rfl, _, rfl, iteEq rfl ?_⟩
        refine ⟨_, rfl, _, rfl, hd.1, fun H2 e2 => ⟨_, rfl, ?_⟩⟩
        refine ⟨_, rfl, rfl, _, rfl, iteDn (by decide +kernel) ?_⟩
        refine ⟨_, rfl, rfl, _, rfl, iteD rfl ?_⟩
        refine ⟨_, rfl, r, _, _, _, rfl, rfl, sql (e2 _ _ h1), rfl, t, rfl, hd.2.1, fun H3 e3 => ⟨_, rfl, ?_⟩⟩
        exact ⟨_, rfl, r, _, _, _, rfl, rfl, sql (e3 _ _ (e2 _ _ h1)), rfl, c, rfl, hd.2.2, k _ ((e1.trans e2).trans e3)⟩
      | drop x c =>
        refine ⟨_, rfl, a, _, _, _, rfl, rfl, sqt ha, rfl, _, _, _, _, true, rfl, .ty _, .base (.str _), kit_ty (by decide +kernel), _, rfl, ?_⟩
        refine ⟨_, rfl, a, _, rfl, sqt ha, Nat.le_of_ble_eq_true rfl, Nat.le_of_ble_eq_true rfl, fun r nr => newH nr fun H1 e1 h1 => ⟨_, _, rfl, _, _, rfl, _, _, rfl, rfl, ?_⟩⟩
        refine ⟨pL, rfl, kL, _, rfl, _, .int 3, _, rfl, n3, ⟨t3, rfl⟩, _, rfl, _, _, rfl, .inr ⟨_, sm_t e1 (sqt ha), rfl⟩, rfl, _, rfl, iteEq rfl ?_⟩
        refine ⟨_, rfl, _, rfl, hd.1, fun H2 e2 => ⟨_, rfl, ?_⟩⟩
        refine ⟨_, rfl, rfl, _, rfl, iteDn (by decide +kernel) ?_⟩
        refine ⟨_, rfl, rfl, _, rfl, iteDn (by decide +kernel) ?_⟩
        refine ⟨_, rfl, r, _, _, _, rfl, rfl, sql (e2 _ _ h1), rfl, c, rfl, hd.2.2, _, rfl, ?_⟩
        have ed : decide (V.str ("drop" : Str) = V.str ("see" : Str)) = false := by decide +kernel
        have er : (!decide (V.str x = V.str ("/" : Str))) = true := dn fun z => hd.2.1 (V.str.inj z)
        refine ⟨_, rfl, rfl, _, rfl, iteDn (by decide +kernel) ⟨_, rfl, rfl, ?_⟩⟩
        rw [er]
        exact k _ (e1.trans e2)
      | see x c =>
        refine ⟨_, rfl, a, _, _, _, rfl, rfl, sqt ha, rfl, _, _, _, _, true, rfl, .ty _, .base (.str _), kit_ty (by decide +kernel), _, rfl, ?_⟩
        refine ⟨_, rfl, a, _, rfl, sqt ha, Nat.le_of_ble_eq_true rfl, Nat.le_of_ble_eq_true rfl, fun r nr => newH nr fun H1 e1 h1 => ⟨_, _, rfl, _, _, rfl, _, _, rfl, rfl, ?_⟩⟩
        refine ⟨pL, rfl, kL, _, rfl, _, .int 3, _, rfl, n4, ⟨t4, rfl⟩, _, rfl, _, _, rfl, .inr ⟨_, sm_t e1 (sqt ha), rfl⟩, rfl, _, rfl, iteEq rfl ?_⟩
        refine ⟨_, rfl, _, rfl, hd.1, fun H2 e2 => ⟨_, rfl, ?_⟩⟩
        refine ⟨_, rfl, rfl, _, rfl, iteDn (by decide +kernel) ?_⟩
        refine ⟨_, rfl, rfl, _, rfl, iteDn (by decide +kernel) ?_⟩
        refine ⟨_, rfl, r, _, _, _, rfl, rfl, sql (e2 _ _ h1), rfl, c, rfl, hd.2, _, rfl, ?_⟩
        exact ⟨_, rfl, rfl, _, rfl, iteD rfl (k _ (e1.trans e2))⟩
    · refine ⟨_, (pss_cons (ps_if (PW.pt (pw_or (pt_not (pt_val (pe_callB call_isi (by rfl) T.n_isinstance (by decide +kernel) (pa_cons (pv 0) (pa_cons (pe_bltn (v := .ty "tuple") (by rfl) T.n_tuple (by decide +kernel) rfl) pa_nil))))) (pw_or (pt_cmpR op_lt (pe_callB call_len (by rfl) T.n_len (by decide +kernel) (pa_cons (pv 0) pa_nil)) pe_int (nomark _)) (pw_or1 (pt_not (pt_val (pe_callB call_isi (by rfl) T.n_isinstance (by decide +kernel) (pa_cons (pe_ix ix_tup (pv 0) pe_int (fun _ _ => rfl)) (pa_cons (pe_bltn (v := .ty "str") (by rfl) T.n_str (by decide +kernel) rfl) pa_nil))))))))) (pss_one (ps_ret pe_bl)) pss_nil)
        (pss_cons (ps_asg (pv 0) (pg_star rfl (pgs_cons (pg_name (i := 1) sc_is_plain.nd rfl (Or.inl rfl)) (pgs_cons (pg_name (i := 2) sc_is_plain.nd rfl (Or.inl rfl)) (pgs_star (pg_name (i := 3) sc_is_plain.nd rfl (Or.inl rfl)))))))
        (pss_cons (ps_if (PW.pt (pw_or (pt_cmpR op_ne (pe_kget (C8.pe_gc (by rfl) g_LONG) (pv 1) ⟨by rfl, by rfl, by rfl, by rfl⟩) (pe_callB call_len (by rfl) T.n_len (by decide +kernel) (pa_cons (pv 0) pa_nil)) (nomark _)) (pw_or1 (pt_not (pt_val (C8.pe_c c_is_path hr (by decide) (by rfl) (pa_cons (pv 2) pa_nil))))))) (pss_one (ps_ret pe_bl)) pss_nil)
        (pss_cons (ps_if (pt_cmpR op_eq (pv 1) pe_str (nomark _)) (pss_one (ps_ret (C8.pe_c c_is_make hr (by decide) (by rfl) (pa_cons (pv 2) (pa_cons (pv 3) pa_nil))))) pss_nil)
        (pss_cons (ps_if (pt_cmpR op_eq (pv 1) pe_str (nomark _)) (pss_one (ps_ret (pe_and (C8.pe_c c_is_text hr (by decide) (by rfl) (pa_cons (pe_ix ix_list (pv 3) pe_int (fun _ _ => rfl)) pa_nil)) (pe_one (C8.pe_c c_is_count hr (by decide) (by rfl) (pa_cons (pe_ix ix_list (pv 3) pe_int (fun _ _ => rfl)) pa_nil)))))) pss_nil)
        (pss_one (ps_ret (pe_and (C8.pe_c c_is_count hr (by decide) (by rfl) (pa_cons (pe_ix ix_list (pv 3) pe_int (fun _ _ => rfl)) pa_nil)) (pe_one (pe_or (pe_cmpR op_eq (pv 1) pe_str (nomark _)) (pe_one (pe_cmpR op_ne (pv 2) (C8.pe_gc (by rfl) T.g_ROOT) (nomark _))))))))))))), ?_⟩
      refine ⟨_, rfl, _, _, _, _, true, rfl, .ty _, ty_tup ha, kit_ty (by decide +kernel), _, rfl, ?_⟩
      exact ⟨_, rfl, _, _, rfl, .inr ⟨_, sqt ha, rfl⟩, _, _, rfl, rfl, _, rfl, iteD (by omega) k⟩
end
end N17

set_option Elab.async false
set_option linter.all false
set_option maxRecDepth 100000
set_option maxHeartbeats 4000000
namespace N17
open PySem PySem.Spec PyProof.Rows
open L2 hiding CX0 E0 pass0 Fun Fun.ok fun_mk
open C8 (Cal CX0 E0 pass0)
open SX (S)
/-! ### nodes -/
structure Nd where
  path : Str
  ad : Addr
  text : Str
  cnt : Int
  made : Int
  own : Option Str
def ownV : Option Str → V
  | none => .non
  | some x => .str x
def Nd.vs (n : Nd) : List V := [.str n.text, .int n.cnt, .int n.made, ownV n.own]
def ent (n : Nd) : Key × V := (.inr n.path, .ref n.ad)
def NodesAt (H : Hp) (d : Addr) (ns : List Nd) : Prop := H d = some (.dK (ns.map ent)) ∧ ∀ n ∈ ns, H n.ad = some (.tup n.vs)
theorem NodesAt.mono {H H' : Hp} {d : Addr} {ns : List Nd} (e : Same H H') (h : NodesAt H d ns) : NodesAt H' d ns := ⟨e _ _ h.1, fun n hn => e _ _ (h.2 n hn)⟩
structure NOk (b : Int) (ns : List Nd) : Prop where
  nd : (ns.map (·.path)).Nodup
  few : ns.length ≤ 60
  path : ∀ n ∈ ns, IsPath n.path
  cnt : ∀ n ∈ ns, 0 ≤ n.cnt
  made : ∀ n ∈ ns, 0 ≤ n.made ∧ n.made ≤ b
theorem NOk.mono {b c : Int} {ns : List Nd} (h : NOk b ns) (e : b ≤ c) : NOk c ns := ⟨h.nd, h.few, h.path, h.cnt, fun n hn => ⟨(h.made n hn).1, Int.le_trans (h.made n hn).2 e⟩⟩
theorem look_some : ∀ {ns : List Nd} {p : Str} {v : V}, valV (ns.map ent) (.inr p) = some v → ∃ n ∈ ns, n.path = p ∧ v = .ref n.ad
  | [], p, v, h => by cases h
  | n :: r, p, v, h => by
    by_cases e : n.path = p
    · have e2 : valV ((n :: r).map ent) (.inr p) = some (V.ref n.ad) := valV_pos (p := ent n) (r := r.map ent) (congrArg Sum.inr e)
      rw [e2] at h
      cases h
      exact ⟨n, by simp, e, rfl⟩
    · have e2 : valV ((n :: r).map ent) (.inr p) = valV (r.map ent) (.inr p) := valV_neg (p := ent n) (r := r.map ent) fun z => e (Sum.inr.inj z)
      rw [e2] at h
      obtain ⟨m, hm, r1, r2⟩ := look_some h
      exact ⟨m, List.mem_cons_of_mem _ hm, r1, r2⟩
theorem keys_ent (ns : List Nd) : (ns.map ent).map (·.1) = (ns.map (·.path)).map Sum.inr := by
  rw [List.map_map, List.map_map]
  rfl
theorem look_none {ns : List Nd} {p : Str} (h : valV (ns.map ent) (.inr p) = none) : p ∉ ns.map (·.path) := fun m => by
  refine valV_not h ?_
  rw [keys_ent]
  exact List.mem_map.mpr ⟨p, m, rfl⟩
theorem look_not {ns : List Nd} {p : Str} (h : p ∉ ns.map (·.path)) : valV (ns.map ent) (.inr p) = none := by
  cases e : valV (ns.map ent) (.inr p) with
  | none => rfl
  | some v =>
    obtain ⟨n, hn, r, _⟩ := look_some e
    exact absurd (List.mem_map.mpr ⟨n, hn, r⟩) h
theorem nd_one {ns : List Nd} (h : (ns.map (·.path)).Nodup) {a b : Nd} (ha : a ∈ ns) (hb : b ∈ ns) (e : a.path = b.path) : a = b := by
  induction ns with
  | nil => cases ha
  | cons n r ih =>
    have h' : (n.path :: r.map (·.path)).Nodup := h
    obtain ⟨h1, h2⟩ := List.nodup_cons.mp h'
    rcases List.mem_cons.mp ha with ea | ha1
    · rcases List.mem_cons.mp hb with eb | hb1
      · rw [ea, eb]
      · exact absurd (show n.path ∈ r.map (·.path) from List.mem_map.mpr ⟨b, hb1, by rw [← e, ea]⟩) h1
    · rcases List.mem_cons.mp hb with eb | hb1
      · exact absurd (show n.path ∈ r.map (·.path) from List.mem_map.mpr ⟨a, ha1, by rw [e, eb]⟩) h1
      · exact ih h2 ha1 hb1
theorem look_of {ns : List Nd} (h : (ns.map (·.path)).Nodup) {n : Nd} (hn : n ∈ ns) : valV (ns.map ent) (.inr n.path) = some (.ref n.ad) := by
  cases e : valV (ns.map ent) (.inr n.path) with
  | none => exact absurd (List.mem_map.mpr ⟨n, hn, rfl⟩) (look_none e)
  | some v =>
    obtain ⟨m, hm, r, rv⟩ := look_some e
    have : m = n := nd_one h hm hn r
    subst this
    rw [rv]
def putN (ns : List Nd) (n : Nd) : List Nd := if (ns.any fun m => decide (m.path = n.path)) = true then ns.map (fun m => if m.path = n.path then n else m) else ns ++ [n]
theorem put_ent (ns : List Nd) (n : Nd) : putK (ns.map ent) (.inr n.path) (.ref n.ad) = (putN ns n).map ent := by
  unfold putK putN
  have e : ((ns.map ent).any fun kv => decide (kv.1 = (Sum.inr n.path : Key))) = ns.any fun m => decide (m.path = n.path) := by
    rw [List.any_map]
    congr 1
    funext m
    show decide ((Sum.inr m.path : Key) = Sum.inr n.path) = _
    exact key_rr _ _
  rw [e]
  by_cases c : (ns.any fun m => decide (m.path = n.path)) = true
  · rw [if_pos c, if_pos c, List.map_map, List.map_map]
    refine List.map_congr_left fun m _ => ?_
    show (if (Sum.inr m.path : Key) = Sum.inr n.path then ((Sum.inr m.path : Key), V.ref n.ad) else ent m) = ent (if m.path = n.path then n else m)
    by_cases z : m.path = n.path
    · rw [if_pos (congrArg Sum.inr z), if_pos z, z]
      rfl
    · rw [if_neg (fun q => z (Sum.inr.inj q)), if_neg z]
  · rw [if_neg c, if_neg c, List.map_append]
    rfl
theorem any_path {ns : List Nd} {p : Str} : (ns.any fun m => decide (m.path = p)) = true ↔ p ∈ ns.map (·.path) := by
  rw [List.any_eq_true, List.mem_map]
  constructor
  · rintro ⟨m, hm, e⟩
    exact ⟨m, hm, of_decide_eq_true e⟩
  · rintro ⟨m, hm, e⟩
    exact ⟨m, hm, decide_eq_true e⟩
theorem mem_put {ns : List Nd} {n m : Nd} (h : m ∈ putN ns n) : m = n ∨ (m ∈ ns ∧ m.path ≠ n.path) := by
  unfold putN at h
  by_cases c : (ns.any fun m => decide (m.path = n.path)) = true
  · rw [if_pos c] at h
    obtain ⟨q, hq, e⟩ := List.mem_map.mp h
    by_cases z : q.path = n.path
    · rw [if_pos z] at e
      exact .inl e.symm
    · rw [if_neg z] at e
      subst e
      exact .inr ⟨hq, z⟩
  · rw [if_neg c] at h
    rcases List.mem_append.mp h with h | h
    · exact .inr ⟨h, fun z => c (any_path.mpr (List.mem_map.mpr ⟨m, h, z⟩))⟩
    · exact .inl (List.mem_singleton.mp h)
theorem paths_put {ns : List Nd} {n : Nd} : (putN ns n).map (·.path) = if n.path ∈ ns.map (·.path) then ns.map (·.path) else ns.map (·.path) ++ [n.path] := by
  unfold putN
  by_cases c : (ns.any fun m => decide (m.path = n.path)) = true
  · rw [if_pos c, if_pos (any_path.mp c), List.map_map]
    refine List.map_congr_left fun m _ => ?_
    show (if m.path = n.path then n else m).path = m.path
    by_cases z : m.path = n.path
    · rw [if_pos z, z]
    · rw [if_neg z]
  · rw [if_neg c, if_neg (fun z => c (any_path.mpr z)), List.map_append]
    rfl
theorem put_len {ns : List Nd} {n : Nd} : (putN ns n).length = if n.path ∈ ns.map (·.path) then ns.length else ns.length + 1 := by
  have e := congrArg List.length (paths_put (ns := ns) (n := n))
  rw [List.length_map] at e
  rw [e]
  split
  · rw [List.length_map]
  · rw [List.length_append, List.length_map]
    rfl
theorem put_self {ns : List Nd} {n : Nd} : n ∈ putN ns n := by
  unfold putN
  by_cases c : (ns.any fun m => decide (m.path = n.path)) = true
  · rw [if_pos c]
    obtain ⟨m, hm, e⟩ := List.any_eq_true.mp c
    exact List.mem_map.mpr ⟨m, hm, if_pos (of_decide_eq_true e)⟩
  · rw [if_neg c]
    exact List.mem_append_right _ (by simp)
theorem put_old {ns : List Nd} {n m : Nd} (h : m ∈ ns) (e : m.path ≠ n.path) : m ∈ putN ns n := by
  unfold putN
  by_cases c : (ns.any fun m => decide (m.path = n.path)) = true
  · rw [if_pos c]
    exact List.mem_map.mpr ⟨m, h, if_neg e⟩
  · rw [if_neg c]
    exact List.mem_append_left _ h
theorem put_nd {ns : List Nd} {n : Nd} (h : (ns.map (·.path)).Nodup) : ((putN ns n).map (·.path)).Nodup := by
  rw [paths_put]
  by_cases c : n.path ∈ ns.map (·.path)
  · rw [if_pos c]
    exact h
  · rw [if_neg c]
    exact nd_snoc h c
theorem NOk.put {b : Int} {ns : List Nd} {n : Nd} (h : NOk b ns) (hl : n.path ∈ ns.map (·.path) ∨ ns.length < 60) (hp : IsPath n.path) (hc : 0 ≤ n.cnt) (hm : 0 ≤ n.made ∧ n.made ≤ b) : NOk b (putN ns n) where
  nd := put_nd h.nd
  few := by
    rw [put_len]
    have := h.few
    split
    · exact this
    · rename_i z
      have := hl.resolve_left z
      omega
  path := fun m q => by
    rcases mem_put q with rfl | ⟨q, _⟩
    · exact hp
    · exact h.path m q
  cnt := fun m q => by
    rcases mem_put q with rfl | ⟨q, _⟩
    · exact hc
    · exact h.cnt m q
  made := fun m q => by
    rcases mem_put q with rfl | ⟨q, _⟩
    · exact hm
    · exact h.made m q
theorem NOk.filter {b : Int} {ns : List Nd} (h : NOk b ns) (p : Nd → Bool) : NOk b (ns.filter p) where
  nd := by
    have q : List.Sublist ((ns.filter p).map (·.path)) (ns.map (·.path)) := (List.filter_sublist).map _
    exact q.nodup h.nd
  few := Nat.le_trans (List.length_filter_le _ _) h.few
  path := fun m q => h.path m (List.mem_filter.mp q).1
  cnt := fun m q => h.cnt m (List.mem_filter.mp q).1
  made := fun m q => h.made m (List.mem_filter.mp q).1
/-- a node stored: the dict at d, the tuple at its address -/
theorem NodesAt.store {H H' : Hp} {d : Addr} {ns : List Nd} {n : Nd} (h : NodesAt H d ns) (hn : H n.ad = some (.tup n.vs)) (e : SameX d H H') (hd : H' d = some (.dK ((putN ns n).map ent))) : NodesAt H' d (putN ns n) := by
  refine ⟨hd, fun m hm => ?_⟩
  have up : ∀ a xs, H a = some (.tup xs) → H' a = some (.tup xs) := fun a xs q => e a _ (ne_of q h.1 (by intro z; cases z)) q
  rcases mem_put hm with rfl | ⟨q, _⟩
  · exact up _ _ hn
  · exact up _ _ (h.2 m q)

/-! ### events -/
structure Evt where
  ad : Addr
  w : Str
  p : Str
def EvAt (H : Hp) (e : Addr) (es : List Evt) : Prop := H e = some (.lst (es.map fun x => .ref x.ad)) ∧ ∀ x ∈ es, H x.ad = some (.tup [.str x.w, .str x.p])
theorem EvAt.mono {H H' : Hp} {e : Addr} {es : List Evt} (s : Same H H') (h : EvAt H e es) : EvAt H' e es := ⟨s _ _ h.1, fun x hx => s _ _ (h.2 x hx)⟩
/-- what a plain deed hands back -/
def PRes (H0 H : Hp) (p : Addr) (ns : List Nd) (w : Str) (es : List Evt) : Prop := ∃ d t e v, (H0 d = none ∧ H0 e = none) ∧ es.length ≤ 2 ∧ H p = some (.tup [.ref d, .ref t, .ref e]) ∧ NodesAt H d ns ∧ H t = some (.tup [.str w, v]) ∧ EvAt H e es
theorem PRes.up {H0 H1 H : Hp} {p : Addr} {ns : List Nd} {w : Str} {es : List Evt} (s : Same H0 H1) (h : PRes H1 H p ns w es) : PRes H0 H p ns w es := by
  obtain ⟨d, t, e, v, ⟨h1, h2⟩, r⟩ := h
  exact ⟨d, t, e, v, ⟨s.free h1, s.free h2⟩, r⟩
/-- what a deed does to the nodes: owners, what came, what went -/
structure Eff (asker : Str) (ns ns' : List Nd) (es : List Evt) : Prop where
  own : ∀ m ∈ ns', m.own = none ∨ m.own = some asker ∨ ∃ n ∈ ns, n.own = m.own
  came : ∀ m ∈ ns', (∃ n ∈ ns, n.path = m.path) ∨ ∃ x ∈ es, x.w = ("made" : Str) ∧ x.p = m.path
  went : ∀ n ∈ ns, (∃ m ∈ ns', m.path = n.path) ∨ ∃ x ∈ es, x.w = ("gone" : Str) ∧ x.p = n.path
theorem Eff.same (asker : Str) (ns : List Nd) (es : List Evt) : Eff asker ns ns es := ⟨fun m h => .inr (.inr ⟨m, h, rfl⟩), fun m h => .inl ⟨m, h, rfl⟩, fun n h => .inl ⟨n, h, rfl⟩⟩
theorem Eff.trans {asker : Str} {a b c : List Nd} {es fs : List Evt} (h : Eff asker a b es) (g : Eff asker b c fs) : Eff asker a c (es ++ fs) where
  own := fun m hm => by
    rcases g.own m hm with q | q | ⟨n, hn, q⟩
    · exact .inl q
    · exact .inr (.inl q)
    · rcases h.own n hn with r | r | ⟨k, hk, r⟩
      · exact .inl (q.symm.trans r)
      · exact .inr (.inl (q.symm.trans r))
      · exact .inr (.inr ⟨k, hk, r.trans q⟩)
  came := fun m hm => by
    rcases g.came m hm with ⟨n, hn, q⟩ | ⟨x, hx, q⟩
    · rcases h.came n hn with ⟨k, hk, r⟩ | ⟨x, hx, r1, r2⟩
      · exact .inl ⟨k, hk, r.trans q⟩
      · exact .inr ⟨x, List.mem_append_left _ hx, r1, r2.trans q⟩
    · exact .inr ⟨x, List.mem_append_right _ hx, q⟩
  went := fun n hn => by
    rcases h.went n hn with ⟨m, hm, q⟩ | ⟨x, hx, q⟩
    · rcases g.went m hm with ⟨k, hk, r⟩ | ⟨x, hx, r1, r2⟩
      · exact .inl ⟨k, hk, r.trans q⟩
      · exact .inr ⟨x, List.mem_append_right _ hx, r1, r2.trans q⟩
    · exact .inr ⟨x, List.mem_append_left _ hx, q⟩
/-- a node put in the place of one, its owner as before -/
theorem Eff.put {asker : Str} {ns : List Nd} {n o : Nd} (ho : o ∈ ns) (hp : n.path = o.path) (hw : n.own = o.own) (es : List Evt) : Eff asker ns (putN ns n) es where
  own := fun m hm => by
    rcases mem_put hm with rfl | ⟨q, _⟩
    · exact .inr (.inr ⟨o, ho, hw.symm⟩)
    · exact .inr (.inr ⟨m, q, rfl⟩)
  came := fun m hm => by
    rcases mem_put hm with rfl | ⟨q, _⟩
    · exact .inl ⟨o, ho, hp.symm⟩
    · exact .inl ⟨m, q, rfl⟩
  went := fun k hk => by
    by_cases z : k.path = n.path
    · exact .inl ⟨n, put_self, z.symm⟩
    · exact .inl ⟨k, put_old hk z, rfl⟩
/-- a new node -/
theorem Eff.new {asker : Str} {ns : List Nd} {n : Nd} {es : List Evt} (hw : n.own = none ∨ n.own = some asker) (he : ∃ x ∈ es, x.w = ("made" : Str) ∧ x.p = n.path) : Eff asker ns (putN ns n) es where
  own := fun m hm => by
    rcases mem_put hm with rfl | ⟨q, _⟩
    · rcases hw with q | q
      · exact .inl q
      · exact .inr (.inl q)
    · exact .inr (.inr ⟨m, q, rfl⟩)
  came := fun m hm => by
    rcases mem_put hm with rfl | ⟨q, _⟩
    · exact .inr he
    · exact .inl ⟨m, q, rfl⟩
  went := fun k hk => by
    by_cases z : k.path = n.path
    · exact .inl ⟨n, put_self, z.symm⟩
    · exact .inl ⟨k, put_old hk z, rfl⟩
/-- nodes gone -/
theorem Eff.gone {asker : Str} {ns : List Nd} {es : List Evt} (p : Nd → Bool) (he : ∀ n ∈ ns, p n = false → ∃ x ∈ es, x.w = ("gone" : Str) ∧ x.p = n.path) : Eff asker ns (ns.filter p) es where
  own := fun m hm => .inr (.inr ⟨m, (List.mem_filter.mp hm).1, rfl⟩)
  came := fun m hm => .inl ⟨m, (List.mem_filter.mp hm).1, rfl⟩
  went := fun n hn => by
    cases h : p n with
    | true => exact .inl ⟨n, List.mem_filter.mpr ⟨hn, h⟩, rfl⟩
    | false => exact .inr (he n hn h)
theorem Eff.weak {asker : Str} {a b : List Nd} {es fs : List Evt} (h : Eff asker a b es) (sub : ∀ x ∈ es, x ∈ fs) : Eff asker a b fs :=
  ⟨h.own, fun m hm => (h.came m hm).imp id fun ⟨x, hx, r⟩ => ⟨x, sub x hx, r⟩, fun n hn => (h.went n hn).imp id fun ⟨x, hx, r⟩ => ⟨x, sub x hx, r⟩⟩
end N17

set_option Elab.async false
set_option linter.all false
set_option maxRecDepth 100000
set_option maxHeartbeats 4000000
namespace N17
open PySem PySem.Spec PyProof.Rows
open L2 hiding CX0 E0 pass0 Fun Fun.ok fun_mk
open C8 (Cal CX0 E0 pass0)
open SX (S)
/-- a comprehension that keeps all that stood; R holds of each item -/
theorem lc_any {J : It} {n : Nat} {G : Hp → Prop} {Y : Nat → Hp → V → Hp → Prop} (w : Walk J n G Y) {g : TG} {tt : TT} {te : TE} {vs : List Nat} {σ : L2.St} {H1 : Hp} {D : Addr} {Qd : Hp → Prop} (R : V → Prop) (nD : H1 D = none) (hn : n ≤ 1000)
    (hG : ∀ H, Same H1 H → G H)
    (hs : ∀ i x H H' (Nx : Hp → Prop), i < n → Same H1 H → Y i H x H' → (∀ y H4, R y → Same H H4 → ∃ acc, H4 D = some (.lst acc) ∧ acc.length < sizeLine ∧ Nx (upd H4 D (.lst (acc ++ [y])))) → (∀ H3, Same H H3 → Nx H3) →
      g x (wipe σ vs) H' fun σ2 H2 => wipe σ2 vs = wipe σ vs ∧ tt σ2 H2 fun b H3 => if b = true then te σ2 H3 fun y H4 => ∃ acc, H4 D = some (.lst acc) ∧ acc.length < sizeLine ∧ Nx (upd H4 D (.lst (acc ++ [y]))) else Nx H3)
    (hd : ∀ H xs, Same H1 H → H D = some (.lst xs) → xs.length ≤ n → (∀ x ∈ xs, R x) → Qd H) :
    ∃ W : Nat → Nat → Hp → Prop, (∃ m, W 0 m (upd H1 D (.lst []))) ∧ ∀ i m H, W i m H →
      (J.stop i H ∧ Qd H) ∨ (J.go i H ∧ ∃ Nx : Hp → Prop, (∀ H', Nx H' → ∃ m', m' < m ∧ W (i + 1) m' H') ∧ ∀ x H', J.yld i H x H' → g x (wipe σ vs) H' fun σ2 H2 => wipe σ2 vs = wipe σ vs ∧ tt σ2 H2 fun b H3 =>
        if b = true then te σ2 H3 fun y H4 => ∃ acc, H4 D = some (.lst acc) ∧ acc.length < sizeLine ∧ Nx (upd H4 D (.lst (acc ++ [y]))) else Nx H3) := by
  refine lc_it w (fun i H => Same H1 H ∧ ∃ xs, H D = some (.lst xs) ∧ xs.length ≤ i ∧ ∀ x ∈ xs, R x) ⟨sm_new nD, [], upd_same, Nat.le_refl _, fun _ h => by cases h⟩ (fun i H _ p => hG H p.1) (fun i x H H' hi p y => ?_) (fun H ⟨p, xs, h1, h2, h3⟩ => hd H xs p h1 h2 h3)
  obtain ⟨p1, xs, p2, p3, p4⟩ := p
  refine hs i x H H' _ hi p1 y (fun v H4 rv s4 => ⟨xs, s4 _ _ p2, small1000 (by omega), sm_mut (p1.trans s4) nD, xs ++ [v], upd_same, by rw [List.length_append, List.length_singleton]; omega, fun z hz => ?_⟩) fun H3 s3 => ⟨p1.trans s3, xs, s3 _ _ p2, by omega, p4⟩
  rcases List.mem_append.mp hz with hz | hz
  · exact p4 z hz
  · rw [List.mem_singleton.mp hz]
    exact rv
theorem all_strs : ∀ {xs : List V}, (∀ x ∈ xs, ∃ z, x = V.str z ∧ PyData.strOk z = true) → ∃ zs : List Str, xs = zs.map V.str ∧ ∀ z ∈ zs, PyData.strOk z = true
  | [], _ => ⟨[], rfl, fun _ h => by cases h⟩
  | x :: r, h => by
    obtain ⟨z, rfl, hz⟩ := h x (by simp)
    obtain ⟨zs, rfl, hs⟩ := all_strs fun y hy => h y (List.mem_cons_of_mem _ hy)
    exact ⟨z :: zs, rfl, fun y hy => by
      rcases List.mem_cons.mp hy with rfl | hy
      · exact hz
      · exact hs y hy⟩
theorem ok_S {l : Cs} (h : ∀ c ∈ l, c < 128) : PyData.strOk (S l) = true := by
  unfold PyData.strOk
  show l.toArray.all _ = true
  rw [← Array.all_toList, List.all_eq_true]
  intro c hc
  have := h c (by simpa using hc)
  exact decide_eq_true (by omega)
theorem IsPart.low {p : Cs} (h : IsPart p) : ∀ c ∈ p, c < 128 := fun c hc => by
  have := h.sign c hc
  unfold Let Fig at this
  omega
theorem joinL_low : ∀ ps : List Cs, (∀ p ∈ ps, ∀ c ∈ p, c < 128) → ∀ c ∈ TL.joinL [47] ps, c < 128
  | [], _ => by simp [TL.joinL]
  | [p], h => h p (by simp)
  | p :: q :: r, h => fun c hc => by
    rcases List.mem_append.mp hc with hc | hc
    · exact h p (by simp) c hc
    · rcases List.mem_append.mp hc with hc | hc
      · rw [List.mem_singleton.mp hc]
        decide
      · exact joinL_low (q :: r) (fun z hz => h z (List.mem_cons_of_mem _ hz)) c hc
theorem IsPath.low {x : Str} (h : IsPath x) : PyData.strOk x = true := by
  obtain ⟨ps, hp, rfl⟩ := h
  refine ok_S fun c hc => ?_
  rcases List.mem_cons.mp hc with rfl | hc
  · decide
  · exact joinL_low ps (fun p q => (hp.each p q).low) c hc
theorem datS {K : PySem.W.Frag} {H : Hp} : ∀ zs : List Str, DpAll K H (zs.map V.str) (zs.map PyData.str)
  | [] => .nil
  | z :: r => .cons (.str z) (datS r)
theorem lay_strs : ∀ zs : List Str, (∀ z ∈ zs, PyData.strOk z = true) → PyData.canLayAll0 (zs.map PyData.str) = true
  | [], _ => rfl
  | z :: r, h => by
    show (PyData.strOk z && PyData.canLayAll0 (r.map PyData.str)) = true
    rw [h z (by simp), lay_strs r fun y hy => h y (List.mem_cons_of_mem _ hy)]
    rfl
theorem depth_strs : ∀ zs : List Str, PyData.depthAll (zs.map PyData.str) = 0
  | [] => rfl
  | z :: r => by
    show max 0 (PyData.depthAll (r.map PyData.str)) = 0
    rw [depth_strs r]
    rfl
theorem shapedS (zs : List Str) (h : ∀ z ∈ zs, PyData.strOk z = true) : SeqAt.shaped (.list (zs.map .str)) = true := by
  unfold SeqAt.shaped
  show (PyData.canLayAll0 (zs.map PyData.str) && decide (PyData.depthAll (zs.map PyData.str) + 1 ≤ 64)) = true
  rw [lay_strs zs h, depth_strs]
  rfl
theorem ent_at {ns : List Nd} {i : Nat} {k : Key} {v : V} (h : (ns.map ent)[i]? = some (k, v)) : ∃ n ∈ ns, ns[i]? = some n ∧ k = .inr n.path ∧ v = .ref n.ad := by
  rw [List.getElem?_map] at h
  cases e : ns[i]? with
  | none => rw [e] at h; cases h
  | some n =>
    rw [e] at h
    cases h
    exact ⟨n, List.mem_of_getElem? e, rfl, rfl, rfl⟩
def rootN (a : Addr) : Nd := ⟨"/", a, "", 0, 0, none⟩
section
variable {P : Program} {w : World} {K : PySem.W.Frag} {mg : Str → Option Value} {base : Heap} {f : Addr} {fd : FuncData}
abbrev s_first_nodes : Stmt := topS 28
theorem sc_first_nodes : FnScope [] [] (C8.fnScope s_first_nodes) := C8.fnScope_by (by decide +kernel)
def spFirstNodes : Sp := fun vs H Q _ => vs = [] ∧ ∀ d a H', Same H H' → H d = none → NodesAt H' d [rootN a] → Q (.ref d) H'
theorem ok_first_nodes (F : C8.Def K mg "first_nodes" s_first_nodes f fd) (b : Binds K fd [] []) (T : Tx K w mg) : Cal P w K mg base 1 "first_nodes" spFirstNodes [] := by
  refine C8.cal0 F b .nil sc_first_nodes (fun vs H Q E h => ?_) (fun cdv A outer s H vs Q E hr h => ?_)
  · obtain ⟨rfl, _⟩ := h
    rfl
  · obtain ⟨rfl, k⟩ := h
    refine ⟨_, (pss_one (ps_ret (pe_disp (pps_cons (C8.pe_gc (by rfl) T.g_ROOT) (pe_tup (pa_cons pe_str (pa_cons pe_int (pa_cons pe_int (pa_cons pe_non pa_nil))))) pps_nil) (by rfl) (by rfl) (fun z => by cases z) (by decide)))), ?_⟩
    intro d nd
    refine ⟨Nat.le_of_ble_eq_true rfl, fun a na => ?_⟩
    have nda : d ≠ a := fun e => by rw [← e, upd_same] at na; cases na
    refine ⟨by rw [upd_ne nda, upd_same], [(.inr ("/" : Str), .ref a)], rfl, Nat.le_of_ble_eq_true rfl, ?_⟩
    refine k d a _ (fun b o hb => ?_) nd ⟨by rw [upd_same]; rfl, fun n hn => ?_⟩
    · have h1 : b ≠ d := ne_of_none hb nd
      have h2 : b ≠ a := fun e => by
        rw [upd_ne nda.symm] at na
        rw [e, na] at hb
        cases hb
      rw [upd_ne h1, upd_ne h2, upd_ne h1]
      exact hb
    · rw [List.mem_singleton.mp hn]
      show upd _ d _ a = _
      rw [upd_ne nda.symm, upd_same]
      rfl
abbrev s_kids_of : Stmt := topS 29
theorem sc_kids_of : FnScope ["nodes", "path", "one"] ["nodes", "path"] (C8.fnScope s_kids_of) := C8.fnScope_by (by decide +kernel)
def spKidsOf : Sp := fun vs H Q _ => ∃ d ns b x, vs = [.ref d, .str x] ∧ NodesAt H d ns ∧ NOk b ns ∧ x ∈ ns.map (·.path) ∧ ∀ (p : Addr) (zs : List Str) H', Same H H' → H' p = some (.lst (zs.map V.str)) → (∀ z ∈ zs, PyData.strOk z = true) → Q (.ref p) H'
theorem ok_kids_of (F : C8.Def K mg "kids_of" s_kids_of f fd) (b : Binds K fd ["nodes", "path"] []) (T : Tx K w mg) (c_parent_of : Cal P w K mg base 2 "parent_of" spParentOf []) (c_last_part : Cal P w K mg base 2 "last_part" spLastPart []) : Cal P w K mg base 3 "kids_of" spKidsOf [] := by
  refine C8.cal0 F b .nil sc_kids_of (fun vs H Q E h => ?_) (fun cdv A outer s H vs Q E hr h => ?_)
  · obtain ⟨_, _, _, _, rfl, _⟩ := h
    rfl
  · obtain ⟨d, ns, b, x, rfl, hN, ok, hx, k⟩ := h
    have hu := hu_of hr
    refine ⟨_, (pss_cons (ps_if (pt_cmp (pc_dnotin hu (pv 1) (pv 0))) (pss_one (ps_ret pe_non)) pss_nil)
        (pss_one (ps_ret (pe_callB cr_sortedS (by rfl) T.n_sorted (by decide +kernel) (pa_cons (pe_lock (pe_lc rfl sc_kids_of.nd (pi_keys (pv 0)) (L2.blkOk_by (own := [("one", 2)]) (N := ["nodes", "path", "one"]) (sc := C8.fnScope s_kids_of) (by decide +kernel)) (fun _ _ _ _ _ => (pg_name (i := 2) sc_kids_of.nd rfl (Or.inl rfl))) (fun _ _ _ _ _ => (pts_one (PW.pt (pw_and (pt_cmpR op_ne (pv 2) (C8.pe_gc (by rfl) T.g_ROOT) (nomark _)) (pw_and1 (pt_cmpR op_eq (C8.pe_c c_parent_of hr (by decide) (by rfl) (pa_cons (pv 2) pa_nil)) (pv 1) (nomark _))))))) (fun _ _ _ _ _ => (C8.pe_c c_last_part hr (by decide) (by rfl) (pa_cons (pv 2) pa_nil))))) pa_nil))))), ?_⟩
    refine ⟨_, rfl, _, rfl, d, _, rfl, DGet.k (k := Sum.inr x) hN.1, _, rfl, ?_⟩
    cases e : valV (ns.map ent) (.inr x) with
    | none => exact absurd hx (look_none e)
    | some v =>
      refine ⟨d, _, hN.1, trivial, fun od => ⟨_, rfl, d, od, rfl, .inl ⟨_, upd_same, fun D nD => lc_any walk_keys (fun v => ∃ z, v = .str z ∧ PyData.strOk z = true) nD (by rw [List.length_map]; have := ok.few; omega) (fun Ha sm => sm _ _ upd_same) (fun i x Ha Hb Nx hi sm y kp dr => ?_) (fun Ha xs sm hD hl hR => ?_)⟩⟩⟩
      · obtain ⟨rfl, k2, v2, hk, rfl⟩ := y
        obtain ⟨n, hn, _, rfl, rfl⟩ := ent_at hk
        obtain ⟨ps, hp, ep⟩ := ok.path n hn
        refine ⟨rfl, _, rfl, rfl, _, rfl, ?_⟩
        by_cases h0 : ps = []
        · subst h0
          exact iteEq (by show V.str n.path = V.str ("/" : Str); rw [ep, str_slash]; rfl) (dr _ (Same.refl _))
        · obtain ⟨qs, q, rfl⟩ := snoc_of h0
          refine iteNe (fun z => snoc_root hp (by rw [← ep]; exact V.str.inj z)) ?_
          refine ⟨_, rfl, _, by rw [← ep]; rfl, hp, fun H2 e2 => ⟨_, rfl, rfl, _, rfl, ite2 (fun _ => ?_) (fun _ => ?_)⟩⟩
          · exact ⟨_, rfl, qs, q, by rw [← ep]; rfl, hp, fun H3 e3 => kp _ _ ⟨_, rfl, ok_S (hp.each q (by simp)).low⟩ (e2.trans e3)⟩
          · exact dr _ e2
      · obtain ⟨zs, rfl, hz⟩ := all_strs hR
        refine ⟨sm _ _ upd_same, D, zs, rfl, sql ?_, ?_, fun ys p hp _ np => newH np fun H3 e3 h3 => k p ys H3 ((sm_unlock sm hN.1).trans e3) h3 fun z m => hz z (hp.mem_iff.mp m)⟩
        · rw [upd_ne (fun z => by rw [z, upd_same] at nD; cases nD)]
          exact hD
        · rw [List.length_map, List.length_map] at hl
          have := ok.few
          omega
end
end N17

set_option Elab.async false
set_option linter.all false
set_option maxRecDepth 100000
set_option maxHeartbeats 4000000
namespace N17
open PySem PySem.Spec PyProof.Rows
open L2 hiding CX0 E0 pass0 Fun Fun.ok fun_mk
open C8 (Cal CX0 E0 pass0)
open SX (S)
theorem sm_sx {H H1 H2 : Hp} {p : Addr} (e : Same H H1) (x : SameX p H1 H2) (n : H p = none) : Same H H2 := fun b o h => x b o (ne_of_none h n) (e b o h)
theorem Parts.left {ps : List Cs} {p : Cs} (h : Parts (ps ++ [p])) : Parts ps := ⟨by have := h.few; rw [List.length_append, List.length_singleton] at this; omega, fun q hq => h.each q (List.mem_append_left _ hq)⟩
theorem str_eta (x : Str) : S x.cps.toList = x := SX.S_tl x
section
variable {P : Program} {w : World} {K : PySem.W.Frag} {mg : Str → Option Value} {base : Heap} {f : Addr} {fd : FuncData}
abbrev s_refused : Stmt := topS 30
theorem sc_refused : FnScope ["nodes", "word"] ["nodes", "word"] (C8.fnScope s_refused) := C8.fnScope_by (by decide +kernel)
def spRefused : Sp := fun vs H Q _ => ∃ d ns wd, vs = [.ref d, .str wd] ∧ NodesAt H d ns ∧ ∀ p H', Same H H' → PRes H H' p ns "no" [] → Q (.ref p) H'
theorem ok_refused (F : C8.Def K mg "refused" s_refused f fd) (b : Binds K fd ["nodes", "word"] []) (T : Tx K w mg) : Cal P w K mg base 1 "refused" spRefused [] := by
  refine C8.cal0 F b .nil sc_refused (fun vs H Q E h => ?_) (fun cdv A outer s H vs Q E hr h => ?_)
  · obtain ⟨_, _, _, rfl, _⟩ := h
    rfl
  · obtain ⟨d, ns, wd, rfl, hN, k⟩ := h
    refine ⟨_, (pss_one (ps_ret (pe_tup (pa_cons (pe_callTy call_dictD (by rfl) T.n_dict (by decide +kernel) (pa_cons (pv 0) pa_nil)) (pa_cons (pe_tup (pa_cons pe_str (pa_cons (pv 1) pa_nil))) (pa_cons (pe_lst pa_nil) pa_nil)))))), ?_⟩
    refine ⟨_, rfl, d, _, rfl, .inl hN.1, fun d2 n2 => newH n2 fun H1 e1 h1 => ⟨_, rfl, Nat.le_of_ble_eq_true rfl, fun t nt => newH nt fun H2 e2 h2 => ⟨Nat.le_of_ble_eq_true rfl, fun e ne => newH ne fun H3 e3 h3 => ⟨Nat.le_of_ble_eq_true rfl, fun p np => newH np fun H4 e4 h4 => ?_⟩⟩⟩⟩
    have e14 : Same H1 H4 := (e2.trans e3).trans e4
    have e04 : Same H H4 := e1.trans e14
    exact k p _ e04 ⟨d2, t, e, _, ⟨n2, sm_free (e1.trans e2) ne⟩, Nat.le_of_ble_eq_true rfl, h4, ⟨e14 _ _ h1, fun n hn => e04 _ _ (hN.2 n hn)⟩, e4 _ _ (e3 _ _ h2), e4 _ _ h3, fun _ h => by cases h⟩
abbrev s_numbered_path : Stmt := topS 31
theorem sc_numbered_path : FnScope ["path", "made"] ["path", "made"] (C8.fnScope s_numbered_path) := C8.fnScope_by (by decide +kernel)
def spNumPath : Sp := fun vs H Q _ => ∃ ps p n, vs = [.str (S (pathL (ps ++ [p]))), .int n] ∧ Parts (ps ++ [p]) ∧ IsWord p ∧ 0 ≤ n ∧ n < 100000 ∧ Q (.str (S (pathL (ps ++ [p ++ 45 :: six n.toNat])))) H
theorem log_small {n : Nat} (h : n < 100000) : n.log2 < 1920 := by
  rcases Nat.eq_zero_or_pos n with rfl | hp
  · decide
  · have h2 : n.log2 < 17 := (Nat.log2_lt (by omega)).mpr (by omega)
    omega
theorem ok_numbered_path (F : C8.Def K mg "numbered_path" s_numbered_path f fd) (b : Binds K fd ["path", "made"] []) (T : Tx K w mg) : Cal P w K mg base 1 "numbered_path" spNumPath [] := by
  refine C8.cal0 F b .nil sc_numbered_path (fun vs H Q E h => ?_) (fun cdv A outer s H vs Q E hr h => ?_)
  · obtain ⟨_, _, _, rfl, _⟩ := h
    rfl
  · obtain ⟨ps, p, n, rfl, hp, hw, h0, h1, k⟩ := h
    obtain ⟨m, rfl⟩ := Int.eq_ofNat_of_zero_le h0
    have hm : m < 100000 := by omega
    refine ⟨_, (pss_one (ps_ret (pe_op op_add_str (pe_op op_add_str (pv 0) pe_str) (pe_bm PySem.F.plainAttrs_str PySem.F.slot_str_rjust PySem.F.type_str_rjust mt_rjustF (pe_callTy call_str_int (by rfl) T.n_str (by decide +kernel) (pa_cons (pv 1) pa_nil)) (pa_cons (C8.pe_gc (by rfl) T.g_MANY_FIGURES) (pa_cons pe_str pa_nil)))))), ?_⟩
    have hl : (S (pathL (ps ++ [p]))).length ≤ 81 := by rw [SX.S_len]; exact hp.len
    have e1 : (("-" : Str)).length = 1 := rfl
    refine ⟨_, rfl, _, _, rfl, rfl, sz5 (by rw [e1]; omega), ?_⟩
    refine ⟨_, rfl, _, rfl, log_small (by simpa using hm), rfl, _, _, 6, rfl, rfl, rfl, rfl, ?_⟩
    have e2 : Txt.rjustF ((toString ((m : Nat) : Int) : String) : Str) 6 ((("0" : Str)).cps.getD 0 0) = S (six m) := by
      rw [num_str]
      exact rjust_six hm
    have e3 : S (pathL (ps ++ [p])) ++ ("-" : Str) = S (pathL (ps ++ [p]) ++ [45]) := SX.S_cat _ _
    have l6 : (S (six m)).length = 6 := by rw [SX.S_len, six_len hm]
    refine ⟨_, _, rfl, rfl, ?_, ?_⟩
    · show (S (pathL (ps ++ [p])) ++ ("-" : Str)).length + (Txt.rjustF ((toString ((m : Nat) : Int) : String) : Str) 6 ((("0" : Str)).cps.getD 0 0)).length ≤ sizeLine
      rw [e2, l6, e3, SX.S_len, List.length_append]
      rw [SX.S_len] at hl
      refine sz5 ?_
      simp
      omega
    · rw [e2, e3, SX.S_cat, List.append_assoc, pathL_app]
      exact k
/-- what make, put, drop and the plain deed promise -/
def PPost (H : Hp) (Q : VK) (b : Int) (asker : Str) (ns : List Nd) : Prop := ∀ p ns' wd es H', Same H H' → PRes H H' p ns' wd es → NOk (b + 1) ns' → Eff asker ns ns' es → Q (.ref p) H'
theorem ppost_refused {H H1 : Hp} {Q : VK} {b : Int} {asker : Str} {ns : List Nd} (k : PPost H Q b asker ns) (ok : NOk b ns) (e : Same H H1) : ∀ p H', Same H1 H' → PRes H1 H' p ns "no" [] → Q (.ref p) H' :=
  fun p H' e2 r => k p ns _ _ H' (e.trans e2) (r.up e) (ok.mono (by omega)) (Eff.same _ _ _)
abbrev s_make : Stmt := topS 32
theorem sc_make : FnScope ["nodes", "asker", "path", "text", "own", "numbered", "parent", "above", "count", "made", "owner", "found"] ["nodes", "asker", "path", "text", "own", "numbered"] (C8.fnScope s_make) := C8.fnScope_by (by decide +kernel)
def spMake : Sp := fun vs H Q _ => ∃ d ns b asker ps p t own num, vs = [.ref d, .str asker, .str (S (pathL (ps ++ [p]))), .str (S t), .bl own, .bl num] ∧ NodesAt H d ns ∧ NOk b ns ∧ b < 90000 ∧ PlOk (.make ps p t own num) ∧ PPost H Q b asker ns
theorem ok_make (F : C8.Def K mg "make" s_make f fd) (b : Binds K fd ["nodes", "asker", "path", "text", "own", "numbered"] []) (T : Tx K w mg) (c_parent_of : Cal P w K mg base 2 "parent_of" spParentOf []) (c_refused : Cal P w K mg base 1 "refused" spRefused [])
    (c_numbered_path : Cal P w K mg base 1 "numbered_path" spNumPath []) : Cal P w K mg base 3 "make" spMake [] := by
  refine C8.cal0 F b .nil sc_make (fun vs H Q E h => ?_) (fun cdv A outer s H vs Q E hr h => ?_)
  · obtain ⟨_, _, _, _, _, _, _, _, _, rfl, _⟩ := h
    rfl
  · obtain ⟨d, ns, b, asker, ps, q, t, own, num, rfl, hN, ok, hb, ⟨hp, ht, hn⟩, k⟩ := h
    have hu := hu_of hr
    refine ⟨_, (pss_cons (ps_set (i := 6) sc_make.nd rfl (Or.inl rfl) (C8.pe_c c_parent_of hr (by decide) (by rfl) (pa_cons (pv 2) pa_nil)))
        (pss_cons (ps_if (pt_cmp (pc_dnotin hu (pv 6) (pv 0))) (pss_one (ps_ret (C8.pe_c c_refused hr (by decide) (by rfl) (pa_cons (pv 0) (pa_cons pe_str pa_nil))))) pss_nil)
        (pss_cons (ps_asg (pe_dget hu (pv 0) (pv 6) (fun _ _ => rfl)) (pg_tup rfl (pgs_cons (pg_name (i := 7) sc_make.nd rfl (Or.inl rfl)) (pgs_cons (pg_name (i := 8) sc_make.nd rfl (Or.inl rfl)) (pgs_cons (pg_name (i := 9) sc_make.nd rfl (Or.inl rfl)) (pgs_cons (pg_name (i := 10) sc_make.nd rfl (Or.inl rfl)) pgs_nil))))))
        (pss_cons (ps_if (pt_cmp (pc_notN (pv 10))) (pss_one (ps_ret (C8.pe_c c_refused hr (by decide) (by rfl) (pa_cons (pv 0) (pa_cons pe_str pa_nil))))) pss_nil)
        (C8.pss_cut (ps_if (pt_val (pv 5)) (pss_one (ps_set (i := 2) sc_make.nd rfl (Or.inl rfl) (C8.pe_c c_numbered_path hr (by decide) (by rfl) (pa_cons (pv 2) (pa_cons (pv 9) pa_nil))))) pss_nil)
        (pss_cons (ps_if (pt_cmp (pc_din hu (pv 2) (pv 0))) (pss_one (ps_ret (C8.pe_c c_refused hr (by decide) (by rfl) (pa_cons (pv 0) (pa_cons pe_str pa_nil))))) pss_nil)
        (C8.pss_cut (ps_if (PW.pt (pw_or (pt_cmpR op_ge (pe_callB call_lenD (by rfl) T.n_len (by decide +kernel) (pa_cons (pv 0) pa_nil)) (C8.pe_gc (by rfl) T.g_MOST_NODES) (nomark _)) (pw_or1 (PW.pt (pw_and (pt_val (pv 5)) (pw_and1 (pt_cmpR op_gt (pv 9) (C8.pe_gc (by rfl) T.g_MOST_MADE) (nomark _)))))))) (pss_one (ps_ret (C8.pe_c c_refused hr (by decide) (by rfl) (pa_cons (pv 0) (pa_cons pe_str pa_nil))))) pss_nil)
        (pss_cons (ps_set (i := 11) sc_make.nd rfl (Or.inl rfl) (pe_callTy call_dictD (by rfl) T.n_dict (by decide +kernel) (pa_cons (pv 0) pa_nil)))
        (pss_cons (ps_dput hu (pv 11) (pv 6) (pe_tup (pa_cons (pv 7) (pa_cons (pv 8) (pa_cons (pe_op op_add (pv 9) pe_int) (pa_cons (pv 10) pa_nil))))) rfl)
        (pss_cons (ps_dput hu (pv 11) (pv 2) (pe_tup (pa_cons (pv 3) (pa_cons pe_int (pa_cons pe_int (pa_cons (pe_ifExp (pt_val (pv 4)) (pv 1) pe_non) pa_nil))))) rfl)
        (pss_one (ps_ret (pe_tup (pa_cons (pv 11) (pa_cons (pe_tup (pa_cons pe_str (pa_cons (pv 2) pa_nil))) (pa_cons (pe_lst (pa_cons (pe_tup (pa_cons pe_str (pa_cons (pv 2) pa_nil))) (pa_cons (pe_tup (pa_cons pe_str (pa_cons (pv 6) pa_nil))) pa_nil))) pa_nil)))))))))))))))), ?_⟩
    refine ⟨_, rfl, _, rfl, hp, fun H1 e1 => ?_⟩
    have hN1 := hN.mono e1
    have ed : (ps ++ [q]).dropLast = ps := List.dropLast_concat
    rw [ed]
    refine ⟨_, rfl, _, rfl, d, _, rfl, DGet.k (k := Sum.inr (S (pathL ps))) hN1.1, _, rfl, ?_⟩
    cases e : valV (ns.map ent) (.inr (S (pathL ps))) with
    | none => exact ⟨_, rfl, d, ns, _, rfl, hN1, ppost_refused k ok e1⟩
    | some v =>
      obtain ⟨n, hn1, hnp, rfl⟩ := look_some e
      have hnv : H1 n.ad = some (.tup n.vs) := hN1.2 n hn1
      refine ⟨_, rfl, _, rfl, d, _, rfl, ?_, n.ad, n.vs, rfl, sqt hnv, rfl, _, _, rfl, _, _, rfl, _, _, rfl, _, _, rfl, rfl, ?_⟩
      · have := DGet.k (k := Sum.inr (S (pathL ps))) hN1.1
        rw [e] at this
        exact this
      refine ⟨_, rfl, _, rfl, ?_⟩
      cases ho : n.own with
      | some x => exact iteNe (fun z => nomatch z) ⟨_, rfl, d, ns, _, rfl, hN1, ppost_refused k ok e1⟩
      | none =>
        refine iteEq rfl ?_
        have hm := ok.made n hn1
        refine ⟨fun σ' H' => ∃ x, σ' = [some (.ref d), some (.str asker), some (.str x), some (.str (S t)), some (.bl own), some (.bl num), some (.str (S (pathL ps))), some (.str n.text), some (.int n.cnt), some (.int n.made), some .non, none] ∧ H1 = H' ∧ IsPath x, ?_, ?_⟩
        · refine ⟨_, rfl, _, rfl, ?_⟩
          cases num with
          | false => exact ⟨_, rfl, rfl, _, hp, rfl⟩
          | true => exact ⟨_, rfl, _, rfl, ps, q, n.made, rfl, hp, hn rfl, hm.1, by omega, _, rfl, rfl, _, hp.reset (word_dash (hn rfl) (by omega)), rfl⟩
        · rintro σ' H' ⟨x, rfl, rfl, hx⟩
          refine ⟨_, rfl, _, rfl, d, _, rfl, DGet.k (k := Sum.inr x) hN1.1, _, rfl, ?_⟩
          cases ex : valV (ns.map ent) (.inr x) with
          | some v => exact ⟨_, rfl, d, ns, _, rfl, hN1, ppost_refused k ok e1⟩
          | none =>
            have nx := look_none ex
            refine ⟨fun σ' H' => σ' = [some (.ref d), some (.str asker), some (.str x), some (.str (S t)), some (.bl own), some (.bl num), some (.str (S (pathL ps))), some (.str n.text), some (.int n.cnt), some (.int n.made), some .non, none] ∧ H1 = H' ∧ ns.length < 60, ?_, ?_⟩
            · refine ⟨_, rfl, d, _, rfl, hN1.1, _, _, rfl, rfl, _, rfl, ?_⟩
              rw [List.length_map]
              refine ite2 (fun c => ?_) (fun c => ?_)
              · exact ⟨_, rfl, d, ns, _, rfl, hN1, ppost_refused k ok e1⟩
              · have hlen : ns.length < 60 := by
                  have c2 : ¬ (60 : Int) ≤ (ns.length : Int) := fun z => c (decide_eq_true z)
                  omega
                refine ⟨_, rfl, _, rfl, ?_⟩
                cases num with
                | false => exact ⟨rfl, rfl, hlen⟩
                | true => exact ⟨_, rfl, _, _, rfl, rfl, _, rfl, iteDn (by omega) ⟨rfl, rfl, hlen⟩⟩
            · rintro σ' H' ⟨rfl, rfl, hlen⟩
              have fin : ∀ (ow : Option Str) (d2 t1 t2 u a1 a2 e p : Addr) (H3 H4 H5 H6 H7 : Hp), H1 e = none → (ow = none ∨ ow = some asker) → Same H1 H3 → H1 d2 = none → H3 d2 = some (.dK (ns.map ent)) → H3 t1 = some (.tup [.str n.text, .int n.cnt, .int (n.made + 1), .non]) →
                  SameX d2 H3 H4 → H4 d2 = some (.dK (putK (ns.map ent) (.inr (S (pathL ps))) (.ref t1))) → Same H4 H5 → H5 t2 = some (.tup [.str (S t), .int 0, .int 0, ownV ow]) →
                  SameX d2 H5 H6 → H6 d2 = some (.dK (putK (putK (ns.map ent) (.inr (S (pathL ps))) (.ref t1)) (.inr x) (.ref t2))) → Same H6 H7 → H7 u = some (.tup [.str "ok", .str x]) → H7 a1 = some (.tup [.str "made", .str x]) → H7 a2 = some (.tup [.str "kids", .str (S (pathL ps))]) →
                  H7 e = some (.lst [.ref a1, .ref a2]) → H7 p = some (.tup [.ref d2, .ref u, .ref e]) → Q (.ref p) H7 := by
                intro ow d2 t1 t2 u a1 a2 e p H3 H4 H5 H6 H7 he0 how e3 n2 hd3 ht1 x4 hd4 e5 ht2 x6 hd6 e7 ht ha1 ha2 he hpp
                have p1 := put_ent ns ⟨S (pathL ps), t1, n.text, n.cnt, n.made + 1, none⟩
                have p2 := put_ent (putN ns ⟨S (pathL ps), t1, n.text, n.cnt, n.made + 1, none⟩) ⟨x, t2, S t, 0, 0, ow⟩
                have N3 : NodesAt H3 d2 ns := ⟨hd3, (hN1.mono e3).2⟩
                have N4 := NodesAt.store (n := ⟨S (pathL ps), t1, n.text, n.cnt, n.made + 1, none⟩) N3 ht1 x4 (by rw [← p1]; exact hd4)
                have N6 := NodesAt.store (n := ⟨x, t2, S t, 0, 0, ow⟩) (N4.mono e5) ht2 x6 (by rw [← p2, ← p1]; exact hd6)
                have hin : S (pathL ps) ∈ ns.map (·.path) := List.mem_map.mpr ⟨n, hn1, hnp⟩
                have hpp2 : (putN ns ⟨S (pathL ps), t1, n.text, n.cnt, n.made + 1, none⟩).map (·.path) = ns.map (·.path) := by rw [paths_put, if_pos hin]
                have ok1 : NOk (b + 1) (putN ns ⟨S (pathL ps), t1, n.text, n.cnt, n.made + 1, none⟩) := (ok.mono (by omega)).put (.inl hin) ⟨ps, hp.left, rfl⟩ (ok.cnt n hn1) ⟨by show 0 ≤ n.made + 1; omega, by show n.made + 1 ≤ b + 1; omega⟩
                have ok2 := ok1.put (n := ⟨x, t2, S t, 0, 0, ow⟩) (.inr (by rw [put_len, if_pos hin]; exact hlen)) hx (Int.le_refl _) ⟨Int.le_refl _, by have := (ok.made n hn1); show (0 : Int) ≤ b + 1; omega⟩
                refine k p _ ("ok" : Str) [⟨a1, "made", x⟩, ⟨a2, "kids", S (pathL ps)⟩] H7 (e1.trans ((sm_sx ((sm_sx e3 x4 n2).trans e5) x6 n2).trans e7)) ⟨d2, u, e, _, ⟨sm_free e1 n2, sm_free e1 he0⟩, Nat.le_of_ble_eq_true rfl, hpp, N6.mono e7, ht, he, fun y hy => ?_⟩ ok2 ?_
                · rcases List.mem_cons.mp hy with rfl | hy
                  · exact ha1
                  · rw [List.mem_singleton.mp hy]
                    exact ha2
                · exact (Eff.put hn1 hnp.symm ho.symm []).trans (Eff.new how ⟨⟨a1, "made", x⟩, by simp, rfl, rfl⟩)
              refine ⟨_, rfl, d, _, rfl, .inl hN1.1, fun d2 n2 => newH n2 fun H2 e2 h2 => ⟨_, rfl, _, rfl, _, rfl, _, _, rfl, rfl, _, rfl, Nat.le_of_ble_eq_true rfl, fun t1 nt1 => newH nt1 fun H3 e3 h3 => ⟨_, rfl, _, rfl, d2, _, rfl, DPut.k (k := Sum.inr (S (pathL ps))) (e3 _ _ h2) (by rw [List.length_map]; exact small1000 (by omega)), chgH fun H4 x4 h4 => ?_⟩⟩⟩
              have hl4 : (putK (ns.map ent) (Sum.inr (S (pathL ps)) : Key) (V.ref t1)).length < sizeLine := by
                have := length_putK (ns.map ent) (Sum.inr (S (pathL ps)) : Key) (V.ref t1)
                rw [List.length_map] at this
                exact small1000 (by omega)
              refine ⟨_, rfl, _, rfl, _, rfl, ?_⟩
              cases own with
              | true =>
                refine ⟨_, rfl, Nat.le_of_ble_eq_true rfl, fun t2 nt2 => newH nt2 fun H5 e5 h5 => ⟨_, rfl, _, rfl, d2, _, rfl, DPut.k (k := Sum.inr x) (e5 _ _ h4) hl4, chgH fun H6 x6 h6 => ?_⟩⟩
                refine ⟨_, rfl, _, rfl, Nat.le_of_ble_eq_true rfl, fun u nu => newH nu fun J1 f1 g1 => ⟨_, rfl, Nat.le_of_ble_eq_true rfl, fun a1 na1 => newH na1 fun J2 f2 g2 => ⟨_, rfl, Nat.le_of_ble_eq_true rfl, fun a2 na2 => newH na2 fun J3 f3 g3 => ⟨Nat.le_of_ble_eq_true rfl, fun e ne => newH ne fun J4 f4 g4 => ⟨Nat.le_of_ble_eq_true rfl, fun p np => newH np fun J5 f5 g5 => ?_⟩⟩⟩⟩⟩
                exact fin (some asker) d2 t1 t2 u a1 a2 e p H3 H4 H5 H6 J5 (sm_free ((sm_sx ((sm_sx (e2.trans e3) x4 n2).trans e5) x6 n2).trans ((f1.trans f2).trans f3)) ne) (.inr rfl) (e2.trans e3) n2 (e3 _ _ h2) h3 x4 h4 e5 h5 x6 h6 ((((f1.trans f2).trans f3).trans f4).trans f5) (f5 _ _ (f4 _ _ (f3 _ _ (f2 _ _ g1)))) (f5 _ _ (f4 _ _ (f3 _ _ g2))) (f5 _ _ (f4 _ _ g3)) (f5 _ _ g4) g5
              | false =>
                refine ⟨Nat.le_of_ble_eq_true rfl, fun t2 nt2 => newH nt2 fun H5 e5 h5 => ⟨_, rfl, _, rfl, d2, _, rfl, DPut.k (k := Sum.inr x) (e5 _ _ h4) hl4, chgH fun H6 x6 h6 => ?_⟩⟩
                refine ⟨_, rfl, _, rfl, Nat.le_of_ble_eq_true rfl, fun u nu => newH nu fun J1 f1 g1 => ⟨_, rfl, Nat.le_of_ble_eq_true rfl, fun a1 na1 => newH na1 fun J2 f2 g2 => ⟨_, rfl, Nat.le_of_ble_eq_true rfl, fun a2 na2 => newH na2 fun J3 f3 g3 => ⟨Nat.le_of_ble_eq_true rfl, fun e ne => newH ne fun J4 f4 g4 => ⟨Nat.le_of_ble_eq_true rfl, fun p np => newH np fun J5 f5 g5 => ?_⟩⟩⟩⟩⟩
                exact fin none d2 t1 t2 u a1 a2 e p H3 H4 H5 H6 J5 (sm_free ((sm_sx ((sm_sx (e2.trans e3) x4 n2).trans e5) x6 n2).trans ((f1.trans f2).trans f3)) ne) (.inl rfl) (e2.trans e3) n2 (e3 _ _ h2) h3 x4 h4 e5 h5 x6 h6 ((((f1.trans f2).trans f3).trans f4).trans f5) (f5 _ _ (f4 _ _ (f3 _ _ (f2 _ _ g1)))) (f5 _ _ (f4 _ _ (f3 _ _ g2))) (f5 _ _ (f4 _ _ g3)) (f5 _ _ g4) g5
end
end N17

set_option Elab.async false
set_option linter.all false
set_option maxRecDepth 100000
set_option maxHeartbeats 4000000
namespace N17
open PySem PySem.Spec PyProof.Rows
open L2 hiding CX0 E0 pass0 Fun Fun.ok fun_mk
open C8 (Cal CX0 E0 pass0)
open SX (S)
/-! ### name = {k: v for ..} on one line, the name a local -/
section
variable {X : Cx}
theorem ps_setDc {i : Nat} {y : Str} {py : Pos} {kx vx tg iter : Expr} {ifs : List Expr} {scope : Scope} {own : List (Str × Nat)} {pos spos : Pos} {wi : TI} {g : TG} {tt : TT} {tk tv : TE} (hc : X.calm = true) (hN : X.N.Nodup) (hy : X.N[i]? = some y)
    (hyl : X.env.scope.names.lookup y = some .local) (hsw : swapsWith (.DictComp kx vx [⟨tg, iter, ifs, 0⟩] scope pos) (some (.Name y py)) spos.line X.env = pure true) (hi : PI X tg iter wi) (ok : BlkOk X.N X.env.scope scope own)
    (hg : ∀ (s : Shared) (H : Hp) (C : Addr) (cl : List (Str × Addr)) (fp : List Addr), PG (X.blk s H scope (compEnvC scope cl C X.env) fp) tg g)
    (ht : ∀ (s : Shared) (H : Hp) (C : Addr) (cl : List (Str × Addr)) (fp : List Addr), PTs (X.blk s H scope (compEnvC scope cl C X.env) fp) ifs tt)
    (hk : ∀ (s : Shared) (H : Hp) (C : Addr) (cl : List (Str × Addr)) (fp : List Addr), PE (X.blk s H scope (compEnvC scope cl C X.env) fp) kx tk)
    (he : ∀ (s : Shared) (H : Hp) (C : Addr) (cl : List (Str × Addr)) (fp : List Addr), PE (X.blk s H scope (compEnvC scope cl C X.env) fp) vx tv) (hs : ∀ x, foldedSetIterable iter X.env x = pure x := by intro _; rfl) :
    PS X (.Assign [.Name y py] (.DictComp kx vx [⟨tg, iter, ifs, 0⟩] scope pos) spos) (tAsg (tDc wi g tt tk tv (own.map (·.2))) (gName i)) := by
  refine ⟨fun pins s σ H D I h0 => ?_⟩
  rw [exec_Assign_Name_used _ _ _ _ hsw]
  refine wpAny_bind (wpAny_standAt (wpAny_bind ?_))
  show wpAny _ X.A (do let _ ← comprehension (.DictComp kx vx [⟨tg, iter, ifs, 0⟩] scope pos) scope X.env (firstIterPos [⟨tg, iter, ifs, 0⟩] pos) newDict false (eval iter X.env) (some (assign (.Name y py) X.env))) _ _ s
  have h1 : tDc wi g tt tk tv (own.map (·.2)) σ H (fun x H1 => gName i x σ H1 D.nx) := h0
  refine wpAny_bind (thn (dc_core (Qf := fun _ s' => SP X pins D .next s') hc hN I hi ok hg ht hk he hs h1 fun L C s2 m H2 J q hn fo => ?_) fun _ s2 hq => wpAny_pure (wpAny_pure hq))
  show wpAny _ _ (assign (.Name y py) X.env (.ref L)) _ _ _
  refine wpAny_assign_Name (store_ok2 (v := V.ref L) J hN hy (.inl hyl) rfl (fun s3 J3 ⟨a, sb, ha⟩ => ?_) (.inr hyl))
  obtain ⟨f0, f1, f2, f3, f4, f5⟩ := fo
  have nCa : C ≠ a := ha.elim (fun z => z ▸ f1) fun z e => f4 y a z e.symm
  exact ⟨m, hn.sameBut sb nCa, fun h3 sb3 => ⟨_, H2, J3.turned (t' := s3.toks) (fun b o hb e => (sb3.2 b hb).trans e) f0 f1 f3 f4 f5, q⟩⟩
theorem sw_dict {kx vx : Expr} {gs : List Comprehension} {scope : Scope} {pos py : Pos} {y : Str} {l : Nat} {env : Env} (hk : env.scope.kind = .function) (hy : env.scope.names.lookup y = some .local) (hl : (py.line == pos.line) = true)
    (ha : (scope.names.any fun (n, k) => n == y && (k == .local || k == .cell)) = false) : swapsWith (.DictComp kx vx gs scope pos) (some (.Name y py)) l env = pure true := by
  have k1 : env.kindOf y = some .local := hy
  have k2 : env.blockKind = .function := by
    unfold Env.blockKind
    rw [hk]
    rfl
  unfold swapsWith
  simp only [k2, k1, ha, Expr.pos, hl]
  rfl
end
theorem putN_new {ns : List Nd} {n : Nd} (h : n.path ∉ ns.map (·.path)) : putN ns n = ns ++ [n] := by
  unfold putN
  rw [if_neg fun z => h (any_path.mp z)]
section
variable {P : Program} {w : World} {K : PySem.W.Frag} {mg : Str → Option Value} {base : Heap} {f : Addr} {fd : FuncData}
abbrev s_put : Stmt := topS 33
theorem sc_put : FnScope ["nodes", "path", "text", "old", "count", "made", "owner", "found"] ["nodes", "path", "text"] (C8.fnScope s_put) := C8.fnScope_by (by decide +kernel)
def spPut : Sp := fun vs H Q _ => ∃ d ns b asker x t, vs = [.ref d, .str x, .str t] ∧ NodesAt H d ns ∧ NOk b ns ∧ x ∈ ns.map (·.path) ∧ PPost H Q b asker ns
theorem ok_put (F : C8.Def K mg "put" s_put f fd) (b : Binds K fd ["nodes", "path", "text"] []) (T : Tx K w mg) : Cal P w K mg base 1 "put" spPut [] := by
  refine C8.cal0 F b .nil sc_put (fun vs H Q E h => ?_) (fun cdv A outer s H vs Q E hr h => ?_)
  · obtain ⟨_, _, _, _, _, _, rfl, _⟩ := h
    rfl
  · obtain ⟨d, ns, b, asker, x, t, rfl, hN, ok, hx, k⟩ := h
    have hu := hu_of hr
    refine ⟨_, (pss_cons (ps_asg (pe_dget hu (pv 0) (pv 1) (fun _ _ => rfl)) (pg_tup rfl (pgs_cons (pg_name (i := 3) sc_put.nd rfl (Or.inl rfl)) (pgs_cons (pg_name (i := 4) sc_put.nd rfl (Or.inl rfl)) (pgs_cons (pg_name (i := 5) sc_put.nd rfl (Or.inl rfl)) (pgs_cons (pg_name (i := 6) sc_put.nd rfl (Or.inl rfl)) pgs_nil))))))
        (pss_cons (ps_set (i := 7) sc_put.nd rfl (Or.inl rfl) (pe_callTy call_dictD (by rfl) T.n_dict (by decide +kernel) (pa_cons (pv 0) pa_nil)))
        (pss_cons (ps_dput hu (pv 7) (pv 1) (pe_tup (pa_cons (pv 2) (pa_cons (pe_op op_add (pv 4) pe_int) (pa_cons (pv 5) (pa_cons (pv 6) pa_nil))))) rfl)
        (pss_one (ps_ret (pe_tup (pa_cons (pv 7) (pa_cons (pe_tup (pa_cons pe_str (pa_cons (pe_op op_add (pv 4) pe_int) pa_nil))) (pa_cons (pe_lst (pa_cons (pe_tup (pa_cons pe_str (pa_cons (pv 1) pa_nil))) pa_nil)) pa_nil))))))))), ?_⟩
    obtain ⟨n, hn, rfl⟩ := List.mem_map.mp hx
    have hg := DGet.k (k := Sum.inr n.path) hN.1
    rw [look_of ok.nd hn] at hg
    refine ⟨_, rfl, _, rfl, d, _, rfl, hg, n.ad, n.vs, rfl, sqt (hN.2 n hn), rfl, _, _, rfl, _, _, rfl, _, _, rfl, _, _, rfl, rfl, ?_⟩
    refine ⟨_, rfl, d, _, rfl, .inl hN.1, fun d2 n2 => newH n2 fun H2 e2 h2 => ⟨_, rfl, _, rfl, _, _, rfl, rfl, _, rfl, _, rfl, Nat.le_of_ble_eq_true rfl, fun t1 nt1 => newH nt1 fun H3 e3 h3 => ⟨_, rfl, _, rfl, d2, _, rfl, DPut.k (k := Sum.inr n.path) (e3 _ _ h2) (by rw [List.length_map]; have := ok.few; exact small1000 (by omega)), chgH fun H4 x4 h4 => ?_⟩⟩⟩
    refine ⟨_, rfl, _, rfl, _, _, rfl, rfl, Nat.le_of_ble_eq_true rfl, fun u nu => newH nu fun J1 f1 g1 => ⟨_, rfl, Nat.le_of_ble_eq_true rfl, fun a1 na1 => newH na1 fun J2 f2 g2 => ⟨Nat.le_of_ble_eq_true rfl, fun e ne => newH ne fun J4 f4 g4 => ⟨Nat.le_of_ble_eq_true rfl, fun p np => newH np fun J5 f5 g5 => ?_⟩⟩⟩⟩
    have p1 := put_ent ns ⟨n.path, t1, t, n.cnt + 1, n.made, n.own⟩
    have N3 : NodesAt H3 d2 ns := ⟨e3 _ _ h2, fun m hm => e3 _ _ (e2 _ _ (hN.2 m hm))⟩
    have N4 := NodesAt.store (n := ⟨n.path, t1, t, n.cnt + 1, n.made, n.own⟩) N3 h3 x4 (by rw [← p1]; exact h4)
    have e4 : Same H4 J5 := ((f1.trans f2).trans f4).trans f5
    refine k p _ ("ok" : Str) [⟨a1, "text", n.path⟩] J5 ((sm_sx (e2.trans e3) x4 n2).trans e4) ⟨d2, u, e, _, ⟨n2, sm_free ((sm_sx (e2.trans e3) x4 n2).trans (f1.trans f2)) ne⟩, Nat.le_of_ble_eq_true rfl, g5, N4.mono e4, f5 _ _ (f4 _ _ (f2 _ _ g1)), f5 _ _ g4, fun y hy => ?_⟩ ?_ ?_
    · rw [List.mem_singleton.mp hy]
      exact f5 _ _ (f4 _ _ g2)
    · exact (ok.mono (by omega)).put (.inl hx) (ok.path n hn) (by have := ok.cnt n hn; show 0 ≤ n.cnt + 1; omega) ⟨(ok.made n hn).1, by have := (ok.made n hn).2; show n.made ≤ b + 1; omega⟩
    · exact Eff.put (n := ⟨n.path, t1, t, n.cnt + 1, n.made, n.own⟩) hn rfl rfl _
abbrev s_dropped : Stmt := topS 34
theorem sc_dropped : FnScope ["nodes", "path", "found", "one", "node"] ["nodes", "path"] (C8.fnScope s_dropped) := C8.fnScope_by (by decide +kernel)
def keepN (x : Str) (n : Nd) : Bool := !decide (n.path = x)
def spDropped : Sp := fun vs H Q _ => ∃ d ns b ps, vs = [.ref d, .str (S (pathL ps))] ∧ NodesAt H d ns ∧ NOk b ns ∧ Parts ps ∧
  ∀ p d2 e a1 a2 H', H d2 = none → H e = none → Same H H' → H' p = some (.tup [.ref d2, .ref e]) → NodesAt H' d2 (ns.filter (keepN (S (pathL ps)))) → EvAt H' e [⟨a1, "gone", S (pathL ps)⟩, ⟨a2, "kids", S (pathL ps.dropLast)⟩] → Q (.ref p) H'
theorem ok_dropped (F : C8.Def K mg "dropped" s_dropped f fd) (b : Binds K fd ["nodes", "path"] []) (T : Tx K w mg) (c_parent_of : Cal P w K mg base 2 "parent_of" spParentOf []) : Cal P w K mg base 3 "dropped" spDropped [] := by
  refine C8.cal0 F b .nil sc_dropped (fun vs H Q E h => ?_) (fun cdv A outer s H vs Q E hr h => ?_)
  · obtain ⟨_, _, _, _, rfl, _⟩ := h
    rfl
  · obtain ⟨d, ns, b, ps, rfl, hN, ok, hp, k⟩ := h
    have hu := hu_of hr
    refine ⟨_, (pss_cons (ps_lock (ps_setDc (i := 2) (g := gTup K 2 (gCons (gName 3) (gCons (gName 4) gNil))) rfl sc_dropped.nd rfl rfl (sw_dict rfl rfl rfl (by decide +kernel)) (pi_items (pv 0)) (L2.blkOk_by (own := [("one", 3), ("node", 4)]) (N := ["nodes", "path", "found", "one", "node"]) (sc := C8.fnScope s_dropped) (by decide +kernel)) (fun _ _ _ _ _ => (pg_tup rfl (pgs_cons (pg_name (i := 3) sc_dropped.nd rfl (Or.inl rfl)) (pgs_cons (pg_name (i := 4) sc_dropped.nd rfl (Or.inl rfl)) pgs_nil)))) (fun _ _ _ _ _ => (pts_one (pt_cmpR op_ne (pv 3) (pv 1) (nomark _)))) (fun _ _ _ _ _ => (pv 3)) (fun _ _ _ _ _ => (pv 4))))
        (pss_one (ps_ret (pe_tup (pa_cons (pv 2) (pa_cons (pe_lst (pa_cons (pe_tup (pa_cons pe_str (pa_cons (pv 1) pa_nil))) (pa_cons (pe_tup (pa_cons pe_str (pa_cons (C8.pe_c c_parent_of hr (by decide) (by rfl) (pa_cons (pv 1) pa_nil)) pa_nil))) pa_nil))) pa_nil)))))), ?_⟩
    have hlen : (ns.map ent).length = ns.length := List.length_map ..
    refine ⟨d, _, hN.1, trivial, fun od => ⟨_, rfl, d, od, _, rfl, upd_same, fun D nD => ?_⟩⟩
    refine dc_it walk_items (fun i H' => Same (upd H d (.frz od (.dK (ns.map ent)))) H' ∧ H' D = some (.dK (((ns.take i).filter (keepN (S (pathL ps)))).map ent))) ⟨sm_new nD, upd_same⟩ (fun i H' _ q => q.1 _ _ upd_same) (fun i v Ha Hb hi q y => ?_) (fun Ha q => ?_)
    · obtain ⟨T, v1, v2, rfl, nT, rfl, y1, y2⟩ := y
      obtain ⟨sm, hD⟩ := q
      rw [hlen] at hi
      have hk : (ns.map ent)[i]? = some (ent ns[i]) := by rw [List.getElem?_map, List.getElem?_eq_getElem hi]; rfl
      dsimp only at y1 y2
      rw [hk] at y1 y2
      cases y1
      cases y2
      have er : ns.take (i + 1) = ns.take i ++ [ns[i]] := List.take_succ_eq_append_getElem hi
      have sT : Same Ha (upd Ha T (.tup [kV (ent ns[i]).1, (ent ns[i]).2])) := sm_new nT
      refine ⟨T, _, rfl, sqt upd_same, rfl, _, _, rfl, _, _, rfl, rfl, rfl, _, rfl, _, rfl, rfl, _, rfl, ?_⟩
      by_cases c : ns[i].path = S (pathL ps)
      · refine iteEq (congrArg V.str c) ⟨sm.trans sT, ?_⟩
        rw [er, List.filter_append, show [ns[i]].filter (keepN (S (pathL ps))) = [] by simp [keepN, c], List.append_nil]
        exact sT _ _ hD
      · refine iteNe (fun z => c (V.str.inj z)) ⟨_, rfl, _, rfl, _, Sum.inr ns[i].path, rfl, sT _ _ hD, ?_, sm_mut (sm.trans sT) nD, ?_⟩
        · rw [List.length_map]
          have h1 := List.length_filter_le (keepN (S (pathL ps))) (ns.take i)
          rw [List.length_take] at h1
          have := ok.few
          exact small1000 (by omega)
        · rw [upd_same, er, List.filter_append, show [ns[i]].filter (keepN (S (pathL ps))) = [ns[i]] by simp [keepN, c]]
          have np : ns[i].path ∉ ((ns.take i).filter (keepN (S (pathL ps)))).map (·.path) := fun m => by
            obtain ⟨z, hz, ez⟩ := List.mem_map.mp m
            have h1 := (List.mem_filter.mp hz).1
            have nd2 : ((ns.take (i + 1)).map (·.path)).Nodup := by
              have q : List.Sublist ((ns.take (i + 1)).map (·.path)) (ns.map (·.path)) := (List.take_sublist _ _).map _
              exact q.nodup ok.nd
            rw [er, List.map_append, List.nodup_append] at nd2
            exact nd2.2.2 _ (List.mem_map.mpr ⟨z, h1, rfl⟩) _ (by simp) ez
          have e := put_ent ((ns.take i).filter (keepN (S (pathL ps)))) ns[i]
          rw [putN_new np] at e
          show some (HO.dK (putK (((ns.take i).filter (keepN (S (pathL ps)))).map ent) (Sum.inr ns[i].path) (V.ref ns[i].ad))) = _
          rw [e]
    · obtain ⟨sm, hD⟩ := q
      rw [hlen, List.take_length] at hD
      have nDd : D ≠ d := fun z => by rw [z, upd_same] at nD; cases nD
      have nD0 : H D = none := by rw [upd_ne nDd] at nD; exact nD
      refine ⟨sm _ _ upd_same, ?_⟩
      have e1 : Same H (upd Ha d (.dK (ns.map ent))) := sm_unlock sm hN.1
      have hD1 : (upd Ha d (.dK (ns.map ent))) D = some (.dK ((ns.filter (keepN (S (pathL ps)))).map ent)) := by rw [upd_ne nDd]; exact hD
      generalize upd Ha d (.dK (ns.map ent)) = H1 at e1 hD1
      refine ⟨_, rfl, _, rfl, Nat.le_of_ble_eq_true rfl, fun a1 na1 => newH na1 fun J2 f2 g2 => ⟨_, rfl, _, rfl, hp, fun J3 f3 => ⟨Nat.le_of_ble_eq_true rfl, fun a2 na2 => newH na2 fun J4 f4 g4 => ⟨Nat.le_of_ble_eq_true rfl, fun e ne => newH ne fun J5 f5 g5 => ⟨Nat.le_of_ble_eq_true rfl, fun p np => newH np fun J6 f6 g6 => ?_⟩⟩⟩⟩⟩
      have e16 : Same H1 J6 := (((f2.trans f3).trans f4).trans f5).trans f6
      refine k p D e a1 a2 J6 nD0 (sm_free (((e1.trans f2).trans f3).trans f4) ne) (e1.trans e16) g6 ⟨e16 _ _ hD1, fun n hn => e16 _ _ (e1 _ _ (hN.2 n (List.mem_filter.mp hn).1))⟩ ⟨f6 _ _ g5, fun y hy => ?_⟩
      rcases List.mem_cons.mp hy with rfl | hy
      · exact f6 _ _ (f5 _ _ (f4 _ _ (f3 _ _ g2)))
      · rw [List.mem_singleton.mp hy]
        exact f6 _ _ (f5 _ _ g4)
abbrev s_drop : Stmt := topS 35
theorem sc_drop : FnScope ["nodes", "path", "found", "events"] ["nodes", "path"] (C8.fnScope s_drop) := C8.fnScope_by (by decide +kernel)
def spDrop : Sp := fun vs H Q _ => ∃ d ns b asker x, vs = [.ref d, .str x] ∧ NodesAt H d ns ∧ NOk b ns ∧ x ∈ ns.map (·.path) ∧ PPost H Q b asker ns
theorem ok_drop (F : C8.Def K mg "drop" s_drop f fd) (b : Binds K fd ["nodes", "path"] []) (T : Tx K w mg) (c_kids_of : Cal P w K mg base 3 "kids_of" spKidsOf []) (c_refused : Cal P w K mg base 1 "refused" spRefused [])
    (c_dropped : Cal P w K mg base 3 "dropped" spDropped []) : Cal P w K mg base 4 "drop" spDrop [] := by
  refine C8.cal0 F b .nil sc_drop (fun vs H Q E h => ?_) (fun cdv A outer s H vs Q E hr h => ?_)
  · obtain ⟨_, _, _, _, _, rfl, _⟩ := h
    rfl
  · obtain ⟨d, ns, b, asker, x, rfl, hN, ok, hx, k⟩ := h
    refine ⟨_, (pss_cons (ps_if (pt_cmpR (op_neD hr.units) (C8.pe_c c_kids_of hr (by decide) (by rfl) (pa_cons (pv 0) (pa_cons (pv 1) pa_nil))) (pe_lst pa_nil) (nomark _)) (pss_one (ps_ret (C8.pe_c c_refused hr (by decide) (by rfl) (pa_cons (pv 0) (pa_cons pe_str pa_nil))))) pss_nil)
        (pss_cons (ps_asg (C8.pe_c c_dropped hr (by decide) (by rfl) (pa_cons (pv 0) (pa_cons (pv 1) pa_nil))) (pg_tup rfl (pgs_cons (pg_name (i := 2) sc_drop.nd rfl (Or.inl rfl)) (pgs_cons (pg_name (i := 3) sc_drop.nd rfl (Or.inl rfl)) pgs_nil))))
        (pss_one (ps_ret (pe_tup (pa_cons (pv 2) (pa_cons (pe_tup (pa_cons pe_str (pa_cons pe_non pa_nil))) (pa_cons (pv 3) pa_nil)))))))), ?_⟩
    obtain ⟨ps, hp, rfl⟩ : ∃ ps, Parts ps ∧ x = S (pathL ps) := by
      obtain ⟨n, hn, rfl⟩ := List.mem_map.mp hx
      exact ok.path n hn
    refine ⟨_, rfl, _, rfl, d, ns, b, _, rfl, hN, ok, hx, fun l zs H1 e1 h1 hz => ⟨Nat.zero_le _, fun m nm => newH nm fun H2 e2 h2 => ?_⟩⟩
    have hN2 := (hN.mono e1).mono e2
    refine ⟨_, _, .lst (sql (e2 _ _ h1)) (datS zs), .lst (sql h2) .nil, shapedS zs hz, rfl, _, rfl, ?_⟩
    refine iteTF (fun _ => ?_) (fun _ => ?_)
    · exact ⟨_, rfl, d, ns, _, rfl, hN2, ppost_refused k ok (e1.trans e2)⟩
    · refine ⟨_, rfl, _, rfl, d, ns, b, ps, rfl, hN2, ok, hp, fun p d2 e a1 a2 H3 nd2 nde e3 h3 hN3 hE => ⟨p, _, rfl, sqt h3, rfl, _, _, rfl, _, _, rfl, rfl, ?_⟩⟩
      refine ⟨_, rfl, Nat.le_of_ble_eq_true rfl, fun t nt => newH nt fun H4 e4 h4 => ⟨_, rfl, Nat.le_of_ble_eq_true rfl, fun q nq => newH nq fun H5 e5 h5 => ?_⟩⟩
      have e35 := e4.trans e5
      refine k q _ ("ok" : Str) _ H5 (((e1.trans e2).trans e3).trans e35) ⟨d2, t, e, _, ⟨sm_free (e1.trans e2) nd2, sm_free (e1.trans e2) nde⟩, Nat.le_of_ble_eq_true rfl, h5, hN3.mono e35, e5 _ _ h4, hE.mono e35⟩ ((ok.filter _).mono (by omega)) (Eff.gone _ fun n hn hk => ⟨⟨a1, "gone", S (pathL ps)⟩, by simp, rfl, ?_⟩)
      have : n.path = S (pathL ps) := by simpa [keepN] using hk
      exact this.symm
end
end N17

set_option Elab.async false
set_option linter.all false
set_option maxRecDepth 100000
set_option maxHeartbeats 4000000
namespace N17
open PySem PySem.Spec PyProof.Rows
open L2 hiding CX0 E0 pass0 Fun Fun.ok fun_mk
open C8 (Cal CX0 E0 pass0)
open SX (S)
section
variable {P : Program} {w : World} {K : PySem.W.Frag} {mg : Str → Option Value} {base : Heap} {f : Addr} {fd : FuncData}
abbrev s_done_plain : Stmt := topS 36
theorem sc_done_plain : FnScope ["nodes", "deed", "asker", "word", "path", "rest", "text", "own", "numbered", "wanted"] ["nodes", "deed", "asker"] (C8.fnScope s_done_plain) := C8.fnScope_by (by decide +kernel)
def spDonePlain : Sp := fun vs H Q _ => ∃ d ns b asker a l, vs = [.ref d, .ref a, .str asker] ∧ NodesAt H d ns ∧ NOk b ns ∧ b < 90000 ∧ H a = some (.tup (Pl.vs l)) ∧ PlOk l ∧ PPost H Q b asker ns
theorem mem_of_look {ns : List Nd} {x : Str} {v : V} (h : valV (ns.map ent) (.inr x) = some v) : x ∈ ns.map (·.path) := by
  obtain ⟨n, hn, rfl, _⟩ := look_some h
  exact List.mem_map.mpr ⟨n, hn, rfl⟩
theorem cV_dec (c : Option Int) : (!decide (cV c = V.non)) = c.isSome := by cases c <;> rfl
theorem ok_done_plain (F : C8.Def K mg "done_plain" s_done_plain f fd) (b : KBinds K fd ["nodes", "deed", "asker"] ["asker"] g2 g2) (T : Tx K w mg) (c_is_plain : Cal P w K mg base 4 "is_plain" spIsPlain [])
    (c_make : Cal P w K mg base 3 "make" spMake []) (c_refused : Cal P w K mg base 1 "refused" spRefused []) (c_put : Cal P w K mg base 1 "put" spPut []) (c_drop : Cal P w K mg base 4 "drop" spDrop []) :
    CalK P w K mg base 5 "done_plain" ["asker"] spDonePlain := by
  refine calK0 F b sc_done_plain (fun vs H Q E h => ?_) (fun cdv A outer s H vs Q E hr h => ?_)
  · obtain ⟨_, _, _, _, _, _, rfl, _⟩ := h
    rfl
  · obtain ⟨d, ns, b, asker, a, l, rfl, hN, ok, hb, ha, hl, k⟩ := h
    have hu := hu_of hr
    refine ⟨_, (pss_cons (ps_if (pt_not (pt_val (C8.pe_c c_is_plain hr (by decide) (by rfl) (pa_cons (pv 1) pa_nil)))) (pss_one ps_never) pss_nil)
        (pss_cons (ps_asg (pv 1) (pg_star rfl (pgs_cons (pg_name (i := 3) sc_done_plain.nd rfl (Or.inl rfl)) (pgs_cons (pg_name (i := 4) sc_done_plain.nd rfl (Or.inl rfl)) (pgs_star (pg_name (i := 5) sc_done_plain.nd rfl (Or.inl rfl)))))))
        (pss_cons (ps_if (pt_cmpR op_eq (pv 3) pe_str (nomark _)) (pss_cons (ps_asg (pv 5) (pg_lst rfl (pgs_cons (pg_name (i := 6) sc_done_plain.nd rfl (Or.inl rfl)) (pgs_cons (pg_name (i := 7) sc_done_plain.nd rfl (Or.inl rfl)) (pgs_cons (pg_name (i := 8) sc_done_plain.nd rfl (Or.inl rfl)) pgs_nil)))))
        (pss_one (ps_ret (C8.pe_c c_make hr (by decide) (by rfl) (pa_cons (pv 0) (pa_cons (pv 2) (pa_cons (pv 4) (pa_cons (pv 6) (pa_cons (pv 7) (pa_cons (pv 8) pa_nil)))))))))) pss_nil)
        (pss_cons (ps_if (pt_cmp (pc_dnotin hu (pv 4) (pv 0))) (pss_one (ps_ret (C8.pe_c c_refused hr (by decide) (by rfl) (pa_cons (pv 0) (pa_cons pe_str pa_nil))))) pss_nil)
        (pss_cons (ps_set (i := 9) sc_done_plain.nd rfl (Or.inl rfl) (pe_ix ix_list (pv 5) (pe_un un_neg pe_int) (fun _ _ => rfl)))
        (C8.pss_cut (ps_if (PW.pt (pw_and (pt_cmp (pc_notN (pv 9))) (pw_and1 (pt_cmpR op_ne (pv 9) (pe_ix ix_tup (pe_dget hu (pv 0) (pv 4) (fun _ _ => rfl)) pe_int (fun _ _ => rfl)) (nomark _))))) (pss_one (ps_ret (C8.pe_c c_refused hr (by decide) (by rfl) (pa_cons (pv 0) (pa_cons pe_str pa_nil))))) pss_nil)
        (pss_cons (ps_if (pt_cmpR op_eq (pv 3) pe_str (nomark _)) (pss_one (ps_ret (C8.pe_c c_put hr (by decide) (by rfl) (pa_cons (pv 0) (pa_cons (pv 4) (pa_cons (pe_ix ix_list (pv 5) pe_int (fun _ _ => rfl)) pa_nil)))))) pss_nil)
        (pss_cons (ps_if (pt_cmpR op_eq (pv 3) pe_str (nomark _)) (pss_one (ps_ret (C8.pe_c c_drop hr (by decide) (by rfl) (pa_cons (pv 0) (pa_cons (pv 4) pa_nil))))) pss_nil)
        (pss_one (ps_ret (pe_tup (pa_cons (pe_callTy call_dictD (by rfl) T.n_dict (by decide +kernel) (pa_cons (pv 0) pa_nil)) (pa_cons (pe_tup (pa_cons pe_str (pa_cons (pe_ix ix_tup (pe_dget hu (pv 0) (pv 4) (fun _ _ => rfl)) pe_int (fun _ _ => rfl)) pa_nil))) (pa_cons (pe_lst pa_nil) pa_nil)))))))))))))), ?_⟩
    refine ⟨_, rfl, a, rfl, .inl ⟨l, ha, hl, fun H1 e1 => ⟨_, rfl, ?_⟩⟩⟩
    have ha1 := e1 _ _ ha
    have hN1 := hN.mono e1
    cases l with
    | make ps q t own num =>
      refine ⟨_, rfl, a, _, rfl, sqt ha1, Nat.le_of_ble_eq_true rfl, Nat.le_of_ble_eq_true rfl, fun r nr => newH nr fun H2 e2 h2 => ⟨_, _, rfl, _, _, rfl, _, _, rfl, rfl, ?_⟩⟩
      refine ⟨_, rfl, rfl, _, rfl, iteD rfl ?_⟩
      refine ⟨_, rfl, r, _, rfl, sql h2, rfl, _, _, rfl, _, _, rfl, _, _, rfl, rfl, ?_⟩
      exact ⟨_, rfl, _, rfl, _, rfl, _, rfl, _, rfl, _, rfl, d, ns, b, asker, ps, q, t, own, num, rfl, hN1.mono e2, ok, hb, hl, fun p ns' wd es H' e' r => k p ns' wd es H' ((e1.trans e2).trans e') (r.up (e1.trans e2))⟩
    | put x t c =>
      refine ⟨_, rfl, a, _, rfl, sqt ha1, Nat.le_of_ble_eq_true rfl, Nat.le_of_ble_eq_true rfl, fun r nr => newH nr fun H2 e2 h2 => ⟨_, _, rfl, _, _, rfl, _, _, rfl, rfl, ?_⟩⟩
      refine ⟨_, rfl, rfl, _, rfl, iteDn (by decide +kernel) ?_⟩
      have hN2 := hN1.mono e2
      refine ⟨_, rfl, _, rfl, d, _, rfl, DGet.k (k := Sum.inr x) hN2.1, _, rfl, ?_⟩
      cases e : valV (ns.map ent) (.inr x) with
      | none => exact ⟨_, rfl, d, ns, _, rfl, hN2, ppost_refused k ok (e1.trans e2)⟩
      | some v =>
        have hx := mem_of_look e
        obtain ⟨n, hn, rfl, rfl⟩ := look_some e
        have hg := DGet.k (k := Sum.inr n.path) hN2.1
        rw [e] at hg
        refine ⟨_, rfl, _, rfl, r, _, _, _, rfl, rfl, sql h2, rfl, ?_⟩
        refine ⟨fun σ' H' => σ' = [some (.ref d), some (.ref a), some (.str asker), some (.str "put"), some (.str n.path), some (.ref r), none, none, none, some (cV c)] ∧ H2 = H', ?_, ?_⟩
        · refine ⟨_, rfl, _, rfl, ?_⟩
          cases c with
          | none => exact ⟨rfl, rfl⟩
          | some i =>
            refine ⟨_, rfl, _, rfl, _, rfl, d, _, rfl, hg, n.ad, n.vs, _, _, rfl, rfl, sqt (hN2.2 n hn), rfl, rfl, _, rfl, ?_⟩
            refine ite2 (fun _ => ?_) (fun _ => ⟨rfl, rfl⟩)
            exact ⟨_, rfl, d, ns, _, rfl, hN2, ppost_refused k ok (e1.trans e2)⟩
        · rintro σ' H' ⟨rfl, rfl⟩
          refine ⟨_, rfl, rfl, _, rfl, iteD rfl ?_⟩
          exact ⟨_, rfl, _, rfl, _, rfl, r, _, _, _, rfl, rfl, sql h2, rfl, d, ns, b, asker, n.path, S t, rfl, hN2, ok, hx, fun p ns' wd es H' e' r => k p ns' wd es H' ((e1.trans e2).trans e') (r.up (e1.trans e2))⟩
    | drop x c =>
      refine ⟨_, rfl, a, _, rfl, sqt ha1, Nat.le_of_ble_eq_true rfl, Nat.le_of_ble_eq_true rfl, fun r nr => newH nr fun H2 e2 h2 => ⟨_, _, rfl, _, _, rfl, _, _, rfl, rfl, ?_⟩⟩
      refine ⟨_, rfl, rfl, _, rfl, iteDn (by decide +kernel) ?_⟩
      have hN2 := hN1.mono e2
      refine ⟨_, rfl, _, rfl, d, _, rfl, DGet.k (k := Sum.inr x) hN2.1, _, rfl, ?_⟩
      cases e : valV (ns.map ent) (.inr x) with
      | none => exact ⟨_, rfl, d, ns, _, rfl, hN2, ppost_refused k ok (e1.trans e2)⟩
      | some v =>
        have hx := mem_of_look e
        obtain ⟨n, hn, rfl, rfl⟩ := look_some e
        have hg := DGet.k (k := Sum.inr n.path) hN2.1
        rw [e] at hg
        refine ⟨_, rfl, _, rfl, r, _, _, _, rfl, rfl, sql h2, rfl, ?_⟩
        refine ⟨fun σ' H' => σ' = [some (.ref d), some (.ref a), some (.str asker), some (.str "drop"), some (.str n.path), some (.ref r), none, none, none, some (cV c)] ∧ H2 = H', ?_, ?_⟩
        · refine ⟨_, rfl, _, rfl, ?_⟩
          cases c with
          | none => exact ⟨rfl, rfl⟩
          | some i =>
            refine ⟨_, rfl, _, rfl, _, rfl, d, _, rfl, hg, n.ad, n.vs, _, _, rfl, rfl, sqt (hN2.2 n hn), rfl, rfl, _, rfl, ?_⟩
            refine ite2 (fun _ => ?_) (fun _ => ⟨rfl, rfl⟩)
            exact ⟨_, rfl, d, ns, _, rfl, hN2, ppost_refused k ok (e1.trans e2)⟩
        · rintro σ' H' ⟨rfl, rfl⟩
          refine ⟨_, rfl, rfl, _, rfl, iteDn (by decide +kernel) ?_⟩
          refine ⟨_, rfl, rfl, _, rfl, iteD rfl ?_⟩
          exact ⟨_, rfl, _, rfl, d, ns, b, asker, n.path, rfl, hN2, ok, hx, fun p ns' wd es H' e' r => k p ns' wd es H' ((e1.trans e2).trans e') (r.up (e1.trans e2))⟩
    | see x c =>
      refine ⟨_, rfl, a, _, rfl, sqt ha1, Nat.le_of_ble_eq_true rfl, Nat.le_of_ble_eq_true rfl, fun r nr => newH nr fun H2 e2 h2 => ⟨_, _, rfl, _, _, rfl, _, _, rfl, rfl, ?_⟩⟩
      refine ⟨_, rfl, rfl, _, rfl, iteDn (by decide +kernel) ?_⟩
      have hN2 := hN1.mono e2
      refine ⟨_, rfl, _, rfl, d, _, rfl, DGet.k (k := Sum.inr x) hN2.1, _, rfl, ?_⟩
      cases e : valV (ns.map ent) (.inr x) with
      | none => exact ⟨_, rfl, d, ns, _, rfl, hN2, ppost_refused k ok (e1.trans e2)⟩
      | some v =>
        have hx := mem_of_look e
        obtain ⟨n, hn, rfl, rfl⟩ := look_some e
        have hg := DGet.k (k := Sum.inr n.path) hN2.1
        rw [e] at hg
        refine ⟨_, rfl, _, rfl, r, _, _, _, rfl, rfl, sql h2, rfl, ?_⟩
        refine ⟨fun σ' H' => σ' = [some (.ref d), some (.ref a), some (.str asker), some (.str "see"), some (.str n.path), some (.ref r), none, none, none, some (cV c)] ∧ H2 = H', ?_, ?_⟩
        · refine ⟨_, rfl, _, rfl, ?_⟩
          cases c with
          | none => exact ⟨rfl, rfl⟩
          | some i =>
            refine ⟨_, rfl, _, rfl, _, rfl, d, _, rfl, hg, n.ad, n.vs, _, _, rfl, rfl, sqt (hN2.2 n hn), rfl, rfl, _, rfl, ?_⟩
            refine ite2 (fun _ => ?_) (fun _ => ⟨rfl, rfl⟩)
            exact ⟨_, rfl, d, ns, _, rfl, hN2, ppost_refused k ok (e1.trans e2)⟩
        · rintro σ' H' ⟨rfl, rfl⟩
          refine ⟨_, rfl, rfl, _, rfl, iteDn (by decide +kernel) ?_⟩
          refine ⟨_, rfl, rfl, _, rfl, iteDn (by decide +kernel) ?_⟩
          refine ⟨_, rfl, d, _, rfl, .inl hN2.1, fun d2 n2 => newH n2 fun H3 e3 h3 => ⟨_, rfl, _, rfl, d, _, rfl, ?_, n.ad, n.vs, _, _, rfl, rfl, sqt (e3 _ _ (hN2.2 n hn)), rfl, Nat.le_of_ble_eq_true rfl, fun t nt => newH nt fun H4 e4 h4 => ⟨Nat.le_of_ble_eq_true rfl, fun q nq => newH nq fun H5 e5 h5 => ⟨Nat.le_of_ble_eq_true rfl, fun p np => newH np fun H6 e6 h6 => ?_⟩⟩⟩⟩
          · have hg3 := DGet.k (k := Sum.inr n.path) (hN2.mono e3).1
            rw [e] at hg3
            exact hg3
          · have e36 := (e4.trans e5).trans e6
            exact k p ns ("ok" : Str) [] H6 (((e1.trans e2).trans e3).trans e36) ⟨d2, t, q, _, ⟨sm_free (e1.trans e2) n2, sm_free (((e1.trans e2).trans e3).trans e4) nq⟩, Nat.le_of_ble_eq_true rfl, h6, ⟨e36 _ _ h3, fun m hm => e36 _ _ (e3 _ _ (hN2.2 m hm))⟩, e6 _ _ (e5 _ _ h4), e6 _ _ h5, fun _ z => by cases z⟩ (ok.mono (by omega)) (Eff.same _ _ _)
end
end N17

set_option Elab.async false
set_option linter.all false
set_option maxRecDepth 100000
set_option maxHeartbeats 4000000
namespace N17
open PySem PySem.Spec PyProof.Rows
open L2 hiding CX0 E0 pass0 Fun Fun.ok fun_mk
open C8 (Cal CX0 E0 pass0)
open SX (S)
/-! ### a tuple that isn't empty == () -/
def rEqE (K : PySem.W.Frag) : R2 := fun x y H Q => ∃ a b xs, x = .ref a ∧ y = .ref b ∧ SqT K H a xs ∧ SqT K H b [] ∧ xs ≠ [] ∧ Q (.bl false) H
theorem op_eqE {X : Cx} (hu : X.A.units < cLine) : OpR X (compareOp .Eq) (rEqE X.K) := by
  intro pins s σ H x y v u Q I rx ry h
  obtain ⟨a, b, xs, rfl, rfl, ha, hb, hx, q⟩ := h
  cases (show v = Value.ref a from rx)
  cases (show u = Value.ref b from ry)
  obtain ⟨us, r1, p1, _⟩ := I.tuple ha
  obtain ⟨ws, r2, p2, _⟩ := I.tuple hb
  cases r2
  have hl : us.toArray.size ≠ 0 := fun z => hx (List.length_eq_zero_iff.mp (by rw [r1.length]; simpa using z))
  refine SeqAt.eq_tupleAt (e := fun _ => true) p1 p2 hu (fun j _ h2 => absurd h2 (by simp)) ⟨.bl false, H, I, ?_, q⟩
  show Value.bool _ = Value.bool false
  congr 1
  rw [Bool.and_eq_false_iff]
  refine .inr (beq_eq_false_iff_ne.mpr ?_)
  simpa using hl
/-! ### deeds and entries -/
inductive Dd where
  | pl (l : Pl)
  | all (t : Addr) (ls : List (Addr × Pl))
  | opn (i : Int)
  | close
  | bring
def Dd.vs : Dd → List V
  | .pl l => l.vs
  | .all t _ => [.str "all", .ref t]
  | .opn i => [.str "open", .int i]
  | .close => [.str "close"]
  | .bring => [.str "bring"]
def DdIn (H : Hp) : Dd → Prop
  | .all t ls => H t = some (.tup (ls.map fun x => .ref x.1)) ∧ ∀ x ∈ ls, H x.1 = some (.tup x.2.vs)
  | _ => True
def DdAt (H : Hp) (a : Addr) (d : Dd) : Prop := H a = some (.tup d.vs) ∧ DdIn H d
def DdOk : Dd → Prop
  | .pl l => PlOk l
  | .all _ ls => 1 ≤ ls.length ∧ ls.length ≤ 6 ∧ ∀ x ∈ ls, PlOk x.2
  | .opn i => 1 ≤ i ∧ i ≤ 1000
  | _ => True
theorem DdAt.mono {H H' : Hp} {a : Addr} {d : Dd} (e : Same H H') (h : DdAt H a d) : DdAt H' a d := ⟨e _ _ h.1, by
  cases d with
  | all t ls => exact ⟨e _ _ h.2.1, fun x hx => e _ _ (h.2.2 x hx)⟩
  | _ => trivial⟩
inductive En where
  | fin (who : Cs)
  | ask (who : Cs) (stamp : Int) (da : Addr) (d : Dd)
def En.vs : En → List V
  | .fin who => [.str "end", .str (S who)]
  | .ask who stamp da _ => [.str "ask", .str (S who), .int stamp, .ref da]
def EnIn (H : Hp) : En → Prop
  | .fin _ => True
  | .ask _ _ da d => DdAt H da d
def EnAt (H : Hp) (a : Addr) (e : En) : Prop := H a = some (.tup e.vs) ∧ EnIn H e
def EnOk : En → Prop
  | .fin who => IsWord who
  | .ask who stamp _ d => IsWord who ∧ 1 ≤ stamp ∧ DdOk d
theorem EnAt.mono {H H' : Hp} {a : Addr} {e : En} (s : Same H H') (h : EnAt H a e) : EnAt H' a e := ⟨s _ _ h.1, by
  cases e with
  | fin w => trivial
  | ask w st da d => exact DdAt.mono s h.2⟩
def En.who : En → Cs
  | .fin w => w
  | .ask w _ _ _ => w
section
variable {P : Program} {w : World} {K : PySem.W.Frag} {mg : Str → Option Value} {base : Heap} {f : Addr} {fd : FuncData}
abbrev s_is_deed : Stmt := topS 42
theorem sc_is_deed : FnScope ["thing", "one"] ["thing"] (C8.fnScope s_is_deed) := C8.fnScope_by (by decide +kernel)
def spIsDeed : Sp := fun vs H Q _ => ∃ a d, vs = [.ref a] ∧ DdAt H a d ∧ DdOk d ∧ ∀ H', Same H H' → Q (.bl true) H'
theorem ok_is_deed (F : C8.Def K mg "is_deed" s_is_deed f fd) (b : Binds K fd ["thing"] []) (T : Tx K w mg) (c_is_plain : Cal P w K mg base 4 "is_plain" spIsPlain []) (c_is_whole : Cal P w K mg base 1 "is_whole" spIsWhole []) : Cal P w K mg base 5 "is_deed" spIsDeed [] := by
  refine C8.cal0 F b .nil sc_is_deed (fun vs H Q E h => ?_) (fun cdv A outer s H vs Q E hr h => ?_)
  · obtain ⟨_, _, rfl, _⟩ := h
    rfl
  · obtain ⟨a, d, rfl, ⟨ha, hin⟩, hd, k⟩ := h
    refine ⟨_, (pss_cons (ps_if (pt_val (C8.pe_c c_is_plain hr (by decide) (by rfl) (pa_cons (pv 0) pa_nil))) (pss_one (ps_ret pe_bl)) pss_nil)
        (pss_cons (ps_if (PW.pt (pw_or (pt_not (pt_val (pe_callB call_isi (by rfl) T.n_isinstance (by decide +kernel) (pa_cons (pv 0) (pa_cons (pe_bltn (v := .ty "tuple") (by rfl) T.n_tuple (by decide +kernel) rfl) pa_nil))))) (pw_or (pt_cmpR (op_eqE hr.units0) (pv 0) (pe_tup pa_nil) (nomark _)) (pw_or1 (pt_not (pt_val (pe_callB call_isi (by rfl) T.n_isinstance (by decide +kernel) (pa_cons (pe_ix ix_tup (pv 0) pe_int (fun _ _ => rfl)) (pa_cons (pe_bltn (v := .ty "str") (by rfl) T.n_str (by decide +kernel) rfl) pa_nil))))))))) (pss_one (ps_ret pe_bl)) pss_nil)
        (pss_cons (ps_if (pt_cmpR op_in_seq (pe_ix ix_tup (pv 0) pe_int (fun _ _ => rfl)) (pe_tup (pa_cons pe_str (pa_cons pe_str pa_nil))) (by rfl)) (pss_one (ps_ret (pe_cmpR op_eq (pe_callB call_len (by rfl) T.n_len (by decide +kernel) (pa_cons (pv 0) pa_nil)) pe_int (nomark _)))) pss_nil)
        (pss_cons (ps_if (pt_cmpR op_ne (pe_callB call_len (by rfl) T.n_len (by decide +kernel) (pa_cons (pv 0) pa_nil)) pe_int (nomark _)) (pss_one (ps_ret pe_bl)) pss_nil)
        (pss_cons (ps_if (pt_cmpR op_eq (pe_ix ix_tup (pv 0) pe_int (fun _ _ => rfl)) pe_str (nomark _)) (pss_one (ps_ret (pe_and (C8.pe_c c_is_whole hr (by decide) (by rfl) (pa_cons (pe_ix ix_tup (pv 0) pe_int (fun _ _ => rfl)) pa_nil)) (pe_one (pe_chain op_le op_le pe_int (pe_ix ix_tup (pv 0) pe_int (fun _ _ => rfl)) (C8.pe_gc (by rfl) T.g_MOST_LIMIT)))))) pss_nil)
        (pss_cons (ps_if (PW.pt (pw_or (pt_cmpR op_ne (pe_ix ix_tup (pv 0) pe_int (fun _ _ => rfl)) pe_str (nomark _)) (pw_or1 (pt_not (pt_val (pe_callB call_isi (by rfl) T.n_isinstance (by decide +kernel) (pa_cons (pe_ix ix_tup (pv 0) pe_int (fun _ _ => rfl)) (pa_cons (pe_bltn (v := .ty "tuple") (by rfl) T.n_tuple (by decide +kernel) rfl) pa_nil)))))))) (pss_one (ps_ret pe_bl)) pss_nil)
        (pss_one (ps_ret (pe_and (pe_chain op_le op_le pe_int (pe_callB call_len (by rfl) T.n_len (by decide +kernel) (pa_cons (pe_ix ix_tup (pv 0) pe_int (fun _ _ => rfl)) pa_nil)) (C8.pe_gc (by rfl) T.g_MOST_DEEDS)) (pe_one (pe_callB (cr_all rfl) (by rfl) T.n_all (by decide +kernel) (pa_cons (pe_lc rfl sc_is_deed.nd (pi_tup (pe_ix ix_tup (pv 0) pe_int (fun _ _ => rfl))) (L2.blkOk_by (own := [("one", 1)]) (N := ["thing", "one"]) (sc := C8.fnScope s_is_deed) (by decide +kernel)) (fun _ _ _ _ _ => (pg_name (i := 1) sc_is_deed.nd rfl (Or.inl rfl))) (fun _ _ _ _ _ => pts_nil) (fun _ _ _ _ _ => (C8.pe_c c_is_plain hr (by decide) (by rfl) (pa_cons (pv 1) pa_nil)))) pa_nil)))))))))))), ?_⟩
    cases d with
    | pl l => exact ⟨_, rfl, a, rfl, .inl ⟨l, ha, hd, fun H1 e1 => ⟨_, rfl, k _ e1⟩⟩⟩
    | close =>
      refine ⟨_, rfl, a, rfl, .inr ⟨_, ha, Nat.le_of_ble_eq_true rfl, _, rfl, ?_⟩⟩
      refine ⟨_, rfl, _, _, _, _, true, rfl, .ty _, ty_tup ha, kit_ty (by decide +kernel), _, rfl, ?_⟩
      refine ⟨_, rfl, Nat.zero_le _, fun p np => newH np fun H1 e1 h1 => ⟨a, p, _, rfl, rfl, sm_t e1 (sqt ha), sqt h1, List.cons_ne_nil _ _, _, rfl, ?_⟩⟩
      refine ⟨_, rfl, a, _, _, _, rfl, rfl, sm_t e1 (sqt ha), rfl, _, _, _, _, true, rfl, .ty _, .base (.str _), kit_ty (by decide +kernel), _, rfl, ?_⟩
      refine ⟨_, rfl, a, _, _, _, rfl, rfl, sm_t e1 (sqt ha), rfl, Nat.le_of_ble_eq_true rfl, fun q nq => newH nq fun H2 e2 h2 => ⟨q, _, rfl, .inr (sqt h2), rfl, rfl, _, rfl, ?_⟩⟩
      have e12 := e1.trans e2
      have ha2 := e12 _ _ ha
      rw [show inV (V.str ("close" : Str)) [V.str ("close" : Str), V.str ("bring" : Str)] = true by decide +kernel]
      exact ⟨_, rfl, _, _, rfl, .inr ⟨_, sqt ha2, rfl⟩, rfl, k _ e12⟩
    | bring =>
      refine ⟨_, rfl, a, rfl, .inr ⟨_, ha, Nat.le_of_ble_eq_true rfl, _, rfl, ?_⟩⟩
      refine ⟨_, rfl, _, _, _, _, true, rfl, .ty _, ty_tup ha, kit_ty (by decide +kernel), _, rfl, ?_⟩
      refine ⟨_, rfl, Nat.zero_le _, fun p np => newH np fun H1 e1 h1 => ⟨a, p, _, rfl, rfl, sm_t e1 (sqt ha), sqt h1, List.cons_ne_nil _ _, _, rfl, ?_⟩⟩
      refine ⟨_, rfl, a, _, _, _, rfl, rfl, sm_t e1 (sqt ha), rfl, _, _, _, _, true, rfl, .ty _, .base (.str _), kit_ty (by decide +kernel), _, rfl, ?_⟩
      refine ⟨_, rfl, a, _, _, _, rfl, rfl, sm_t e1 (sqt ha), rfl, Nat.le_of_ble_eq_true rfl, fun q nq => newH nq fun H2 e2 h2 => ⟨q, _, rfl, .inr (sqt h2), rfl, rfl, _, rfl, ?_⟩⟩
      have e12 := e1.trans e2
      have ha2 := e12 _ _ ha
      rw [show inV (V.str ("bring" : Str)) [V.str ("close" : Str), V.str ("bring" : Str)] = true by decide +kernel]
      exact ⟨_, rfl, _, _, rfl, .inr ⟨_, sqt ha2, rfl⟩, rfl, k _ e12⟩
    | opn i =>
      refine ⟨_, rfl, a, rfl, .inr ⟨_, ha, Nat.le_of_ble_eq_true rfl, _, rfl, ?_⟩⟩
      refine ⟨_, rfl, _, _, _, _, true, rfl, .ty _, ty_tup ha, kit_ty (by decide +kernel), _, rfl, ?_⟩
      refine ⟨_, rfl, Nat.zero_le _, fun p np => newH np fun H1 e1 h1 => ⟨a, p, _, rfl, rfl, sm_t e1 (sqt ha), sqt h1, List.cons_ne_nil _ _, _, rfl, ?_⟩⟩
      refine ⟨_, rfl, a, _, _, _, rfl, rfl, sm_t e1 (sqt ha), rfl, _, _, _, _, true, rfl, .ty _, .base (.str _), kit_ty (by decide +kernel), _, rfl, ?_⟩
      refine ⟨_, rfl, a, _, _, _, rfl, rfl, sm_t e1 (sqt ha), rfl, Nat.le_of_ble_eq_true rfl, fun q nq => newH nq fun H2 e2 h2 => ⟨q, _, rfl, .inr (sqt h2), rfl, rfl, _, rfl, ?_⟩⟩
      have e12 := e1.trans e2
      have ha2 := e12 _ _ ha
      rw [show inV (V.str ("open" : Str)) [V.str ("close" : Str), V.str ("bring" : Str)] = false by decide +kernel]
      refine ⟨_, rfl, _, _, rfl, .inr ⟨_, sqt ha2, rfl⟩, rfl, _, rfl, iteEq rfl ?_⟩
      refine ⟨_, rfl, a, _, _, _, rfl, rfl, sqt ha2, rfl, rfl, _, rfl, iteD rfl ?_⟩
      refine ⟨_, rfl, a, _, _, _, rfl, rfl, sqt ha2, rfl, i, rfl, _, rfl, ?_⟩
      refine ⟨_, rfl, a, _, _, _, rfl, rfl, sqt ha2, rfl, _, _, rfl, rfl, _, rfl, iteD hd.1 ⟨_, _, rfl, rfl, ?_⟩⟩
      have e3 : decide (i ≤ (1000 : Int)) = true := decide_eq_true hd.2
      show Q (V.bl (decide (i ≤ (1000 : Int)))) H2
      rw [e3]
      exact k _ e12
    | all t ls =>
      refine ⟨_, rfl, a, rfl, .inr ⟨_, ha, Nat.le_of_ble_eq_true rfl, _, rfl, ?_⟩⟩
      refine ⟨_, rfl, _, _, _, _, true, rfl, .ty _, ty_tup ha, kit_ty (by decide +kernel), _, rfl, ?_⟩
      refine ⟨_, rfl, Nat.zero_le _, fun p np => newH np fun H1 e1 h1 => ⟨a, p, _, rfl, rfl, sm_t e1 (sqt ha), sqt h1, List.cons_ne_nil _ _, _, rfl, ?_⟩⟩
      refine ⟨_, rfl, a, _, _, _, rfl, rfl, sm_t e1 (sqt ha), rfl, _, _, _, _, true, rfl, .ty _, .base (.str _), kit_ty (by decide +kernel), _, rfl, ?_⟩
      refine ⟨_, rfl, a, _, _, _, rfl, rfl, sm_t e1 (sqt ha), rfl, Nat.le_of_ble_eq_true rfl, fun q nq => newH nq fun H2 e2 h2 => ⟨q, _, rfl, .inr (sqt h2), rfl, rfl, _, rfl, ?_⟩⟩
      have e12 := e1.trans e2
      have ha2 := e12 _ _ ha
      rw [show inV (V.str ("all" : Str)) [V.str ("close" : Str), V.str ("bring" : Str)] = false by decide +kernel]
      have ht2 := e12 _ _ hin.1
      refine ⟨_, rfl, _, _, rfl, .inr ⟨_, sqt ha2, rfl⟩, rfl, _, rfl, iteEq rfl ?_⟩
      refine ⟨_, rfl, a, _, _, _, rfl, rfl, sqt ha2, rfl, rfl, _, rfl, iteDn (by decide +kernel) ?_⟩
      refine ⟨_, rfl, a, _, _, _, rfl, rfl, sqt ha2, rfl, rfl, _, rfl, iteEq rfl ?_⟩
      refine ⟨_, rfl, a, _, _, _, rfl, rfl, sqt ha2, rfl, _, _, _, _, true, rfl, .ty _, ty_tup ht2, kit_ty (by decide +kernel), _, rfl, ?_⟩
      have hl : (ls.map fun x => V.ref x.1).length = ls.length := List.length_map ..
      refine ⟨_, rfl, a, _, _, _, rfl, rfl, sqt ha2, rfl, _, _, rfl, .inr ⟨_, sqt ht2, rfl⟩, _, _, rfl, rfl, _, rfl, iteD (by rw [hl]; have := hd.1; omega) ⟨_, _, rfl, rfl, _, rfl, iteD (by rw [hl]; have := hd.2.1; omega) ?_⟩⟩
      refine ⟨_, rfl, a, _, _, _, rfl, rfl, sqt ha2, rfl, t, rfl, ⟨_, sqt ht2⟩, fun D nD => lc_opt walk_tup (fun _ => some (.bl true)) nD (by rw [hl]; have := hd.2.1; omega) (fun Ha sm => sqt (sm _ _ ht2)) (fun i x Ha Hb Nx hi sm nd y kp dr => ?_) (fun Ha sm hD => ?_)⟩
      · obtain ⟨rfl, hx⟩ := y
        obtain ⟨z, hz, rfl⟩ : ∃ z ∈ ls, V.ref z.1 = x := List.mem_map.mp (List.mem_of_getElem? hx)
        exact ⟨rfl, _, rfl, z.1, rfl, .inl ⟨z.2, sm _ _ (e12 _ _ (hin.2 z hz)), hd.2.2 z hz, fun H3 e3 => kp _ _ rfl e3⟩⟩
      · refine ⟨_, List.replicate _ true, rfl, sql (by rw [hD, trues]), ?_⟩
        rw [trues_all]
        exact k _ (e12.trans sm)
abbrev s_is_entry : Stmt := topS 43
theorem sc_is_entry : FnScope ["thing"] ["thing"] (C8.fnScope s_is_entry) := C8.fnScope_by (by decide +kernel)
def spIsEntry : Sp := fun vs H Q _ => ∃ a e, vs = [.ref a] ∧ EnAt H a e ∧ EnOk e ∧ ∀ H', Same H H' → Q (.bl true) H'
theorem ok_is_entry (F : C8.Def K mg "is_entry" s_is_entry f fd) (b : Binds K fd ["thing"] []) (T : Tx K w mg) (c_is_word : Cal P w K mg base 1 "is_word" spIsWord []) (c_is_whole : Cal P w K mg base 1 "is_whole" spIsWhole [])
    (c_is_deed : Cal P w K mg base 5 "is_deed" spIsDeed []) : Cal P w K mg base 6 "is_entry" spIsEntry [] := by
  refine C8.cal0 F b .nil sc_is_entry (fun vs H Q E h => ?_) (fun cdv A outer s H vs Q E hr h => ?_)
  · obtain ⟨_, _, rfl, _⟩ := h
    rfl
  · obtain ⟨a, d, rfl, ⟨ha, hin⟩, hd, k⟩ := h
    refine ⟨_, (pss_cons (ps_if (PW.pt (pw_or (pt_not (pt_val (pe_callB call_isi (by rfl) T.n_isinstance (by decide +kernel) (pa_cons (pv 0) (pa_cons (pe_bltn (v := .ty "tuple") (by rfl) T.n_tuple (by decide +kernel) rfl) pa_nil))))) (pw_or (pt_cmpR op_lt (pe_callB call_len (by rfl) T.n_len (by decide +kernel) (pa_cons (pv 0) pa_nil)) pe_int (nomark _)) (pw_or (pt_not (pt_val (pe_callB call_isi (by rfl) T.n_isinstance (by decide +kernel) (pa_cons (pe_ix ix_tup (pv 0) pe_int (fun _ _ => rfl)) (pa_cons (pe_bltn (v := .ty "str") (by rfl) T.n_str (by decide +kernel) rfl) pa_nil))))) (pw_or1 (pt_not (pt_val (C8.pe_c c_is_word hr (by decide) (by rfl) (pa_cons (pe_ix ix_tup (pv 0) pe_int (fun _ _ => rfl)) pa_nil))))))))) (pss_one (ps_ret pe_bl)) pss_nil)
        (pss_cons (ps_if (pt_cmpR op_eq (pe_ix ix_tup (pv 0) pe_int (fun _ _ => rfl)) pe_str (nomark _)) (pss_one (ps_ret (pe_cmpR op_eq (pe_callB call_len (by rfl) T.n_len (by decide +kernel) (pa_cons (pv 0) pa_nil)) pe_int (nomark _)))) pss_nil)
        (pss_one (ps_ret (pe_and (pe_cmpR op_eq (pe_ix ix_tup (pv 0) pe_int (fun _ _ => rfl)) pe_str (nomark _)) (pe_and (pe_cmpR op_eq (pe_callB call_len (by rfl) T.n_len (by decide +kernel) (pa_cons (pv 0) pa_nil)) pe_int (nomark _)) (pe_and (C8.pe_c c_is_whole hr (by decide) (by rfl) (pa_cons (pe_ix ix_tup (pv 0) pe_int (fun _ _ => rfl)) pa_nil)) (pe_and (pe_cmpR op_ge (pe_ix ix_tup (pv 0) pe_int (fun _ _ => rfl)) pe_int (nomark _)) (pe_one (C8.pe_c c_is_deed hr (by decide) (by rfl) (pa_cons (pe_ix ix_tup (pv 0) pe_int (fun _ _ => rfl)) pa_nil))))))))))), ?_⟩
    cases d with
    | fin who =>
      refine ⟨_, rfl, _, _, _, _, true, rfl, .ty _, ty_tup ha, kit_ty (by decide +kernel), _, rfl, ?_⟩
      refine ⟨_, rfl, _, _, rfl, .inr ⟨_, sqt ha, rfl⟩, _, _, rfl, rfl, _, rfl, iteDn (by show ¬ ((2 : Nat) : Int) < 2; decide) ?_⟩
      refine ⟨_, rfl, a, _, _, _, rfl, rfl, sqt ha, rfl, _, _, _, _, true, rfl, .ty _, .base (.str _), kit_ty (by decide +kernel), _, rfl, ?_⟩
      refine ⟨_, rfl, a, _, _, _, rfl, rfl, sqt ha, rfl, who, rfl, hd, fun H1 e1 => ⟨_, rfl, ?_⟩⟩
      refine ⟨_, rfl, a, _, _, _, rfl, rfl, sqt (e1 _ _ ha), rfl, rfl, _, rfl, iteD rfl ?_⟩
      exact ⟨_, rfl, _, _, rfl, .inr ⟨_, sqt (e1 _ _ ha), rfl⟩, rfl, k _ e1⟩
    | ask who stamp da d =>
      refine ⟨_, rfl, _, _, _, _, true, rfl, .ty _, ty_tup ha, kit_ty (by decide +kernel), _, rfl, ?_⟩
      refine ⟨_, rfl, _, _, rfl, .inr ⟨_, sqt ha, rfl⟩, _, _, rfl, rfl, _, rfl, iteDn (by show ¬ ((4 : Nat) : Int) < 2; decide) ?_⟩
      refine ⟨_, rfl, a, _, _, _, rfl, rfl, sqt ha, rfl, _, _, _, _, true, rfl, .ty _, .base (.str _), kit_ty (by decide +kernel), _, rfl, ?_⟩
      refine ⟨_, rfl, a, _, _, _, rfl, rfl, sqt ha, rfl, who, rfl, hd.1, fun H1 e1 => ⟨_, rfl, ?_⟩⟩
      have ha1 := e1 _ _ ha
      refine ⟨_, rfl, a, _, _, _, rfl, rfl, sqt ha1, rfl, rfl, _, rfl, iteDn (by decide +kernel) ?_⟩
      refine ⟨_, rfl, a, _, _, _, rfl, rfl, sqt ha1, rfl, rfl, _, rfl, iteD rfl ?_⟩
      refine ⟨_, rfl, _, _, rfl, .inr ⟨_, sqt ha1, rfl⟩, rfl, _, rfl, iteD rfl ?_⟩
      refine ⟨_, rfl, a, _, _, _, rfl, rfl, sqt ha1, rfl, stamp, rfl, _, rfl, ?_⟩
      refine ⟨_, rfl, a, _, _, _, rfl, rfl, sqt ha1, rfl, _, _, rfl, rfl, _, rfl, iteD hd.2.1 ?_⟩
      exact ⟨_, rfl, a, _, _, _, rfl, rfl, sqt ha1, rfl, da, d, rfl, DdAt.mono e1 hin, hd.2.2, fun H2 e2 => k _ (e1.trans e2)⟩
abbrev s_first_state : Stmt := topS 44
theorem sc_first_state : FnScope [] [] (C8.fnScope s_first_state) := C8.fnScope_by (by decide +kernel)
def spFirstState : Sp := fun vs H Q _ => vs = [] ∧ ∀ p d e a H', Same H H' → H' p = some (.tup [.ref d, .ref e]) → NodesAt H' d [rootN a] → H' e = some (.dK []) → Q (.ref p) H'
theorem ok_first_state (F : C8.Def K mg "first_state" s_first_state f fd) (b : Binds K fd [] []) (T : Tx K w mg) (c_first_nodes : Cal P w K mg base 1 "first_nodes" spFirstNodes []) : Cal P w K mg base 2 "first_state" spFirstState [] := by
  refine C8.cal0 F b .nil sc_first_state (fun vs H Q E h => ?_) (fun cdv A outer s H vs Q E hr h => ?_)
  · obtain ⟨rfl, _⟩ := h
    rfl
  · obtain ⟨rfl, k⟩ := h
    refine ⟨_, (pss_one (ps_ret (pe_tup (pa_cons (pe_c0 c_first_nodes hr (by decide) (by rfl)) (pa_cons pe_dnewK pa_nil))))), ?_⟩
    exact ⟨rfl, fun d a H1 e1 nd hN => fun e ne => newH ne fun H2 e2 h2 => ⟨Nat.le_of_ble_eq_true rfl, fun p np => newH np fun H3 e3 h3 => k p d e a H3 ((e1.trans e2).trans e3) h3 ((hN.mono e2).mono e3) (e3 _ _ h2)⟩⟩
end
end N17

set_option Elab.async false
set_option linter.all false
set_option maxRecDepth 100000
set_option maxHeartbeats 4000000
namespace N17
open PySem PySem.Spec PyProof.Rows
open L2 hiding CX0 E0 pass0 Fun Fun.ok fun_mk
open C8 (Cal CX0 E0 pass0)
open SX (S)
theorem range_take {α β : Type} (g : α → Option β) (xs : List α) : ∀ k, k ≤ xs.length → (List.range k).filterMap (fun i => (xs[i]?).bind g) = (xs.take k).filterMap g
  | 0, _ => by simp
  | k + 1, h => by
    rw [List.range_succ, List.filterMap_append, range_take g xs k (by omega), List.take_succ_eq_append_getElem (by omega), List.filterMap_append]
    congr 1
    simp only [List.filterMap_cons, List.filterMap_nil, List.getElem?_eq_getElem (show k < xs.length by omega), Option.bind_some]
theorem range_bind {α β : Type} (g : α → Option β) (xs : List α) : (List.range xs.length).filterMap (fun i => (xs[i]?).bind g) = xs.filterMap g := by
  rw [range_take g xs _ (Nat.le_refl _), List.take_length]
theorem filterMap_str (q : Str → Bool) : ∀ ys : List Str, ys.filterMap (fun p => if q p = true then some (V.str p) else none) = (ys.filter q).map V.str
  | [] => rfl
  | y :: r => by
    rw [List.filterMap_cons, List.filter_cons, filterMap_str q r]
    cases h : q y <;> simp
/-- whose node stands at a path -/
def ownOf (ns : List Nd) (p : Str) : Option Str := (ns.find? fun n => decide (n.path = p)).bind (·.own)
theorem ownOf_of {ns : List Nd} (h : (ns.map (·.path)).Nodup) {n : Nd} (hn : n ∈ ns) : ownOf ns n.path = n.own := by
  unfold ownOf
  cases e : ns.find? fun m => decide (m.path = n.path) with
  | none =>
    have := List.find?_eq_none.mp e n hn
    simp at this
  | some m =>
    have h1 : m.path = n.path := by simpa using List.find?_some e
    have : m = n := nd_one h (List.mem_of_find?_eq_some e) hn h1
    rw [this]
    rfl
def ownIs (ns : List Nd) (who p : Str) : Bool := decide (ownOf ns p = some who)
def keepO (who : Str) (n : Nd) : Bool := !decide (n.own = some who)
def keepZ (L : List Str) (n : Nd) : Bool := !decide (n.path ∈ L)
def goneP (es : List Evt) : List Str := (es.filter fun x => decide (x.w = ("gone" : Str))).map (·.p)
theorem goneP_app (a b : List Evt) : goneP (a ++ b) = goneP a ++ goneP b := by
  unfold goneP
  rw [List.filter_append, List.map_append]
theorem goneP_two (a1 a2 : Addr) (p q : Str) : goneP [⟨a1, "gone", p⟩, ⟨a2, "kids", q⟩] = [p] := by
  unfold goneP
  have h1 : decide ((("gone" : Str)) = ("gone" : Str)) = true := by decide +kernel
  have h2 : decide ((("kids" : Str)) = ("gone" : Str)) = false := by decide +kernel
  rw [List.filter_cons_of_pos (by exact h1), List.filter_cons_of_neg (by rw [h2]; exact Bool.false_ne_true)]
  rfl
theorem own_dec (o : Option Str) (who : Str) : scal (ownV o) (.str who) = true ∧ decide (ownV o = .str who) = decide (o = some who) := by
  cases o with
  | none => exact ⟨rfl, rfl⟩
  | some x =>
    refine ⟨rfl, ?_⟩
    by_cases h : x = who
    · subst h
      simp [ownV]
    · have h1 : ¬ V.str x = V.str who := fun z => h (V.str.inj z)
      have h2 : ¬ some x = some who := fun z => h (Option.some.inj z)
      simp [ownV, h1, h2]
theorem sxl {H H' : Hp} {l : Addr} {xs : List V} {es : List Evt} (hl : H l = some (.lst xs)) (x : SameX l H H') (h : ∀ y ∈ es, H y.ad = some (.tup [.str y.w, .str y.p])) : ∀ y ∈ es, H' y.ad = some (.tup [.str y.w, .str y.p]) :=
  fun y hy => x _ _ (ne_of (h y hy) hl (by intro z; cases z)) (h y hy)
theorem NodesAt.x {H H' : Hp} {l d : Addr} {xs : List V} {ns : List Nd} (hl : H l = some (.lst xs)) (x : SameX l H H') (h : NodesAt H d ns) : NodesAt H' d ns :=
  ⟨x _ _ (ne_of h.1 hl (by intro z; cases z)) h.1, fun n hn => x _ _ (ne_of (h.2 n hn) hl (by intro z; cases z)) (h.2 n hn)⟩
section
variable {P : Program} {w : World} {K : PySem.W.Frag} {mg : Str → Option Value} {base : Heap} {f : Addr} {fd : FuncData}
abbrev s_without_owner : Stmt := topS 45
theorem sc_without_owner : FnScope ["nodes", "asker", "events", "path", "some"] ["nodes", "asker"] (C8.fnScope s_without_owner) := C8.fnScope_by (by decide +kernel)
def spWithoutOwner : Sp := fun vs H Q _ => ∃ d ns b who, vs = [.ref d, .str who] ∧ NodesAt H d ns ∧ NOk b ns ∧
  ∀ p d2 e es ys H', (d2 = d ∨ H d2 = none) → H e = none → es.length ≤ 120 → Same H H' → H' p = some (.tup [.ref d2, .ref e]) → NodesAt H' d2 (ns.filter (keepO who)) → EvAt H' e es → ys.Perm (ns.map (·.path)) → sortedS ys = true → goneP es = ys.filter (ownIs ns who) → Q (.ref p) H'
theorem ok_without_owner (F : C8.Def K mg "without_owner" s_without_owner f fd) (b : Binds K fd ["nodes", "asker"] []) (T : Tx K w mg) (c_dropped : Cal P w K mg base 3 "dropped" spDropped []) : Cal P w K mg base 4 "without_owner" spWithoutOwner [] := by
  refine C8.cal0 F b .nil sc_without_owner (fun vs H Q E h => ?_) (fun cdv A outer s H vs Q E hr h => ?_)
  · obtain ⟨_, _, _, _, rfl, _⟩ := h
    rfl
  · obtain ⟨d, ns, b, who, rfl, hN, ok, k⟩ := h
    have hu := hu_of hr
    refine ⟨_, (pss_cons (ps_set (i := 2) sc_without_owner.nd rfl (Or.inl rfl) (pe_lst pa_nil))
        (pss_cons (ps_for PassesOwn.never rfl (pi_list (pe_lc rfl sc_without_owner.nd (pi_list (pe_callB (call_sortedD rfl) (by rfl) T.n_sorted (by decide +kernel) (pa_cons (pv 0) pa_nil))) (L2.blkOk_by (own := [("path", 3)]) (N := ["nodes", "asker", "events", "path", "some"]) (sc := C8.fnScope s_without_owner) (by decide +kernel)) (fun _ _ _ _ _ => (pg_name (i := 3) sc_without_owner.nd rfl (Or.inl rfl))) (fun _ _ _ _ _ => (pts_one (pt_cmpR op_eq (pe_ix (ixk_tup K rfl) (pe_dget hu (pv 0) (pv 3) (fun _ _ => rfl)) pe_int (fun _ _ => rfl)) (pv 1) (nomark _)))) (fun _ _ _ _ _ => (pv 3)))) (pg_name (i := 3) sc_without_owner.nd rfl (Or.inl rfl)) (pss_cons (ps_asg (C8.pe_c c_dropped hr (by decide) (by rfl) (pa_cons (pv 0) (pa_cons (pv 3) pa_nil))) (pg_tup rfl (pgs_cons (pg_name (i := 0) sc_without_owner.nd rfl (Or.inr rfl)) (pgs_cons (pg_name (i := 4) sc_without_owner.nd rfl (Or.inl rfl)) pgs_nil))))
        (pss_one (ps_expr (pe_bm PySem.F.plainAttrs_list PySem.F.slot_list_extend PySem.F.type_list_extend mt_extend (pv 2) (pa_cons (pv 4) pa_nil))))))
        (pss_one (ps_ret (pe_tup (pa_cons (pv 0) (pa_cons (pv 2) pa_nil))))))), ?_⟩
    have h60 := ok.few
    refine ⟨Nat.zero_le _, fun l nl => newH nl fun H1 e1 h1 => ?_⟩
    have hN1 := hN.mono e1
    refine ⟨_, rfl, d, _, ns.map (·.path), rfl, .inl hN1.1, keys_ent ns, by rw [List.length_map]; omega, fun ys c hys hsrt nc => newH nc fun H2 e2 h2 => ⟨c, rfl, ⟨_, sql h2⟩, fun D nD => ?_⟩⟩
    have hN2 := hN1.mono e2
    have hyl : ys.length = ns.length := by rw [hys.length_eq, List.length_map]
    refine lc_opt walk_list (fun i => (ys[i]?).bind fun p => if ownIs ns who p = true then some (V.str p) else none) nD (by rw [List.length_map]; omega) (fun Ha sm => sql (sm _ _ h2)) (fun i x Ha Hb Nx hi sm _ y kp dr => ?_) (fun H3 e3 h3 => ?_)
    · obtain ⟨rfl, hx⟩ := y
      rw [List.getElem?_map] at hx
      cases ep : ys[i]? with
      | none => rw [ep] at hx; cases hx
      | some p =>
        rw [ep] at hx
        cases hx
        have hp : p ∈ ns.map (·.path) := hys.mem_iff.mp (List.mem_of_getElem? ep)
        obtain ⟨n, hn, rfl⟩ := List.mem_map.mp hp
        have hNa := hN2.mono sm
        have hg := DGet.k (k := Sum.inr n.path) hNa.1
        rw [look_of ok.nd hn] at hg
        refine ⟨rfl, _, rfl, _, rfl, d, _, rfl, hg, n.ad, n.vs, _, _, rfl, rfl, sqt (hNa.2 n hn), rfl, _, rfl, (own_dec n.own who).1, _, rfl, ?_⟩
        have eo : decide (ownV n.own = .str who) = ownIs ns who n.path := by
          rw [(own_dec n.own who).2]
          unfold ownIs
          rw [ownOf_of ok.nd hn]
        show (if decide (ownV n.own = .str who) = true then _ else _)
        rw [eo]
        refine iteTF (fun c1 => ?_) (fun c1 => ?_)
        · exact ⟨_, rfl, kp _ _ (by rw [ep]; show (if ownIs ns who n.path = true then some (V.str n.path) else none) = _; rw [if_pos c1]) (Same.refl _)⟩
        · exact dr _ (by rw [ep]; show (if ownIs ns who n.path = true then some (V.str n.path) else none) = _; rw [c1, if_neg Bool.false_ne_true]) (Same.refl _)
    · have hD : H3 D = some (.lst ((ys.filter (ownIs ns who)).map V.str)) := by
        rw [h3, List.length_map]
        exact congrArg (fun z => some (HO.lst z)) ((range_bind (fun p => if ownIs ns who p = true then some (V.str p) else none) ys).trans (filterMap_str _ ys))
      have hN3 := hN2.mono e3
      generalize hz : ys.filter (ownIs ns who) = zs at hD
      have hzl : zs.length ≤ 60 := by
        rw [← hz]
        exact Nat.le_trans (List.length_filter_le _ _) (by omega)
      have hzin : ∀ z ∈ zs, z ∈ ns.map (·.path) := fun z h => hys.mem_iff.mp (by rw [← hz] at h; exact (List.mem_filter.mp h).1)
      have nlD : l ≠ D := fun z => by
        subst z
        rw [e2 _ _ h1] at nD
        cases nD
      refine ⟨D, rfl, ⟨_, sql hD⟩, ?_⟩
      refine for_it (walk_list (xs := zs.map V.str)) (fun i σ H' => ∃ di es y3 y4, σ = [some (.ref di), some (.str who), some (.ref l), y3, y4] ∧ (di = d ∨ H di = none) ∧ Same H H' ∧ NodesAt H' di (ns.filter (keepZ (zs.take i))) ∧ EvAt H' l es ∧ goneP es = zs.take i ∧ es.length = 2 * i ∧ H' D = some (.lst (zs.map V.str)))
        ⟨d, [], none, none, rfl, .inl rfl, (e1.trans e2).trans e3, ?_, ⟨e3 _ _ (e2 _ _ h1), fun _ h => by cases h⟩, rfl, rfl, hD⟩ (fun i σ H' _ p => ?_) (fun i x σ Ha Hb hi p y => ?_) (fun σ Ha p => ?_)
      · have : ns.filter (keepZ (zs.take 0)) = ns := List.filter_eq_self.mpr fun n _ => by simp [keepZ]
        rw [this]
        exact hN3
      · obtain ⟨_, _, _, _, _, _, _, _, _, _, _, hd⟩ := p
        exact sql hd
      · obtain ⟨di, es, y3, y4, rfl, hdi, sm, hNi, hE, hg, hel, hDi⟩ := p
        obtain ⟨rfl, hx⟩ := y
        rw [List.length_map] at hi
        rw [List.getElem?_map, List.getElem?_eq_getElem hi] at hx
        cases hx
        have er : zs.take (i + 1) = zs.take i ++ [zs[i]] := List.take_succ_eq_append_getElem hi
        obtain ⟨n, hn, en⟩ := List.mem_map.mp (hzin zs[i] (List.getElem_mem hi))
        obtain ⟨ps, hp, ep⟩ := ok.path n hn
        rw [← en, ep] at er ⊢
        refine ⟨_, rfl, _, rfl, di, _, b, ps, rfl, hNi, ok.filter _, hp, fun p d2 e a1 a2 H4 nd2 nde e4 h4 hN4 hE4 => ⟨p, _, rfl, sqt h4, rfl, _, _, rfl, _, _, rfl, rfl, ?_⟩⟩
        have hl4 := e4 _ _ hE.1
        refine ⟨_, rfl, .inl ⟨rfl, _, sql hl4⟩, _, rfl, l, e, _, _, rfl, rfl, hl4, hE4.1, ?_, chgH fun H5 x5 h5 => ?_⟩
        · show (es.map _).length + 2 ≤ sizeLine
          rw [List.length_map, hel]
          exact sz5 (by omega)
        · refine ⟨d2, es ++ [⟨a1, "gone", S (pathL ps)⟩, ⟨a2, "kids", S (pathL ps.dropLast)⟩], _, _, rfl, .inr (sm_free sm nd2), ?_, ?_, ⟨?_, ?_⟩, ?_, ?_, ?_⟩
          · exact sm_sx (sm.trans e4) x5 nl
          · rw [er]
            have ex : ns.filter (keepZ (zs.take i ++ [S (pathL ps)])) = (ns.filter (keepZ (zs.take i))).filter (keepN (S (pathL ps))) := by
              rw [List.filter_filter]
              refine List.filter_congr fun m _ => ?_
              unfold keepZ keepN
              by_cases c1 : m.path ∈ zs.take i <;> by_cases c2 : m.path = S (pathL ps) <;> simp [c1, c2]
            rw [ex]
            exact NodesAt.x hl4 x5 hN4
          · rw [h5, List.map_append]
          · exact fun y hy => by
              rcases List.mem_append.mp hy with hy | hy
              · exact sxl hl4 x5 (fun z hz => e4 _ _ (hE.2 z hz)) y hy
              · exact sxl hl4 x5 hE4.2 y hy
          · rw [goneP_app, goneP_two, hg, er]
          · rw [List.length_append, hel]
            show 2 * i + 2 = 2 * (i + 1)
            omega
          · exact x5 _ _ (fun z => nlD z.symm) (e4 _ _ hDi)
      · obtain ⟨di, es, y3, y4, rfl, hdi, sm, hNi, hE, hg, hel, hDi⟩ := p
        rw [List.length_map, List.take_length] at hNi hg
        refine ⟨_, rfl, _, rfl, Nat.le_of_ble_eq_true rfl, fun p np => newH np fun H5 e5 h5 => ?_⟩
        have ef : ns.filter (keepZ zs) = ns.filter (keepO who) := by
          refine List.filter_congr fun m hm => ?_
          unfold keepZ keepO
          congr 1
          rw [decide_eq_decide, ← hz, List.mem_filter]
          unfold ownIs
          rw [ownOf_of ok.nd hm, decide_eq_true_iff]
          exact ⟨fun h => h.2, fun h => ⟨hys.mem_iff.mpr (List.mem_map.mpr ⟨m, hm, rfl⟩), h⟩⟩
        rw [ef] at hNi
        exact k p di l es ys H5 hdi nl (by rw [hel, List.length_map]; omega) (sm.trans e5) h5 (hNi.mono e5) (hE.mono e5) hys hsrt (hg.trans hz.symm)
end
end N17

set_option Elab.async false
set_option linter.all false
set_option maxRecDepth 100000
set_option maxHeartbeats 4000000
namespace N17
open PySem PySem.Spec PyProof.Rows
open L2 hiding CX0 E0 pass0 Fun Fun.ok fun_mk
open C8 (Cal CX0 E0 pass0)
open SX (S)
/-- what a deed hands back: nodes, some answer, events -/
def DRes (d0 : Addr) (H0 H : Hp) (p : Addr) (ns : List Nd) (es : List Evt) : Prop := ∃ d y e, (d = d0 ∨ H0 d = none) ∧ es.length ≤ 120 ∧ H p = some (.tup [.ref d, y, .ref e]) ∧ NodesAt H d ns ∧ EvAt H e es
theorem PRes.d {H0 H : Hp} {d0 p : Addr} {ns : List Nd} {w : Str} {es : List Evt} (h : PRes H0 H p ns w es) : DRes d0 H0 H p ns es := by
  obtain ⟨d, t, e, v, h0, hl, h1, h2, _, h4⟩ := h
  exact ⟨d, _, e, .inr h0.1, by omega, h1, h2, h4⟩
section
variable {P : Program} {w : World} {K : PySem.W.Frag} {mg : Str → Option Value} {base : Heap} {f : Addr} {fd : FuncData}
abbrev s_done_all : Stmt := topS 46
theorem sc_done_all : FnScope ["nodes", "deeds", "asker", "found", "values", "events", "number", "deed", "some", "word", "value"] ["nodes", "deeds", "asker"] (C8.fnScope s_done_all) := C8.fnScope_by (by decide +kernel)
def spDoneAll : Sp := fun vs H Q _ => ∃ d ns b t, ∃ ls : List (Addr × Pl), ∃ asker, vs = [.ref d, .ref t, .str asker] ∧ NodesAt H d ns ∧ NOk b ns ∧ b < 80000 ∧ H t = some (.tup (ls.map fun x => .ref x.1)) ∧ (∀ x ∈ ls, H x.1 = some (.tup (Pl.vs x.2))) ∧ (∀ x ∈ ls, PlOk x.2) ∧ ls.length ≤ 6 ∧
  ∀ p ns' es H', Same H H' → DRes d H H' p ns' es → NOk (b + 6) ns' → Eff asker ns ns' es → Q (.ref p) H'
theorem ok_done_all (F : C8.Def K mg "done_all" s_done_all f fd) (b : Binds K fd ["nodes", "deeds", "asker"] []) (T : Tx K w mg) (c_done_plain : CalK P w K mg base 5 "done_plain" ["asker"] spDonePlain) : Cal P w K mg base 6 "done_all" spDoneAll [] := by
  refine C8.cal0 F b .nil sc_done_all (fun vs H Q E h => ?_) (fun cdv A outer s H vs Q E hr h => ?_)
  · obtain ⟨_, _, _, _, _, _, rfl, _⟩ := h
    rfl
  · obtain ⟨d, ns, b, t, ls, asker, rfl, hN, ok, hb, ht, hls, hok, hlen, k⟩ := h
    refine ⟨_, (pss_cons (ps_par3 (i := 3) (j := 4) (l := 5) rfl sc_done_all.nd rfl rfl rfl (by decide) (by decide) (by decide) rfl rfl rfl (pa_cons (pv 0) (pa_cons (pe_lst pa_nil) (pa_cons (pe_lst pa_nil) pa_nil))) (by rfl))
        (pss_cons (ps_for PassesOwn.never rfl (pi_enT (by rfl) T.n_enumerate (pa_cons (pv 1) pa_nil)) (pg_tup rfl (pgs_cons (pg_name (i := 6) sc_done_all.nd rfl (Or.inl rfl)) (pgs_cons (pg_name (i := 7) sc_done_all.nd rfl (Or.inl rfl)) pgs_nil))) (pss_cons (ps_asg (pe_ck c_done_plain hr (by decide) (by rfl) (pa_cons (pv 3) (pa_cons (pv 7) pa_nil)) (pk_cons (pv 2) pk_nil)) (pg_tup rfl (pgs_cons (pg_name (i := 3) sc_done_all.nd rfl (Or.inl rfl)) (pgs_cons (pg_tup rfl (pgs_cons (pg_name (i := 9) sc_done_all.nd rfl (Or.inl rfl)) (pgs_cons (pg_name (i := 10) sc_done_all.nd rfl (Or.inl rfl)) pgs_nil))) (pgs_cons (pg_name (i := 8) sc_done_all.nd rfl (Or.inl rfl)) pgs_nil)))))
        (pss_cons (ps_if (pt_cmpR op_eq (pv 9) pe_str (nomark _)) (pss_one (ps_ret (pe_tup (pa_cons (pv 0) (pa_cons (pe_tup (pa_cons (pv 9) (pa_cons (pv 10) (pa_cons (pv 6) pa_nil)))) (pa_cons (pe_lst pa_nil) pa_nil)))))) pss_nil)
        (pss_cons (ps_expr (pe_bm PySem.F.plainAttrs_list PySem.F.slot_list_append PySem.F.type_list_append mt_append (pv 4) (pa_cons (pv 10) pa_nil)))
        (pss_one (ps_expr (pe_bm PySem.F.plainAttrs_list PySem.F.slot_list_extend PySem.F.type_list_extend mt_extend (pv 5) (pa_cons (pv 8) pa_nil))))))))
        (pss_one (ps_ret (pe_tup (pa_cons (pv 3) (pa_cons (pe_tup (pa_cons pe_str (pa_cons (pe_callTy call_tuple_of (by rfl) T.n_tuple (by decide +kernel) (pa_cons (pv 4) pa_nil)) pa_nil))) (pa_cons (pv 5) pa_nil)))))))), ?_⟩
    refine ⟨_, rfl, Nat.zero_le _, fun vl nv => newH nv fun H1 e1 h1 => ⟨Nat.zero_le _, fun el ne => newH ne fun H2 e2 h2 => ?_⟩⟩
    have e02 := e1.trans e2
    have ht2 := e02 _ _ ht
    have nvl : H2 vl = some (.lst []) := e2 _ _ h1
    have nle : vl ≠ el := fun z => by
      subst z
      rw [h1] at ne
      cases ne
    refine ⟨_, _, _, rfl, _, rfl, t, _, rfl, sqt ht2, ?_⟩
    refine for_it (walk_enT (xs := ls.map fun x => V.ref x.1)) (fun i σ H' => ∃ di ni es xs y6 y7 y8 y9 y10, σ = [some (.ref d), some (.ref t), some (.str asker), some (.ref di), some (.ref vl), some (.ref el), y6, y7, y8, y9, y10] ∧
      (di = d ∨ H di = none) ∧ Same H H' ∧ NodesAt H' di ni ∧ NOk (b + i) ni ∧ Eff asker ns ni es ∧ EvAt H' el es ∧ es.length ≤ 2 * i ∧ H' vl = some (.lst xs) ∧ xs.length ≤ i)
      ⟨d, ns, [], [], none, none, none, none, none, rfl, .inl rfl, e02, hN.mono e02, ok.mono (by omega), Eff.same _ _ _, ⟨h2, fun _ h => by cases h⟩, Nat.le_refl _, nvl, Nat.le_refl _⟩ (fun i σ H' _ p => ?_) (fun i x σ Ha Hb hi p y => ?_) (fun σ Ha p => ?_)
    · obtain ⟨_, _, _, _, _, _, _, _, _, _, _, sm, _⟩ := p
      exact sqt (sm _ _ ht)
    · obtain ⟨di, ni, es, xs, y6, y7, y8, y9, y10, rfl, hdi, sm, hNi, oki, eff, hE, hel, hv, hxl⟩ := p
      obtain ⟨T, v1, v2, rfl, nT, rfl, y1, y2⟩ := y
      rw [List.length_map] at hi
      dsimp only at y1 y2
      rw [List.getElem?_map, List.getElem?_eq_getElem hi] at y2
      cases y1
      cases y2
      have hin := List.getElem_mem hi
      generalize ls[i] = z at hin
      have sT : Same Ha (upd Ha T (.tup [.int (i : Nat), .ref z.1])) := sm_new nT
      refine ⟨T, _, rfl, sqt upd_same, rfl, _, _, rfl, _, _, rfl, rfl, ?_⟩
      generalize upd Ha T (.tup [.int (i : Nat), .ref z.1]) = Hc at sT
      have sm2 := sm.trans sT
      refine ⟨_, rfl, _, rfl, _, rfl, di, ni, b + i, asker, z.1, z.2, rfl, hNi.mono sT, oki, by omega, sm2 _ _ (hls z hin), hok z hin, fun p n2 wd es2 H4 e4 r4 ok4 eff4 => ?_⟩
      obtain ⟨d4, t4, e5, v4, ⟨nd4, ne5⟩, l4, hp4, hN4, ht4, hE4⟩ := r4
      refine ⟨p, _, rfl, sqt hp4, rfl, _, _, rfl, _, _, rfl, t4, _, rfl, sqt ht4, rfl, _, _, rfl, _, _, rfl, rfl, _, _, rfl, rfl, ?_⟩
      have hel4 := e4 _ _ (sT _ _ hE.1)
      have hvl4 := e4 _ _ (sT _ _ hv)
      have vne : vl ≠ el := nle
      refine ⟨_, rfl, rfl, _, rfl, iteTF (fun c => ?_) (fun c => ?_)⟩
      · refine ⟨_, rfl, _, rfl, _, rfl, _, rfl, Nat.le_of_ble_eq_true rfl, fun t5 nt5 => newH nt5 fun H5 e5 h5 => ⟨Nat.zero_le _, fun l6 nl6 => newH nl6 fun H6 e6 h6 => ⟨Nat.le_of_ble_eq_true rfl, fun p7 np7 => newH np7 fun H7 e7 h7 => ?_⟩⟩⟩
        have e07 : Same H H7 := ((((sm2.trans e4).trans e5).trans e6).trans e7)
        exact k p7 ns [] H7 e07 ⟨d, _, _, .inl rfl, Nat.zero_le _, h7, hN.mono e07, ⟨e7 _ _ h6, fun _ h => by cases h⟩⟩ (ok.mono (by omega)) (Eff.same _ _ _)
      · refine ⟨_, rfl, .inl ⟨rfl, _, sql hvl4⟩, _, rfl, vl, _, _, rfl, rfl, hvl4, small1000 (by omega), chgH fun H5 x5 h5 => ?_⟩
        have hel5 := x5 _ _ (fun z => nle z.symm) hel4
        have nev : e5 ≠ vl := fun z => by
          rw [z, sT _ _ hv] at ne5
          cases ne5
        have nee : e5 ≠ el := fun z => by
          rw [z, sT _ _ hE.1] at ne5
          cases ne5
        have hE5 := x5 _ _ nev hE4.1
        refine ⟨_, rfl, .inl ⟨rfl, _, sql hel5⟩, _, rfl, el, e5, _, _, rfl, rfl, hel5, hE5, ?_, chgH fun H6 x6 h6 => ?_⟩
        · rw [List.length_map, List.length_map]
          exact sz5 (by omega)
        · refine ⟨d4, n2, es ++ es2, xs ++ [v4], _, _, _, _, _, rfl, .inr (sm_free sm2 nd4), sm_sx (sm_sx (sm2.trans e4) x5 nv) x6 (sm_free e1 ne), NodesAt.x hel5 x6 (NodesAt.x hvl4 x5 hN4), ?_, eff.trans eff4, ⟨?_, fun y hy => ?_⟩, ?_, ?_, ?_⟩
          · rw [show b + ((i + 1 : Nat) : Int) = b + i + 1 by omega]
            exact ok4
          · rw [h6, List.map_append]
          · refine sxl hel5 x6 (sxl hvl4 x5 (es := es ++ es2) fun z hz => ?_) y hy
            rcases List.mem_append.mp hz with hz | hz
            · exact e4 _ _ (sT _ _ (hE.2 z hz))
            · exact hE4.2 z hz
          · rw [List.length_append]
            omega
          · exact x6 _ _ nle h5
          · rw [List.length_append, List.length_singleton]
            omega
    · obtain ⟨di, ni, es, xs, y6, y7, y8, y9, y10, rfl, hdi, sm, hNi, oki, eff, hE, hel, hv, hxl⟩ := p
      rw [List.length_map] at oki hel hxl
      refine ⟨_, rfl, _, rfl, vl, xs, rfl, .inl ⟨sql hv, fun t5 nt5 => newH nt5 fun H5 e5 h5 => ⟨Nat.le_of_ble_eq_true rfl, fun t6 nt6 => newH nt6 fun H6 e6 h6 => ⟨_, rfl, Nat.le_of_ble_eq_true rfl, fun p7 np7 => newH np7 fun H7 e7 h7 => ?_⟩⟩⟩⟩
      have e57 := (e5.trans e6).trans e7
      exact k p7 ni es H7 (sm.trans e57) ⟨di, _, el, hdi, by omega, h7, hNi.mono e57, hE.mono e57⟩ (oki.mono (by omega)) eff
end
end N17

set_option Elab.async false
set_option linter.all false
set_option maxRecDepth 100000
set_option maxHeartbeats 4000000
namespace N17
open PySem PySem.Spec PyProof.Rows
open L2 hiding CX0 E0 pass0 Fun Fun.ok fun_mk
open C8 (Cal CX0 E0 pass0)
open SX (S)
def limV : Option Int → V
  | none => .non
  | some i => .int i
/-- the session shut: what it owned went, told in the order of the paths -/
def Shut (who : Str) (ns ns' : List Nd) (es : List Evt) : Prop := ns' = ns.filter (keepO who) ∧ ∃ ys : List Str, ys.Perm (ns.map (·.path)) ∧ sortedS ys = true ∧ goneP es = ys.filter (ownIs ns who)
structure DTr (who : Str) (lim lim' : Option Int) (ns ns' : List Nd) (es : List Evt) : Prop where
  eff : Eff who ns ns' es
  shut : lim.isSome = true → lim' = none → Shut who ns ns' es
  still : lim = none → ns' = ns
theorem DTr.same {who : Str} {lim lim' : Option Int} {ns : List Nd} (h : lim.isSome = true → lim'.isSome = true) : DTr who lim lim' ns ns [] :=
  ⟨Eff.same _ _ _, (fun h1 h2 => by have := h h1; rw [h2] at this; cases this), fun _ => rfl⟩
theorem goneP_mem {es : List Evt} {p : Str} (h : p ∈ goneP es) : ∃ x ∈ es, x.w = ("gone" : Str) ∧ x.p = p := by
  obtain ⟨x, hx, r⟩ := List.mem_map.mp h
  obtain ⟨h1, h2⟩ := List.mem_filter.mp hx
  exact ⟨x, h1, of_decide_eq_true h2, r⟩
theorem Shut.eff {b : Int} {who : Str} {ns ns' : List Nd} {es : List Evt} (ok : NOk b ns) (h : Shut who ns ns' es) : Eff who ns ns' es := by
  obtain ⟨rfl, ys, hp, _, hg⟩ := h
  refine Eff.gone _ fun n hn hk => goneP_mem ?_
  rw [hg, List.mem_filter]
  refine ⟨hp.mem_iff.mpr (List.mem_map.mpr ⟨n, hn, rfl⟩), ?_⟩
  unfold ownIs
  rw [ownOf_of ok.nd hn]
  unfold keepO at hk
  simpa using hk
theorem Shut.dtr {b : Int} {who : Str} {i : Int} {ns ns' : List Nd} {es : List Evt} (ok : NOk b ns) (h : Shut who ns ns' es) : DTr who (some i) none ns ns' es := ⟨h.eff ok, fun _ _ => h, fun z => by cases z⟩
theorem Pl.head (l : Pl) : ∃ w r, l.vs = .str w :: r ∧ w ≠ ("open" : Str) ∧ w ≠ ("close" : Str) ∧ w ≠ ("bring" : Str) ∧ w ≠ ("all" : Str) := by
  cases l with
  | make ps p t own num => exact ⟨_, _, rfl, by decide +kernel, by decide +kernel, by decide +kernel, by decide +kernel⟩
  | put x t c => exact ⟨_, _, rfl, by decide +kernel, by decide +kernel, by decide +kernel, by decide +kernel⟩
  | drop x c => exact ⟨_, _, rfl, by decide +kernel, by decide +kernel, by decide +kernel, by decide +kernel⟩
  | see x c => exact ⟨_, _, rfl, by decide +kernel, by decide +kernel, by decide +kernel, by decide +kernel⟩
section
variable {P : Program} {w : World} {K : PySem.W.Frag} {mg : Str → Option Value} {base : Heap} {f : Addr} {fd : FuncData}
abbrev s_done_deed : Stmt := topS 47
theorem sc_done_deed : FnScope ["nodes", "limit", "deed", "asker", "word", "found", "events", "answer"] ["nodes", "limit", "deed", "asker"] (C8.fnScope s_done_deed) := C8.fnScope_by (by decide +kernel)
def DPost (H : Hp) (Q : VK) (d : Addr) (b : Int) (asker : Str) (lim : Option Int) (ns : List Nd) : Prop := ∀ p d2 lim' y e ns' es H', (d2 = d ∨ H d2 = none) → es.length ≤ 120 → Same H H' → H' p = some (.tup [.ref d2, limV lim', y, .ref e]) →
  NodesAt H' d2 ns' → EvAt H' e es → NOk (b + 6) ns' → DTr asker lim lim' ns ns' es → Q (.ref p) H'
def spDoneDeed : Sp := fun vs H Q _ => ∃ d ns b lim a dd asker, vs = [.ref d, limV lim, .ref a, .str asker] ∧ NodesAt H d ns ∧ NOk b ns ∧ b < 80000 ∧ DdAt H a dd ∧ DdOk dd ∧ DPost H Q d b asker lim ns
theorem ok_done_deed (F : C8.Def K mg "done_deed" s_done_deed f fd) (b : Binds K fd ["nodes", "limit", "deed", "asker"] []) (T : Tx K w mg) (c_done_plain : CalK P w K mg base 5 "done_plain" ["asker"] spDonePlain)
    (c_done_all : Cal P w K mg base 6 "done_all" spDoneAll []) (c_without_owner : Cal P w K mg base 4 "without_owner" spWithoutOwner []) : Cal P w K mg base 7 "done_deed" spDoneDeed [] := by
  obtain ⟨aOK, g_OK, tOK⟩ := T.ok
  refine C8.cal0 F b .nil sc_done_deed (fun vs H Q E h => ?_) (fun cdv A outer s H vs Q E hr h => ?_)
  · obtain ⟨_, _, _, _, _, _, _, rfl, _⟩ := h
    rfl
  · obtain ⟨d, ns, b, lim, a, dd, asker, rfl, hN, ok, hb, ⟨ha, hin⟩, hd, k⟩ := h
    refine ⟨_, (pss_cons (ps_set (i := 4) sc_done_deed.nd rfl (Or.inl rfl) (pe_ix ix_tup (pv 2) pe_int (fun _ _ => rfl)))
        (pss_cons (ps_if (pt_cmpR op_eq (pv 4) pe_str (nomark _)) (pss_one (ps_ret (pe_ifExp (pt_cmp (pc_isN (pv 1))) (pe_tup (pa_cons (pv 0) (pa_cons (pe_ix ix_tup (pv 2) pe_int (fun _ _ => rfl)) (pa_cons (C8.pe_gc (by rfl) g_OK) (pa_cons (pe_lst pa_nil) pa_nil))))) (pe_tup (pa_cons (pv 0) (pa_cons (pv 1) (pa_cons (pe_tup (pa_cons pe_str (pa_cons pe_str pa_nil))) (pa_cons (pe_lst pa_nil) pa_nil)))))))) pss_nil)
        (pss_cons (ps_if (pt_cmp (pc_isN (pv 1))) (pss_one (ps_ret (pe_tup (pa_cons (pv 0) (pa_cons pe_non (pa_cons (pe_tup (pa_cons pe_str (pa_cons pe_str pa_nil))) (pa_cons (pe_lst pa_nil) pa_nil))))))) pss_nil)
        (pss_cons (ps_if (pt_cmpR op_eq (pv 4) pe_str (nomark _)) (pss_cons (ps_asg (C8.pe_c c_without_owner hr (by decide) (by rfl) (pa_cons (pv 0) (pa_cons (pv 3) pa_nil))) (pg_tup rfl (pgs_cons (pg_name (i := 5) sc_done_deed.nd rfl (Or.inl rfl)) (pgs_cons (pg_name (i := 6) sc_done_deed.nd rfl (Or.inl rfl)) pgs_nil))))
        (pss_one (ps_ret (pe_tup (pa_cons (pv 5) (pa_cons pe_non (pa_cons (C8.pe_gc (by rfl) g_OK) (pa_cons (pv 6) pa_nil)))))))) pss_nil)
        (pss_cons (ps_if (pt_cmpR op_eq (pv 4) pe_str (nomark _)) (pss_one (ps_ret (pe_tup (pa_cons (pv 0) (pa_cons (pv 1) (pa_cons (C8.pe_gc (by rfl) g_OK) (pa_cons (pe_lst pa_nil) pa_nil))))))) pss_nil)
        (pss_cons (ps_if (pt_cmpR op_eq (pv 4) pe_str (nomark _)) (pss_one (ps_asg (C8.pe_c c_done_all hr (by decide) (by rfl) (pa_cons (pv 0) (pa_cons (pe_ix ix_tup (pv 2) pe_int (fun _ _ => rfl)) (pa_cons (pv 3) pa_nil)))) (pg_tup rfl (pgs_cons (pg_name (i := 5) sc_done_deed.nd rfl (Or.inl rfl)) (pgs_cons (pg_name (i := 7) sc_done_deed.nd rfl (Or.inl rfl)) (pgs_cons (pg_name (i := 6) sc_done_deed.nd rfl (Or.inl rfl)) pgs_nil)))))) (pss_one (ps_asg (pe_ck c_done_plain hr (by decide) (by rfl) (pa_cons (pv 0) (pa_cons (pv 2) pa_nil)) (pk_cons (pv 3) pk_nil)) (pg_tup rfl (pgs_cons (pg_name (i := 5) sc_done_deed.nd rfl (Or.inl rfl)) (pgs_cons (pg_name (i := 7) sc_done_deed.nd rfl (Or.inl rfl)) (pgs_cons (pg_name (i := 6) sc_done_deed.nd rfl (Or.inl rfl)) pgs_nil)))))))
        (pss_one (ps_ret (pe_tup (pa_cons (pv 5) (pa_cons (pv 1) (pa_cons (pv 7) (pa_cons (pv 6) pa_nil))))))))))))), ?_⟩
    cases dd with
    | opn i =>
      refine ⟨_, rfl, a, _, _, _, rfl, rfl, sqt ha, rfl, _, rfl, rfl, _, rfl, iteD rfl ?_⟩
      refine ⟨_, rfl, _, rfl, ?_⟩
      cases lim with
      | none =>
        refine iteD rfl ?_
        refine ⟨_, rfl, _, rfl, a, _, _, _, rfl, rfl, sqt ha, rfl, Nat.zero_le _, fun e ne => newH ne fun H1 e1 h1 => ⟨Nat.le_of_ble_eq_true rfl, fun p np => newH np fun H2 e2 h2 => ?_⟩⟩
        exact k p d (some i) _ e ns [] H2 (.inl rfl) (Nat.zero_le _) (e1.trans e2) h2 (hN.mono (e1.trans e2)) ⟨e2 _ _ h1, fun _ h => by cases h⟩ (ok.mono (by omega)) (DTr.same fun z => by cases z)
      | some j =>
        refine iteDn (fun z => by cases z) ?_
        refine ⟨_, rfl, _, rfl, Nat.le_of_ble_eq_true rfl, fun t nt => newH nt fun H1 e1 h1 => ⟨Nat.zero_le _, fun e ne => newH ne fun H2 e2 h2 => ⟨Nat.le_of_ble_eq_true rfl, fun p np => newH np fun H3 e3 h3 => ?_⟩⟩⟩
        have e03 := (e1.trans e2).trans e3
        exact k p d (some j) _ e ns [] H3 (.inl rfl) (Nat.zero_le _) e03 h3 (hN.mono e03) ⟨e3 _ _ h2, fun _ h => by cases h⟩ (ok.mono (by omega)) (DTr.same fun z => rfl)
    | close =>
      refine ⟨_, rfl, a, _, _, _, rfl, rfl, sqt ha, rfl, _, rfl, rfl, _, rfl, iteDn (by decide +kernel) ?_⟩
      refine ⟨_, rfl, _, rfl, ?_⟩
      cases lim with
      | none => exact iteD rfl ⟨_, rfl, Nat.le_of_ble_eq_true rfl, fun t nt => newH nt fun H1 e1 h1 => ⟨Nat.zero_le _, fun e ne => newH ne fun H2 e2 h2 => ⟨Nat.le_of_ble_eq_true rfl, fun p np => newH np fun H3 e3 h3 => k p d none _ e ns [] H3 (.inl rfl) (Nat.zero_le _) ((e1.trans e2).trans e3) h3 (hN.mono ((e1.trans e2).trans e3)) ⟨e3 _ _ h2, fun _ h => by cases h⟩ (ok.mono (by omega)) (DTr.same fun z => by cases z)⟩⟩⟩
      | some j =>
        refine iteDn (fun z => by cases z) ?_
        refine ⟨_, rfl, rfl, _, rfl, iteD rfl ?_⟩
        refine ⟨_, rfl, _, rfl, d, ns, b, asker, rfl, hN, ok, fun p d2 e es ys H1 hd2 hne hel e1 hp hN1 hE hperm hsrt hg => ⟨p, _, rfl, sqt hp, rfl, _, _, rfl, _, _, rfl, rfl, ?_⟩⟩
        refine ⟨_, rfl, _, rfl, Nat.le_of_ble_eq_true rfl, fun p2 np2 => newH np2 fun H2 e2 h2 => ?_⟩
        exact k p2 d2 none _ e _ es H2 hd2 hel (e1.trans e2) h2 (hN1.mono e2) (hE.mono e2) ((ok.filter _).mono (by omega)) (Shut.dtr ok ⟨rfl, ys, hperm, hsrt, hg⟩)
    | bring =>
      refine ⟨_, rfl, a, _, _, _, rfl, rfl, sqt ha, rfl, _, rfl, rfl, _, rfl, iteDn (by decide +kernel) ?_⟩
      refine ⟨_, rfl, _, rfl, ?_⟩
      cases lim with
      | none => exact iteD rfl ⟨_, rfl, Nat.le_of_ble_eq_true rfl, fun t nt => newH nt fun H1 e1 h1 => ⟨Nat.zero_le _, fun e ne => newH ne fun H2 e2 h2 => ⟨Nat.le_of_ble_eq_true rfl, fun p np => newH np fun H3 e3 h3 => k p d none _ e ns [] H3 (.inl rfl) (Nat.zero_le _) ((e1.trans e2).trans e3) h3 (hN.mono ((e1.trans e2).trans e3)) ⟨e3 _ _ h2, fun _ h => by cases h⟩ (ok.mono (by omega)) (DTr.same fun z => by cases z)⟩⟩⟩
      | some j =>
        refine iteDn (fun z => by cases z) ?_
        refine ⟨_, rfl, rfl, _, rfl, iteDn (by decide +kernel) ?_⟩
        refine ⟨_, rfl, rfl, _, rfl, iteD rfl ?_⟩
        refine ⟨_, rfl, _, rfl, Nat.zero_le _, fun e ne => newH ne fun H2 e2 h2 => ⟨Nat.le_of_ble_eq_true rfl, fun p np => newH np fun H3 e3 h3 => ?_⟩⟩
        have e03 := e2.trans e3
        exact k p d (some j) _ e ns [] H3 (.inl rfl) (Nat.zero_le _) e03 h3 (hN.mono e03) ⟨e3 _ _ h2, fun _ h => by cases h⟩ (ok.mono (by omega)) (DTr.same fun z => rfl)
    | pl l =>
      obtain ⟨wd, r, hv, n1, n2, n3, n4⟩ := l.head
      have ha2 : H a = some (.tup (.str wd :: r)) := by rw [← hv]; exact ha
      refine ⟨_, rfl, a, _, _, _, rfl, rfl, sqt ha2, atI_nat (j := 0) rfl, _, rfl, rfl, _, rfl, iteDn (fun z => n1 (V.str.inj z)) ?_⟩
      refine ⟨_, rfl, _, rfl, ?_⟩
      cases lim with
      | none => exact iteD rfl ⟨_, rfl, Nat.le_of_ble_eq_true rfl, fun t nt => newH nt fun H1 e1 h1 => ⟨Nat.zero_le _, fun e ne => newH ne fun H2 e2 h2 => ⟨Nat.le_of_ble_eq_true rfl, fun p np => newH np fun H3 e3 h3 => k p d none _ e ns [] H3 (.inl rfl) (Nat.zero_le _) ((e1.trans e2).trans e3) h3 (hN.mono ((e1.trans e2).trans e3)) ⟨e3 _ _ h2, fun _ h => by cases h⟩ (ok.mono (by omega)) (DTr.same fun z => by cases z)⟩⟩⟩
      | some j =>
        refine iteDn (fun z => by cases z) ?_
        refine ⟨_, rfl, rfl, _, rfl, iteDn (fun z => n2 (V.str.inj z)) ?_⟩
        refine ⟨_, rfl, rfl, _, rfl, iteDn (fun z => n3 (V.str.inj z)) ?_⟩
        refine ⟨_, rfl, rfl, _, rfl, iteDn (fun z => n4 (V.str.inj z)) ?_⟩
        refine ⟨_, rfl, _, rfl, _, rfl, d, ns, b, asker, a, l, rfl, hN, ok, by omega, ha, hd, fun p n2 wd es2 H4 e4 r4 ok4 eff4 => ?_⟩
        obtain ⟨d4, t4, e5, v4, ⟨nd4, ne5⟩, l4, hp4, hN4, ht4, hE4⟩ := r4
        refine ⟨p, _, rfl, sqt hp4, rfl, _, _, rfl, _, _, rfl, _, _, rfl, rfl, ?_⟩
        refine ⟨_, rfl, _, rfl, _, rfl, _, rfl, Nat.le_of_ble_eq_true rfl, fun p2 np2 => newH np2 fun H2 e2 h2 => ?_⟩
        exact k p2 d4 (some j) _ e5 _ es2 H2 (.inr nd4) (by omega) (e4.trans e2) h2 (hN4.mono e2) (hE4.mono e2) (ok4.mono (by omega)) ⟨eff4, (fun _ z => by cases z), fun z => by cases z⟩
    | all t ls =>
      refine ⟨_, rfl, a, _, _, _, rfl, rfl, sqt ha, rfl, _, rfl, rfl, _, rfl, iteDn (by decide +kernel) ?_⟩
      refine ⟨_, rfl, _, rfl, ?_⟩
      cases lim with
      | none => exact iteD rfl ⟨_, rfl, Nat.le_of_ble_eq_true rfl, fun t nt => newH nt fun H1 e1 h1 => ⟨Nat.zero_le _, fun e ne => newH ne fun H2 e2 h2 => ⟨Nat.le_of_ble_eq_true rfl, fun p np => newH np fun H3 e3 h3 => k p d none _ e ns [] H3 (.inl rfl) (Nat.zero_le _) ((e1.trans e2).trans e3) h3 (hN.mono ((e1.trans e2).trans e3)) ⟨e3 _ _ h2, fun _ h => by cases h⟩ (ok.mono (by omega)) (DTr.same fun z => by cases z)⟩⟩⟩
      | some j =>
        refine iteDn (fun z => by cases z) ?_
        refine ⟨_, rfl, rfl, _, rfl, iteDn (by decide +kernel) ?_⟩
        refine ⟨_, rfl, rfl, _, rfl, iteDn (by decide +kernel) ?_⟩
        refine ⟨_, rfl, rfl, _, rfl, iteD rfl ?_⟩
        refine ⟨_, rfl, _, rfl, a, _, _, _, rfl, rfl, sqt ha, rfl, _, rfl, d, ns, b, t, ls, asker, rfl, hN, ok, hb, hin.1, hin.2, hd.2.2, hd.2.1, fun p n2 es2 H4 e4 r4 ok4 eff4 => ?_⟩
        obtain ⟨d4, y4, e5, hd4, l4, hp4, hN4, hE4⟩ := r4
        refine ⟨p, _, rfl, sqt hp4, rfl, _, _, rfl, _, _, rfl, _, _, rfl, rfl, ?_⟩
        refine ⟨_, rfl, _, rfl, _, rfl, _, rfl, Nat.le_of_ble_eq_true rfl, fun p2 np2 => newH np2 fun H2 e2 h2 => ?_⟩
        exact k p2 d4 (some j) _ e5 _ es2 H2 hd4 l4 (e4.trans e2) h2 (hN4.mono e2) (hE4.mono e2) ok4 ⟨eff4, (fun _ z => by cases z), fun z => by cases z⟩
end
end N17

set_option Elab.async false
set_option linter.all false
set_option maxRecDepth 100000
set_option maxHeartbeats 4000000
namespace N17
open PySem PySem.Spec PyProof.Rows
open L2 hiding CX0 E0 pass0 Fun Fun.ok fun_mk
open C8 (Cal CX0 E0 pass0)
open SX (S)
/-! ### sessions -/
structure Rw where
  who : Str
  ad : Addr
  lim : Option Int
  last : Int
  ans : V
  plc : V
def Rw.vs (r : Rw) : List V := [limV r.lim, .int r.last, r.ans, r.plc]
def entR (r : Rw) : Key × V := (.inr r.who, .ref r.ad)
def RowsAt (H : Hp) (d : Addr) (rs : List Rw) : Prop := H d = some (.dK (rs.map entR)) ∧ ∀ r ∈ rs, H r.ad = some (.tup r.vs)
theorem RowsAt.mono {H H' : Hp} {d : Addr} {rs : List Rw} (e : Same H H') (h : RowsAt H d rs) : RowsAt H' d rs := ⟨e _ _ h.1, fun n hn => e _ _ (h.2 n hn)⟩
theorem rkeys_ent (ns : List Rw) : (ns.map entR).map (·.1) = (ns.map (·.who)).map Sum.inr := by
  rw [List.map_map, List.map_map]
  rfl
def putR (ns : List Rw) (n : Rw) : List Rw := if (ns.any fun m => decide (m.who = n.who)) = true then ns.map (fun m => if m.who = n.who then n else m) else ns ++ [n]
theorem rput_ent (ns : List Rw) (n : Rw) : putK (ns.map entR) (.inr n.who) (.ref n.ad) = (putR ns n).map entR := by
  unfold putK putR
  have e : ((ns.map entR).any fun kv => decide (kv.1 = (Sum.inr n.who : Key))) = ns.any fun m => decide (m.who = n.who) := by
    rw [List.any_map]
    congr 1
    funext m
    show decide ((Sum.inr m.who : Key) = Sum.inr n.who) = _
    exact key_rr _ _
  rw [e]
  by_cases c : (ns.any fun m => decide (m.who = n.who)) = true
  · rw [if_pos c, if_pos c, List.map_map, List.map_map]
    refine List.map_congr_left fun m _ => ?_
    show (if (Sum.inr m.who : Key) = Sum.inr n.who then ((Sum.inr m.who : Key), V.ref n.ad) else entR m) = entR (if m.who = n.who then n else m)
    by_cases z : m.who = n.who
    · rw [if_pos (congrArg Sum.inr z), if_pos z, z]
      rfl
    · rw [if_neg (fun q => z (Sum.inr.inj q)), if_neg z]
  · rw [if_neg c, if_neg c, List.map_append]
    rfl
theorem rany_path {ns : List Rw} {p : Str} : (ns.any fun m => decide (m.who = p)) = true ↔ p ∈ ns.map (·.who) := by
  rw [List.any_eq_true, List.mem_map]
  constructor
  · rintro ⟨m, hm, e⟩
    exact ⟨m, hm, of_decide_eq_true e⟩
  · rintro ⟨m, hm, e⟩
    exact ⟨m, hm, decide_eq_true e⟩
theorem rmem_put {ns : List Rw} {n m : Rw} (h : m ∈ putR ns n) : m = n ∨ (m ∈ ns ∧ m.who ≠ n.who) := by
  unfold putR at h
  by_cases c : (ns.any fun m => decide (m.who = n.who)) = true
  · rw [if_pos c] at h
    obtain ⟨q, hq, e⟩ := List.mem_map.mp h
    by_cases z : q.who = n.who
    · rw [if_pos z] at e
      exact .inl e.symm
    · rw [if_neg z] at e
      subst e
      exact .inr ⟨hq, z⟩
  · rw [if_neg c] at h
    rcases List.mem_append.mp h with h | h
    · exact .inr ⟨h, fun z => c (rany_path.mpr (List.mem_map.mpr ⟨m, h, z⟩))⟩
    · exact .inl (List.mem_singleton.mp h)
theorem rpaths_put {ns : List Rw} {n : Rw} : (putR ns n).map (·.who) = if n.who ∈ ns.map (·.who) then ns.map (·.who) else ns.map (·.who) ++ [n.who] := by
  unfold putR
  by_cases c : (ns.any fun m => decide (m.who = n.who)) = true
  · rw [if_pos c, if_pos (rany_path.mp c), List.map_map]
    refine List.map_congr_left fun m _ => ?_
    show (if m.who = n.who then n else m).who = m.who
    by_cases z : m.who = n.who
    · rw [if_pos z, z]
    · rw [if_neg z]
  · rw [if_neg c, if_neg (fun z => c (rany_path.mpr z)), List.map_append]
    rfl
theorem rput_len {ns : List Rw} {n : Rw} : (putR ns n).length = if n.who ∈ ns.map (·.who) then ns.length else ns.length + 1 := by
  have e := congrArg List.length (rpaths_put (ns := ns) (n := n))
  rw [List.length_map] at e
  rw [e]
  split
  · rw [List.length_map]
  · rw [List.length_append, List.length_map]
    rfl
theorem rput_self {ns : List Rw} {n : Rw} : n ∈ putR ns n := by
  unfold putR
  by_cases c : (ns.any fun m => decide (m.who = n.who)) = true
  · rw [if_pos c]
    obtain ⟨m, hm, e⟩ := List.any_eq_true.mp c
    exact List.mem_map.mpr ⟨m, hm, if_pos (of_decide_eq_true e)⟩
  · rw [if_neg c]
    exact List.mem_append_right _ (by simp)
theorem rput_old {ns : List Rw} {n m : Rw} (h : m ∈ ns) (e : m.who ≠ n.who) : m ∈ putR ns n := by
  unfold putR
  by_cases c : (ns.any fun m => decide (m.who = n.who)) = true
  · rw [if_pos c]
    exact List.mem_map.mpr ⟨m, h, if_neg e⟩
  · rw [if_neg c]
    exact List.mem_append_left _ h
theorem rput_nd {ns : List Rw} {n : Rw} (h : (ns.map (·.who)).Nodup) : ((putR ns n).map (·.who)).Nodup := by
  rw [rpaths_put]
  by_cases c : n.who ∈ ns.map (·.who)
  · rw [if_pos c]
    exact h
  · rw [if_neg c]
    exact nd_snoc h c

def rowOf (rs : List Rw) (x : Str) : Option Rw := rs.find? fun r => decide (r.who = x)
theorem val_row : ∀ (rs : List Rw) (x : Str), valV (rs.map entR) (.inr x) = (rowOf rs x).map fun r => .ref r.ad
  | [], x => rfl
  | r :: t, x => by
    unfold rowOf
    rw [List.find?_cons]
    by_cases e : r.who = x
    · have e2 : valV ((r :: t).map entR) (.inr x) = some (V.ref r.ad) := valV_pos (p := entR r) (r := t.map entR) (congrArg Sum.inr e)
      rw [e2, decide_eq_true e]
      rfl
    · have e2 : valV ((r :: t).map entR) (.inr x) = valV (t.map entR) (.inr x) := valV_neg (p := entR r) (r := t.map entR) fun z => e (Sum.inr.inj z)
      rw [e2, decide_eq_false e]
      exact val_row t x
theorem row_in {rs : List Rw} {x : Str} {r : Rw} (h : rowOf rs x = some r) : r ∈ rs ∧ r.who = x := ⟨List.mem_of_find?_eq_some h, by simpa using List.find?_some h⟩
theorem row_map (r : Rw) : ∀ (rs : List Rw) (x : Str), x ≠ r.who → rowOf (rs.map fun m => if m.who = r.who then r else m) x = rowOf rs x
  | [], x, _ => rfl
  | m :: t, x, h => by
    unfold rowOf
    rw [List.map_cons, List.find?_cons, List.find?_cons]
    have ih := row_map r t x h
    unfold rowOf at ih
    by_cases c : m.who = r.who
    · have h1 : ¬ r.who = x := fun z => h z.symm
      have h2 : ¬ m.who = x := fun z => h (z.symm.trans c)
      rw [if_pos c, decide_eq_false h1, decide_eq_false h2]
      exact ih
    · rw [if_neg c]
      by_cases h2 : m.who = x
      · rw [decide_eq_true h2]
      · rw [decide_eq_false h2]
        exact ih
theorem row_put_ne {rs : List Rw} {r : Rw} {x : Str} (h : x ≠ r.who) : rowOf (putR rs r) x = rowOf rs x := by
  unfold putR
  split
  · exact row_map r rs x h
  · unfold rowOf
    rw [List.find?_append]
    have h1 : ¬ r.who = x := fun z => h z.symm
    rw [show [r].find? (fun r => decide (r.who = x)) = none by simp [h1]]
    simp
theorem row_map_self (r : Rw) : ∀ rs : List Rw, (rs.any fun m => decide (m.who = r.who)) = true → rowOf (rs.map fun m => if m.who = r.who then r else m) r.who = some r
  | [], h => by cases h
  | m :: t, h => by
    unfold rowOf
    rw [List.map_cons, List.find?_cons]
    by_cases c : m.who = r.who
    · rw [if_pos c, decide_eq_true rfl]
    · rw [if_neg c, decide_eq_false c]
      rw [List.any_cons, decide_eq_false c] at h
      exact row_map_self r t h
theorem row_put {rs : List Rw} {r : Rw} : rowOf (putR rs r) r.who = some r := by
  unfold putR
  split
  · rename_i c
    exact row_map_self r rs c
  · rename_i c
    unfold rowOf
    rw [List.find?_append]
    have h1 : rs.find? (fun m => decide (m.who = r.who)) = none := by
      rw [List.find?_eq_none]
      intro m hm z
      exact c (List.any_eq_true.mpr ⟨m, hm, z⟩)
    rw [h1]
    simp
def limOf (rs : List Rw) (x : Str) : Option Int := (rowOf rs x).bind (·.lim)
def lastOf (rs : List Rw) (x : Str) : Int := ((rowOf rs x).map (·.last)).getD 0
/-- sessions.get(who, a written row that never was) -/
theorem row_get {K : PySem.W.Frag} {H : Hp} {d aN : Addr} {bN : V} {rs : List Rw} (h : RowsAt H d rs) (hN : SqT K H aN [.non, .int 0, .non, bN]) (x : Str) :
    ∃ a ans plc, (valV (rs.map entR) (.inr x)).getD (.ref aN) = .ref a ∧ SqT K H a [limV (limOf rs x), .int (lastOf rs x), ans, plc] := by
  rw [val_row]
  unfold limOf lastOf
  cases e : rowOf rs x with
  | none => exact ⟨aN, _, _, rfl, hN⟩
  | some r => exact ⟨r.ad, _, _, rfl, sqt (h.2 r (row_in e).1)⟩
theorem RowsAt.store {H H' : Hp} {d : Addr} {rs : List Rw} {r : Rw} (h : RowsAt H d rs) (hn : H r.ad = some (.tup r.vs)) (e : SameX d H H') (hd : H' d = some (.dK ((putR rs r).map entR))) : RowsAt H' d (putR rs r) := by
  refine ⟨hd, fun m hm => ?_⟩
  have up : ∀ a xs, H a = some (.tup xs) → H' a = some (.tup xs) := fun a xs q => e a _ (ne_of q h.1 (by intro z; cases z)) q
  rcases rmem_put hm with rfl | ⟨q, _⟩
  · exact up _ _ hn
  · exact up _ _ (h.2 m q)
theorem NodesAt.sx {H H' : Hp} {l d : Addr} {kvs : List (Key × V)} {ns : List Nd} (hl : H l = some (.dK kvs)) (hd : d ≠ l) (x : SameX l H H') (h : NodesAt H d ns) : NodesAt H' d ns :=
  ⟨x _ _ hd h.1, fun n hn => x _ _ (ne_of (h.2 n hn) hl (by intro z; cases z)) (h.2 n hn)⟩
theorem EvAt.sx {H H' : Hp} {l e : Addr} {kvs : List (Key × V)} {es : List Evt} (hl : H l = some (.dK kvs)) (x : SameX l H H') (h : EvAt H e es) : EvAt H' e es :=
  ⟨x _ _ (ne_of h.1 hl (by intro z; cases z)) h.1, fun n hn => x _ _ (ne_of (h.2 n hn) hl (by intro z; cases z)) (h.2 n hn)⟩
/-- each owner's session is open -/
def Owned (ns : List Nd) (rs : List Rw) : Prop := ∀ n ∈ ns, ∀ x, n.own = some x → (limOf rs x).isSome = true
structure Tr (e : En) (ns : List Nd) (rs : List Rw) (ns' : List Nd) (rs' : List Rw) (es : List Evt) : Prop where
  eff : Eff (S e.who) ns ns' es
  shut : (limOf rs (S e.who)).isSome = true → limOf rs' (S e.who) = none → Shut (S e.who) ns ns' es
  opened : Owned ns rs → Owned ns' rs'
  last : lastOf rs' (S e.who) = match e with
    | .fin _ => lastOf rs (S e.who)
    | .ask _ st _ _ => if lastOf rs (S e.who) < st then st else lastOf rs (S e.who)
  other : ∀ x, x ≠ S e.who → lastOf rs' x = lastOf rs x
  stale : ∀ w st da d, e = .ask w st da d → st ≤ lastOf rs (S w) → ns' = ns ∧ rs' = rs ∧ es = []
theorem DTr.opened {ns ns' : List Nd} {rs : List Rw} {r : Rw} {es : List Evt} (h : DTr r.who (limOf rs r.who) r.lim ns ns' es) (ow : Owned ns rs) : Owned ns' (putR rs r) := by
  intro n hn x hx
  have new : limOf (putR rs r) r.who = r.lim := by unfold limOf; rw [row_put]; rfl
  have old : ∀ y, y ≠ r.who → limOf (putR rs r) y = limOf rs y := fun y hy => by unfold limOf; rw [row_put_ne hy]
  cases e : limOf rs r.who with
  | none =>
    rw [h.still e] at hn
    have h1 := ow n hn x hx
    have hne : x ≠ r.who := fun z => by rw [z, e] at h1; cases h1
    rw [old x hne]
    exact h1
  | some i =>
    cases e2 : r.lim with
    | none =>
      obtain ⟨h1, _⟩ := h.shut (by rw [e]; rfl) e2
      rw [h1] at hn
      obtain ⟨hn1, hk⟩ := List.mem_filter.mp hn
      have hne : x ≠ r.who := fun z => by
        unfold keepO at hk
        rw [hx, z] at hk
        simp at hk
      rw [old x hne]
      exact ow n hn1 x hx
    | some j =>
      by_cases hne : x = r.who
      · rw [hne, new, e2]
        rfl
      · rw [old x hne]
        rcases h.eff.own n hn with z | z | ⟨m, hm, z⟩
        · rw [hx] at z; cases z
        · rw [hx] at z
          exact absurd (Option.some.inj z) hne
        · exact ow m hm x (z.trans hx)
theorem Tr.asked {ns ns' : List Nd} {rs : List Rw} {w : Cs} {st : Int} {da : Addr} {d : Dd} {r : Rw} {es : List Evt} (hw : r.who = S w) (hl : r.last = st) (hf : lastOf rs (S w) < st) (h : DTr (S w) (limOf rs (S w)) r.lim ns ns' es) : Tr (.ask w st da d) ns rs ns' (putR rs r) es := by
  have new : rowOf (putR rs r) (S w) = some r := by rw [← hw]; exact row_put
  refine ⟨h.eff, fun h1 h2 => h.shut h1 ?_, fun ow => ?_, ?_, fun x hx => ?_, fun w' st' da' d' he hs => ?_⟩
  · unfold limOf at h2
    rw [show S (En.ask w st da d).who = S w from rfl, new] at h2
    exact h2
  · rw [← hw] at h
    exact h.opened ow
  · show lastOf (putR rs r) (S w) = if lastOf rs (S w) < st then st else lastOf rs (S w)
    rw [if_pos hf]
    unfold lastOf
    rw [new]
    exact hl
  · unfold lastOf
    rw [row_put_ne (by rw [hw]; exact hx)]
  · cases he
    omega
theorem Tr.idle {ns : List Nd} {rs : List Rw} {e : En} (h : ∀ w st da d, e = .ask w st da d → st ≤ lastOf rs (S w)) : Tr e ns rs ns rs [] := by
  refine ⟨Eff.same _ _ _, fun h1 h2 => (by rw [h2] at h1; cases h1), id, ?_, fun _ _ => rfl, fun _ _ _ _ _ _ => ⟨rfl, rfl, rfl⟩⟩
  cases e with
  | fin w => rfl
  | ask w st da d =>
    have := h w st da d rfl
    show lastOf rs (S w) = if lastOf rs (S w) < st then st else lastOf rs (S w)
    rw [if_neg (by omega)]
theorem Tr.over {ns ns' : List Nd} {rs : List Rw} {w : Cs} {r : Rw} {es : List Evt} (hw : r.who = S w) (hn : r.lim = none) (hl : r.last = lastOf rs (S w)) (h : DTr (S w) (limOf rs (S w)) none ns ns' es) : Tr (.fin w) ns rs ns' (putR rs r) es := by
  have new : rowOf (putR rs r) (S w) = some r := by rw [← hw]; exact row_put
  refine ⟨h.eff, fun h1 h2 => h.shut h1 rfl, fun ow => ?_, ?_, fun x hx => ?_, fun w' st' da' d' he hs => by cases he⟩
  · rw [← hw, ← hn] at h
    exact h.opened ow
  · show lastOf (putR rs r) (S w) = lastOf rs (S w)
    unfold lastOf at hl ⊢
    rw [new]
    exact hl
  · unfold lastOf
    rw [row_put_ne (by rw [hw]; exact hx)]
end N17

set_option Elab.async false
set_option linter.all false
set_option maxRecDepth 100000
set_option maxHeartbeats 4000000
namespace N17
open PySem PySem.Spec PyProof.Rows
open L2 hiding CX0 E0 pass0 Fun Fun.ok fun_mk
open C8 (Cal CX0 E0 pass0)
open SX (S)
/-- the slots, written out -/
theorem atS {G : L2.St → Hp → Prop} {σ σ' : L2.St} {H : Hp} (e : σ = σ') (h : G σ' H) : G σ H := e ▸ h
theorem sm_rows {H H' : Hp} {d : Addr} {kvs : List (Key × V)} {rs : List Rw} (e : Same H H') (h : RowsAt H d rs) : RowsAt H' d rs := h.mono e
section
variable {P : Program} {w : World} {K : PySem.W.Frag} {mg : Str → Option Value} {base : Heap} {f : Addr} {fd : FuncData}
/-- the outcome of an entry at p -/
def SRes (H : Hp) (p : Addr) (ns : List Nd) (rs : List Rw) (es : List Evt) : Prop := ∃ k y e d ds, H p = some (.tup [.ref k, y, .ref e]) ∧ H k = some (.tup [.ref d, .ref ds]) ∧ NodesAt H d ns ∧ RowsAt H ds rs ∧ EvAt H e es ∧ es.length ≤ 120
abbrev s_ended : Stmt := topS 48
theorem sc_ended : FnScope ["nodes", "sessions", "asker", "limit", "stamp", "answer", "place", "found", "events"] ["nodes", "sessions", "asker"] (C8.fnScope s_ended) := C8.fnScope_by (by decide +kernel)
def spEnded : Sp := fun vs H Q _ => ∃ dn ds ns b rs who, vs = [.ref dn, .ref ds, .str (S who)] ∧ NodesAt H dn ns ∧ NOk b ns ∧ RowsAt H ds rs ∧ (rs.map (·.who)).Nodup ∧ rs.length ≤ 900 ∧ dn ≠ ds ∧
  ∀ p ns' rs' es H', SameX ds H H' → SRes H' p ns' rs' es → NOk (b + 6) ns' → (rs'.map (·.who)).Nodup → rs'.length ≤ rs.length + 1 → Tr (.fin who) ns rs ns' rs' es → Q (.ref p) H'
theorem ok_ended (F : C8.Def K mg "ended" s_ended f fd) (b : Binds K fd ["nodes", "sessions", "asker"] []) (T : Tx K w mg) (c_without_owner : Cal P w K mg base 4 "without_owner" spWithoutOwner []) : Cal P w K mg base 5 "ended" spEnded [] := by
  obtain ⟨aN, bN, g_NEVER, tN⟩ := T.never
  refine C8.cal0 F b .nil sc_ended (fun vs H Q E h => ?_) (fun cdv A outer s H vs Q E hr h => ?_)
  · obtain ⟨_, _, _, _, _, _, rfl, _⟩ := h
    rfl
  · obtain ⟨dn, ds, ns, b, rs, who, rfl, hN, ok, hR, hnd, hrl, hne, k⟩ := h
    have hu := hu_of hr
    refine ⟨_, (pss_cons (ps_asg (pe_dget2 hu (pv 1) (pv 2) (C8.pe_gc (by rfl) g_NEVER) ⟨by rfl, by rfl, by rfl, by rfl⟩) (pg_tup rfl (pgs_cons (pg_name (i := 3) sc_ended.nd rfl (Or.inl rfl)) (pgs_cons (pg_name (i := 4) sc_ended.nd rfl (Or.inl rfl)) (pgs_cons (pg_name (i := 5) sc_ended.nd rfl (Or.inl rfl)) (pgs_cons (pg_name (i := 6) sc_ended.nd rfl (Or.inl rfl)) pgs_nil))))))
        (pss_cons (ps_if (pt_cmp (pc_isN (pv 3))) (pss_one (ps_ret (pe_tup (pa_cons (pe_tup (pa_cons (pv 0) (pa_cons (pv 1) pa_nil))) (pa_cons pe_non (pa_cons (pe_lst pa_nil) pa_nil)))))) pss_nil)
        (pss_cons (ps_asg (C8.pe_c c_without_owner hr (by decide) (by rfl) (pa_cons (pv 0) (pa_cons (pv 2) pa_nil))) (pg_tup rfl (pgs_cons (pg_name (i := 7) sc_ended.nd rfl (Or.inl rfl)) (pgs_cons (pg_name (i := 8) sc_ended.nd rfl (Or.inl rfl)) pgs_nil))))
        (pss_cons (ps_dput hu (pv 1) (pv 2) (pe_tup (pa_cons pe_non (pa_cons (pv 4) (pa_cons (pv 5) (pa_cons (pv 6) pa_nil))))) rfl)
        (pss_one (ps_ret (pe_tup (pa_cons (pe_tup (pa_cons (pv 7) (pa_cons (pv 1) pa_nil))) (pa_cons pe_non (pa_cons (pv 8) pa_nil)))))))))), ?_⟩
    obtain ⟨a, ans, plc, ea, ta⟩ := row_get hR (tN H) (S who)
    refine ⟨_, rfl, ds, rfl, .inl ⟨_, .inl hR.1⟩, _, rfl, _, DGet.k (k := Sum.inr (S who)) hR.1, a, _, ea, ta, rfl, _, _, rfl, _, _, rfl, _, _, rfl, _, _, rfl, rfl, ?_⟩
    refine ⟨_, rfl, _, rfl, ?_⟩
    cases hl : limOf rs (S who) with
    | none =>
      refine iteD rfl ?_
      refine ⟨_, rfl, _, rfl, Nat.le_of_ble_eq_true rfl, fun t nt => newH nt fun H1 e1 h1 => ⟨Nat.zero_le _, fun e ne => newH ne fun H2 e2 h2 => ⟨Nat.le_of_ble_eq_true rfl, fun p np => newH np fun H3 e3 h3 => ?_⟩⟩⟩
      have e03 := (e1.trans e2).trans e3
      exact k p ns rs [] H3 (fun b o _ hb => e03 b o hb) ⟨t, _, e, dn, ds, h3, e3 _ _ (e2 _ _ h1), hN.mono e03, hR.mono e03, ⟨e3 _ _ h2, fun _ h => by cases h⟩, Nat.zero_le _⟩ (ok.mono (by omega)) hnd (by omega) (Tr.idle fun _ _ _ _ z => by cases z)
    | some i =>
      refine iteDn (fun z => by cases z) ?_
      refine ⟨_, rfl, _, rfl, dn, ns, b, S who, rfl, hN, ok, fun p d2 e es ys H1 hd2 hne2 hel e1 hp hN1 hE hperm hsrt hg => ⟨p, _, rfl, sqt hp, rfl, _, _, rfl, _, _, rfl, rfl, ?_⟩⟩
      have hR1 := hR.mono e1
      refine ⟨_, rfl, _, rfl, _, rfl, Nat.le_of_ble_eq_true rfl, fun t nt => newH nt fun H2 e2 h2 => ⟨_, rfl, _, rfl, ds, _, rfl, DPut.k (k := Sum.inr (S who)) (e2 _ _ hR1.1) (by rw [List.length_map]; exact small1000 (by omega)), chgH fun H3 x3 h3 => ?_⟩⟩
      have hR2 := hR1.mono e2
      have p1 := rput_ent rs ⟨S who, t, none, lastOf rs (S who), ans, plc⟩
      have R3 := RowsAt.store (r := ⟨S who, t, none, lastOf rs (S who), ans, plc⟩) hR2 h2 x3 (by rw [← p1]; exact h3)
      have hd2s : d2 ≠ ds := by
        rcases hd2 with rfl | z
        · exact hne
        · exact fun c => by rw [c, hR.1] at z; cases z
      have N3 := NodesAt.sx hR2.1 hd2s x3 (hN1.mono e2)
      have E3 := EvAt.sx hR2.1 x3 (hE.mono e2)
      refine ⟨_, rfl, _, rfl, Nat.le_of_ble_eq_true rfl, fun t4 nt4 => newH nt4 fun H4 e4 h4 => ⟨_, rfl, Nat.le_of_ble_eq_true rfl, fun p5 np5 => newH np5 fun H5 e5 h5 => ?_⟩⟩
      have e35 := e4.trans e5
      refine k p5 _ _ es H5 (fun b o nb hb => e35 _ _ (x3 _ _ nb (e2 _ _ (e1 _ _ hb)))) ⟨t4, _, e, d2, ds, h5, e5 _ _ h4, N3.mono e35, R3.mono e35, E3.mono e35, hel⟩ ((ok.filter _).mono (by omega)) (rput_nd hnd) (by rw [rput_len]; split <;> omega) ?_
      refine Tr.over rfl rfl rfl ?_
      rw [hl]
      exact Shut.dtr ok ⟨rfl, ys, hperm, hsrt, hg⟩
abbrev s_done : Stmt := topS 49
theorem sc_done : FnScope ["state", "entry", "place", "nodes", "sessions", "one", "asker", "stamp", "deed", "limit", "last", "elder", "where", "found", "answer", "events"] ["state", "entry", "place"] (C8.fnScope s_done) := C8.fnScope_by (by decide +kernel)
def spDone : Sp := fun vs H Q _ => ∃ k0 dn ds ns b rs a e plc, vs = [.ref k0, .ref a, plc] ∧ H k0 = some (.tup [.ref dn, .ref ds]) ∧ NodesAt H dn ns ∧ NOk b ns ∧ b < 80000 ∧ RowsAt H ds rs ∧ (rs.map (·.who)).Nodup ∧ rs.length ≤ 900 ∧ EnAt H a e ∧ EnOk e ∧
  ∀ p ns' rs' es H', Same H H' → SRes H' p ns' rs' es → NOk (b + 6) ns' → (rs'.map (·.who)).Nodup → rs'.length ≤ rs.length + 1 → Tr e ns rs ns' rs' es → Q (.ref p) H'
theorem ok_done (F : C8.Def K mg "done" s_done f fd) (b : KBinds K fd ["state", "entry", "place"] ["place"] g2 g2) (T : Tx K w mg) (c_is_entry : Cal P w K mg base 6 "is_entry" spIsEntry [])
    (c_ended : Cal P w K mg base 5 "ended" spEnded []) (c_done_deed : Cal P w K mg base 7 "done_deed" spDoneDeed []) : CalK P w K mg base 8 "done" ["place"] spDone := by
  obtain ⟨aN, bN, g_NEVER, tN⟩ := T.never
  refine calK0 F b sc_done (fun vs H Q E h => ?_) (fun cdv A outer s H vs Q E hr h => ?_)
  · obtain ⟨_, _, _, _, _, _, _, _, _, rfl, _⟩ := h
    rfl
  · obtain ⟨k0, dn, ds, ns, b, rs, a, e, plc, rfl, hk0, hN, ok, hb, hR, hnd, hrl, he, heo, k⟩ := h
    have hu := hu_of hr
    refine ⟨_, (pss_cons (ps_if (pt_not (pt_val (C8.pe_c c_is_entry hr (by decide) (by rfl) (pa_cons (pv 1) pa_nil)))) (pss_one ps_never) pss_nil)
        (pss_cons (ps_asg (pe_lc rfl sc_done.nd (pi_tup (pv 0)) (L2.blkOk_by (own := [("one", 5)]) (N := ["state", "entry", "place", "nodes", "sessions", "one", "asker", "stamp", "deed", "limit", "last", "elder", "where", "found", "answer", "events"]) (sc := C8.fnScope s_done) (by decide +kernel)) (fun _ _ _ _ _ => (pg_name (i := 5) sc_done.nd rfl (Or.inl rfl))) (fun _ _ _ _ _ => pts_nil) (fun _ _ _ _ _ => (pe_callTy call_dictD (by rfl) T.n_dict (by decide +kernel) (pa_cons (pv 5) pa_nil)))) (pg_lst rfl (pgs_cons (pg_name (i := 3) sc_done.nd rfl (Or.inl rfl)) (pgs_cons (pg_name (i := 4) sc_done.nd rfl (Or.inl rfl)) pgs_nil))))
        (pss_cons (ps_set (i := 6) sc_done.nd rfl (Or.inl rfl) (pe_ix ix_tup (pv 1) pe_int (fun _ _ => rfl)))
        (pss_cons (ps_if (pt_cmpR op_eq (pe_ix ix_tup (pv 1) pe_int (fun _ _ => rfl)) pe_str (nomark _)) (pss_one (ps_ret (C8.pe_c c_ended hr (by decide) (by rfl) (pa_cons (pv 3) (pa_cons (pv 4) (pa_cons (pv 6) pa_nil)))))) pss_nil)
        (pss_cons (ps_asg (pe_slice sl_tup (pv 1) (po_some pe_int) po_none) (pg_tup rfl (pgs_cons (pg_name (i := 7) sc_done.nd rfl (Or.inl rfl)) (pgs_cons (pg_name (i := 8) sc_done.nd rfl (Or.inl rfl)) pgs_nil))))
        (pss_cons (ps_asg (pe_dget2 hu (pv 4) (pv 6) (C8.pe_gc (by rfl) g_NEVER) ⟨by rfl, by rfl, by rfl, by rfl⟩) (pg_tup rfl (pgs_cons (pg_name (i := 9) sc_done.nd rfl (Or.inl rfl)) (pgs_cons (pg_name (i := 10) sc_done.nd rfl (Or.inl rfl)) (pgs_cons (pg_name (i := 11) sc_done.nd rfl (Or.inl rfl)) (pgs_cons (pg_name (i := 12) sc_done.nd rfl (Or.inl rfl)) pgs_nil))))))
        (pss_cons (ps_if (pt_cmpR op_le (pv 7) (pv 10) (nomark _)) (pss_one (ps_ret (pe_tup (pa_cons (pe_tup (pa_cons (pv 3) (pa_cons (pv 4) pa_nil))) (pa_cons (pe_ifExp (pt_cmpR op_eq (pv 7) (pv 10) (nomark _)) (pv 11) pe_non) (pa_cons (pe_lst pa_nil) pa_nil)))))) pss_nil)
        (pss_cons (ps_asg (C8.pe_c c_done_deed hr (by decide) (by rfl) (pa_cons (pv 3) (pa_cons (pv 9) (pa_cons (pv 8) (pa_cons (pv 6) pa_nil))))) (pg_tup rfl (pgs_cons (pg_name (i := 13) sc_done.nd rfl (Or.inl rfl)) (pgs_cons (pg_name (i := 9) sc_done.nd rfl (Or.inl rfl)) (pgs_cons (pg_name (i := 14) sc_done.nd rfl (Or.inl rfl)) (pgs_cons (pg_name (i := 15) sc_done.nd rfl (Or.inl rfl)) pgs_nil))))))
        (pss_cons (ps_dput hu (pv 4) (pv 6) (pe_tup (pa_cons (pv 9) (pa_cons (pv 7) (pa_cons (pv 14) (pa_cons (pv 2) pa_nil))))) rfl)
        (pss_one (ps_ret (pe_tup (pa_cons (pe_tup (pa_cons (pe_callTy call_dictD (by rfl) T.n_dict (by decide +kernel) (pa_cons (pv 13) pa_nil)) (pa_cons (pv 4) pa_nil))) (pa_cons (pv 14) (pa_cons (pv 15) pa_nil))))))))))))))), ?_⟩
    refine ⟨_, rfl, a, e, rfl, he, heo, fun H1 e1 => ⟨_, rfl, ?_⟩⟩
    have hN1 := hN.mono e1
    have hR1 := hR.mono e1
    have he1 := he.mono e1
    have hk1 := e1 _ _ hk0
    refine ⟨_, rfl, k0, rfl, ⟨_, sqt hk1⟩, fun D nD => ?_⟩
    refine lc_it walk_tup (fun i H' => Same H1 H' ∧ ((i = 0 ∧ H' D = some (.lst [])) ∨ (i = 1 ∧ ∃ d1, H1 d1 = none ∧ H' d1 = some (.dK (ns.map ent)) ∧ H' D = some (.lst [.ref d1])) ∨
        (i = 2 ∧ ∃ d1 d2, d1 ≠ d2 ∧ H1 d1 = none ∧ H1 d2 = none ∧ H' d1 = some (.dK (ns.map ent)) ∧ H' d2 = some (.dK (rs.map entR)) ∧ H' D = some (.lst [.ref d1, .ref d2])))) ⟨sm_new nD, .inl ⟨rfl, upd_same⟩⟩ (fun i H' _ p => sqt (p.1 _ _ hk1)) (fun i x Ha Hb hi p y => ?_) (fun Ha p => ?_)
    · obtain ⟨rfl, hx⟩ := y
      obtain ⟨sm, ⟨rfl, hD⟩ | ⟨rfl, d1, m1, hd1, hD⟩ | ⟨rfl, _⟩⟩ := p
      · cases hx
        refine ⟨rfl, _, rfl, dn, _, rfl, .inl (sm _ _ hN1.1), fun d1 n1 => newH n1 fun Hc ec hc => ⟨_, ec _ _ hD, Nat.lt_of_lt_of_le (by decide : 0 < 1) (Nat.le_of_ble_eq_true rfl), sm_mut (sm.trans ec) nD, .inr (.inl ⟨rfl, d1, sm_free sm n1, ?_, ?_⟩)⟩⟩
        · rw [upd_ne (ne_of_none hD n1).symm]
          exact hc
        · rw [upd_same]
          rfl
      · cases hx
        refine ⟨rfl, _, rfl, ds, _, rfl, .inl (sm _ _ hR1.1), fun d2 n2 => newH n2 fun Hc ec hc => ⟨_, ec _ _ hD, Nat.lt_of_lt_of_le (by decide : 1 < 2) (Nat.le_of_ble_eq_true rfl), sm_mut (sm.trans ec) nD, .inr (.inr ⟨rfl, d1, d2, ne_of_none hd1 n2, m1, sm_free sm n2, ?_, ?_, ?_⟩)⟩⟩
        · rw [upd_ne (ne_of hd1 hD (by intro z; cases z))]
          exact ec _ _ hd1
        · rw [upd_ne (ne_of_none hD n2).symm]
          exact hc
        · rw [upd_same]
          rfl
      · exact absurd hi (Nat.lt_irrefl 2)
    · obtain ⟨sm, ⟨z, _⟩ | ⟨z, _⟩ | ⟨_, d1, d2, hne, m1, m2, hd1, hd2, hD⟩⟩ := p
      · cases z
      · cases z
      have N2 : NodesAt Ha d1 ns := ⟨hd1, fun n hn => sm _ _ (hN1.2 n hn)⟩
      have R2 : RowsAt Ha d2 rs := ⟨hd2, fun n hn => sm _ _ (hR1.2 n hn)⟩
      have e2 := e1.trans sm
      have he2 := he1.mono sm
      have f1 := sm_free e1 m1
      have f2 := sm_free e1 m2
      refine ⟨D, _, rfl, sql hD, rfl, _, _, rfl, _, _, rfl, rfl, ?_⟩
      obtain ⟨ha2, hin2⟩ := he2
      cases e with
      | fin who =>
        refine ⟨_, rfl, a, _, _, _, rfl, rfl, sqt ha2, rfl, ?_⟩
        refine ⟨_, rfl, a, _, _, _, rfl, rfl, sqt ha2, rfl, rfl, _, rfl, iteD rfl ?_⟩
        refine ⟨_, rfl, _, rfl, _, rfl, d1, d2, ns, b, rs, who, rfl, N2, ok, R2, hnd, hrl, hne, fun p ns' rs' es H3 x3 r3 ok3 nd3 l3 tr => k p ns' rs' es H3 (sm_sx e2 x3 f2) r3 ok3 nd3 l3 tr⟩
      | ask who stamp da dd =>
        refine ⟨_, rfl, a, _, _, _, rfl, rfl, sqt ha2, rfl, ?_⟩
        refine ⟨_, rfl, a, _, _, _, rfl, rfl, sqt ha2, rfl, rfl, _, rfl, iteDn (by decide +kernel) ?_⟩
        refine ⟨_, rfl, _, rfl, a, _, rfl, sqt ha2, (fun z => (by decide : ¬ HT.sIx 4 0 (some 2) = 0) z.1), fun t nt => newH nt fun H3 e3 h3 => ⟨t, _, rfl, sqt h3, rfl, _, _, rfl, _, _, rfl, rfl, ?_⟩⟩
        have N3 := N2.mono e3
        have R3 := R2.mono e3
        obtain ⟨a4, ans, pl4, ea, ta⟩ := row_get R3 (tN H3) (S who)
        refine ⟨_, rfl, d2, rfl, .inl ⟨_, .inl R3.1⟩, _, rfl, _, DGet.k (k := Sum.inr (S who)) R3.1, a4, _, ea, ta, rfl, _, _, rfl, _, _, rfl, _, _, rfl, _, _, rfl, rfl, ?_⟩
        refine ⟨_, rfl, _, rfl, _, _, rfl, rfl, _, rfl, ite2 (fun c => ?_) (fun c => ?_)⟩
        · have hst : stamp ≤ lastOf rs (S who) := of_decide_eq_true c
          have stale : ∀ (p t4 : Addr) (y : V) (e : Addr) (H4 H5 H6 : Hp), Same H3 H4 → H4 t4 = some (.tup [.ref d1, .ref d2]) → Same H4 H5 → H5 e = some (.lst []) → Same H5 H6 → H6 p = some (.tup [.ref t4, y, .ref e]) → Q (.ref p) H6 := by
            intro p t4 y e H4 H5 H6 e4 h4 e5 h5 e6 h6
            have e36 := (e4.trans e5).trans e6
            refine k p ns rs [] H6 ((e2.trans e3).trans e36) ⟨t4, _, e, d1, d2, h6, e6 _ _ (e5 _ _ h4), N3.mono e36, R3.mono e36, ⟨e6 _ _ h5, fun _ h => by cases h⟩, Nat.zero_le _⟩ (ok.mono (by omega)) hnd (by omega) (Tr.idle ?_)
            intro w' st' da' d' z
            cases z
            exact hst
          refine ⟨_, rfl, _, rfl, Nat.le_of_ble_eq_true rfl, fun t4 nt4 => newH nt4 fun H4 e4 h4 => ⟨_, rfl, _, rfl, rfl, _, rfl, ite2 (fun _ => ?_) (fun _ => ?_)⟩⟩
          · exact ⟨_, rfl, Nat.zero_le _, fun e ne => newH ne fun H5 e5 h5 => ⟨Nat.le_of_ble_eq_true rfl, fun p np => newH np fun H6 e6 h6 => stale p t4 _ e H4 H5 H6 e4 h4 e5 h5 e6 h6⟩⟩
          · exact ⟨Nat.zero_le _, fun e ne => newH ne fun H5 e5 h5 => ⟨Nat.le_of_ble_eq_true rfl, fun p np => newH np fun H6 e6 h6 => stale p t4 _ e H4 H5 H6 e4 h4 e5 h5 e6 h6⟩⟩
        · have hst : lastOf rs (S who) < stamp := by
            have c2 : ¬ stamp ≤ lastOf rs (S who) := fun z => c (decide_eq_true z)
            omega
          refine ⟨_, rfl, _, rfl, _, rfl, _, rfl, d1, ns, b, limOf rs (S who), da, dd, S who, rfl, N3, ok, hb, DdAt.mono e3 hin2, heo.2.2, fun p d4 lim' y e es2 es H4 hd4 hel e4 hp4 N4 E4 ok4 dtr => ⟨p, _, rfl, sqt hp4, rfl, _, _, rfl, _, _, rfl, _, _, rfl, _, _, rfl, rfl, ?_⟩⟩
          refine atS (σ' := [some (.ref k0), some (.ref a), some plc, some (.ref d1), some (.ref d2), none, some (.str (S who)), some (.int stamp), some (.ref da), some (limV lim'), some (.int (lastOf rs (S who))), some ans, some pl4, some (.ref d4), some y, some (.ref e)]) rfl ?_
          have R4 := R3.mono e4
          have d42 : d4 ≠ d2 := by
            rcases hd4 with rfl | z
            · exact hne
            · exact fun c => by rw [c, R3.1] at z; cases z
          refine ⟨_, rfl, _, rfl, _, rfl, _, rfl, Nat.le_of_ble_eq_true rfl, fun t5 nt5 => newH nt5 fun H5 e5 h5 => ⟨_, rfl, _, rfl, d2, _, rfl, DPut.k (k := Sum.inr (S who)) (e5 _ _ R4.1) (by rw [List.length_map]; exact small1000 (by omega)), chgH fun H6 x6 h6 => ?_⟩⟩
          have R5 := R4.mono e5
          have p1 := rput_ent rs ⟨S who, t5, lim', stamp, y, plc⟩
          have R6 := RowsAt.store (r := ⟨S who, t5, lim', stamp, y, plc⟩) R5 h5 x6 (by rw [← p1]; exact h6)
          have N6 := NodesAt.sx R5.1 d42 x6 (N4.mono e5)
          have E6 := EvAt.sx R5.1 x6 (E4.mono e5)
          refine ⟨_, rfl, d4, _, rfl, .inl N6.1, fun d7 n7 => newH n7 fun H7 e7 h7 => ⟨_, rfl, Nat.le_of_ble_eq_true rfl, fun t8 nt8 => newH nt8 fun H8 e8 h8 => ⟨_, rfl, _, rfl, Nat.le_of_ble_eq_true rfl, fun p9 np9 => newH np9 fun H9 e9 h9 => ?_⟩⟩⟩
          have e69 := (e7.trans e8).trans e9
          have N7 : NodesAt H7 d7 es2 := ⟨h7, fun n hn => e7 _ _ (N6.2 n hn)⟩
          have g1 : Same H H9 := (sm_sx (((e2.trans e3).trans e4).trans e5) x6 f2).trans e69
          have g2 : SRes H9 p9 es2 (putR rs ⟨S who, t5, lim', stamp, y, plc⟩) es := ⟨t8, _, e, d7, d2, h9, e9 _ _ h8, N7.mono (e8.trans e9), R6.mono e69, E6.mono e69, hel⟩
          have g3 : (putR rs ⟨S who, t5, lim', stamp, y, plc⟩).length ≤ rs.length + 1 := by rw [rput_len]; split <;> omega
          have g4 : Tr (.ask who stamp da dd) ns rs es2 (putR rs ⟨S who, t5, lim', stamp, y, plc⟩) es := Tr.asked rfl rfl hst dtr
          exact k p9 _ _ es H9 g1 g2 ok4 (rput_nd hnd) g3 g4
end
end N17

set_option Elab.async false
set_option linter.all false
set_option maxRecDepth 100000
set_option maxHeartbeats 4000000
namespace N17
open PySem PySem.Spec PyProof.Rows
open L2 hiding CX0 E0 pass0 Fun Fun.ok fun_mk
open C8 (Cal CX0 E0 pass0)
open SX (S)
/-! ### the generator's pool -/
/-- only the pool changed -/
structure Gx (a : Addr) (H H' : Hp) : Prop where
  x : SameX a H H'
  pool : Pool H' a
theorem Gx.refl {a : Addr} {H : Hp} (h : Pool H a) : Gx a H H := ⟨fun _ _ _ h => h, h⟩
theorem Gx.trans {a : Addr} {H H1 H2 : Hp} (h : Gx a H H1) (g : Gx a H1 H2) : Gx a H H2 := ⟨fun b o n hb => g.x b o n (h.x b o n hb), g.pool⟩
theorem Gx.s {a : Addr} {H H1 H2 : Hp} (h : Gx a H H1) (e : Same H1 H2) : Gx a H H2 := ⟨fun b o n hb => e b o (h.x b o n hb), h.pool.mono e⟩
theorem Pool.s {a : Addr} {H H1 : Hp} (h : Pool H a) (e : Same H H1) : Gx a H H1 := (Gx.refl h).s e
theorem Pool.ne {H : Hp} {a b : Addr} {o : HO} (h : Pool H a) (hb : H b = some o) (n : ∀ xs, o ≠ .lst xs) : b ≠ a := fun z => by
  obtain ⟨x, y, h1, _⟩ := h
  rw [z, h1] at hb
  exact n _ (Option.some.inj hb).symm
theorem Gx.tup {a b : Addr} {H H1 : Hp} {xs : List V} (p : Pool H a) (g : Gx a H H1) (h : H b = some (.tup xs)) : H1 b = some (.tup xs) := g.x _ _ (p.ne h (by intro _ z; cases z)) h
theorem Gx.dk {a b : Addr} {H H1 : Hp} {xs : List (Key × V)} (p : Pool H a) (g : Gx a H H1) (h : H b = some (.dK xs)) : H1 b = some (.dK xs) := g.x _ _ (p.ne h (by intro _ z; cases z)) h
theorem Gx.nodes {a d : Addr} {H H1 : Hp} {ns : List Nd} (p : Pool H a) (g : Gx a H H1) (h : NodesAt H d ns) : NodesAt H1 d ns := ⟨g.dk p h.1, fun n hn => g.tup p (h.2 n hn)⟩
theorem Gx.rows {a d : Addr} {H H1 : Hp} {rs : List Rw} (p : Pool H a) (g : Gx a H H1) (h : RowsAt H d rs) : RowsAt H1 d rs := ⟨g.dk p h.1, fun n hn => g.tup p (h.2 n hn)⟩
/-- a list that stood, not the pool -/
theorem Pool.sep {H : Hp} {a b : Addr} (h : Pool H a) (n : H b = none) : a ≠ b := fun z => by
  obtain ⟨x, y, h1, _⟩ := h
  rw [z, n] at h1
  cases h1
theorem fmod_in {x m : Int} (h : 0 < m) : 0 ≤ x.fmod m ∧ x.fmod m < m := ⟨Int.fmod_nonneg_of_pos x h, Int.fmod_lt_of_pos x h⟩
theorem cut_mem {xs : List V} {lo hi : Option Int} {v : V} (h : v ∈ cutV xs lo hi) : v ∈ xs := List.mem_of_mem_drop (List.mem_of_mem_take h)
@[elab_as_elim] theorem bitI {motive : Int → Prop} {k : Bool} (h : ∀ t : Int, 0 ≤ t → t ≤ 1 → motive t) : motive (if k = true then 1 else 0) := by
  cases k with
  | true => exact h _ (by decide) (by decide)
  | false => exact h _ (by decide) (by decide)
section
variable {P : Program} {w : World} {K : PySem.W.Frag} {mg : Str → Option Value} {base : Heap} {f : Addr} {fd : FuncData}
abbrev s_law_pool : Stmt := topS 51
theorem sc_law_pool : FnScope ["_law_script", "_law_k", "_law_cell", "_law_size", "_law_mixed"] ["_law_script", "_law_k"] (C8.fnScope s_law_pool) := C8.fnScope_by (by decide +kernel)
def spPool : Sp := fun vs H Q _ => ∃ a k, ∃ ns : List Int, vs = [.ref a, .int k] ∧ SqL K H a (ns.map V.int) ∧ ns.length ≤ 900 ∧ 0 ≤ k ∧ k ≤ 8 ∧ ∀ p H', Same H H' → H p = none → Pool H' p → Q (.ref p) H'
theorem ok_law_pool (F : C8.Def K mg "_law_pool" s_law_pool f fd) (b : Binds K fd ["_law_script", "_law_k"] []) (T : Tx K w mg) : Cal P w K mg base 1 "_law_pool" (spPool (K := K)) [] := by
  refine C8.cal0 F b .nil sc_law_pool (fun vs H Q E h => ?_) (fun cdv A outer s H vs Q E hr h => ?_)
  · obtain ⟨_, _, _, rfl, _⟩ := h
    rfl
  · obtain ⟨a, kk, ns, rfl, ha, hl, hk0, hk8, k⟩ := h
    refine ⟨_, (pss_cons (ps_set (i := 2) sc_law_pool.nd rfl (Or.inl rfl) (pe_ix ix_list (pe_op op_cat (pe_slice sl_list (pv 0) (po_some (pv 1)) (po_some (pe_op op_add (pv 1) pe_int))) (pe_lst (pa_cons pe_int pa_nil))) pe_int (fun _ _ => rfl)))
        (pss_cons (ps_set (i := 3) sc_law_pool.nd rfl (Or.inl rfl) (pe_callB call_abs (by rfl) T.n_abs (by decide +kernel) (pa_cons (pv 2) pa_nil)))
        (pss_cons (ps_set (i := 4) sc_law_pool.nd rfl (Or.inl rfl) (pe_op op_mod (pe_op op_mul (pe_op op_add (pe_op op_add (pe_op op_mod (pv 3) pe_int) (pe_op op_mul pe_int (pv 1))) pe_int) pe_int) pe_int))
        (pss_one (ps_ret (pe_lst (pa_cons (pe_op op_mul (pv 3) (pe_callTy call_int1 (by rfl) T.n_int (by decide +kernel) (pa_cons (pe_cmpR op_ge (pv 3) (pe_op op_pow pe_int pe_int) (nomark _)) pa_nil))) (pa_cons (pv 4) pa_nil)))))))), ?_⟩
    refine ⟨_, rfl, _, rfl, _, rfl, _, rfl, _, _, rfl, rfl, _, rfl, a, _, rfl, ha, fun q nq => newH nq fun H1 e1 h1 => ⟨Nat.le_of_ble_eq_true rfl, fun z nz => newH nz fun H2 e2 h2 => ?_⟩⟩
    have hc : (cutV (ns.map V.int) (some kk) (some (kk + 1))).length ≤ 900 := Nat.le_trans (cutV_length _ _ _) (by rw [List.length_map]; exact hl)
    have hmem : ∀ v ∈ cutV (ns.map V.int) (some kk) (some (kk + 1)), ∃ i, v = V.int i := fun v hv => by
      obtain ⟨i, _, rfl⟩ := List.mem_map.mp (cut_mem hv)
      exact ⟨i, rfl⟩
    generalize cutV (ns.map V.int) (some kk) (some (kk + 1)) = cl at h1 hc hmem
    obtain ⟨i, hi⟩ : ∃ i, (cl ++ [V.int 0])[0]? = some (V.int i) := by
      cases cl with
      | nil => exact ⟨0, rfl⟩
      | cons v r =>
        obtain ⟨i, rfl⟩ := hmem v (by simp)
        exact ⟨i, rfl⟩
    refine ⟨q, z, _, _, rfl, rfl, e2 _ _ h1, h2, sz5 (by show cl.length + 1 ≤ 1000; omega), fun r nr => newH nr fun H3 e3 h3 => ?_⟩
    refine ⟨r, _, _, _, rfl, rfl, sql h3, atI_nat (j := 0) hi, ?_⟩
    refine ⟨_, rfl, i, rfl, ?_⟩
    have hs : 0 ≤ (if i < 0 then -i else i) := by split <;> omega
    generalize (if i < 0 then -i else i) = sz at hs
    refine ⟨_, rfl, _, _, rfl, rfl, (show (0 : Int) < 2147483587 by decide), _, rfl, _, _, rfl, rfl, .inl ⟨by decide, by decide⟩, _, _, rfl, rfl, _, _, rfl, rfl, _, _, rfl, rfl, .inr ⟨by decide, by decide⟩, _, _, rfl, rfl, (show (0 : Int) < 2147483647 by decide), ?_⟩
    generalize (sz % 2147483587 + 6211 * kk + 97) * 48271 = big
    have y0 := Int.emod_nonneg big (show (2147483647 : Int) ≠ 0 by decide)
    have y1 := Int.emod_lt_of_pos big (show (0 : Int) < 2147483647 by decide)
    refine ⟨_, rfl, _, rfl, _, _, rfl, rfl, ⟨by decide, by decide, by decide⟩, _, _, rfl, rfl, .inr ⟨_, rfl, ?_⟩⟩
    refine bitI fun t t0 t1 => ⟨_, _, rfl, rfl, .inr ⟨by omega, by omega⟩, _, rfl, Nat.le_of_ble_eq_true rfl, fun p np => newH np fun H4 e4 h4 => ?_⟩
    exact k p H4 (((e1.trans e2).trans e3).trans e4) (sm_free ((e1.trans e2).trans e3) np) ⟨_, _, h4, Int.mul_nonneg hs t0, y0, y1⟩
abbrev s_law_take : Stmt := topS 52
theorem sc_law_take : FnScope ["_law_pool_here", "_law_many", "_law_found"] ["_law_pool_here", "_law_many"] (C8.fnScope s_law_take) := C8.fnScope_by (by decide +kernel)
def spTake : Sp := fun vs H Q _ => ∃ a m, vs = [.ref a, .int m] ∧ Pool H a ∧ 0 < m ∧ m < 1000000 ∧ ∀ r H', Gx a H H' → 0 ≤ r → r < m → Q (.int r) H'
theorem ok_law_take (F : C8.Def K mg "_law_take" s_law_take f fd) (b : Binds K fd ["_law_pool_here", "_law_many"] []) (T : Tx K w mg) : Cal P w K mg base 1 "_law_take" spTake [] := by
  refine C8.cal0 F b .nil sc_law_take (fun vs H Q E h => ?_) (fun cdv A outer s H vs Q E hr h => ?_)
  · obtain ⟨_, _, rfl, _⟩ := h
    rfl
  · obtain ⟨a, m, rfl, ⟨x, y, ha, hx, hy, hy2⟩, hm, hm2, k⟩ := h
    refine ⟨_, (pss_cons (ps_if (pt_cmpR op_gt (pe_ix ix_list (pv 0) pe_int (fun _ _ => rfl)) pe_int (nomark _)) (pss_cons (ps_set (i := 2) sc_law_take.nd rfl (Or.inl rfl) (pe_op op_modN (pe_ix ix_list (pv 0) pe_int (fun _ _ => rfl)) (pv 1)))
        (pss_cons (ps_asg (pe_op op_fdivN (pe_ix ix_list (pv 0) pe_int (fun _ _ => rfl)) (pv 1)) (pg_sub (pv 0) pe_int set_list))
        (pss_one (ps_ret (pv 2))))) pss_nil)
        (pss_cons (ps_asg (pe_op op_mod (pe_op op_add (pe_op op_mul (pe_ix ix_list (pv 0) pe_int (fun _ _ => rfl)) pe_int) pe_int) pe_int) (pg_sub (pv 0) pe_int set_list))
        (pss_one (ps_ret (pe_op op_modN (pe_op op_fdiv (pe_op op_mod (pe_op op_mul (pe_ix ix_list (pv 0) pe_int (fun _ _ => rfl)) (pe_ix ix_list (pv 0) pe_int (fun _ _ => rfl))) pe_int) pe_int) (pv 1)))))), ?_⟩
    refine ⟨_, rfl, a, _, _, _, rfl, rfl, sql ha, rfl, _, _, rfl, rfl, _, rfl, ite2 (fun c => ?_) (fun c => ?_)⟩
    · refine ⟨_, rfl, a, _, _, _, rfl, rfl, sql ha, rfl, _, rfl, x, m, rfl, rfl, by omega, ?_⟩
      refine ⟨_, rfl, a, _, _, _, rfl, rfl, sql ha, rfl, _, rfl, x, m, rfl, rfl, ⟨by omega, by omega⟩, ?_⟩
      refine ⟨_, rfl, a, _, _, 0, rfl, rfl, ha, rfl, chgH fun H1 x1 h1 => ?_⟩
      refine ⟨_, rfl, k _ _ ⟨x1, _, _, h1, Int.fdiv_nonneg hx (by omega), hy, hy2⟩ (fmod_in hm).1 (fmod_in hm).2⟩
    · refine ⟨_, rfl, a, _, _, _, rfl, rfl, sql ha, rfl, _, _, rfl, rfl, .inr ⟨by decide, by decide⟩, _, _, rfl, rfl, _, _, rfl, rfl, (show (0 : Int) < 2147483647 by decide), ?_⟩
      refine ⟨_, rfl, a, _, _, 1, rfl, rfl, ha, rfl, chgH fun H1 x1 h1 => ?_⟩
      have y0 := Int.emod_nonneg (y * 39373 + 12011) (show (2147483647 : Int) ≠ 0 by decide)
      have y1 := Int.emod_lt_of_pos (y * 39373 + 12011) (show (0 : Int) < 2147483647 by decide)
      refine ⟨_, rfl, a, _, _, _, rfl, rfl, sql h1, rfl, _, rfl, a, _, _, _, rfl, rfl, sql h1, rfl, _, _, rfl, rfl, .inl ⟨by omega, by omega⟩, _, _, rfl, rfl, (show (0 : Int) < 2147483629 by decide), _, _, rfl, rfl, ⟨by decide, by decide⟩, _, rfl, _, m, rfl, rfl, by omega, ?_⟩
      exact k _ _ ⟨x1, _, _, h1, hx, y0, y1⟩ (fmod_in hm).1 (fmod_in hm).2
end
end N17

set_option Elab.async false
set_option linter.all false
set_option maxRecDepth 100000
set_option maxHeartbeats 4000000
namespace N17
open PySem PySem.Spec PyProof.Rows
open L2 hiding CX0 E0 pass0 Fun Fun.ok fun_mk
open C8 (Cal CX0 E0 pass0)
open SX (S)
/-- all but the lists stand -/
def Tp (H H' : Hp) : Prop := ∀ b o, (∀ xs, o ≠ .lst xs) → H b = some o → H' b = some o
theorem Tp.refl (H : Hp) : Tp H H := fun _ _ _ h => h
theorem Gx.tp {a : Addr} {H H' : Hp} (p : Pool H a) (g : Gx a H H') : Tp H H' := fun b o n h => g.x b o (p.ne h n) h
theorem tp_upd {H : Hp} {D : Addr} {xs : List V} {o : HO} (h : H D = some (.lst xs)) : Tp H (upd H D o) := fun b u n hb => by
  rw [upd_ne fun z => by rw [z, h] at hb; exact n _ (Option.some.inj hb).symm]
  exact hb
theorem Tp.trans {H H1 H2 : Hp} (h : Tp H H1) (g : Tp H1 H2) : Tp H H2 := fun b o n hb => g b o n (h b o n hb)
theorem Same.tp {H H' : Hp} (e : Same H H') : Tp H H' := fun b o _ h => e b o h
/-- a comprehension that draws from the pool; R holds of each item -/
theorem lc_gx {J : It} {n : Nat} {fn : Nat → V} {a : Addr} (w : Walk J n (fun _ => True) (YFn fn)) {g : TG} {tt : TT} {te : TE} {vs : List Nat} {σ : L2.St} {H1 : Hp} {D : Addr} {Qd : Hp → Prop} (R : V → Hp → Prop) (nD : H1 D = none) (hp : Pool H1 a) (hn : n ≤ 1000)
    (st : ∀ v H H', Tp H H' → R v H → R v H')
    (hs : ∀ i H (Nx : Hp → Prop), i < n → Gx a H1 H → Pool H a → (∀ y H4, Gx a H H4 → R y H4 → ∃ acc, H4 D = some (.lst acc) ∧ acc.length < sizeLine ∧ Nx (upd H4 D (.lst (acc ++ [y])))) →
      g (fn i) (wipe σ vs) H fun σ2 H2 => wipe σ2 vs = wipe σ vs ∧ tt σ2 H2 fun b H3 => if b = true then te σ2 H3 fun y H4 => ∃ acc, H4 D = some (.lst acc) ∧ acc.length < sizeLine ∧ Nx (upd H4 D (.lst (acc ++ [y]))) else Nx H3)
    (hd : ∀ H xs, Gx a H1 H → H D = some (.lst xs) → xs.length = n → (∀ x ∈ xs, R x H) → Qd H) :
    ∃ W : Nat → Nat → Hp → Prop, (∃ m, W 0 m (upd H1 D (.lst []))) ∧ ∀ i m H, W i m H →
      (J.stop i H ∧ Qd H) ∨ (J.go i H ∧ ∃ Nx : Hp → Prop, (∀ H', Nx H' → ∃ m', m' < m ∧ W (i + 1) m' H') ∧ ∀ x H', J.yld i H x H' → g x (wipe σ vs) H' fun σ2 H2 => wipe σ2 vs = wipe σ vs ∧ tt σ2 H2 fun b H3 =>
        if b = true then te σ2 H3 fun y H4 => ∃ acc, H4 D = some (.lst acc) ∧ acc.length < sizeLine ∧ Nx (upd H4 D (.lst (acc ++ [y]))) else Nx H3) := by
  have hDa : a ≠ D := hp.sep nD
  refine lc_it w (fun i H => Gx a H1 H ∧ ∃ xs, H D = some (.lst xs) ∧ xs.length = i ∧ ∀ x ∈ xs, R x H) ⟨hp.s (sm_new nD), [], upd_same, rfl, fun _ h => by cases h⟩ (fun _ _ _ _ => trivial) (fun i x H H' hi p y => ?_) (fun H ⟨p, xs, h1, h2, h3⟩ => hd H xs p h1 h2 h3)
  obtain ⟨p1, xs, p2, p3, p4⟩ := p
  obtain ⟨rfl, rfl⟩ := y
  have hs1 := hs i H' (fun H5 => Gx a H1 H5 ∧ ∃ xs, H5 D = some (.lst xs) ∧ xs.length = i + 1 ∧ ∀ x ∈ xs, R x H5) hi p1 p1.pool fun v H4 g4 rv => by
    have h4 := g4.x _ _ hDa.symm p2
    refine ⟨xs, h4, small1000 (by omega), ⟨fun b o n hb => ?_, ?_⟩, xs ++ [v], upd_same, by rw [List.length_append, List.length_singleton]; omega, fun z hz => ?_⟩
    · rw [upd_ne (ne_of_none hb nD)]
      exact g4.x b o n (p1.x b o n hb)
    · obtain ⟨x, y, q, r⟩ := g4.pool
      exact ⟨x, y, by rw [upd_ne hDa]; exact q, r⟩
    · rcases List.mem_append.mp hz with hz | hz
      · exact st z _ _ ((g4.tp p1.pool).trans (tp_upd h4)) (p4 z hz)
      · rw [List.mem_singleton.mp hz]
        exact st v _ _ (tp_upd h4) rv
  exact hs1
theorem joinL_one : ∀ cs : List Nat, TL.joinL [] (cs.map fun c => [c]) = cs
  | [] => rfl
  | [c] => rfl
  | c :: d :: r => by
    have ih := joinL_one (d :: r)
    simp only [List.map_cons, TL.joinL] at ih ⊢
    rw [ih]
    rfl
theorem all_signs {Pc : Nat → Prop} : ∀ {xs : List V}, (∀ x ∈ xs, ∃ c, x = V.str (S [c]) ∧ Pc c) → ∃ cs : Cs, xs = (cs.map fun c => S [c]).map V.str ∧ ∀ c ∈ cs, Pc c
  | [], _ => ⟨[], rfl, fun _ h => by cases h⟩
  | x :: r, h => by
    obtain ⟨z, rfl, hz⟩ := h x (by simp)
    obtain ⟨zs, rfl, hs⟩ := all_signs fun y hy => h y (List.mem_cons_of_mem _ hy)
    exact ⟨z :: zs, rfl, fun y hy => by
      rcases List.mem_cons.mp hy with rfl | hy
      · exact hz
      · exact hs y hy⟩
theorem join_signs (cs : Cs) : Txt.join ("" : Str) (cs.map fun c => S [c]) = S cs := by
  have e : ("" : Str) = S [] := by decide +kernel
  have e2 : (cs.map fun c => S [c]) = (cs.map fun c => [c]).map S := by rw [List.map_map]; rfl
  rw [e, e2, SX.join_S, joinL_one]
theorem sum_signs : ∀ cs : Cs, ((cs.map fun c => S [c]).map (·.length)).sum = cs.length
  | [] => rfl
  | c :: r => by
    have := sum_signs r
    simp only [List.map_cons, List.sum_cons, List.length_cons] at this ⊢
    rw [this, SX.S_len]
    simp
    omega
theorem at_in {α : Type} {l : List α} {r : Int} (h0 : 0 ≤ r) (h1 : r < l.length) : ∃ c, atI l r = some c ∧ c ∈ l := by
  obtain ⟨m, rfl⟩ := Int.eq_ofNat_of_zero_le h0
  have hm : m < l.length := by omega
  exact ⟨l[m], atI_nat (List.getElem?_eq_getElem hm), List.getElem_mem hm⟩
section
variable {P : Program} {w : World} {K : PySem.W.Frag} {mg : Str → Option Value} {base : Heap} {f : Addr} {fd : FuncData}
abbrev s_law_word : Stmt := topS 53
theorem sc_law_word : FnScope ["_law_pool_here", "_law_turn"] ["_law_pool_here"] (C8.fnScope s_law_word) := C8.fnScope_by (by decide +kernel)
def spWord : Sp := fun vs H Q _ => ∃ a, vs = [.ref a] ∧ Pool H a ∧ ∀ l H', Gx a H H' → IsWord l → Q (.str (S l)) H'
theorem ok_law_word (F : C8.Def K mg "_law_word" s_law_word f fd) (b : Binds K fd ["_law_pool_here"] []) (T : Tx K w mg) (c_law_take : Cal P w K mg base 1 "_law_take" spTake []) : Cal P w K mg base 2 "_law_word" spWord [] := by
  refine C8.cal0 F b .nil sc_law_word (fun vs H Q E h => ?_) (fun cdv A outer s H vs Q E hr h => ?_)
  · obtain ⟨_, rfl, _⟩ := h
    rfl
  · obtain ⟨a, rfl, hp, k⟩ := h
    refine ⟨_, (pss_cons (ps_if (pt_cmpR op_eq (C8.pe_c c_law_take hr (by decide) (by rfl) (pa_cons (pv 0) (pa_cons pe_int pa_nil))) pe_int (nomark _)) (pss_one (ps_ret pe_str)) pss_nil)
        (pss_one (ps_ret (pe_join pe_str (pe_lc rfl sc_law_word.nd (pi_range1 (by rfl) T.n_range (pa_cons (pe_op op_add pe_int (C8.pe_c c_law_take hr (by decide) (by rfl) (pa_cons (pv 0) (pa_cons pe_int pa_nil)))) pa_nil)) (L2.blkOk_by (own := [("_law_turn", 1)]) (N := ["_law_pool_here", "_law_turn"]) (sc := C8.fnScope s_law_word) (by decide +kernel)) (fun _ _ _ _ _ => (pg_name (i := 1) sc_law_word.nd rfl (Or.inl rfl))) (fun _ _ _ _ _ => pts_nil) (fun _ _ _ _ _ => (pe_ix ix_str pe_str (C8.pe_c c_law_take hr (by decide) (by rfl) (pa_cons (pv 0) (pa_cons pe_int pa_nil))) (fun _ _ => rfl)))))))), ?_⟩
    refine ⟨_, rfl, a, 12, rfl, hp, by decide, by decide, fun r H1 g1 r0 r1 => ⟨rfl, _, rfl, ite2 (fun c => ?_) (fun c => ?_)⟩⟩
    · have e : ("abcdefgh" : Str) = S [97, 98, 99, 100, 101, 102, 103, 104] := by decide +kernel
      show Q (V.str ("abcdefgh" : Str)) H1
      rw [e]
      exact k _ _ g1 ⟨by decide, by decide, by unfold Let; decide +kernel⟩
    · refine ⟨⟨_, rfl⟩, _, rfl, a, 3, rfl, g1.pool, by decide, by decide, fun r2 H2 g2 r20 r21 => ⟨_, _, rfl, rfl, _, rfl, by omega, by omega, fun D nD => ?_⟩⟩
      refine lc_gx (a := a) walk_range (fun v _ => ∃ c, v = .str (S [c]) ∧ Let c) nD g2.pool (by omega) (fun _ _ _ _ h => h) (fun i Ha Nx hi gx hpa kp => ?_) (fun Ha xs gx hD hl hR => ?_)
      · refine ⟨rfl, _, rfl, a, 4, rfl, hpa, by decide, by decide, fun r3 H3 g3 r30 r31 => ?_⟩
        obtain ⟨c, hc, hcm⟩ := at_in (l := (("abcz" : Str)).cps.toList) r30 r31
        have hl : Let c := (by unfold Let; decide +kernel : ∀ c ∈ (("abcz" : Str)).cps.toList, Let c) c hcm
        exact ⟨_, _, c, rfl, rfl, sz5 (by decide), hc, kp _ _ g3 ⟨c, rfl, hl⟩⟩
      · obtain ⟨cs, rfl, hc⟩ := all_signs hR
        rw [List.length_map, List.length_map] at hl
        refine ⟨_, _, cs.map (fun c => S [c]), rfl, rfl, .inl (sql hD), ?_, ?_⟩
        · rw [sum_signs, List.length_map]
          show cs.length + cs.length * 0 ≤ _
          omega
        · show Q (V.str (Txt.join ("" : Str) _)) Ha
          rw [join_signs]
          exact k _ _ ((g1.trans g2).trans gx) ⟨by omega, by omega, hc⟩
abbrev s_law_part : Stmt := topS 54
theorem sc_law_part : FnScope ["_law_pool_here", "_law_word_here"] ["_law_pool_here"] (C8.fnScope s_law_part) := C8.fnScope_by (by decide +kernel)
def spPart : Sp := fun vs H Q _ => ∃ a, vs = [.ref a] ∧ Pool H a ∧ ∀ l H', Gx a H H' → IsPart l → Q (.str (S l)) H'
theorem ok_law_part (F : C8.Def K mg "_law_part" s_law_part f fd) (b : Binds K fd ["_law_pool_here"] []) (T : Tx K w mg) (c_law_take : Cal P w K mg base 1 "_law_take" spTake []) (c_law_word : Cal P w K mg base 2 "_law_word" spWord []) : Cal P w K mg base 3 "_law_part" spPart [] := by
  refine C8.cal0 F b .nil sc_law_part (fun vs H Q E h => ?_) (fun cdv A outer s H vs Q E hr h => ?_)
  · obtain ⟨_, rfl, _⟩ := h
    rfl
  · obtain ⟨a, rfl, hp, k⟩ := h
    refine ⟨_, (pss_cons (ps_set (i := 1) sc_law_part.nd rfl (Or.inl rfl) (C8.pe_c c_law_word hr (by decide) (by rfl) (pa_cons (pv 0) pa_nil)))
        (pss_cons (ps_if (pt_cmpR op_eq (C8.pe_c c_law_take hr (by decide) (by rfl) (pa_cons (pv 0) (pa_cons pe_int pa_nil))) pe_int (nomark _)) (pss_one (ps_ret (pe_op op_add_str (pe_op op_add_str (pv 1) pe_str) (pe_bm PySem.F.plainAttrs_str PySem.F.slot_str_rjust PySem.F.type_str_rjust mt_rjustF (pe_callTy call_str_int (by rfl) T.n_str (by decide +kernel) (pa_cons (C8.pe_c c_law_take hr (by decide) (by rfl) (pa_cons (pv 0) (pa_cons pe_int pa_nil))) pa_nil)) (pa_cons pe_int (pa_cons pe_str pa_nil)))))) pss_nil)
        (pss_one (ps_ret (pv 1))))), ?_⟩
    refine ⟨_, rfl, a, rfl, hp, fun l H1 g1 hl => ?_⟩
    refine ⟨_, rfl, a, 4, rfl, g1.pool, by decide, by decide, fun r H2 g2 r0 r1 => ⟨rfl, _, rfl, ite2 (fun c => ?_) (fun c => ?_)⟩⟩
    · have g12 := g1.trans g2
      have l8 : (S l).length ≤ 8 := by rw [SX.S_len]; exact hl.2.1
      refine ⟨_, rfl, _, _, rfl, rfl, sz5 (by show _ + 1 ≤ 1000; omega), ?_⟩
      refine ⟨_, rfl, a, 12, rfl, g2.pool, by decide, by decide, fun r2 H3 g3 r20 r21 => ?_⟩
      obtain ⟨m, rfl⟩ := Int.eq_ofNat_of_zero_le r20
      have hm : m < 100000 := by omega
      refine ⟨_, rfl, log_small (by simpa using hm), rfl, _, _, 6, rfl, rfl, rfl, rfl, ?_⟩
      have e2 : Txt.rjustF ((toString ((m : Nat) : Int) : String) : Str) 6 ((("0" : Str)).cps.getD 0 0) = S (six m) := by
        rw [num_str]
        exact rjust_six hm
      have e3 : S l ++ ("-" : Str) = S (l ++ [45]) := SX.S_cat _ _
      have l6 : (S (six m)).length = 6 := by rw [SX.S_len, six_len hm]
      refine ⟨_, _, rfl, rfl, ?_, ?_⟩
      · show (S l ++ ("-" : Str)).length + (Txt.rjustF ((toString ((m : Nat) : Int) : String) : Str) 6 ((("0" : Str)).cps.getD 0 0)).length ≤ sizeLine
        rw [e2, l6, e3, SX.S_len, List.length_append]
        rw [SX.S_len] at l8
        exact sz5 (by simp; omega)
      · rw [e2, e3, SX.S_cat, List.append_assoc]
        exact k _ _ (g12.trans g3) (word_dash hl hm)
    · exact ⟨_, rfl, k _ _ (g1.trans g2) (.inl hl)⟩
abbrev s_law_line : Stmt := topS 55
theorem sc_law_line : FnScope ["_law_pool_here", "_law_turn"] ["_law_pool_here"] (C8.fnScope s_law_line) := C8.fnScope_by (by decide +kernel)
def spLine : Sp := fun vs H Q _ => ∃ a, vs = [.ref a] ∧ Pool H a ∧ ∀ l H', Gx a H H' → IsText l → Q (.str (S l)) H'
theorem ok_law_line (F : C8.Def K mg "_law_line" s_law_line f fd) (b : Binds K fd ["_law_pool_here"] []) (T : Tx K w mg) (c_law_take : Cal P w K mg base 1 "_law_take" spTake []) : Cal P w K mg base 2 "_law_line" spLine [] := by
  refine C8.cal0 F b .nil sc_law_line (fun vs H Q E h => ?_) (fun cdv A outer s H vs Q E hr h => ?_)
  · obtain ⟨_, rfl, _⟩ := h
    rfl
  · obtain ⟨a, rfl, hp, k⟩ := h
    refine ⟨_, (pss_one (ps_ret (pe_join pe_str (pe_lc rfl sc_law_line.nd (pi_range1 (by rfl) T.n_range (pa_cons (C8.pe_c c_law_take hr (by decide) (by rfl) (pa_cons (pv 0) (pa_cons pe_int pa_nil))) pa_nil)) (L2.blkOk_by (own := [("_law_turn", 1)]) (N := ["_law_pool_here", "_law_turn"]) (sc := C8.fnScope s_law_line) (by decide +kernel)) (fun _ _ _ _ _ => (pg_name (i := 1) sc_law_line.nd rfl (Or.inl rfl))) (fun _ _ _ _ _ => pts_nil) (fun _ _ _ _ _ => (pe_ix ix_str pe_str (C8.pe_c c_law_take hr (by decide) (by rfl) (pa_cons (pv 0) (pa_cons pe_int pa_nil))) (fun _ _ => rfl))))))), ?_⟩
    refine ⟨⟨_, rfl⟩, _, rfl, a, 5, rfl, hp, by decide, by decide, fun r2 H2 g2 r20 r21 => ⟨_, rfl, by omega, by omega, fun D nD => ?_⟩⟩
    refine lc_gx (a := a) walk_range (fun v _ => ∃ c, v = .str (S [c]) ∧ (32 ≤ c ∧ c ≤ 126)) nD g2.pool (by omega) (fun _ _ _ _ h => h) (fun i Ha Nx hi gx hpa kp => ?_) (fun Ha xs gx hD hl hR => ?_)
    · refine ⟨rfl, _, rfl, a, 8, rfl, hpa, by decide, by decide, fun r3 H3 g3 r30 r31 => ?_⟩
      obtain ⟨c, hc, hcm⟩ := at_in (l := (("ab 09!~ " : Str)).cps.toList) r30 r31
      have hl : 32 ≤ c ∧ c ≤ 126 := (by decide +kernel : ∀ c ∈ (("ab 09!~ " : Str)).cps.toList, 32 ≤ c ∧ c ≤ 126) c hcm
      exact ⟨_, _, c, rfl, rfl, sz5 (by decide), hc, kp _ _ g3 ⟨c, rfl, hl⟩⟩
    · obtain ⟨cs, rfl, hc⟩ := all_signs hR
      rw [List.length_map, List.length_map] at hl
      refine ⟨_, _, cs.map (fun c => S [c]), rfl, rfl, .inl (sql hD), ?_, ?_⟩
      · rw [sum_signs, List.length_map]
        show cs.length + cs.length * 0 ≤ _
        omega
      · show Q (V.str (Txt.join ("" : Str) _)) Ha
        rw [join_signs]
        exact k _ _ (g2.trans gx) ⟨by omega, hc⟩
end
end N17

set_option Elab.async false
set_option linter.all false
set_option maxRecDepth 100000
set_option maxHeartbeats 4000000
namespace N17
open PySem PySem.Spec PyProof.Rows
open L2 hiding CX0 E0 pass0 Fun Fun.ok fun_mk
open C8 (Cal CX0 E0 pass0)
open SX (S)
theorem pathL_len_pos (ps : List Cs) : (S (pathL ps)).length ≤ 81 ∨ True := .inr trivial
section
variable {P : Program} {w : World} {K : PySem.W.Frag} {mg : Str → Option Value} {base : Heap} {f : Addr} {fd : FuncData}
abbrev s_law_path : Stmt := topS 56
theorem sc_law_path : FnScope ["_law_pool_here", "_law_web", "_law_many", "_law_some", "_law_road"] ["_law_pool_here", "_law_web", "_law_many"] (C8.fnScope s_law_path) := C8.fnScope_by (by decide +kernel)
def spLPath : Sp := fun vs H Q _ => ∃ a d ns b many, vs = [.ref a, .ref d, .int many] ∧ Pool H a ∧ NodesAt H d ns ∧ NOk b ns ∧ ns ≠ [] ∧ ∀ ps H', Gx a H H' → Parts ps → Q (.str (S (pathL ps))) H'
theorem ok_law_path (F : C8.Def K mg "_law_path" s_law_path f fd) (b : Binds K fd ["_law_pool_here", "_law_web", "_law_many"] []) (T : Tx K w mg) (c_law_take : Cal P w K mg base 1 "_law_take" spTake []) (c_law_part : Cal P w K mg base 3 "_law_part" spPart []) : Cal P w K mg base 4 "_law_path" spLPath [] := by
  refine C8.cal0 F b .nil sc_law_path (fun vs H Q E h => ?_) (fun cdv A outer s H vs Q E hr h => ?_)
  · obtain ⟨_, _, _, _, _, rfl, _⟩ := h
    rfl
  · obtain ⟨a, d, ns, b, many, rfl, hp, hN, ok, hne, k⟩ := h
    have hu := hu_of hr
    refine ⟨_, (pss_cons (ps_set (i := 3) sc_law_path.nd rfl (Or.inl rfl) (pe_callB (call_sortedD rfl) (by rfl) T.n_sorted (by decide +kernel) (pa_cons (pv 1) pa_nil)))
        (pss_cons (ps_set (i := 4) sc_law_path.nd rfl (Or.inl rfl) (pe_ix ix_list (pv 3) (C8.pe_c c_law_take hr (by decide) (by rfl) (pa_cons (pv 0) (pa_cons (pe_callB call_len (by rfl) T.n_len (by decide +kernel) (pa_cons (pv 3) pa_nil)) pa_nil))) (fun _ _ => rfl)))
        (pss_cons (ps_if (PW.pt (pw_and (pt_cmpR op_lt (pe_m1 PySem.F.slot_str_count PySem.F.type_str_count mt_count (pv 4) pe_str) pe_int (nomark _)) (pw_and1 (pt_cmpR op_lt (C8.pe_c c_law_take hr (by decide) (by rfl) (pa_cons (pv 0) (pa_cons pe_int pa_nil))) (pv 2) (nomark _))))) (pss_one (ps_set (i := 4) sc_law_path.nd rfl (Or.inl rfl) (pe_op op_add_str (pe_op op_add_str (pe_ix ix_list (pe_lst (pa_cons (pv 4) (pa_cons pe_str pa_nil))) (pe_callTy call_int1 (by rfl) T.n_int (by decide +kernel) (pa_cons (pe_cmpR op_eq (pv 4) pe_str (nomark _)) pa_nil)) (fun _ _ => rfl)) pe_str) (C8.pe_c c_law_part hr (by decide) (by rfl) (pa_cons (pv 0) pa_nil))))) pss_nil)
        (pss_one (ps_ret (pv 4)))))), ?_⟩
    have h60 := ok.few
    refine ⟨_, rfl, d, _, ns.map (·.path), rfl, .inl hN.1, keys_ent ns, by rw [List.length_map]; omega, fun ys c hys hsrt nc => newH nc fun H1 e1 h1 => ?_⟩
    have hyl : ys.length = ns.length := by rw [hys.length_eq, List.length_map]
    have hyp : 0 < ys.length := by
      rw [hyl]
      exact List.length_pos_iff.mpr hne
    have ca : c ≠ a := (hp.sep nc).symm
    refine ⟨_, rfl, _, rfl, _, rfl, _, _, rfl, .inl ⟨_, sql h1, rfl⟩, a, _, rfl, hp.mono e1, by rw [List.length_map]; omega, by rw [List.length_map]; omega, fun r H2 g2 r0 r1 => ?_⟩
    have h2 := g2.x _ _ ca h1
    obtain ⟨v, hv, hm⟩ := at_in r0 r1
    obtain ⟨y, hy, rfl⟩ := List.mem_map.mp hm
    obtain ⟨n, hn, rfl⟩ := List.mem_map.mp (hys.mem_iff.mp hy)
    obtain ⟨ps, hps, eps⟩ := ok.path n hn
    refine ⟨c, _, _, _, rfl, rfl, sql h2, hv, ?_⟩
    rw [eps]
    have g02 : Gx a H H2 := (hp.s e1).trans g2
    have hl81 : (S (pathL ps)).length ≤ 81 := by rw [SX.S_len]; exact hps.len
    refine ⟨_, rfl, ⟨_, rfl⟩, _, _, rfl, rfl, _, _, rfl, rfl, _, rfl, ite2 (fun c1 => ?_) (fun c1 => ?_)⟩
    · have c2 : Txt.count (S (pathL ps)) ("/" : Str) < 5 := of_decide_eq_true c1
      have hfew : ps.length < 5 := by
        have := count_slash (ps := ps)
        omega
      refine ⟨_, rfl, a, 3, rfl, g2.pool, by decide, by decide, fun r3 H3 g3 r30 r31 => ⟨_, rfl, _, _, rfl, rfl, _, rfl, ite2 (fun c3 => ?_) (fun c3 => ?_)⟩⟩
      · have g03 := g02.trans g3
        refine ⟨_, rfl, Nat.le_of_ble_eq_true rfl, fun l nl => newH nl fun H4 e4 h4 => ?_⟩
        refine ⟨_, rfl, rfl, .inr ⟨_, rfl, ?_⟩⟩
        have p4 := g3.pool.mono e4
        by_cases e : ps = []
        · subst e
          have ed : decide (V.str (S (pathL [])) = V.str ("/" : Str)) = true := decide_eq_true (congrArg V.str str_slash.symm)
          rw [ed]
          refine ⟨l, _, 1, .str ("" : Str), rfl, rfl, sql h4, rfl, _, _, rfl, rfl, sz5 (by decide), _, rfl, a, rfl, p4, fun p H5 g5 hq => ⟨_, _, rfl, rfl, ?_, _, rfl, ?_⟩⟩
          · have e1 : (("" : Str) ++ ("/" : Str)).length = 1 := by decide +kernel
            rw [e1, SX.S_len]
            have := hq.len.2
            exact sz5 (by omega)
          · have e1 : ("" : Str) ++ ("/" : Str) = S [47] := by decide +kernel
            rw [e1, SX.S_cat]
            exact k ([] ++ [p]) _ ((g03.s e4).trans g5) (hps.snoc hfew hq)
        · have ed : decide (V.str (S (pathL ps)) = V.str ("/" : Str)) = false := decide_eq_false fun z => e ((path_root hps).mp ((V.str.inj z).trans str_slash))
          rw [ed]
          have e1 : S (pathL ps) ++ ("/" : Str) = S (pathL ps ++ [47]) := by rw [str_slash, SX.S_cat]
          refine ⟨l, _, 0, .str (S (pathL ps)), rfl, rfl, sql h4, rfl, _, _, rfl, rfl, sz5 (by show _ + 1 ≤ 1000; omega), _, rfl, a, rfl, p4, fun p H5 g5 hq => ⟨_, _, rfl, rfl, ?_, _, rfl, ?_⟩⟩
          · rw [e1, SX.S_len, SX.S_len, List.length_append]
            rw [SX.S_len] at hl81
            have := hq.len.2
            exact sz5 (by simp; omega)
          · rw [e1, SX.S_cat, List.append_assoc]
            have e5 := pathL_snoc ps p
            rw [if_neg e] at e5
            show Q (V.str (S (pathL ps ++ 47 :: p))) H5
            rw [← e5]
            exact k _ _ ((g03.s e4).trans g5) (hps.snoc hfew hq)
      · exact ⟨_, rfl, k _ _ (g02.trans g3) hps⟩
    · exact ⟨_, rfl, k _ _ g02 hps⟩
end
end N17

set_option Elab.async false
set_option linter.all false
set_option maxRecDepth 100000
set_option maxHeartbeats 4000000
namespace N17
open PySem PySem.Spec PyProof.Rows
open L2 hiding CX0 E0 pass0 Fun Fun.ok fun_mk
open C8 (Cal CX0 E0 pass0)
open SX (S)
section
variable {P : Program} {w : World} {K : PySem.W.Frag} {mg : Str → Option Value} {base : Heap} {f : Addr} {fd : FuncData}
abbrev s_law_count : Stmt := topS 57
theorem sc_law_count : FnScope ["_law_pool_here", "_law_web", "_law_road", "_law_count_here"] ["_law_pool_here", "_law_web", "_law_road"] (C8.fnScope s_law_count) := C8.fnScope_by (by decide +kernel)
def spLCount : Sp := fun vs H Q _ => ∃ a d ns b x, vs = [.ref a, .ref d, .str x] ∧ Pool H a ∧ NodesAt H d ns ∧ NOk b ns ∧ ∀ c H', Gx a H H' → cOk c → Q (cV c) H'
theorem ok_law_count (F : C8.Def K mg "_law_count" s_law_count f fd) (b : Binds K fd ["_law_pool_here", "_law_web", "_law_road"] []) (T : Tx K w mg) (c_law_take : Cal P w K mg base 1 "_law_take" spTake []) : Cal P w K mg base 2 "_law_count" spLCount [] := by
  refine C8.cal0 F b .nil sc_law_count (fun vs H Q E h => ?_) (fun cdv A outer s H vs Q E hr h => ?_)
  · obtain ⟨_, _, _, _, _, rfl, _⟩ := h
    rfl
  · obtain ⟨a, d, ns, b, x, rfl, hp, hN, ok, k⟩ := h
    have hu := hu_of hr
    refine ⟨_, (pss_cons (ps_set (i := 3) sc_law_count.nd rfl (Or.inl rfl) (pe_ix ix_tup (pe_dget2 hu (pv 1) (pv 2) (pe_tup (pa_cons pe_str (pa_cons pe_int pa_nil))) ⟨by rfl, by rfl, by rfl, by rfl⟩) pe_int (fun _ _ => rfl)))
        (pss_one (ps_ret (pe_ix ix_list (pe_lst (pa_cons pe_non (pa_cons pe_non (pa_cons (pv 3) (pa_cons (pv 3) (pa_cons (pe_op op_add (pv 3) pe_int) (pa_cons pe_int pa_nil))))))) (C8.pe_c c_law_take hr (by decide) (by rfl) (pa_cons (pv 0) (pa_cons pe_int pa_nil))) (fun _ _ => rfl))))), ?_⟩
    refine ⟨_, rfl, d, rfl, .inl ⟨_, .inl hN.1⟩, _, rfl, Nat.le_of_ble_eq_true rfl, fun t nt => newH nt fun H1 e1 h1 => ?_⟩
    have hN1 := hN.mono e1
    obtain ⟨a2, xs, i, ea, ta, ei, hi⟩ : ∃ a2 xs i, ((valV (ns.map ent) (.inr x)).getD (.ref t)) = .ref a2 ∧ H1 a2 = some (.tup xs) ∧ atI xs 1 = some (.int i) ∧ 0 ≤ i := by
      cases e : valV (ns.map ent) (.inr x) with
      | none => exact ⟨t, _, 1, rfl, h1, rfl, by decide⟩
      | some v =>
        obtain ⟨n, hn, rfl, rfl⟩ := look_some e
        exact ⟨n.ad, _, n.cnt, rfl, hN1.2 n hn, rfl, ok.cnt n hn⟩
    refine ⟨_, DGet.k (k := Sum.inr x) hN1.1, a2, xs, _, _, ea, rfl, sqt ta, ei, ?_⟩
    refine ⟨_, rfl, _, rfl, _, rfl, _, _, rfl, rfl, Nat.le_of_ble_eq_true rfl, fun l nl => newH nl fun H2 e2 h2 => ?_⟩
    have p2 := (hp.mono e1).mono e2
    refine ⟨_, rfl, a, 6, rfl, p2, by decide, by decide, fun r H3 g3 r0 r1 => ?_⟩
    have hla : l ≠ a := ((hp.mono e1).sep nl).symm
    have h3 := g3.x _ _ hla h2
    obtain ⟨v, hv, hm⟩ := at_in r0 (show r < (([V.non, .non, .int i, .int i, .int (i + 1), .int 0] : List V).length : Nat) from r1)
    have hc : ∃ c, v = cV c ∧ cOk c := by
      have nn : ∃ c, V.non = cV c ∧ cOk c := ⟨none, rfl, fun _ z => by cases z⟩
      have ni : ∀ j : Int, 0 ≤ j → ∃ c, V.int j = cV c ∧ cOk c := fun j hj => ⟨some j, rfl, fun _ z => by cases z; exact hj⟩
      simp only [List.mem_cons, List.not_mem_nil, or_false] at hm
      rcases hm with rfl | rfl | rfl | rfl | rfl | rfl
      · exact nn
      · exact nn
      · exact ni _ hi
      · exact ni _ hi
      · exact ni _ (by omega)
      · exact ni _ (by decide)
    obtain ⟨c, rfl, hcok⟩ := hc
    exact ⟨l, _, _, _, rfl, rfl, sql h3, hv, k c _ ((hp.s (e1.trans e2)).trans g3) hcok⟩
abbrev s_law_deed : Stmt := topS 58
theorem sc_law_deed : FnScope ["_law_pool_here", "_law_web", "_law_way", "_law_road", "_law_numbered", "_law_count_here"] ["_law_pool_here", "_law_web"] (C8.fnScope s_law_deed) := C8.fnScope_by (by decide +kernel)
def spLDeed : Sp := fun vs H Q _ => ∃ a d ns b, vs = [.ref a, .ref d] ∧ Pool H a ∧ NodesAt H d ns ∧ NOk b ns ∧ ns ≠ [] ∧ ∀ t l H', Gx a H H' → H' t = some (.tup (Pl.vs l)) → PlOk l → Q (.ref t) H'
theorem ok_law_deed (F : C8.Def K mg "_law_deed" s_law_deed f fd) (b : Binds K fd ["_law_pool_here", "_law_web"] []) (T : Tx K w mg) (c_law_take : Cal P w K mg base 1 "_law_take" spTake []) (c_law_path : Cal P w K mg base 4 "_law_path" spLPath [])
    (c_law_line : Cal P w K mg base 2 "_law_line" spLine []) (c_law_count : Cal P w K mg base 2 "_law_count" spLCount []) : Cal P w K mg base 5 "_law_deed" spLDeed [] := by
  refine C8.cal0 F b .nil sc_law_deed (fun vs H Q E h => ?_) (fun cdv A outer s H vs Q E hr h => ?_)
  · obtain ⟨_, _, _, _, rfl, _⟩ := h
    rfl
  · obtain ⟨a, d, ns, b, rfl, hp, hN, ok, hne, k⟩ := h
    refine ⟨_, (pss_cons (ps_set (i := 2) sc_law_deed.nd rfl (Or.inl rfl) (C8.pe_c c_law_take hr (by decide) (by rfl) (pa_cons (pv 0) (pa_cons pe_int pa_nil))))
        (pss_cons (ps_set (i := 3) sc_law_deed.nd rfl (Or.inl rfl) (C8.pe_c c_law_path hr (by decide) (by rfl) (pa_cons (pv 0) (pa_cons (pv 1) (pa_cons (pe_op op_add pe_int (pe_callTy call_int1 (by rfl) T.n_int (by decide +kernel) (pa_cons (pe_cmpR op_lt (pv 2) pe_int (nomark _)) pa_nil))) pa_nil)))))
        (pss_cons (ps_if (PW.pt (pw_and (pt_cmpR op_lt (pv 2) pe_int (nomark _)) (pw_and1 (pt_cmpR op_ne (pv 3) pe_str (nomark _))))) (pss_cons (ps_set (i := 4) sc_law_deed.nd rfl (Or.inl rfl) (pe_and (pe_cmpR op_eq (C8.pe_c c_law_take hr (by decide) (by rfl) (pa_cons (pv 0) (pa_cons pe_int pa_nil))) pe_int (nomark _)) (pe_one (pe_cmpR op_notIn_sign pe_str (pe_ix ix_list (pe_split (pv 3) pe_str) (pe_un un_neg pe_int) (fun _ _ => rfl)) (by rfl)))))
        (pss_one (ps_ret (pe_tup (pa_cons pe_str (pa_cons (pv 3) (pa_cons (C8.pe_c c_law_line hr (by decide) (by rfl) (pa_cons (pv 0) pa_nil)) (pa_cons (pe_cmpR op_eq (C8.pe_c c_law_take hr (by decide) (by rfl) (pa_cons (pv 0) (pa_cons pe_int pa_nil))) pe_int (nomark _)) (pa_cons (pv 4) pa_nil))))))))) pss_nil)
        (pss_cons (ps_set (i := 5) sc_law_deed.nd rfl (Or.inl rfl) (C8.pe_c c_law_count hr (by decide) (by rfl) (pa_cons (pv 0) (pa_cons (pv 1) (pa_cons (pv 3) pa_nil)))))
        (pss_cons (ps_if (PW.pt (pw_or (pt_cmpR op_eq (pv 2) pe_int (nomark _)) (pw_or1 (PW.pt (pw_and (pt_cmpR op_eq (pv 3) pe_str (nomark _)) (pw_and1 (pt_cmpR op_gt (pv 2) pe_int (nomark _)))))))) (pss_one (ps_ret (pe_tup (pa_cons pe_str (pa_cons (pv 3) (pa_cons (C8.pe_c c_law_line hr (by decide) (by rfl) (pa_cons (pv 0) pa_nil)) (pa_cons (pv 5) pa_nil))))))) pss_nil)
        (pss_cons (ps_if (pt_cmpR op_gt (pv 2) pe_int (nomark _)) (pss_one (ps_ret (pe_tup (pa_cons pe_str (pa_cons (pv 3) (pa_cons (pv 5) pa_nil)))))) pss_nil)
        (pss_one (ps_ret (pe_tup (pa_cons pe_str (pa_cons (pv 3) (pa_cons (pv 5) pa_nil)))))))))))), ?_⟩
    refine ⟨_, rfl, a, 8, rfl, hp, by decide, by decide, fun way H1 g1 r0 r1 => ?_⟩
    refine ⟨_, rfl, _, rfl, _, rfl, _, _, rfl, rfl, .inr ⟨_, rfl, bitI fun many _ _ => ⟨_, _, rfl, rfl, a, d, ns, b, _, rfl, g1.pool, g1.nodes hp hN, ok, hne, fun ps H2 g2 hps => ?_⟩⟩⟩
    have g12 := g1.trans g2
    have hl81 : (S (pathL ps)).length ≤ 81 := by rw [SX.S_len]; exact hps.len
    have rest : ∀ G : Prop, (ps = [] ∨ True) → G → G := fun _ _ h => h
    refine ⟨_, rfl, _, _, rfl, rfl, _, rfl, ite2 (fun c => ?_) (fun c => ?_)⟩
    · refine ⟨_, rfl, rfl, _, rfl, ite2 (fun c2 => ?_) (fun c2 => ?_)⟩
      · have hp0 : ps ≠ [] := fun z => by
          subst z
          rw [show decide (V.str (S (pathL [])) = V.str ("/" : Str)) = true from decide_eq_true (congrArg V.str str_slash.symm)] at c2
          cases c2
        have hs := slash_split hps hp0
        obtain ⟨qs, q, rfl⟩ := snoc_of hp0
        refine ⟨_, rfl, a, 2, rfl, g2.pool, by decide, by decide, fun r3 H3 g3 _ _ => ⟨rfl, _, rfl, ite2 (fun c3 => ?_) (fun c3 => ?_)⟩⟩
        · refine ⟨_, rfl, ⟨_, rfl⟩, _, _, rfl, rfl, rfl, sz5 (by omega), fun p np => newH np fun H4 e4 h4 => ⟨_, rfl, p, _, _, _, rfl, rfl, sql h4, ?_, 45, S q, rfl, rfl, ?_⟩⟩
          · rw [hs, show List.map V.str (([] :: (qs ++ [q])).map S) = (([] :: qs).map S).map V.str ++ [V.str (S q)] by simp]
            exact atI_last _ _
          · refine ⟨_, rfl, _, rfl, a, rfl, g3.pool.mono e4, fun tx H5 g5 htx => ⟨_, rfl, a, 3, rfl, g5.pool, by decide, by decide, fun r6 H6 g6 _ _ => ⟨rfl, _, rfl, Nat.le_of_ble_eq_true rfl, fun t nt => newH nt fun H7 e7 h7 => ?_⟩⟩⟩
            exact k t (.make qs q tx _ _) H7 (((((g12.trans g3).s e4).trans g5).trans g6).s e7) h7 ⟨hps, htx, fun z => (hps.each q (by simp)).word (by simpa using z)⟩
        · refine ⟨_, rfl, _, rfl, a, rfl, g3.pool, fun tx H5 g5 htx => ⟨_, rfl, a, 3, rfl, g5.pool, by decide, by decide, fun r6 H6 g6 _ _ => ⟨rfl, _, rfl, Nat.le_of_ble_eq_true rfl, fun t nt => newH nt fun H7 e7 h7 => ?_⟩⟩⟩
          exact k t (.make qs q tx _ _) H7 ((((g12.trans g3).trans g5).trans g6).s e7) h7 ⟨hps, htx, fun z => by cases z⟩
      · refine ⟨_, rfl, _, rfl, _, rfl, a, d, ns, b, _, rfl, g2.pool, g2.nodes g1.pool (g1.nodes hp hN), ok, fun c' H3 g3 hc' => ?_⟩
        refine ⟨_, rfl, rfl, _, rfl, ite2 (fun c4 => ?_) (fun c4 => ?_)⟩
        · exact ⟨_, rfl, _, rfl, a, rfl, g3.pool, fun tx H4 g4 htx => ⟨_, rfl, Nat.le_of_ble_eq_true rfl, fun t nt => newH nt fun H5 e5 h5 => k t (.put _ tx c') H5 (((g12.trans g3).trans g4).s e5) h5 ⟨⟨ps, hps, rfl⟩, htx, hc'⟩⟩⟩
        · refine ⟨_, rfl, rfl, _, rfl, ite2 (fun c5 => ?_) (fun c5 => ?_)⟩
          · refine ⟨_, rfl, _, _, rfl, rfl, _, rfl, ite2 (fun c6 => ?_) (fun c6 => ?_)⟩
            · exact ⟨_, rfl, _, rfl, a, rfl, g3.pool, fun tx H4 g4 htx => ⟨_, rfl, Nat.le_of_ble_eq_true rfl, fun t nt => newH nt fun H5 e5 h5 => k t (.put _ tx c') H5 (((g12.trans g3).trans g4).s e5) h5 ⟨⟨ps, hps, rfl⟩, htx, hc'⟩⟩⟩
            · refine ⟨_, rfl, _, _, rfl, rfl, _, rfl, ite2 (fun c7 => ?_) (fun c7 => ?_)⟩
              · exact ⟨_, rfl, _, rfl, Nat.le_of_ble_eq_true rfl, fun t nt => newH nt fun H5 e5 h5 => k t (.drop _ c') H5 ((g12.trans g3).s e5) h5 ⟨⟨ps, hps, rfl⟩, absurd c7 c6, hc'⟩⟩
              · exact ⟨_, rfl, _, rfl, Nat.le_of_ble_eq_true rfl, fun t nt => newH nt fun H5 e5 h5 => k t (.see _ c') H5 ((g12.trans g3).s e5) h5 ⟨⟨ps, hps, rfl⟩, hc'⟩⟩
          · refine ⟨_, rfl, _, _, rfl, rfl, _, rfl, ite2 (fun c7 => ?_) (fun c7 => ?_)⟩
            · exact ⟨_, rfl, _, rfl, Nat.le_of_ble_eq_true rfl, fun t nt => newH nt fun H5 e5 h5 => k t (.drop _ c') H5 ((g12.trans g3).s e5) h5 ⟨⟨ps, hps, rfl⟩, fun z => c5 (decide_eq_true (congrArg V.str z)), hc'⟩⟩
            · exact ⟨_, rfl, _, rfl, Nat.le_of_ble_eq_true rfl, fun t nt => newH nt fun H5 e5 h5 => k t (.see _ c') H5 ((g12.trans g3).s e5) h5 ⟨⟨ps, hps, rfl⟩, hc'⟩⟩
    · refine ⟨_, rfl, _, rfl, _, rfl, a, d, ns, b, _, rfl, g2.pool, g2.nodes g1.pool (g1.nodes hp hN), ok, fun c' H3 g3 hc' => ?_⟩
      refine ⟨_, rfl, rfl, _, rfl, ite2 (fun c4 => ?_) (fun c4 => ?_)⟩
      · exact ⟨_, rfl, _, rfl, a, rfl, g3.pool, fun tx H4 g4 htx => ⟨_, rfl, Nat.le_of_ble_eq_true rfl, fun t nt => newH nt fun H5 e5 h5 => k t (.put _ tx c') H5 (((g12.trans g3).trans g4).s e5) h5 ⟨⟨ps, hps, rfl⟩, htx, hc'⟩⟩⟩
      · refine ⟨_, rfl, rfl, _, rfl, ite2 (fun c5 => ?_) (fun c5 => ?_)⟩
        · refine ⟨_, rfl, _, _, rfl, rfl, _, rfl, ite2 (fun c6 => ?_) (fun c6 => ?_)⟩
          · exact ⟨_, rfl, _, rfl, a, rfl, g3.pool, fun tx H4 g4 htx => ⟨_, rfl, Nat.le_of_ble_eq_true rfl, fun t nt => newH nt fun H5 e5 h5 => k t (.put _ tx c') H5 (((g12.trans g3).trans g4).s e5) h5 ⟨⟨ps, hps, rfl⟩, htx, hc'⟩⟩⟩
          · refine ⟨_, rfl, _, _, rfl, rfl, _, rfl, ite2 (fun c7 => ?_) (fun c7 => ?_)⟩
            · exact ⟨_, rfl, _, rfl, Nat.le_of_ble_eq_true rfl, fun t nt => newH nt fun H5 e5 h5 => k t (.drop _ c') H5 ((g12.trans g3).s e5) h5 ⟨⟨ps, hps, rfl⟩, absurd c7 c6, hc'⟩⟩
            · exact ⟨_, rfl, _, rfl, Nat.le_of_ble_eq_true rfl, fun t nt => newH nt fun H5 e5 h5 => k t (.see _ c') H5 ((g12.trans g3).s e5) h5 ⟨⟨ps, hps, rfl⟩, hc'⟩⟩
        · refine ⟨_, rfl, _, _, rfl, rfl, _, rfl, ite2 (fun c7 => ?_) (fun c7 => ?_)⟩
          · exact ⟨_, rfl, _, rfl, Nat.le_of_ble_eq_true rfl, fun t nt => newH nt fun H5 e5 h5 => k t (.drop _ c') H5 ((g12.trans g3).s e5) h5 ⟨⟨ps, hps, rfl⟩, fun z => c5 (decide_eq_true (congrArg V.str z)), hc'⟩⟩
          · exact ⟨_, rfl, _, rfl, Nat.le_of_ble_eq_true rfl, fun t nt => newH nt fun H5 e5 h5 => k t (.see _ c') H5 ((g12.trans g3).s e5) h5 ⟨⟨ps, hps, rfl⟩, hc'⟩⟩
end
end N17

set_option Elab.async false
set_option linter.all false
set_option maxRecDepth 100000
set_option maxHeartbeats 4000000
namespace N17
open PySem PySem.Spec PyProof.Rows
open L2 hiding CX0 E0 pass0 Fun Fun.ok fun_mk
open C8 (Cal CX0 E0 pass0)
open SX (S)
theorem joinL_up : ∀ ps : List Cs, TL.joinL [47] ([] :: ps) = if ps = [] then [] else pathL ps
  | [] => rfl
  | p :: r => by
    rw [if_neg (by simp)]
    rfl
section
variable {P : Program} {w : World} {K : PySem.W.Frag} {mg : Str → Option Value} {base : Heap} {f : Addr} {fd : FuncData}
abbrev s_law_above : Stmt := topS 59
theorem sc_law_above : FnScope ["_law_road"] ["_law_road"] (C8.fnScope s_law_above) := C8.fnScope_by (by decide +kernel)
theorem ok_law_above (F : C8.Def K mg "_law_above" s_law_above f fd) (b : Binds K fd ["_law_road"] []) (T : Tx K w mg) : Cal P w K mg base 1 "_law_above" spParentOf [] := by
  refine C8.cal0 F b .nil sc_law_above (fun vs H Q E h => ?_) (fun cdv A outer s H vs Q E hr h => ?_)
  · obtain ⟨_, rfl, _⟩ := h
    rfl
  · obtain ⟨ps, rfl, hp, k⟩ := h
    refine ⟨_, (pss_one (ps_ret (pe_orT (pe_join pe_str (pe_slice sl_list (pe_split (pv 0) pe_str) po_none (po_some (pe_un un_neg pe_int)))) (pe_one pe_str)))), ?_⟩
    have hl81 : (S (pathL ps)).length ≤ 81 := by rw [SX.S_len]; exact hp.len
    refine ⟨⟨_, rfl⟩, _, rfl, ⟨_, rfl⟩, _, _, rfl, rfl, rfl, sz5 (by omega), fun p np => newH np fun H1 e1 h1 => ⟨_, rfl, _, rfl, p, _, rfl, sql h1, fun q nq => newH nq fun H2 e2 h2 => ?_⟩⟩
    have hs : L2.cutV ((Txt.split (S (pathL ps)) ("/" : Str)).map V.str) none (some (-1)) = (([] :: ps.dropLast).map S).map V.str := by
      rw [cut_last]
      by_cases h0 : ps = []
      · subst h0
        rw [slash_split0]
        rfl
      · rw [slash_split hp h0, ← List.map_dropLast, ← List.map_dropLast]
        cases ps with
        | nil => exact absurd rfl h0
        | cons x r => rfl
    have hu := hp.up
    have hj : Txt.join ("/" : Str) (([] :: ps.dropLast).map S) = S (if ps.dropLast = [] then [] else pathL ps.dropLast) := by rw [str_slash, SX.join_S, joinL_up]
    refine ⟨_, _, ([] :: ps.dropLast).map S, rfl, rfl, .inl (sql (by rw [h2]; exact congrArg (fun z => some (HO.lst z)) hs)), ?_, ?_⟩
    · have hz := sum_lens ([] :: ps.dropLast) fun z hz => by
        rcases List.mem_cons.mp hz with rfl | hz
        · decide
        · exact (hu.each z hz).len.2
      have := hu.few
      have h1 : (("/" : Str)).length = 1 := rfl
      rw [h1, List.length_map, List.length_cons]
      rw [List.length_cons] at hz
      omega
    · rw [hj]
      by_cases h0 : ps.dropLast = []
      · rw [if_pos h0]
        refine ⟨false, ?_, ?_⟩
        · exact ⟨Nat.zero_le _, rfl⟩
        · show Q (V.str ("/" : Str)) H2
          have := k H2 (e1.trans e2)
          rw [h0] at this
          rw [str_slash]
          exact this
      · rw [if_neg h0]
        have hlu : (S (pathL ps.dropLast)).length ≤ 81 := by rw [SX.S_len]; exact hu.len
        refine ⟨true, ⟨sz5 (by omega), ?_⟩, k H2 (e1.trans e2)⟩
        symm
        rw [bne_iff_ne, SX.S_len]
        unfold pathL
        rw [List.length_cons]
        omega
abbrev s_law_kids : Stmt := topS 60
theorem sc_law_kids : FnScope ["_law_web", "_law_road", "_law_one"] ["_law_web", "_law_road"] (C8.fnScope s_law_kids) := C8.fnScope_by (by decide +kernel)
def spLKids : Sp := fun vs H Q _ => ∃ d ns b x, vs = [.ref d, .str x] ∧ NodesAt H d ns ∧ NOk b ns ∧ ∀ (p : Addr) (zs : List Str) H', Same H H' → H' p = some (.lst (zs.map V.str)) → (∀ z ∈ zs, PyData.strOk z = true) → Q (.ref p) H'
theorem ok_law_kids (F : C8.Def K mg "_law_kids" s_law_kids f fd) (b : Binds K fd ["_law_web", "_law_road"] []) (T : Tx K w mg) (c_law_above : Cal P w K mg base 1 "_law_above" spParentOf []) : Cal P w K mg base 2 "_law_kids" spLKids [] := by
  refine C8.cal0 F b .nil sc_law_kids (fun vs H Q E h => ?_) (fun cdv A outer s H vs Q E hr h => ?_)
  · obtain ⟨_, _, _, _, rfl, _⟩ := h
    rfl
  · obtain ⟨d, ns, b, x, rfl, hN, ok, k⟩ := h
    refine ⟨_, (pss_one (ps_ret (pe_callB cr_sortedS (by rfl) T.n_sorted (by decide +kernel) (pa_cons (pe_lock (pe_lc rfl sc_law_kids.nd (pi_keys (pv 0)) (L2.blkOk_by (own := [("_law_one", 2)]) (N := ["_law_web", "_law_road", "_law_one"]) (sc := C8.fnScope s_law_kids) (by decide +kernel)) (fun _ _ _ _ _ => (pg_name (i := 2) sc_law_kids.nd rfl (Or.inl rfl))) (fun _ _ _ _ _ => (pts_one (PW.pt (pw_and (pt_cmpR op_ne (pv 2) pe_str (nomark _)) (pw_and1 (pt_cmpR op_eq (C8.pe_c c_law_above hr (by decide) (by rfl) (pa_cons (pv 2) pa_nil)) (pv 1) (nomark _))))))) (fun _ _ _ _ _ => (pe_ix (ixk_list K rfl) (pe_split (pv 2) pe_str) (pe_un un_neg pe_int) (fun _ _ => rfl))))) pa_nil)))), ?_⟩
    refine ⟨d, _, hN.1, trivial, fun od => ⟨_, rfl, d, od, rfl, .inl ⟨_, upd_same, fun D nD => lc_any walk_keys (fun v => ∃ z, v = .str z ∧ PyData.strOk z = true) nD (by rw [List.length_map]; have := ok.few; omega) (fun Ha sm => sm _ _ upd_same) (fun i x Ha Hb Nx hi sm y kp dr => ?_) (fun Ha xs sm hD hl hR => ?_)⟩⟩⟩
    · obtain ⟨rfl, k2, v2, hk, rfl⟩ := y
      obtain ⟨n, hn, _, rfl, rfl⟩ := ent_at hk
      obtain ⟨ps, hp, ep⟩ := ok.path n hn
      refine ⟨rfl, _, rfl, rfl, _, rfl, ?_⟩
      by_cases h0 : ps = []
      · subst h0
        exact iteEq (by show V.str n.path = V.str ("/" : Str); rw [ep, str_slash]; rfl) (dr _ (Same.refl _))
      · have hs := slash_split hp h0
        obtain ⟨qs, q, rfl⟩ := snoc_of h0
        refine iteNe (fun z => snoc_root hp (by rw [← ep]; exact V.str.inj z)) ?_
        have hl81 : n.path.length ≤ 81 := by rw [ep, SX.S_len]; exact hp.len
        refine ⟨_, rfl, _, by rw [← ep]; rfl, hp, fun H2 e2 => ⟨_, rfl, rfl, _, rfl, ite2 (fun _ => ?_) (fun _ => ?_)⟩⟩
        · refine ⟨_, rfl, ⟨_, rfl⟩, _, _, rfl, rfl, rfl, sz5 (by show n.path.length + 2 ≤ _; omega), fun p np => newH np fun H4 e4 h4 => ⟨_, rfl, p, _, _, .str (S q), rfl, rfl, sql h4, ?_, kp _ _ ⟨_, rfl, ok_S (hp.each q (by simp)).low⟩ (e2.trans e4)⟩⟩
          show atI ((Txt.split n.path ("/" : Str)).map V.str) (-1) = _
          rw [ep, hs, show List.map V.str (([] :: (qs ++ [q])).map S) = (([] :: qs).map S).map V.str ++ [V.str (S q)] by simp]
          exact atI_last _ _
        · exact dr _ e2
    · obtain ⟨zs, rfl, hz⟩ := all_strs hR
      refine ⟨sm _ _ upd_same, D, zs, rfl, sql ?_, ?_, fun ys p hp _ np => newH np fun H3 e3 h3 => k p ys H3 ((sm_unlock sm hN.1).trans e3) h3 fun z m => hz z (hp.mem_iff.mp m)⟩
      · rw [upd_ne (fun z => by rw [z, upd_same] at nD; cases nD)]
        exact hD
      · rw [List.length_map, List.length_map] at hl
        have := ok.few
        omega
end
end N17

set_option Elab.async false
set_option linter.all false
set_option maxRecDepth 100000
set_option maxHeartbeats 4000000
namespace N17
open PySem PySem.Spec PyProof.Rows
open L2 hiding CX0 E0 pass0 Fun Fun.ok fun_mk
open C8 (Cal CX0 E0 pass0)
open SX (S)
/-! ### the law's own store -/
def Rt (ns : List Nd) : Prop := ∃ n ∈ ns, n.path = ("/" : Str) ∧ n.own = none
theorem Rt.ne {ns : List Nd} (h : Rt ns) : ns ≠ [] := fun z => by
  obtain ⟨n, hn, _⟩ := h
  rw [z] at hn
  cases hn
theorem Rt.put {ns : List Nd} {n : Nd} (h : Rt ns) (hn : n.path = ("/" : Str) → n.own = none) : Rt (putN ns n) := by
  obtain ⟨m, hm, hp, ho⟩ := h
  by_cases e : m.path = n.path
  · exact ⟨n, put_self, by rw [← e]; exact hp, hn (by rw [← e]; exact hp)⟩
  · exact ⟨m, put_old hm e, hp, ho⟩
theorem Rt.filter {ns : List Nd} {p : Nd → Bool} (h : Rt ns) (hp : ∀ n ∈ ns, n.path = ("/" : Str) → n.own = none → p n = true) : Rt (ns.filter p) := by
  obtain ⟨m, hm, e, ho⟩ := h
  exact ⟨m, List.mem_filter.mpr ⟨hm, hp m hm e ho⟩, e, ho⟩
/-- what a plain deed of the law hands back -/
def LRes (d0 : Addr) (H0 H : Hp) (p : Addr) (ns : List Nd) : Prop := ∃ d t e wd v xs, (d = d0 ∨ H0 d = none) ∧ H0 e = none ∧ H p = some (.tup [.ref d, .ref t, .ref e]) ∧ NodesAt H d ns ∧ H t = some (.tup [.str wd, v]) ∧ H e = some (.lst xs) ∧ xs.length ≤ 2
theorem LRes.up {d0 : Addr} {H0 H1 H : Hp} {p : Addr} {ns : List Nd} (s : Same H0 H1) (h : LRes d0 H1 H p ns) : LRes d0 H0 H p ns := by
  obtain ⟨d, t, e, wd, v, xs, h1, h2, r⟩ := h
  exact ⟨d, t, e, wd, v, xs, h1.imp id s.free, s.free h2, r⟩
def WPost (H : Hp) (Q : VK) (d0 : Addr) (b : Int) : Prop := ∀ p ns' H', Same H H' → LRes d0 H H' p ns' → NOk (b + 1) ns' → Rt ns' → Q (.ref p) H'
theorem cut2 (x y z u : V) : L2.cutV [x, y, z, u] none (some 2) = [x, y] := rfl
theorem cut3 (x y z u : V) : L2.cutV [x, y, z, u] (some 3) none = [u] := rfl
section
variable {P : Program} {w : World} {K : PySem.W.Frag} {mg : Str → Option Value} {base : Heap} {f : Addr} {fd : FuncData}
abbrev s_law_make : Stmt := topS 61
theorem sc_law_make : FnScope ["_law_web", "_law_task_here", "_law_who", "_law_word_here", "_law_road", "_law_text", "_law_own", "_law_numbered", "_law_above_here", "_law_elder", "_law_found"] ["_law_web", "_law_task_here", "_law_who"] (C8.fnScope s_law_make) := C8.fnScope_by (by decide +kernel)
def spLMake : Sp := fun vs H Q _ => ∃ d ns b a who ps p t own num, vs = [.ref d, .ref a, .str who] ∧ NodesAt H d ns ∧ NOk b ns ∧ b < 90000 ∧ Rt ns ∧ H a = some (.tup (Pl.vs (.make ps p t own num))) ∧ PlOk (.make ps p t own num) ∧ WPost H Q d b
theorem ok_law_make (F : C8.Def K mg "_law_make" s_law_make f fd) (b : Binds K fd ["_law_web", "_law_task_here", "_law_who"] []) (T : Tx K w mg) (c_law_above : Cal P w K mg base 1 "_law_above" spParentOf []) : Cal P w K mg base 2 "_law_make" spLMake [] := by
  refine C8.cal0 F b .nil sc_law_make (fun vs H Q E h => ?_) (fun cdv A outer s H vs Q E hr h => ?_)
  · obtain ⟨_, _, _, _, _, _, _, _, _, _, rfl, _⟩ := h
    rfl
  · obtain ⟨d, ns, b, a, who, ps, q, t, own, num, rfl, hN, ok, hb, rt, ha, ⟨hp, ht, hn⟩, k⟩ := h
    have hu := hu_of hr
    refine ⟨_, (pss_cons (ps_asg (pv 1) (pg_tup rfl (pgs_cons (pg_name (i := 3) sc_law_make.nd rfl (Or.inl rfl)) (pgs_cons (pg_name (i := 4) sc_law_make.nd rfl (Or.inl rfl)) (pgs_cons (pg_name (i := 5) sc_law_make.nd rfl (Or.inl rfl)) (pgs_cons (pg_name (i := 6) sc_law_make.nd rfl (Or.inl rfl)) (pgs_cons (pg_name (i := 7) sc_law_make.nd rfl (Or.inl rfl)) pgs_nil)))))))
        (pss_cons (ps_set (i := 8) sc_law_make.nd rfl (Or.inl rfl) (C8.pe_c c_law_above hr (by decide) (by rfl) (pa_cons (pv 4) pa_nil)))
        (pss_cons (ps_if (pt_cmp (pc_dnotin hu (pv 8) (pv 0))) (pss_one (ps_ret (pe_tup (pa_cons (pv 0) (pa_cons (pe_tup (pa_cons pe_str (pa_cons pe_str pa_nil))) (pa_cons (pe_lst pa_nil) pa_nil)))))) pss_nil)
        (pss_cons (ps_set (i := 9) sc_law_make.nd rfl (Or.inl rfl) (pe_dget hu (pv 0) (pv 8) (fun _ _ => rfl)))
        (pss_cons (ps_if (pt_cmp (pc_notN (pe_ix ix_tup (pv 9) pe_int (fun _ _ => rfl)))) (pss_one (ps_ret (pe_tup (pa_cons (pv 0) (pa_cons (pe_tup (pa_cons pe_str (pa_cons pe_str pa_nil))) (pa_cons (pe_lst pa_nil) pa_nil)))))) pss_nil)
        (C8.pss_cut (ps_if (pt_val (pv 7)) (pss_one (ps_set (i := 4) sc_law_make.nd rfl (Or.inl rfl) (pe_op op_add_str (pe_op op_add_str (pv 4) pe_str) (pe_slice sl_str (pe_op op_add_str pe_str (pe_callTy call_str_int (by rfl) T.n_str (by decide +kernel) (pa_cons (pe_ix ix_tup (pv 9) pe_int (fun _ _ => rfl)) pa_nil))) (po_some (pe_un un_neg pe_int)) po_none)))) pss_nil)
        (pss_cons (ps_if (pt_cmp (pc_din hu (pv 4) (pv 0))) (pss_one (ps_ret (pe_tup (pa_cons (pv 0) (pa_cons (pe_tup (pa_cons pe_str (pa_cons pe_str pa_nil))) (pa_cons (pe_lst pa_nil) pa_nil)))))) pss_nil)
        (pss_cons (ps_if (pt_cmpR op_gt (pe_callB call_lenD (by rfl) T.n_len (by decide +kernel) (pa_cons (pv 0) pa_nil)) pe_int (nomark _)) (pss_one (ps_ret (pe_tup (pa_cons (pv 0) (pa_cons (pe_tup (pa_cons pe_str (pa_cons pe_str pa_nil))) (pa_cons (pe_lst pa_nil) pa_nil)))))) pss_nil)
        (pss_cons (ps_set (i := 10) sc_law_make.nd rfl (Or.inl rfl) (pe_callTy call_dictD (by rfl) T.n_dict (by decide +kernel) (pa_cons (pv 0) pa_nil)))
        (pss_cons (ps_dput hu (pv 10) (pv 8) (pe_op op_catT (pe_op op_catT (pe_slice sl_tup (pv 9) po_none (po_some pe_int)) (pe_tup (pa_cons (pe_op op_add (pe_ix ix_tup (pv 9) pe_int (fun _ _ => rfl)) pe_int) pa_nil))) (pe_slice sl_tup (pv 9) (po_some pe_int) po_none)) rfl)
        (pss_cons (ps_dput hu (pv 10) (pv 4) (pe_tup (pa_cons (pv 5) (pa_cons pe_int (pa_cons pe_int (pa_cons (pe_ix ix_list (pe_lst (pa_cons pe_non (pa_cons (pv 2) pa_nil))) (pe_callTy call_int1 (by rfl) T.n_int (by decide +kernel) (pa_cons (pv 6) pa_nil)) (fun _ _ => rfl)) pa_nil))))) rfl)
        (pss_one (ps_ret (pe_tup (pa_cons (pv 10) (pa_cons (pe_tup (pa_cons pe_str (pa_cons (pv 4) pa_nil))) (pa_cons (pe_lst (pa_cons (pe_tup (pa_cons pe_str (pa_cons (pv 4) pa_nil))) (pa_cons (pe_tup (pa_cons pe_str (pa_cons (pv 8) pa_nil))) pa_nil))) pa_nil))))))))))))))))), ?_⟩
    refine ⟨_, rfl, a, _, rfl, sqt ha, rfl, _, _, rfl, _, _, rfl, _, _, rfl, _, _, rfl, _, _, rfl, rfl, ?_⟩
    refine ⟨_, rfl, _, rfl, hp, fun H1 e1 => ?_⟩
    have hN1 := hN.mono e1
    have ed : (ps ++ [q]).dropLast = ps := List.dropLast_concat
    rw [ed]
    refine ⟨_, rfl, _, rfl, d, _, rfl, DGet.k (k := Sum.inr (S (pathL ps))) hN1.1, _, rfl, ?_⟩
    cases e : valV (ns.map ent) (.inr (S (pathL ps))) with
    | none => exact ⟨_, rfl, Nat.le_of_ble_eq_true rfl, fun t2 nt2 => newH nt2 fun J2 f2 g2 => ⟨Nat.zero_le _, fun l3 nl3 => newH nl3 fun J3 f3 g3 => ⟨Nat.le_of_ble_eq_true rfl, fun p4 np4 => newH np4 fun J4 f4 g4 => k p4 ns J4 (e1.trans ((f2.trans f3).trans f4)) ⟨d, t2, l3, _, _, [], .inl rfl, sm_free (e1.trans f2) nl3, g4, hN1.mono ((f2.trans f3).trans f4), f4 _ _ (f3 _ _ g2), f4 _ _ g3, Nat.zero_le _⟩ (ok.mono (by omega)) rt⟩⟩⟩
    | some v =>
      obtain ⟨n, hn1, hnp, rfl⟩ := look_some e
      have hnv : H1 n.ad = some (.tup n.vs) := hN1.2 n hn1
      have hg : DGet H1 d (.str (S (pathL ps))) (some (.ref n.ad)) := by
        have := DGet.k (k := Sum.inr (S (pathL ps))) hN1.1
        rw [e] at this
        exact this
      refine ⟨_, rfl, _, rfl, d, _, rfl, hg, ?_⟩
      refine ⟨_, rfl, n.ad, _, _, _, rfl, rfl, sqt hnv, rfl, _, rfl, ?_⟩
      cases ho : n.own with
      | some x => exact iteNe (fun z => nomatch z) ⟨_, rfl, Nat.le_of_ble_eq_true rfl, fun t2 nt2 => newH nt2 fun J2 f2 g2 => ⟨Nat.zero_le _, fun l3 nl3 => newH nl3 fun J3 f3 g3 => ⟨Nat.le_of_ble_eq_true rfl, fun p4 np4 => newH np4 fun J4 f4 g4 => k p4 ns J4 (e1.trans ((f2.trans f3).trans f4)) ⟨d, t2, l3, _, _, [], .inl rfl, sm_free (e1.trans f2) nl3, g4, hN1.mono ((f2.trans f3).trans f4), f4 _ _ (f3 _ _ g2), f4 _ _ g3, Nat.zero_le _⟩ (ok.mono (by omega)) rt⟩⟩⟩
      | none =>
        refine iteEq rfl ?_
        have hm := ok.made n hn1
        have hnv2 : H1 n.ad = some (.tup [.str n.text, .int n.cnt, .int n.made, .non]) := by rw [hnv]; unfold Nd.vs; rw [ho]; rfl
        refine ⟨fun σ' H' => ∃ x, σ' = [some (.ref d), some (.ref a), some (.str who), some (.str "make"), some (.str x), some (.str (S t)), some (.bl own), some (.bl num), some (.str (S (pathL ps))), some (.ref n.ad), none] ∧ H1 = H' ∧ IsPath x, ?_, ?_⟩
        · refine ⟨_, rfl, _, rfl, ?_⟩
          cases num with
          | false => exact ⟨_, rfl, rfl, _, hp, rfl⟩
          | true =>
            have hl81 : (S (pathL (ps ++ [q]))).length ≤ 81 := by rw [SX.S_len]; exact hp.len
            obtain ⟨m, em⟩ := Int.eq_ofNat_of_zero_le hm.1
            have hm2 : m < 100000 := by omega
            refine ⟨_, rfl, _, _, rfl, rfl, sz5 (by show _ + 1 ≤ 1000; omega), ?_⟩
            refine ⟨_, rfl, n.ad, _, _, _, rfl, rfl, sqt hnv2, rfl, _, rfl, ?_, _, _, rfl, rfl, ?_, ?_⟩
            · rw [em]
              exact log_small (by simpa using hm2)
            · rw [em, num_str]
              have := numL_6 hm2
              have h5 : (("00000" : Str)).length = 5 := by decide +kernel
              show (("00000" : Str)).length + (S (TL.numL m)).length ≤ sizeLine
              rw [h5, show (S (TL.numL m)).length = (TL.numL m).length from SX.S_len _]
              exact sz5 (by omega)
            · have e0 : ("00000" : Str) ++ ((toString n.made : String) : Str) = S [48, 48, 48, 48, 48] ++ S (TL.numL m) := by
                rw [em, num_str, show ("00000" : Str) = S [48, 48, 48, 48, 48] by decide +kernel]
              have l0 : (("00000" : Str) ++ ((toString n.made : String) : Str)).length ≤ 1000 := by
                rw [e0, SX.S_cat, SX.S_len, List.length_append]
                have := numL_6 hm2
                simp only [List.length_cons, List.length_nil]
                omega
              have e3 : S (pathL (ps ++ [q])) ++ ("-" : Str) = S (pathL (ps ++ [q]) ++ [45]) := SX.S_cat _ _
              have e4 : L2.cutS (("00000" : Str) ++ ((toString n.made : String) : Str)) (some (-6)) none = S (six m) := by rw [e0]; exact tail_six hm2
              refine ⟨_, rfl, _, rfl, _, rfl, sz5 l0, _, _, rfl, rfl, ?_, _, rfl, rfl, ?_⟩
              · show (S (pathL (ps ++ [q])) ++ ("-" : Str)).length + (L2.cutS (("00000" : Str) ++ ((toString n.made : String) : Str)) (some (-6)) none).length ≤ sizeLine
                rw [e4, e3, SX.S_len, SX.S_len, List.length_append, six_len hm2]
                rw [SX.S_len] at hl81
                exact sz5 (by simp; omega)
              · show IsPath ((S (pathL (ps ++ [q])) ++ ("-" : Str)) ++ L2.cutS (("00000" : Str) ++ ((toString n.made : String) : Str)) (some (-6)) none)
                rw [e4, e3, SX.S_cat, List.append_assoc, pathL_app]
                exact ⟨_, hp.reset (word_dash (hn rfl) hm2), rfl⟩
        · rintro σ' H' ⟨x, rfl, rfl, hx⟩
          refine ⟨_, rfl, _, rfl, d, _, rfl, DGet.k (k := Sum.inr x) hN1.1, _, rfl, ?_⟩
          cases ex : valV (ns.map ent) (.inr x) with
          | some v => exact ⟨_, rfl, Nat.le_of_ble_eq_true rfl, fun t2 nt2 => newH nt2 fun J2 f2 g2 => ⟨Nat.zero_le _, fun l3 nl3 => newH nl3 fun J3 f3 g3 => ⟨Nat.le_of_ble_eq_true rfl, fun p4 np4 => newH np4 fun J4 f4 g4 => k p4 ns J4 (e1.trans ((f2.trans f3).trans f4)) ⟨d, t2, l3, _, _, [], .inl rfl, sm_free (e1.trans f2) nl3, g4, hN1.mono ((f2.trans f3).trans f4), f4 _ _ (f3 _ _ g2), f4 _ _ g3, Nat.zero_le _⟩ (ok.mono (by omega)) rt⟩⟩⟩
          | none =>
            have nx := look_none ex
            refine ⟨_, rfl, d, _, rfl, hN1.1, _, _, rfl, rfl, _, rfl, ?_⟩
            rw [List.length_map]
            refine ite2 (fun c => ?_) (fun c => ?_)
            · exact ⟨_, rfl, Nat.le_of_ble_eq_true rfl, fun t2 nt2 => newH nt2 fun J2 f2 g2 => ⟨Nat.zero_le _, fun l3 nl3 => newH nl3 fun J3 f3 g3 => ⟨Nat.le_of_ble_eq_true rfl, fun p4 np4 => newH np4 fun J4 f4 g4 => k p4 ns J4 (e1.trans ((f2.trans f3).trans f4)) ⟨d, t2, l3, _, _, [], .inl rfl, sm_free (e1.trans f2) nl3, g4, hN1.mono ((f2.trans f3).trans f4), f4 _ _ (f3 _ _ g2), f4 _ _ g3, Nat.zero_le _⟩ (ok.mono (by omega)) rt⟩⟩⟩
            · have hlen : ns.length < 60 := by
                have c2 : ¬ (59 : Int) < (ns.length : Int) := fun z => c (decide_eq_true z)
                omega
              obtain ⟨ow, how⟩ : ∃ ow, atI [V.non, V.str who] (if own = true then 1 else 0) = some (ownV ow) := by
                cases own with
                | true => exact ⟨some who, rfl⟩
                | false => exact ⟨none, rfl⟩
              refine ⟨_, rfl, d, _, rfl, .inl hN1.1, fun d2 n2 => newH n2 fun H2 e2 h2 => ?_⟩
              have v2 := e2 _ _ hnv2
              refine ⟨_, rfl, _, rfl, n.ad, _, rfl, sqt v2, (fun z => (by decide : ¬ HT.sIx 4 4 (some 2) = 4) z.2), fun s1 m1 => newH m1 fun H3 e3 h3 => ?_⟩
              refine ⟨_, rfl, n.ad, _, _, _, rfl, rfl, sqt (e3 _ _ v2), rfl, _, _, rfl, rfl, Nat.le_of_ble_eq_true rfl, fun s2 m2 => newH m2 fun H4 e4 h4 => ?_⟩
              refine ⟨s1, s2, _, _, rfl, rfl, sqt (e4 _ _ h3), sqt h4, (fun z => by cases z), Nat.le_of_ble_eq_true rfl, (fun z => by cases z), fun _ s3 m3 => newH m3 fun H5 e5 h5 => ?_⟩
              have v5 := e5 _ _ (e4 _ _ (e3 _ _ v2))
              refine ⟨_, rfl, _, rfl, n.ad, _, rfl, sqt v5, (fun z => (by decide : ¬ HT.sIx 4 0 (some 3) = 0) z.1), fun s4 m4 => newH m4 fun H6 e6 h6 => ?_⟩
              refine ⟨s3, s4, _, _, rfl, rfl, sqt (e6 _ _ h5), sqt h6, (fun z => by cases z), Nat.le_of_ble_eq_true rfl, (fun z => by cases z), fun _ t1 m5 => newH m5 fun H7 e7 h7 => ?_⟩
              have e27 := (((e3.trans e4).trans e5).trans e6).trans e7
              refine ⟨_, rfl, _, rfl, d2, _, rfl, DPut.k (k := Sum.inr (S (pathL ps))) (e27 _ _ h2) (by rw [List.length_map]; exact small1000 (by omega)), chgH fun H8 x8 h8 => ?_⟩
              have hl8 : (putK (ns.map ent) (Sum.inr (S (pathL ps)) : Key) (V.ref t1)).length < sizeLine := by
                have := length_putK (ns.map ent) (Sum.inr (S (pathL ps)) : Key) (V.ref t1)
                rw [List.length_map] at this
                exact small1000 (by omega)
              have h7' : H7 t1 = some (.tup [.str n.text, .int n.cnt, .int (n.made + 1), .non]) := h7
              have e8 : ∀ b o, b ≠ d2 → H1 b = some o → H8 b = some o := fun b o nb hb => x8 b o nb (e27 _ _ (e2 _ _ hb))
              refine ⟨_, rfl, _, rfl, Nat.le_of_ble_eq_true rfl, fun l6 m6 => newH m6 fun H9 e9 h9 => ⟨_, rfl, .inr ⟨own, rfl, l6, _, _, ownV ow, rfl, rfl, sql h9, how, Nat.le_of_ble_eq_true rfl, fun t2 m7 => newH m7 fun H10 e10 h10 => ?_⟩⟩⟩
              refine ⟨_, rfl, _, rfl, d2, _, rfl, DPut.k (k := Sum.inr x) (e10 _ _ (e9 _ _ h8)) hl8, chgH fun H11 x11 h11 => ?_⟩
              refine ⟨_, rfl, _, rfl, Nat.le_of_ble_eq_true rfl, fun u nu => newH nu fun J1 f1 g1 => ⟨_, rfl, Nat.le_of_ble_eq_true rfl, fun a1 na1 => newH na1 fun J2 f2 g2 => ⟨_, rfl, Nat.le_of_ble_eq_true rfl, fun a2 na2 => newH na2 fun J3 f3 g3 => ⟨Nat.le_of_ble_eq_true rfl, fun e ne => newH ne fun J4 f4 g4 => ⟨Nat.le_of_ble_eq_true rfl, fun p np => newH np fun J5 f5 g5 => ?_⟩⟩⟩⟩⟩
              have p1 := put_ent ns ⟨S (pathL ps), t1, n.text, n.cnt, n.made + 1, none⟩
              have p2 := put_ent (putN ns ⟨S (pathL ps), t1, n.text, n.cnt, n.made + 1, none⟩) ⟨x, t2, S t, 0, 0, ow⟩
              have N7 : NodesAt H7 d2 ns := ⟨e27 _ _ h2, fun m hm => e27 _ _ (e2 _ _ (hN1.2 m hm))⟩
              have N8 := NodesAt.store (n := ⟨S (pathL ps), t1, n.text, n.cnt, n.made + 1, none⟩) N7 h7' x8 (by rw [← p1]; exact h8)
              have N10 := NodesAt.store (n := ⟨x, t2, S t, 0, 0, ow⟩) (N8.mono (e9.trans e10)) h10 x11 (by rw [← p2, ← p1]; exact h11)
              have f15 := (((f1.trans f2).trans f3).trans f4).trans f5
              have hin : S (pathL ps) ∈ ns.map (·.path) := List.mem_map.mpr ⟨n, hn1, hnp⟩
              have hpp2 : (putN ns ⟨S (pathL ps), t1, n.text, n.cnt, n.made + 1, none⟩).map (·.path) = ns.map (·.path) := by rw [paths_put, if_pos hin]
              have ok1 : NOk (b + 1) (putN ns ⟨S (pathL ps), t1, n.text, n.cnt, n.made + 1, none⟩) := (ok.mono (by omega)).put (.inl hin) ⟨ps, hp.left, rfl⟩ (ok.cnt n hn1) ⟨by show 0 ≤ n.made + 1; omega, by show n.made + 1 ≤ b + 1; omega⟩
              have ok2 := ok1.put (n := ⟨x, t2, S t, 0, 0, ow⟩) (.inr (by rw [put_len, if_pos hin]; exact hlen)) hx (Int.le_refl _) ⟨Int.le_refl _, by have := (ok.made n hn1); show (0 : Int) ≤ b + 1; omega⟩
              have rt1 : Rt (putN ns ⟨S (pathL ps), t1, n.text, n.cnt, n.made + 1, none⟩) := rt.put fun _ => rfl
              have rt2 := rt1.put (n := ⟨x, t2, S t, 0, 0, ow⟩) fun z => absurd (by
                obtain ⟨r, hr, hr2, _⟩ := rt
                exact List.mem_map.mpr ⟨r, hr, hr2.trans (Eq.symm z)⟩) nx
              have s18 : Same H1 H8 := sm_sx (e2.trans e27) x8 n2
              have s111 : Same H1 H11 := sm_sx (s18.trans (e9.trans e10)) x11 n2
              have n2' : H d2 = none := sm_free e1 n2
              have ne' : H e = none := sm_free (e1.trans (s111.trans ((f1.trans f2).trans f3))) ne
              exact k p _ J5 (e1.trans (s111.trans f15)) ⟨d2, u, e, _, _, _, .inr n2', ne', g5, N10.mono f15, f5 _ _ (f4 _ _ (f3 _ _ (f2 _ _ g1))), f5 _ _ g4, Nat.le_of_ble_eq_true rfl⟩ ok2 rt2
end
end N17

set_option Elab.async false
set_option linter.all false
set_option maxRecDepth 100000
set_option maxHeartbeats 4000000
namespace N17
open PySem PySem.Spec PyProof.Rows
open L2 hiding CX0 E0 pass0 Fun Fun.ok fun_mk
open C8 (Cal CX0 E0 pass0)
open SX (S)
theorem dropK_ent (ns : List Nd) (x : Str) : dropK (ns.map ent) (Sum.inr x : Key) = (ns.filter (keepN x)).map ent := by
  unfold dropK
  rw [List.filter_map]
  congr 1
  refine List.filter_congr fun n _ => ?_
  show decide (¬ (Sum.inr n.path : Key) = Sum.inr x) = keepN x n
  unfold keepN
  by_cases h : n.path = x
  · simp [h]
  · have : ¬ (Sum.inr n.path : Key) = Sum.inr x := fun z => h (Sum.inr.inj z)
    simp [h, this]
section
variable {P : Program} {w : World} {K : PySem.W.Frag} {mg : Str → Option Value} {base : Heap} {f : Addr} {fd : FuncData}
abbrev s_law_plainly : Stmt := topS 62
theorem sc_law_plainly : FnScope ["_law_web", "_law_task_here", "_law_who", "_law_road", "_law_wanted", "_law_node", "_law_found"] ["_law_web", "_law_task_here", "_law_who"] (C8.fnScope s_law_plainly) := C8.fnScope_by (by decide +kernel)
def spLPlainly : Sp := fun vs H Q _ => ∃ d ns b a l who, vs = [.ref d, .ref a, .str who] ∧ NodesAt H d ns ∧ NOk b ns ∧ b < 90000 ∧ Rt ns ∧ H a = some (.tup (Pl.vs l)) ∧ PlOk l ∧ WPost H Q d b
theorem ok_law_plainly (F : C8.Def K mg "_law_plainly" s_law_plainly f fd) (b : Binds K fd ["_law_web", "_law_task_here", "_law_who"] []) (T : Tx K w mg) (c_law_above : Cal P w K mg base 1 "_law_above" spParentOf []) (c_law_kids : Cal P w K mg base 2 "_law_kids" spLKids [])
    (c_law_make : Cal P w K mg base 2 "_law_make" spLMake []) : Cal P w K mg base 3 "_law_plainly" spLPlainly [] := by
  refine C8.cal0 F b .nil sc_law_plainly (fun vs H Q E h => ?_) (fun cdv A outer s H vs Q E hr h => ?_)
  · obtain ⟨_, _, _, _, _, _, rfl, _⟩ := h
    rfl
  · obtain ⟨d, ns, b, a, l, who, rfl, hN, ok, hb, rt, ha, hl, k⟩ := h
    have hu := hu_of hr
    refine ⟨_, (pss_cons (ps_if (pt_cmpR op_eq (pe_ix ix_tup (pv 1) pe_int (fun _ _ => rfl)) pe_str (nomark _)) (pss_one (ps_ret (C8.pe_c c_law_make hr (by decide) (by rfl) (pa_cons (pv 0) (pa_cons (pv 1) (pa_cons (pv 2) pa_nil)))))) pss_nil)
        (pss_cons (ps_par (i := 3) (j := 4) rfl sc_law_plainly.nd rfl rfl (by decide) rfl rfl (pa_cons (pe_ix ix_tup (pv 1) pe_int (fun _ _ => rfl)) (pa_cons (pe_ix ix_tup (pv 1) (pe_un un_neg pe_int) (fun _ _ => rfl)) pa_nil)) (by rfl))
        (pss_cons (ps_if (pt_cmp (pc_dnotin hu (pv 3) (pv 0))) (pss_one (ps_ret (pe_tup (pa_cons (pv 0) (pa_cons (pe_tup (pa_cons pe_str (pa_cons pe_str pa_nil))) (pa_cons (pe_lst pa_nil) pa_nil)))))) pss_nil)
        (pss_cons (ps_set (i := 5) sc_law_plainly.nd rfl (Or.inl rfl) (pe_dget hu (pv 0) (pv 3) (fun _ _ => rfl)))
        (C8.pss_cut (ps_if (PW.pt (pw_and (pt_cmp (pc_notN (pv 4))) (pw_and1 (pt_cmpR op_ne (pv 4) (pe_ix ix_tup (pv 5) pe_int (fun _ _ => rfl)) (nomark _))))) (pss_one (ps_ret (pe_tup (pa_cons (pv 0) (pa_cons (pe_tup (pa_cons pe_str (pa_cons pe_str pa_nil))) (pa_cons (pe_lst pa_nil) pa_nil)))))) pss_nil)
        (pss_cons (ps_if (pt_cmpR op_eq (pe_ix ix_tup (pv 1) pe_int (fun _ _ => rfl)) pe_str (nomark _)) (pss_one (ps_ret (pe_tup (pa_cons (pv 0) (pa_cons (pe_tup (pa_cons pe_str (pa_cons (pe_ix ix_tup (pv 5) pe_int (fun _ _ => rfl)) pa_nil))) (pa_cons (pe_lst pa_nil) pa_nil)))))) pss_nil)
        (pss_cons (ps_set (i := 6) sc_law_plainly.nd rfl (Or.inl rfl) (pe_callTy call_dictD (by rfl) T.n_dict (by decide +kernel) (pa_cons (pv 0) pa_nil)))
        (pss_cons (ps_if (pt_cmpR op_eq (pe_ix ix_tup (pv 1) pe_int (fun _ _ => rfl)) pe_str (nomark _)) (pss_cons (ps_dput hu (pv 6) (pv 3) (pe_op op_catT (pe_tup (pa_cons (pe_ix ix_tup (pv 1) pe_int (fun _ _ => rfl)) (pa_cons (pe_op op_add (pe_ix ix_tup (pv 5) pe_int (fun _ _ => rfl)) pe_int) pa_nil))) (pe_slice sl_tup (pv 5) (po_some pe_int) po_none)) rfl)
        (pss_one (ps_ret (pe_tup (pa_cons (pv 6) (pa_cons (pe_tup (pa_cons pe_str (pa_cons (pe_op op_add (pe_ix ix_tup (pv 5) pe_int (fun _ _ => rfl)) pe_int) pa_nil))) (pa_cons (pe_lst (pa_cons (pe_tup (pa_cons pe_str (pa_cons (pv 3) pa_nil))) pa_nil)) pa_nil))))))) pss_nil)
        (pss_cons (ps_if (pt_cmpR (op_neD hr.units) (C8.pe_c c_law_kids hr (by decide) (by rfl) (pa_cons (pv 0) (pa_cons (pv 3) pa_nil))) (pe_lst pa_nil) (nomark _)) (pss_one (ps_ret (pe_tup (pa_cons (pv 0) (pa_cons (pe_tup (pa_cons pe_str (pa_cons pe_str pa_nil))) (pa_cons (pe_lst pa_nil) pa_nil)))))) pss_nil)
        (pss_cons (ps_expr (pe_dpop1 (pv 6) (pv 3) ⟨by rfl, by rfl, by rfl, by rfl⟩))
        (pss_one (ps_ret (pe_tup (pa_cons (pv 6) (pa_cons (pe_tup (pa_cons pe_str (pa_cons pe_non pa_nil))) (pa_cons (pe_lst (pa_cons (pe_tup (pa_cons pe_str (pa_cons (pv 3) pa_nil))) (pa_cons (pe_tup (pa_cons pe_str (pa_cons (C8.pe_c c_law_above hr (by decide) (by rfl) (pa_cons (pv 3) pa_nil)) pa_nil))) pa_nil))) pa_nil)))))))))))))))), ?_⟩
    have h60 := ok.few
    cases l with
    | make ps p t own num =>
      refine ⟨_, rfl, a, _, _, _, rfl, rfl, sqt ha, rfl, rfl, _, rfl, iteD rfl ?_⟩
      exact ⟨_, rfl, _, rfl, _, rfl, d, ns, b, a, who, ps, p, t, own, num, rfl, hN, ok, hb, rt, ha, hl, k⟩
    | see x c =>
      refine ⟨_, rfl, a, _, _, _, rfl, rfl, sqt ha, rfl, rfl, _, rfl, iteDn (by decide +kernel) ?_⟩
      refine ⟨_, rfl, a, _, _, _, rfl, rfl, sqt ha, rfl, _, rfl, _, rfl, a, _, _, _, rfl, rfl, sqt ha, rfl, _, _, rfl, ?_⟩
      refine ⟨_, rfl, _, rfl, d, _, rfl, DGet.k (k := Sum.inr x) hN.1, _, rfl, ?_⟩
      cases e : valV (ns.map ent) (.inr x) with
      | none => exact ⟨_, rfl, Nat.le_of_ble_eq_true rfl, fun t2 nt2 => newH nt2 fun J2 f2 g2 => ⟨Nat.zero_le _, fun l3 nl3 => newH nl3 fun J3 f3 g3 => ⟨Nat.le_of_ble_eq_true rfl, fun p4 np4 => newH np4 fun J4 f4 g4 => k p4 ns J4 ((f2.trans f3).trans f4) ⟨d, t2, l3, _, _, [], .inl rfl, sm_free f2 nl3, g4, hN.mono ((f2.trans f3).trans f4), f4 _ _ (f3 _ _ g2), f4 _ _ g3, Nat.zero_le _⟩ (ok.mono (by omega)) rt⟩⟩⟩
      | some v =>
        have hx := mem_of_look e
        obtain ⟨n, hn, rfl, rfl⟩ := look_some e
        have hnv := hN.2 n hn
        have hg := DGet.k (k := Sum.inr n.path) hN.1
        rw [e] at hg
        refine ⟨_, rfl, _, rfl, d, _, rfl, hg, ?_⟩
        refine ⟨fun σ' H' => σ' = [some (.ref d), some (.ref a), some (.str who), some (.str n.path), some (cV c), some (.ref n.ad), none] ∧ H = H', ?_, ?_⟩
        · refine ⟨_, rfl, _, rfl, ?_⟩
          cases c with
          | none => exact ⟨rfl, rfl⟩
          | some i =>
            refine ⟨_, rfl, _, rfl, n.ad, n.vs, _, _, rfl, rfl, sqt hnv, rfl, rfl, _, rfl, ?_⟩
            refine ite2 (fun _ => ?_) (fun _ => ⟨rfl, rfl⟩)
            exact ⟨_, rfl, Nat.le_of_ble_eq_true rfl, fun t2 nt2 => newH nt2 fun J2 f2 g2 => ⟨Nat.zero_le _, fun l3 nl3 => newH nl3 fun J3 f3 g3 => ⟨Nat.le_of_ble_eq_true rfl, fun p4 np4 => newH np4 fun J4 f4 g4 => k p4 ns J4 ((f2.trans f3).trans f4) ⟨d, t2, l3, _, _, [], .inl rfl, sm_free f2 nl3, g4, hN.mono ((f2.trans f3).trans f4), f4 _ _ (f3 _ _ g2), f4 _ _ g3, Nat.zero_le _⟩ (ok.mono (by omega)) rt⟩⟩⟩
        · rintro σ' H' ⟨rfl, rfl⟩
          refine ⟨_, rfl, a, _, _, _, rfl, rfl, sqt ha, rfl, rfl, _, rfl, iteD rfl ?_⟩
          refine ⟨_, rfl, _, rfl, n.ad, n.vs, _, _, rfl, rfl, sqt hnv, rfl, Nat.le_of_ble_eq_true rfl, fun t2 nt2 => newH nt2 fun J2 f2 g2 => ⟨Nat.zero_le _, fun l3 nl3 => newH nl3 fun J3 f3 g3 => ⟨Nat.le_of_ble_eq_true rfl, fun p4 np4 => newH np4 fun J4 f4 g4 => ?_⟩⟩⟩
          exact k p4 ns J4 ((f2.trans f3).trans f4) ⟨d, t2, l3, _, _, [], .inl rfl, sm_free f2 nl3, g4, hN.mono ((f2.trans f3).trans f4), f4 _ _ (f3 _ _ g2), f4 _ _ g3, Nat.zero_le _⟩ (ok.mono (by omega)) rt
    | put x t c =>
      refine ⟨_, rfl, a, _, _, _, rfl, rfl, sqt ha, rfl, rfl, _, rfl, iteDn (by decide +kernel) ?_⟩
      refine ⟨_, rfl, a, _, _, _, rfl, rfl, sqt ha, rfl, _, rfl, _, rfl, a, _, _, _, rfl, rfl, sqt ha, rfl, _, _, rfl, ?_⟩
      refine ⟨_, rfl, _, rfl, d, _, rfl, DGet.k (k := Sum.inr x) hN.1, _, rfl, ?_⟩
      cases e : valV (ns.map ent) (.inr x) with
      | none => exact ⟨_, rfl, Nat.le_of_ble_eq_true rfl, fun t2 nt2 => newH nt2 fun J2 f2 g2 => ⟨Nat.zero_le _, fun l3 nl3 => newH nl3 fun J3 f3 g3 => ⟨Nat.le_of_ble_eq_true rfl, fun p4 np4 => newH np4 fun J4 f4 g4 => k p4 ns J4 ((f2.trans f3).trans f4) ⟨d, t2, l3, _, _, [], .inl rfl, sm_free f2 nl3, g4, hN.mono ((f2.trans f3).trans f4), f4 _ _ (f3 _ _ g2), f4 _ _ g3, Nat.zero_le _⟩ (ok.mono (by omega)) rt⟩⟩⟩
      | some v =>
        have hx := mem_of_look e
        obtain ⟨n, hn, rfl, rfl⟩ := look_some e
        have hnv := hN.2 n hn
        have hg := DGet.k (k := Sum.inr n.path) hN.1
        rw [e] at hg
        refine ⟨_, rfl, _, rfl, d, _, rfl, hg, ?_⟩
        refine ⟨fun σ' H' => σ' = [some (.ref d), some (.ref a), some (.str who), some (.str n.path), some (cV c), some (.ref n.ad), none] ∧ H = H', ?_, ?_⟩
        · refine ⟨_, rfl, _, rfl, ?_⟩
          cases c with
          | none => exact ⟨rfl, rfl⟩
          | some i =>
            refine ⟨_, rfl, _, rfl, n.ad, n.vs, _, _, rfl, rfl, sqt hnv, rfl, rfl, _, rfl, ?_⟩
            refine ite2 (fun _ => ?_) (fun _ => ⟨rfl, rfl⟩)
            exact ⟨_, rfl, Nat.le_of_ble_eq_true rfl, fun t2 nt2 => newH nt2 fun J2 f2 g2 => ⟨Nat.zero_le _, fun l3 nl3 => newH nl3 fun J3 f3 g3 => ⟨Nat.le_of_ble_eq_true rfl, fun p4 np4 => newH np4 fun J4 f4 g4 => k p4 ns J4 ((f2.trans f3).trans f4) ⟨d, t2, l3, _, _, [], .inl rfl, sm_free f2 nl3, g4, hN.mono ((f2.trans f3).trans f4), f4 _ _ (f3 _ _ g2), f4 _ _ g3, Nat.zero_le _⟩ (ok.mono (by omega)) rt⟩⟩⟩
        · rintro σ' H' ⟨rfl, rfl⟩
          refine ⟨_, rfl, a, _, _, _, rfl, rfl, sqt ha, rfl, rfl, _, rfl, iteDn (by decide +kernel) ?_⟩
          refine ⟨_, rfl, d, _, rfl, .inl hN.1, fun d2 n2 => newH n2 fun H2 e2 h2 => ?_⟩
          refine ⟨_, rfl, a, _, _, _, rfl, rfl, sqt (e2 _ _ ha), rfl, rfl, _, rfl, iteD rfl ?_⟩
          have v2 := e2 _ _ hnv
          refine ⟨_, rfl, a, _, _, _, rfl, rfl, sqt (e2 _ _ ha), rfl, _, rfl, n.ad, _, _, _, rfl, rfl, sqt v2, rfl, _, _, rfl, rfl, Nat.le_of_ble_eq_true rfl, fun s1 m1 => newH m1 fun H3 e3 h3 => ?_⟩
          refine ⟨_, rfl, _, rfl, n.ad, _, rfl, sqt (e3 _ _ v2), (fun z => (by decide : ¬ HT.sIx 4 0 (some 2) = 0) z.1), fun s2 m2 => newH m2 fun H4 e4 h4 => ?_⟩
          refine ⟨s1, s2, _, _, rfl, rfl, sqt (e4 _ _ h3), sqt h4, (fun z => by cases z), Nat.le_of_ble_eq_true rfl, (fun z => by cases z), fun _ t1 m3 => newH m3 fun H5 e5 h5 => ?_⟩
          have h5' : H5 t1 = some (.tup [.str (S t), .int (n.cnt + 1), .int n.made, ownV n.own]) := h5
          have e25 := (e3.trans e4).trans e5
          refine ⟨_, rfl, _, rfl, d2, _, rfl, DPut.k (k := Sum.inr n.path) (e25 _ _ h2) (by rw [List.length_map]; exact small1000 (by omega)), chgH fun H6 x6 h6 => ?_⟩
          have v6 : H6 n.ad = some (.tup n.vs) := x6 _ _ (ne_of_none hnv n2) (e25 _ _ v2)
          refine ⟨_, rfl, _, rfl, n.ad, _, _, _, rfl, rfl, sqt v6, rfl, _, _, rfl, rfl, Nat.le_of_ble_eq_true rfl, fun u nu => newH nu fun J1 f1 g1 => ⟨_, rfl, Nat.le_of_ble_eq_true rfl, fun a1 na1 => newH na1 fun J2 f2 g2 => ⟨Nat.le_of_ble_eq_true rfl, fun e ne => newH ne fun J4 f4 g4 => ⟨Nat.le_of_ble_eq_true rfl, fun p np => newH np fun J5 f5 g5 => ?_⟩⟩⟩⟩
          have p1 := put_ent ns ⟨n.path, t1, S t, n.cnt + 1, n.made, n.own⟩
          have N5 : NodesAt H5 d2 ns := ⟨e25 _ _ h2, fun m hm => e25 _ _ (e2 _ _ (hN.2 m hm))⟩
          have N6 := NodesAt.store (n := ⟨n.path, t1, S t, n.cnt + 1, n.made, n.own⟩) N5 h5' x6 (by rw [← p1]; exact h6)
          have f15 := ((f1.trans f2).trans f4).trans f5
          have s6 : Same H H6 := sm_sx (e2.trans e25) x6 n2
          refine k p _ J5 (s6.trans f15) ⟨d2, u, e, _, _, _, .inr n2, sm_free (s6.trans (f1.trans f2)) ne, g5, N6.mono f15, f5 _ _ (f4 _ _ (f2 _ _ g1)), f5 _ _ g4, Nat.le_of_ble_eq_true rfl⟩ ((ok.mono (by omega)).put (.inl hx) (ok.path n hn) (by have := ok.cnt n hn; show 0 ≤ n.cnt + 1; omega) ⟨(ok.made n hn).1, by have := (ok.made n hn).2; show n.made ≤ b + 1; omega⟩) ?_
          obtain ⟨m, hm, hm2, hm3⟩ := rt
          exact Rt.put ⟨m, hm, hm2, hm3⟩ fun z => by
            have := nd_one ok.nd hn hm (Eq.trans z hm2.symm)
            show n.own = none
            rw [this]
            exact hm3
    | drop x c =>
      refine ⟨_, rfl, a, _, _, _, rfl, rfl, sqt ha, rfl, rfl, _, rfl, iteDn (by decide +kernel) ?_⟩
      refine ⟨_, rfl, a, _, _, _, rfl, rfl, sqt ha, rfl, _, rfl, _, rfl, a, _, _, _, rfl, rfl, sqt ha, rfl, _, _, rfl, ?_⟩
      refine ⟨_, rfl, _, rfl, d, _, rfl, DGet.k (k := Sum.inr x) hN.1, _, rfl, ?_⟩
      cases e : valV (ns.map ent) (.inr x) with
      | none => exact ⟨_, rfl, Nat.le_of_ble_eq_true rfl, fun t2 nt2 => newH nt2 fun J2 f2 g2 => ⟨Nat.zero_le _, fun l3 nl3 => newH nl3 fun J3 f3 g3 => ⟨Nat.le_of_ble_eq_true rfl, fun p4 np4 => newH np4 fun J4 f4 g4 => k p4 ns J4 ((f2.trans f3).trans f4) ⟨d, t2, l3, _, _, [], .inl rfl, sm_free f2 nl3, g4, hN.mono ((f2.trans f3).trans f4), f4 _ _ (f3 _ _ g2), f4 _ _ g3, Nat.zero_le _⟩ (ok.mono (by omega)) rt⟩⟩⟩
      | some v =>
        have hx := mem_of_look e
        obtain ⟨n, hn, rfl, rfl⟩ := look_some e
        have hnv := hN.2 n hn
        have hg := DGet.k (k := Sum.inr n.path) hN.1
        rw [e] at hg
        refine ⟨_, rfl, _, rfl, d, _, rfl, hg, ?_⟩
        refine ⟨fun σ' H' => σ' = [some (.ref d), some (.ref a), some (.str who), some (.str n.path), some (cV c), some (.ref n.ad), none] ∧ H = H', ?_, ?_⟩
        · refine ⟨_, rfl, _, rfl, ?_⟩
          cases c with
          | none => exact ⟨rfl, rfl⟩
          | some i =>
            refine ⟨_, rfl, _, rfl, n.ad, n.vs, _, _, rfl, rfl, sqt hnv, rfl, rfl, _, rfl, ?_⟩
            refine ite2 (fun _ => ?_) (fun _ => ⟨rfl, rfl⟩)
            exact ⟨_, rfl, Nat.le_of_ble_eq_true rfl, fun t2 nt2 => newH nt2 fun J2 f2 g2 => ⟨Nat.zero_le _, fun l3 nl3 => newH nl3 fun J3 f3 g3 => ⟨Nat.le_of_ble_eq_true rfl, fun p4 np4 => newH np4 fun J4 f4 g4 => k p4 ns J4 ((f2.trans f3).trans f4) ⟨d, t2, l3, _, _, [], .inl rfl, sm_free f2 nl3, g4, hN.mono ((f2.trans f3).trans f4), f4 _ _ (f3 _ _ g2), f4 _ _ g3, Nat.zero_le _⟩ (ok.mono (by omega)) rt⟩⟩⟩
        · rintro σ' H' ⟨rfl, rfl⟩
          refine ⟨_, rfl, a, _, _, _, rfl, rfl, sqt ha, rfl, rfl, _, rfl, iteDn (by decide +kernel) ?_⟩
          refine ⟨_, rfl, d, _, rfl, .inl hN.1, fun d2 n2 => newH n2 fun H2 e2 h2 => ?_⟩
          refine ⟨_, rfl, a, _, _, _, rfl, rfl, sqt (e2 _ _ ha), rfl, rfl, _, rfl, iteDn (by decide +kernel) ?_⟩
          refine ⟨_, rfl, _, rfl, d, ns, b, _, rfl, hN.mono e2, ok, fun l zs H3 e3 h3 hz => ⟨Nat.zero_le _, fun m nm => newH nm fun H4 e4 h4 => ?_⟩⟩
          refine ⟨_, _, .lst (sql (e4 _ _ h3)) (datS zs), .lst (sql h4) .nil, shapedS zs hz, rfl, _, rfl, ?_⟩
          have e24 := e3.trans e4
          refine iteTF (fun _ => ?_) (fun _ => ?_)
          · have g04 := e2.trans e24
            refine ⟨_, rfl, Nat.le_of_ble_eq_true rfl, fun t2 nt2 => newH nt2 fun J2 f2 g2 => ⟨Nat.zero_le _, fun l3 nl3 => newH nl3 fun J3 f3 g3 => ⟨Nat.le_of_ble_eq_true rfl, fun p4 np4 => newH np4 fun J4 f4 g4 => ?_⟩⟩⟩
            exact k p4 ns J4 (g04.trans ((f2.trans f3).trans f4)) ⟨d, t2, l3, _, _, [], .inl rfl, sm_free (g04.trans f2) nl3, g4, (hN.mono g04).mono ((f2.trans f3).trans f4), f4 _ _ (f3 _ _ g2), f4 _ _ g3, Nat.zero_le _⟩ (ok.mono (by omega)) rt
          · refine ⟨_, rfl, d2, rfl, .inl ⟨_, .inl (e24 _ _ h2)⟩, _, rfl, _, Sum.inr n.path, _, e24 _ _ h2, rfl, e, chgH fun H5 x5 h5 => ?_⟩
            obtain ⟨qs, hqs, eqs⟩ := ok.path n hn
            have s5 : Same H H5 := sm_sx (e2.trans e24) x5 n2
            refine ⟨_, rfl, Nat.le_of_ble_eq_true rfl, fun u nu => newH nu fun J1 f1 g1 => ⟨_, rfl, Nat.le_of_ble_eq_true rfl, fun a1 na1 => newH na1 fun J2 f2 g2 => ⟨_, rfl, qs, (congrArg (fun z => [V.str z]) eqs), hqs, fun J3 f3 => ⟨Nat.le_of_ble_eq_true rfl, fun a2 na2 => newH na2 fun J4 f4 g4 => ⟨Nat.le_of_ble_eq_true rfl, fun e ne => newH ne fun J5 f5 g5 => ⟨Nat.le_of_ble_eq_true rfl, fun p np => newH np fun J6 f6 g6 => ?_⟩⟩⟩⟩⟩⟩
            have f16 := ((((f1.trans f2).trans f3).trans f4).trans f5).trans f6
            have N5 : NodesAt H5 d2 (ns.filter (keepN n.path)) := ⟨by rw [h5, dropK_ent], fun m hm => s5 _ _ (hN.2 m (List.mem_filter.mp hm).1)⟩
            refine k p _ J6 (s5.trans f16) ⟨d2, u, e, _, _, _, .inr n2, sm_free (s5.trans (((f1.trans f2).trans f3).trans f4)) ne, g6, N5.mono f16, f6 _ _ (f5 _ _ (f4 _ _ (f3 _ _ (f2 _ _ g1)))), f6 _ _ g5, Nat.le_of_ble_eq_true rfl⟩ ((ok.filter _).mono (by omega)) (rt.filter fun m _ hm _ => ?_)
            have : ¬ m.path = n.path := fun z => hl.2.1 (z.symm.trans hm)
            unfold keepN
            simp [this]
end
end N17

set_option Elab.async false
set_option linter.all false
set_option maxRecDepth 100000
set_option maxHeartbeats 4000000
namespace N17
open PySem PySem.Spec PyProof.Rows
open L2 hiding CX0 E0 pass0 Fun Fun.ok fun_mk
open C8 (Cal CX0 E0 pass0)
open SX (S)
def keepW (who : Str) (L : List Str) (n : Nd) : Bool := !(decide (n.path ∈ L) && decide (n.own = some who))
theorem ys_nodup {ns : List Nd} {ys : List Str} (h : ys.Perm (ns.map (·.path))) (nd : (ns.map (·.path)).Nodup) : ys.Nodup := h.nodup_iff.mpr nd
theorem take_not {ys : List Str} (nd : ys.Nodup) {i : Nat} (hi : i < ys.length) : ys[i] ∉ ys.take i := fun m => by
  have e : ys.take (i + 1) = ys.take i ++ [ys[i]] := List.take_succ_eq_append_getElem hi
  have h : (ys.take (i + 1)).Nodup := (List.take_sublist _ _).nodup nd
  rw [e, List.nodup_append] at h
  exact h.2.2 _ m _ (by simp) rfl
section
variable {P : Program} {w : World} {K : PySem.W.Frag} {mg : Str → Option Value} {base : Heap} {f : Addr} {fd : FuncData}
abbrev s_law_left : Stmt := topS 63
theorem sc_law_left : FnScope ["_law_web", "_law_who", "_law_found", "_law_events", "_law_road"] ["_law_web", "_law_who"] (C8.fnScope s_law_left) := C8.fnScope_by (by decide +kernel)
def spLLeft : Sp := fun vs H Q _ => ∃ d ns b who, vs = [.ref d, .str who] ∧ NodesAt H d ns ∧ NOk b ns ∧ Rt ns ∧
  ∀ p d2 e xs ns' H', H d2 = none → Same H H' → H' p = some (.tup [.ref d2, .ref e]) → H' e = some (.lst xs) → NodesAt H' d2 ns' → NOk b ns' → Rt ns' → Q (.ref p) H'
theorem ok_law_left (F : C8.Def K mg "_law_left" s_law_left f fd) (b : Binds K fd ["_law_web", "_law_who"] []) (T : Tx K w mg) (c_law_above : Cal P w K mg base 1 "_law_above" spParentOf []) : Cal P w K mg base 2 "_law_left" spLLeft [] := by
  refine C8.cal0 F b .nil sc_law_left (fun vs H Q E h => ?_) (fun cdv A outer s H vs Q E hr h => ?_)
  · obtain ⟨_, _, _, _, rfl, _⟩ := h
    rfl
  · obtain ⟨d, ns, b, who, rfl, hN, ok, rt, k⟩ := h
    have hu := hu_of hr
    refine ⟨_, (pss_cons (ps_set (i := 2) sc_law_left.nd rfl (Or.inl rfl) (pe_callTy call_dictD (by rfl) T.n_dict (by decide +kernel) (pa_cons (pv 0) pa_nil)))
        (pss_cons (ps_set (i := 3) sc_law_left.nd rfl (Or.inl rfl) (pe_lst pa_nil))
        (pss_cons (ps_for PassesOwn.never rfl (pi_list (pe_callB (call_sortedD rfl) (by rfl) T.n_sorted (by decide +kernel) (pa_cons (pv 0) pa_nil))) (pg_name (i := 4) sc_law_left.nd rfl (Or.inl rfl)) (pss_one (ps_if (pt_cmpR op_eq (pe_ix ix_tup (pe_dget hu (pv 0) (pv 4) (fun _ _ => rfl)) pe_int (fun _ _ => rfl)) (pv 1) (nomark _)) (pss_cons (ps_expr (pe_dpop1 (pv 2) (pv 4) ⟨by rfl, by rfl, by rfl, by rfl⟩))
        (pss_one (ps_set (i := 3) sc_law_left.nd rfl (Or.inl rfl) (pe_op op_cat (pv 3) (pe_lst (pa_cons (pe_tup (pa_cons pe_str (pa_cons (pv 4) pa_nil))) (pa_cons (pe_tup (pa_cons pe_str (pa_cons (C8.pe_c c_law_above hr (by decide) (by rfl) (pa_cons (pv 4) pa_nil)) pa_nil))) pa_nil))))))) pss_nil)))
        (pss_one (ps_ret (pe_tup (pa_cons (pv 2) (pa_cons (pv 3) pa_nil)))))))), ?_⟩
    have h60 := ok.few
    refine ⟨_, rfl, d, _, rfl, .inl hN.1, fun d2 n2 => newH n2 fun H1 e1 h1 => ⟨Nat.zero_le _, fun l nl => newH nl fun H2 e2 h2 => ?_⟩⟩
    have e02 := e1.trans e2
    have hN2 := hN.mono e02
    refine ⟨_, rfl, d, _, ns.map (·.path), rfl, .inl hN2.1, keys_ent ns, by rw [List.length_map]; omega, fun ys c hys hsrt nc => newH nc fun H3 e3 h3 => ⟨c, rfl, ⟨_, sql h3⟩, ?_⟩⟩
    have hN3 := hN2.mono e3
    have hyl : ys.length = ns.length := by rw [hys.length_eq, List.length_map]
    have hd3 := e3 _ _ (e2 _ _ h1)
    have ynd := ys_nodup hys ok.nd
    have dd2 : d ≠ d2 := ne_of_none hN.1 n2
    refine for_it (walk_list (xs := ys.map V.str)) (fun i σ H' => ∃ el xs y4, σ = [some (.ref d), some (.str who), some (.ref d2), some (.ref el), y4] ∧ SameX d2 H3 H' ∧ H' d2 = some (.dK ((ns.filter (keepW who (ys.take i))).map ent)) ∧ H' el = some (.lst xs) ∧ xs.length ≤ 2 * i)
      ⟨l, [], none, rfl, fun _ _ _ h => h, ?_, e3 _ _ h2, Nat.le_refl _⟩ (fun i σ H' _ p => ?_) (fun i x σ Ha Hb hi p y => ?_) (fun σ Ha p => ?_)
    · have : ns.filter (keepW who (ys.take 0)) = ns := List.filter_eq_self.mpr fun n _ => by simp [keepW]
      rw [this]
      exact hd3
    · obtain ⟨_, _, _, _, x, _⟩ := p
      exact sql (x _ _ (ne_of h3 hd3 (by intro z; cases z)) h3)
    · obtain ⟨el, xs, y4, rfl, x3, hdi, hel, hxl⟩ := p
      obtain ⟨rfl, hx⟩ := y
      rw [List.length_map] at hi
      rw [List.getElem?_map, List.getElem?_eq_getElem hi] at hx
      cases hx
      have er : ys.take (i + 1) = ys.take i ++ [ys[i]] := List.take_succ_eq_append_getElem hi
      have hnt := take_not ynd hi
      obtain ⟨n, hn, en⟩ := List.mem_map.mp (hys.mem_iff.mp (List.getElem_mem hi))
      obtain ⟨qs, hqs, eqs⟩ := ok.path n hn
      rw [← en] at er hnt ⊢
      have hNa : NodesAt Hb d ns := ⟨x3 _ _ dd2 hN3.1, fun m hm => x3 _ _ (ne_of (hN3.2 m hm) hd3 (by intro z; cases z)) (hN3.2 m hm)⟩
      have hg := DGet.k (k := Sum.inr n.path) hNa.1
      rw [look_of ok.nd hn] at hg
      refine ⟨_, rfl, _, rfl, d, _, rfl, hg, n.ad, n.vs, _, _, rfl, rfl, sqt (hNa.2 n hn), rfl, _, rfl, (own_dec n.own who).1, _, rfl, ?_⟩
      refine iteTF (fun c1 => ?_) (fun c1 => ?_)
      · have how : n.own = some who := by
          rw [(own_dec n.own who).2] at c1
          exact of_decide_eq_true c1
        have hnm : n ∈ ns.filter (keepW who (ys.take i)) := List.mem_filter.mpr ⟨hn, by simp [keepW, hnt]⟩
        have hv := look_of (ok.filter (keepW who (ys.take i))).nd hnm
        refine ⟨_, rfl, d2, rfl, .inl ⟨_, .inl hdi⟩, _, rfl, _, Sum.inr n.path, _, hdi, rfl, hv, chgH fun H5 x5 h5 => ?_⟩
        have hel5 := x5 _ _ (ne_of hel hdi (by intro z; cases z)) hel
        refine ⟨_, rfl, _, rfl, Nat.le_of_ble_eq_true rfl, fun a1 na1 => newH na1 fun J2 f2 g2 => ⟨_, rfl, qs, (congrArg (fun z => [V.str z]) eqs), hqs, fun J3 f3 => ⟨Nat.le_of_ble_eq_true rfl, fun a2 na2 => newH na2 fun J4 f4 g4 => ⟨Nat.le_of_ble_eq_true rfl, fun e ne => newH ne fun J5 f5 g5 => ?_⟩⟩⟩⟩
        have f25 := ((f2.trans f3).trans f4).trans f5
        refine ⟨el, e, xs, _, rfl, rfl, f25 _ _ hel5, g5, sz5 (by show xs.length + 2 ≤ 1000; omega), fun p np => newH np fun J6 f6 g6 => ?_⟩
        have f26 := f25.trans f6
        refine ⟨p, _, _, rfl, fun b o nb hb => f26 _ _ (x5 _ _ nb (x3 _ _ nb hb)), ?_, g6, ?_⟩
        · have h6 := f26 _ _ h5
          rw [h6, dropK_ent, er, List.filter_filter]
          congr 3
          refine List.filter_congr fun m hm => ?_
          unfold keepN keepW
          by_cases z : m.path = n.path
          · have : m = n := nd_one ok.nd hm hn z
            subst this
            simp [how]
          · simp [z]
        · rw [List.length_append]
          show xs.length + 2 ≤ 2 * (i + 1)
          omega
      · have how : ¬ n.own = some who := by
          rw [(own_dec n.own who).2] at c1
          exact of_decide_eq_false c1
        refine ⟨el, xs, _, rfl, x3, ?_, hel, by omega⟩
        rw [hdi, er]
        congr 3
        refine List.filter_congr fun m hm => ?_
        unfold keepW
        by_cases z : m.path = n.path
        · have : m = n := nd_one ok.nd hm hn z
          subst this
          simp [how]
        · simp [z]
    · obtain ⟨el, xs, y4, rfl, x3, hdi, hel, hxl⟩ := p
      refine ⟨_, rfl, _, rfl, Nat.le_of_ble_eq_true rfl, fun p np => newH np fun J6 f6 g6 => ?_⟩
      have s : Same H J6 := fun b o hb => f6 _ _ (x3 _ _ (ne_of_none hb n2) (e3 _ _ (e02 _ _ hb)))
      refine k p d2 el xs _ J6 n2 s g6 (f6 _ _ hel) ⟨f6 _ _ hdi, fun m hm => s _ _ (hN.2 m (List.mem_filter.mp hm).1)⟩ (ok.filter _) (rt.filter fun m _ _ ho => ?_)
      unfold keepW
      simp [ho]
end
end N17

set_option Elab.async false
set_option linter.all false
set_option maxRecDepth 100000
set_option maxHeartbeats 4000000
namespace N17
open PySem PySem.Spec PyProof.Rows
open L2 hiding CX0 E0 pass0 Fun Fun.ok fun_mk
open C8 (Cal CX0 E0 pass0)
open SX (S)
section
variable {P : Program} {w : World} {K : PySem.W.Frag} {mg : Str → Option Value} {base : Heap} {f : Addr} {fd : FuncData}
def LPost (H : Hp) (Q : VK) (d : Addr) (b : Int) : Prop := ∀ p d2 y e xs ns' H', (d2 = d ∨ H d2 = none) → Same H H' → H' p = some (.tup [.ref d2, y, .ref e]) → H' e = some (.lst xs) → NodesAt H' d2 ns' → NOk (b + 6) ns' → Rt ns' → Q (.ref p) H'
abbrev s_law_all_done : Stmt := topS 64
theorem sc_law_all_done : FnScope ["_law_web", "_law_tasks", "_law_who", "_law_found", "_law_worths", "_law_events", "_law_at", "_law_task_here", "_law_answer", "_law_more"] ["_law_web", "_law_tasks", "_law_who"] (C8.fnScope s_law_all_done) := C8.fnScope_by (by decide +kernel)
def spLAll : Sp := fun vs H Q _ => ∃ d ns b t, ∃ ls : List (Addr × Pl), ∃ who, vs = [.ref d, .ref t, .str who] ∧ NodesAt H d ns ∧ NOk b ns ∧ b < 80000 ∧ Rt ns ∧ H t = some (.tup (ls.map fun x => .ref x.1)) ∧ (∀ x ∈ ls, H x.1 = some (.tup (Pl.vs x.2))) ∧ (∀ x ∈ ls, PlOk x.2) ∧ ls.length ≤ 6 ∧ LPost H Q d b
theorem ok_law_all_done (F : C8.Def K mg "_law_all_done" s_law_all_done f fd) (b : Binds K fd ["_law_web", "_law_tasks", "_law_who"] []) (T : Tx K w mg) (c_law_plainly : Cal P w K mg base 3 "_law_plainly" spLPlainly []) : Cal P w K mg base 4 "_law_all_done" spLAll [] := by
  refine C8.cal0 F b .nil sc_law_all_done (fun vs H Q E h => ?_) (fun cdv A outer s H vs Q E hr h => ?_)
  · obtain ⟨_, _, _, _, _, _, rfl, _⟩ := h
    rfl
  · obtain ⟨d, ns, b, t, ls, who, rfl, hN, ok, hb, rt, ht, hls, hok, hlen, k⟩ := h
    refine ⟨_, (pss_cons (ps_set (i := 3) sc_law_all_done.nd rfl (Or.inl rfl) (pv 0))
        (pss_cons (ps_set (i := 4) sc_law_all_done.nd rfl (Or.inl rfl) (pe_lst pa_nil))
        (pss_cons (ps_set (i := 5) sc_law_all_done.nd rfl (Or.inl rfl) (pe_lst pa_nil))
        (pss_cons (ps_for PassesOwn.never rfl (pi_enT (by rfl) T.n_enumerate (pa_cons (pv 1) pa_nil)) (pg_tup rfl (pgs_cons (pg_name (i := 6) sc_law_all_done.nd rfl (Or.inl rfl)) (pgs_cons (pg_name (i := 7) sc_law_all_done.nd rfl (Or.inl rfl)) pgs_nil))) (pss_cons (ps_asg (C8.pe_c c_law_plainly hr (by decide) (by rfl) (pa_cons (pv 3) (pa_cons (pv 7) (pa_cons (pv 2) pa_nil)))) (pg_tup rfl (pgs_cons (pg_name (i := 3) sc_law_all_done.nd rfl (Or.inl rfl)) (pgs_cons (pg_name (i := 8) sc_law_all_done.nd rfl (Or.inl rfl)) (pgs_cons (pg_name (i := 9) sc_law_all_done.nd rfl (Or.inl rfl)) pgs_nil)))))
        (pss_cons (ps_if (pt_cmpR op_eq (pe_ix ix_tup (pv 8) pe_int (fun _ _ => rfl)) pe_str (nomark _)) (pss_one (ps_ret (pe_tup (pa_cons (pv 0) (pa_cons (pe_op op_catT (pv 8) (pe_tup (pa_cons (pv 6) pa_nil))) (pa_cons (pe_lst pa_nil) pa_nil)))))) pss_nil)
        (pss_cons (ps_expr (pe_bm PySem.F.plainAttrs_list PySem.F.slot_list_append PySem.F.type_list_append mt_append (pv 4) (pa_cons (pe_ix ix_tup (pv 8) pe_int (fun _ _ => rfl)) pa_nil)))
        (pss_one (ps_set (i := 5) sc_law_all_done.nd rfl (Or.inl rfl) (pe_op op_cat (pv 5) (pv 9))))))))
        (pss_one (ps_ret (pe_tup (pa_cons (pv 3) (pa_cons (pe_tup (pa_cons pe_str (pa_cons (pe_callTy call_tuple_of (by rfl) T.n_tuple (by decide +kernel) (pa_cons (pv 4) pa_nil)) pa_nil))) (pa_cons (pv 5) pa_nil)))))))))), ?_⟩
    refine ⟨_, rfl, Nat.zero_le _, fun wl nw => newH nw fun H1 e1 h1 => ⟨Nat.zero_le _, fun el ne => newH ne fun H2 e2 h2 => ?_⟩⟩
    have e02 := e1.trans e2
    have ht2 := e02 _ _ ht
    have nwe : el ≠ wl := (ne_of_none h1 ne).symm
    refine ⟨_, rfl, t, _, rfl, sqt ht2, ?_⟩
    refine for_it (walk_enT (xs := ls.map fun x => V.ref x.1)) (fun i σ H' => ∃ di ni el xs ws y6 y7 y8 y9, σ = [some (.ref d), some (.ref t), some (.str who), some (.ref di), some (.ref wl), some (.ref el), y6, y7, y8, y9] ∧
      (di = d ∨ H di = none) ∧ Same H H' ∧ NodesAt H' di ni ∧ NOk (b + i) ni ∧ Rt ni ∧ H' el = some (.lst xs) ∧ xs.length ≤ 2 * i ∧ H' wl = some (.lst ws) ∧ ws.length ≤ i ∧ el ≠ wl)
      ⟨d, ns, el, [], [], none, none, none, none, rfl, .inl rfl, e02, hN.mono e02, ok.mono (by omega), rt, h2, Nat.le_refl _, e2 _ _ h1, Nat.le_refl _, nwe⟩ (fun i σ H' _ p => ?_) (fun i x σ Ha Hb hi p y => ?_) (fun σ Ha p => ?_)
    · obtain ⟨_, _, _, _, _, _, _, _, _, _, _, sm, _⟩ := p
      exact sqt (sm _ _ ht)
    · obtain ⟨di, ni, el, xs, ws, y6, y7, y8, y9, rfl, hdi, sm, hNi, oki, rti, hel, hxl, hw, hwl, hne⟩ := p
      obtain ⟨T, v1, v2, rfl, nT, rfl, y1, y2⟩ := y
      rw [List.length_map] at hi
      dsimp only at y1 y2
      rw [List.getElem?_map, List.getElem?_eq_getElem hi] at y2
      cases y1
      cases y2
      have hin := List.getElem_mem hi
      generalize ls[i] = z at hin
      have sT : Same Ha (upd Ha T (.tup [.int (i : Nat), .ref z.1])) := sm_new nT
      refine ⟨T, _, rfl, sqt upd_same, rfl, _, _, rfl, _, _, rfl, rfl, ?_⟩
      generalize upd Ha T (.tup [.int (i : Nat), .ref z.1]) = Hc at sT
      have sm2 := sm.trans sT
      refine ⟨_, rfl, _, rfl, _, rfl, di, ni, b + i, z.1, z.2, who, rfl, hNi.mono sT, oki, by omega, rti, sm2 _ _ (hls z hin), hok z hin, fun p n2 H4 e4 r4 ok4 rt4 => ?_⟩
      obtain ⟨d4, t4, e5, wd, v, xs5, nd4, ne5, hp4, hN4, ht4, he5, hl5⟩ := r4
      refine ⟨p, _, rfl, sqt hp4, rfl, _, _, rfl, _, _, rfl, _, _, rfl, rfl, ?_⟩
      have hw4 := e4 _ _ (sT _ _ hw)
      have hel4 := e4 _ _ (sT _ _ hel)
      have ne5w : e5 ≠ wl := fun z => by
        rw [z, sT _ _ hw] at ne5
        cases ne5
      refine ⟨_, rfl, t4, _, _, _, rfl, rfl, sqt ht4, rfl, rfl, _, rfl, iteTF (fun c => ?_) (fun c => ?_)⟩
      · refine ⟨_, rfl, _, rfl, _, rfl, Nat.le_of_ble_eq_true rfl, fun s1 m1 => newH m1 fun H5 f5 h5 => ⟨t4, s1, _, _, rfl, rfl, sqt (f5 _ _ ht4), sqt h5, (fun z => by cases z), Nat.le_of_ble_eq_true rfl, (fun z => by cases z), fun _ s2 m2 => newH m2 fun H6 f6 h6 => ⟨Nat.zero_le _, fun l7 m7 => newH m7 fun H7 f7 h7 => ⟨Nat.le_of_ble_eq_true rfl, fun p8 m8 => newH m8 fun H8 f8 h8 => ?_⟩⟩⟩⟩
        have s8 : Same H H8 := ((((sm2.trans e4).trans f5).trans f6).trans f7).trans f8
        exact k p8 d _ l7 [] ns H8 (.inl rfl) s8 h8 (f8 _ _ h7) (hN.mono s8) (ok.mono (by omega)) rt
      · refine ⟨_, rfl, .inl ⟨rfl, _, sql hw4⟩, _, rfl, t4, _, _, _, rfl, rfl, sqt ht4, rfl, wl, ws, v, rfl, rfl, hw4, small1000 (by omega), chgH fun H5 x5 h5 => ?_⟩
        have hel5 := x5 _ _ hne hel4
        have he55 := x5 _ _ ne5w he5
        refine ⟨_, rfl, _, rfl, el, e5, _, _, rfl, rfl, hel5, he55, sz5 (by omega), fun p np => newH np fun H6 f6 h6 => ?_⟩
        have s5 : Same H H5 := sm_sx (sm2.trans e4) x5 nw
        refine ⟨d4, n2, p, _, _, _, _, _, _, rfl, ?_, s5.trans f6, (NodesAt.x hw4 x5 hN4).mono f6, ?_, rt4, h6, ?_, f6 _ _ h5, ?_, (ne_of_none h5 np).symm⟩
        · rcases nd4 with rfl | z
          · exact hdi
          · exact .inr (sm_free sm2 z)
        · rw [show b + ((i + 1 : Nat) : Int) = b + i + 1 by omega]
          exact ok4
        · rw [List.length_append]
          omega
        · rw [List.length_append, List.length_singleton]
          omega
    · obtain ⟨di, ni, el, xs, ws, y6, y7, y8, y9, rfl, hdi, sm, hNi, oki, rti, hel, hxl, hw, hwl, hne⟩ := p
      rw [List.length_map] at oki
      refine ⟨_, rfl, _, rfl, wl, ws, rfl, .inl ⟨sql hw, fun t5 nt5 => newH nt5 fun H5 e5 h5 => ⟨Nat.le_of_ble_eq_true rfl, fun t6 nt6 => newH nt6 fun H6 e6 h6 => ⟨_, rfl, Nat.le_of_ble_eq_true rfl, fun p7 np7 => newH np7 fun H7 e7 h7 => ?_⟩⟩⟩⟩
      have e57 := (e5.trans e6).trans e7
      exact k p7 di _ el xs ni H7 hdi (sm.trans e57) h7 (e57 _ _ hel) (hNi.mono e57) (oki.mono (by omega)) rti
end
end N17

set_option Elab.async false
set_option linter.all false
set_option maxRecDepth 100000
set_option maxHeartbeats 4000000
namespace N17
open PySem PySem.Spec PyProof.Rows
open L2 hiding CX0 E0 pass0 Fun Fun.ok fun_mk
open C8 (Cal CX0 E0 pass0)
open SX (S)
section
variable {P : Program} {w : World} {K : PySem.W.Frag} {mg : Str → Option Value} {base : Heap} {f : Addr} {fd : FuncData}
def LDPost (H : Hp) (Q : VK) (d : Addr) (b : Int) : Prop := ∀ p d2 lim' y e xs ns' H', (d2 = d ∨ H d2 = none) → Same H H' → H' p = some (.tup [.ref d2, limV lim', y, .ref e]) → H' e = some (.lst xs) → NodesAt H' d2 ns' → NOk (b + 6) ns' → Rt ns' → Q (.ref p) H'
abbrev s_law_does : Stmt := topS 65
theorem sc_law_does : FnScope ["_law_web", "_law_limit", "_law_task_here", "_law_who", "_law_word_here", "_law_found", "_law_events", "_law_answer"] ["_law_web", "_law_limit", "_law_task_here", "_law_who"] (C8.fnScope s_law_does) := C8.fnScope_by (by decide +kernel)
def spLDoes : Sp := fun vs H Q _ => ∃ d ns b lim a dd who, vs = [.ref d, limV lim, .ref a, .str who] ∧ NodesAt H d ns ∧ NOk b ns ∧ b < 80000 ∧ Rt ns ∧ DdAt H a dd ∧ DdOk dd ∧ LDPost H Q d b
theorem ok_law_does (F : C8.Def K mg "_law_does" s_law_does f fd) (b : Binds K fd ["_law_web", "_law_limit", "_law_task_here", "_law_who"] []) (T : Tx K w mg) (c_law_plainly : Cal P w K mg base 3 "_law_plainly" spLPlainly [])
    (c_law_all_done : Cal P w K mg base 4 "_law_all_done" spLAll []) (c_law_left : Cal P w K mg base 2 "_law_left" spLLeft []) : Cal P w K mg base 5 "_law_does" spLDoes [] := by
  refine C8.cal0 F b .nil sc_law_does (fun vs H Q E h => ?_) (fun cdv A outer s H vs Q E hr h => ?_)
  · obtain ⟨_, _, _, _, _, _, _, rfl, _⟩ := h
    rfl
  · obtain ⟨d, ns, b, lim, a, dd, who, rfl, hN, ok, hb, rt, ⟨ha, hin⟩, hd, k⟩ := h
    refine ⟨_, (pss_cons (ps_set (i := 4) sc_law_does.nd rfl (Or.inl rfl) (pe_ix ix_tup (pv 2) pe_int (fun _ _ => rfl)))
        (pss_cons (ps_if (PW.pt (pw_and (pt_cmpR op_eq (pv 4) pe_str (nomark _)) (pw_and1 (pt_cmp (pc_notN (pv 1)))))) (pss_one (ps_ret (pe_tup (pa_cons (pv 0) (pa_cons (pv 1) (pa_cons (pe_tup (pa_cons pe_str (pa_cons pe_str pa_nil))) (pa_cons (pe_lst pa_nil) pa_nil))))))) pss_nil)
        (pss_cons (ps_if (pt_cmpR op_eq (pv 4) pe_str (nomark _)) (pss_one (ps_ret (pe_tup (pa_cons (pv 0) (pa_cons (pe_ix ix_tup (pv 2) pe_int (fun _ _ => rfl)) (pa_cons (pe_tup (pa_cons pe_str (pa_cons pe_non pa_nil))) (pa_cons (pe_lst pa_nil) pa_nil))))))) pss_nil)
        (pss_cons (ps_if (pt_cmp (pc_isN (pv 1))) (pss_one (ps_ret (pe_tup (pa_cons (pv 0) (pa_cons pe_non (pa_cons (pe_tup (pa_cons pe_str (pa_cons pe_str pa_nil))) (pa_cons (pe_lst pa_nil) pa_nil))))))) pss_nil)
        (pss_cons (ps_if (pt_cmpR op_eq (pv 4) pe_str (nomark _)) (pss_cons (ps_asg (C8.pe_c c_law_left hr (by decide) (by rfl) (pa_cons (pv 0) (pa_cons (pv 3) pa_nil))) (pg_tup rfl (pgs_cons (pg_name (i := 5) sc_law_does.nd rfl (Or.inl rfl)) (pgs_cons (pg_name (i := 6) sc_law_does.nd rfl (Or.inl rfl)) pgs_nil))))
        (pss_one (ps_ret (pe_tup (pa_cons (pv 5) (pa_cons pe_non (pa_cons (pe_tup (pa_cons pe_str (pa_cons pe_non pa_nil))) (pa_cons (pv 6) pa_nil)))))))) pss_nil)
        (pss_cons (ps_if (pt_cmpR op_eq (pv 4) pe_str (nomark _)) (pss_one (ps_ret (pe_tup (pa_cons (pv 0) (pa_cons (pv 1) (pa_cons (pe_tup (pa_cons pe_str (pa_cons pe_non pa_nil))) (pa_cons (pe_lst pa_nil) pa_nil))))))) pss_nil)
        (pss_cons (ps_if (pt_cmpR op_eq (pv 4) pe_str (nomark _)) (pss_cons (ps_asg (C8.pe_c c_law_all_done hr (by decide) (by rfl) (pa_cons (pv 0) (pa_cons (pe_ix ix_tup (pv 2) pe_int (fun _ _ => rfl)) (pa_cons (pv 3) pa_nil)))) (pg_tup rfl (pgs_cons (pg_name (i := 5) sc_law_does.nd rfl (Or.inl rfl)) (pgs_cons (pg_name (i := 7) sc_law_does.nd rfl (Or.inl rfl)) (pgs_cons (pg_name (i := 6) sc_law_does.nd rfl (Or.inl rfl)) pgs_nil)))))
        (pss_one (ps_ret (pe_tup (pa_cons (pv 5) (pa_cons (pv 1) (pa_cons (pv 7) (pa_cons (pv 6) pa_nil)))))))) pss_nil)
        (pss_cons (ps_asg (C8.pe_c c_law_plainly hr (by decide) (by rfl) (pa_cons (pv 0) (pa_cons (pv 2) (pa_cons (pv 3) pa_nil)))) (pg_tup rfl (pgs_cons (pg_name (i := 5) sc_law_does.nd rfl (Or.inl rfl)) (pgs_cons (pg_name (i := 7) sc_law_does.nd rfl (Or.inl rfl)) (pgs_cons (pg_name (i := 6) sc_law_does.nd rfl (Or.inl rfl)) pgs_nil)))))
        (pss_one (ps_ret (pe_tup (pa_cons (pv 5) (pa_cons (pv 1) (pa_cons (pv 7) (pa_cons (pv 6) pa_nil))))))))))))))), ?_⟩
    cases dd with
    | opn i =>
      refine ⟨_, rfl, a, _, _, _, rfl, rfl, sqt ha, rfl, _, rfl, rfl, _, rfl, iteD rfl ?_⟩
      refine ⟨_, rfl, _, rfl, ?_⟩
      cases lim with
      | some j => exact iteNe (fun z => nomatch z) ⟨_, rfl, _, rfl, Nat.le_of_ble_eq_true rfl, fun t nt => newH nt fun H1 e1 h1 => ⟨Nat.zero_le _, fun e ne => newH ne fun H2 e2 h2 => ⟨Nat.le_of_ble_eq_true rfl, fun p np => newH np fun H3 e3 h3 => k p d (some j) _ e [] ns H3 (.inl rfl) ((e1.trans e2).trans e3) h3 (e3 _ _ h2) (hN.mono ((e1.trans e2).trans e3)) (ok.mono (by omega)) rt⟩⟩⟩
      | none =>
        refine iteEq rfl ?_
        refine ⟨_, rfl, rfl, _, rfl, iteD rfl ?_⟩
        exact ⟨_, rfl, _, rfl, a, _, _, _, rfl, rfl, sqt ha, rfl, Nat.le_of_ble_eq_true rfl, fun t nt => newH nt fun H1 e1 h1 => ⟨Nat.zero_le _, fun e ne => newH ne fun H2 e2 h2 => ⟨Nat.le_of_ble_eq_true rfl, fun p np => newH np fun H3 e3 h3 => k p d (some i) _ e [] ns H3 (.inl rfl) ((e1.trans e2).trans e3) h3 (e3 _ _ h2) (hN.mono ((e1.trans e2).trans e3)) (ok.mono (by omega)) rt⟩⟩⟩
    | close =>
      refine ⟨_, rfl, a, _, _, _, rfl, rfl, sqt ha, rfl, _, rfl, rfl, _, rfl, iteDn (by decide +kernel) ?_⟩
      refine ⟨_, rfl, rfl, _, rfl, iteDn (by decide +kernel) ?_⟩
      refine ⟨_, rfl, _, rfl, ?_⟩
      cases lim with
      | none => exact iteD rfl ⟨_, rfl, Nat.le_of_ble_eq_true rfl, fun t nt => newH nt fun H1 e1 h1 => ⟨Nat.zero_le _, fun e ne => newH ne fun H2 e2 h2 => ⟨Nat.le_of_ble_eq_true rfl, fun p np => newH np fun H3 e3 h3 => k p d (none) _ e [] ns H3 (.inl rfl) ((e1.trans e2).trans e3) h3 (e3 _ _ h2) (hN.mono ((e1.trans e2).trans e3)) (ok.mono (by omega)) rt⟩⟩⟩
      | some j =>
        refine iteDn (fun z => by cases z) ?_
        refine ⟨_, rfl, rfl, _, rfl, iteD rfl ?_⟩
        refine ⟨_, rfl, _, rfl, d, ns, b, who, rfl, hN, ok, rt, fun p d2 e xs ns' H1 hd2 e1 hp he hN1 ok1 rt1 => ⟨p, _, rfl, sqt hp, rfl, _, _, rfl, _, _, rfl, rfl, ?_⟩⟩
        refine ⟨_, rfl, Nat.le_of_ble_eq_true rfl, fun t nt => newH nt fun H2 e2 h2 => ⟨_, rfl, Nat.le_of_ble_eq_true rfl, fun p3 np3 => newH np3 fun H3 e3 h3 => ?_⟩⟩
        exact k p3 d2 none _ e xs ns' H3 (.inr hd2) ((e1.trans e2).trans e3) h3 (e3 _ _ (e2 _ _ he)) ((hN1.mono e2).mono e3) (ok1.mono (by omega)) rt1
    | bring =>
      refine ⟨_, rfl, a, _, _, _, rfl, rfl, sqt ha, rfl, _, rfl, rfl, _, rfl, iteDn (by decide +kernel) ?_⟩
      refine ⟨_, rfl, rfl, _, rfl, iteDn (by decide +kernel) ?_⟩
      refine ⟨_, rfl, _, rfl, ?_⟩
      cases lim with
      | none => exact iteD rfl ⟨_, rfl, Nat.le_of_ble_eq_true rfl, fun t nt => newH nt fun H1 e1 h1 => ⟨Nat.zero_le _, fun e ne => newH ne fun H2 e2 h2 => ⟨Nat.le_of_ble_eq_true rfl, fun p np => newH np fun H3 e3 h3 => k p d (none) _ e [] ns H3 (.inl rfl) ((e1.trans e2).trans e3) h3 (e3 _ _ h2) (hN.mono ((e1.trans e2).trans e3)) (ok.mono (by omega)) rt⟩⟩⟩
      | some j =>
        refine iteDn (fun z => by cases z) ?_
        refine ⟨_, rfl, rfl, _, rfl, iteDn (by decide +kernel) ?_⟩
        refine ⟨_, rfl, rfl, _, rfl, iteD rfl ?_⟩
        exact ⟨_, rfl, _, rfl, Nat.le_of_ble_eq_true rfl, fun t nt => newH nt fun H1 e1 h1 => ⟨Nat.zero_le _, fun e ne => newH ne fun H2 e2 h2 => ⟨Nat.le_of_ble_eq_true rfl, fun p np => newH np fun H3 e3 h3 => k p d (some j) _ e [] ns H3 (.inl rfl) ((e1.trans e2).trans e3) h3 (e3 _ _ h2) (hN.mono ((e1.trans e2).trans e3)) (ok.mono (by omega)) rt⟩⟩⟩
    | pl l =>
      obtain ⟨wd, r, hv, n1, n2, n3, n4⟩ := l.head
      have ha2 : H a = some (.tup (.str wd :: r)) := by rw [← hv]; exact ha
      refine ⟨_, rfl, a, _, _, _, rfl, rfl, sqt ha2, atI_nat (j := 0) rfl, _, rfl, rfl, _, rfl, iteDn (fun z => n1 (V.str.inj z)) ?_⟩
      refine ⟨_, rfl, rfl, _, rfl, iteDn (fun z => n1 (V.str.inj z)) ?_⟩
      refine ⟨_, rfl, _, rfl, ?_⟩
      cases lim with
      | none => exact iteD rfl ⟨_, rfl, Nat.le_of_ble_eq_true rfl, fun t nt => newH nt fun H1 e1 h1 => ⟨Nat.zero_le _, fun e ne => newH ne fun H2 e2 h2 => ⟨Nat.le_of_ble_eq_true rfl, fun p np => newH np fun H3 e3 h3 => k p d (none) _ e [] ns H3 (.inl rfl) ((e1.trans e2).trans e3) h3 (e3 _ _ h2) (hN.mono ((e1.trans e2).trans e3)) (ok.mono (by omega)) rt⟩⟩⟩
      | some j =>
        refine iteDn (fun z => by cases z) ?_
        refine ⟨_, rfl, rfl, _, rfl, iteDn (fun z => n2 (V.str.inj z)) ?_⟩
        refine ⟨_, rfl, rfl, _, rfl, iteDn (fun z => n3 (V.str.inj z)) ?_⟩
        refine ⟨_, rfl, rfl, _, rfl, iteDn (fun z => n4 (V.str.inj z)) ?_⟩
        refine ⟨_, rfl, _, rfl, _, rfl, d, ns, b, a, l, who, rfl, hN, ok, by omega, rt, ha, hd, fun p ns2 H4 e4 r4 ok4 rt4 => ?_⟩
        obtain ⟨d4, t4, e5, wd4, v, xs5, nd4, ne5, hp4, hN4, ht4, he5, hl5⟩ := r4
        refine ⟨p, _, rfl, sqt hp4, rfl, _, _, rfl, _, _, rfl, _, _, rfl, rfl, ?_⟩
        refine ⟨_, rfl, _, rfl, _, rfl, _, rfl, Nat.le_of_ble_eq_true rfl, fun p2 np2 => newH np2 fun H2 e2 h2 => ?_⟩
        exact k p2 d4 (some j) _ e5 _ ns2 H2 nd4 (e4.trans e2) h2 (e2 _ _ he5) (hN4.mono e2) (ok4.mono (by omega)) rt4
    | all t ls =>
      refine ⟨_, rfl, a, _, _, _, rfl, rfl, sqt ha, rfl, _, rfl, rfl, _, rfl, iteDn (by decide +kernel) ?_⟩
      refine ⟨_, rfl, rfl, _, rfl, iteDn (by decide +kernel) ?_⟩
      refine ⟨_, rfl, _, rfl, ?_⟩
      cases lim with
      | none => exact iteD rfl ⟨_, rfl, Nat.le_of_ble_eq_true rfl, fun t nt => newH nt fun H1 e1 h1 => ⟨Nat.zero_le _, fun e ne => newH ne fun H2 e2 h2 => ⟨Nat.le_of_ble_eq_true rfl, fun p np => newH np fun H3 e3 h3 => k p d (none) _ e [] ns H3 (.inl rfl) ((e1.trans e2).trans e3) h3 (e3 _ _ h2) (hN.mono ((e1.trans e2).trans e3)) (ok.mono (by omega)) rt⟩⟩⟩
      | some j =>
        refine iteDn (fun z => by cases z) ?_
        refine ⟨_, rfl, rfl, _, rfl, iteDn (by decide +kernel) ?_⟩
        refine ⟨_, rfl, rfl, _, rfl, iteDn (by decide +kernel) ?_⟩
        refine ⟨_, rfl, rfl, _, rfl, iteD rfl ?_⟩
        refine ⟨_, rfl, _, rfl, a, _, _, _, rfl, rfl, sqt ha, rfl, _, rfl, d, ns, b, t, ls, who, rfl, hN, ok, hb, rt, hin.1, hin.2, hd.2.2, hd.2.1, fun p d4 y e5 xs5 ns2 H4 hd4 e4 hp4 he5 hN4 ok4 rt4 => ?_⟩
        refine ⟨p, _, rfl, sqt hp4, rfl, _, _, rfl, _, _, rfl, _, _, rfl, rfl, ?_⟩
        refine ⟨_, rfl, _, rfl, _, rfl, _, rfl, Nat.le_of_ble_eq_true rfl, fun p2 np2 => newH np2 fun H2 e2 h2 => ?_⟩
        exact k p2 d4 (some j) _ e5 _ ns2 H2 hd4 (e4.trans e2) h2 (e2 _ _ he5) (hN4.mono e2) ok4 rt4
abbrev s_law_due : Stmt := topS 66
theorem sc_law_due : FnScope ["_law_kept", "_law_line_here", "_law_spot", "_law_web", "_law_rows", "_law_who", "_law_limit", "_law_last", "_law_elder", "_law_where", "_law_later", "_law_found", "_law_events", "_law_answer"] ["_law_kept", "_law_line_here", "_law_spot"] (C8.fnScope s_law_due) := C8.fnScope_by (by decide +kernel)
def spLDue : Sp := fun vs H Q _ => ∃ k0 la sp dn ds ns b rs e, vs = [.ref k0, .ref la, sp] ∧ H k0 = some (.tup [.ref dn, .ref ds]) ∧ NodesAt H dn ns ∧ RowsAt H ds rs ∧ NOk b ns ∧ b < 80000 ∧ Rt ns ∧ rs.length ≤ 900 ∧ EnAt H la e ∧ EnOk e ∧
  ∀ p k2 y z d2 ds2 ns' rs' H', Same H H' → H' p = some (.tup [.ref k2, y, z]) → H' k2 = some (.tup [.ref d2, .ref ds2]) → NodesAt H' d2 ns' → RowsAt H' ds2 rs' → NOk (b + 6) ns' → Rt ns' → rs'.length ≤ rs.length + 1 → Q (.ref p) H'
theorem ok_law_due (F : C8.Def K mg "_law_due" s_law_due f fd) (b : Binds K fd ["_law_kept", "_law_line_here", "_law_spot"] []) (T : Tx K w mg) (c_law_left : Cal P w K mg base 2 "_law_left" spLLeft []) (c_law_does : Cal P w K mg base 5 "_law_does" spLDoes []) :
    Cal P w K mg base 6 "_law_due" spLDue [] := by
  refine C8.cal0 F b .nil sc_law_due (fun vs H Q E h => ?_) (fun cdv A outer s H vs Q E hr h => ?_)
  · obtain ⟨_, _, _, _, _, _, _, _, _, rfl, _⟩ := h
    rfl
  · obtain ⟨k0, la, sp, dn, ds, ns, b, rs, e, rfl, hk0, hN, hR, ok, hb, rt, hrl, ⟨hla, hin⟩, heo, k⟩ := h
    have hu := hu_of hr
    refine ⟨_, (pss_cons (ps_asg (pv 0) (pg_tup rfl (pgs_cons (pg_name (i := 3) sc_law_due.nd rfl (Or.inl rfl)) (pgs_cons (pg_name (i := 4) sc_law_due.nd rfl (Or.inl rfl)) pgs_nil))))
        (pss_cons (ps_set (i := 5) sc_law_due.nd rfl (Or.inl rfl) (pe_ix ix_tup (pv 1) pe_int (fun _ _ => rfl)))
        (pss_cons (ps_asg (pe_dget2 hu (pv 4) (pv 5) (pe_tup (pa_cons pe_non (pa_cons pe_int (pa_cons pe_non (pa_cons (pe_tup (pa_cons pe_int (pa_cons pe_int pa_nil))) pa_nil))))) ⟨by rfl, by rfl, by rfl, by rfl⟩) (pg_tup rfl (pgs_cons (pg_name (i := 6) sc_law_due.nd rfl (Or.inl rfl)) (pgs_cons (pg_name (i := 7) sc_law_due.nd rfl (Or.inl rfl)) (pgs_cons (pg_name (i := 8) sc_law_due.nd rfl (Or.inl rfl)) (pgs_cons (pg_name (i := 9) sc_law_due.nd rfl (Or.inl rfl)) pgs_nil))))))
        (pss_cons (ps_set (i := 10) sc_law_due.nd rfl (Or.inl rfl) (pe_callTy call_dictD (by rfl) T.n_dict (by decide +kernel) (pa_cons (pv 4) pa_nil)))
        (pss_cons (ps_if (pt_cmpR op_eq (pe_ix ix_tup (pv 1) pe_int (fun _ _ => rfl)) pe_str (nomark _)) (pss_cons (ps_if (pt_cmp (pc_isN (pv 6))) (pss_one (ps_ret (pe_tup (pa_cons (pv 0) (pa_cons pe_non (pa_cons (pe_lst pa_nil) pa_nil)))))) pss_nil)
        (pss_cons (ps_asg (C8.pe_c c_law_left hr (by decide) (by rfl) (pa_cons (pv 3) (pa_cons (pv 5) pa_nil))) (pg_tup rfl (pgs_cons (pg_name (i := 11) sc_law_due.nd rfl (Or.inl rfl)) (pgs_cons (pg_name (i := 12) sc_law_due.nd rfl (Or.inl rfl)) pgs_nil))))
        (pss_cons (ps_dput hu (pv 10) (pv 5) (pe_tup (pa_cons pe_non (pa_cons (pv 7) (pa_cons (pv 8) (pa_cons (pv 9) pa_nil))))) rfl)
        (pss_one (ps_ret (pe_tup (pa_cons (pe_tup (pa_cons (pv 11) (pa_cons (pv 10) pa_nil))) (pa_cons pe_non (pa_cons (pv 12) pa_nil))))))))) pss_nil)
        (pss_cons (ps_if (pt_cmpR op_le (pe_ix ix_tup (pv 1) pe_int (fun _ _ => rfl)) (pv 7) (nomark _)) (pss_one (ps_ret (pe_tup (pa_cons (pv 0) (pa_cons (pe_ix ix_list (pe_lst (pa_cons pe_non (pa_cons (pv 8) pa_nil))) (pe_callTy call_int1 (by rfl) T.n_int (by decide +kernel) (pa_cons (pe_cmpR op_eq (pe_ix ix_tup (pv 1) pe_int (fun _ _ => rfl)) (pv 7) (nomark _)) pa_nil)) (fun _ _ => rfl)) (pa_cons (pe_lst pa_nil) pa_nil)))))) pss_nil)
        (pss_cons (ps_asg (C8.pe_c c_law_does hr (by decide) (by rfl) (pa_cons (pv 3) (pa_cons (pv 6) (pa_cons (pe_ix ix_tup (pv 1) pe_int (fun _ _ => rfl)) (pa_cons (pv 5) pa_nil))))) (pg_tup rfl (pgs_cons (pg_name (i := 11) sc_law_due.nd rfl (Or.inl rfl)) (pgs_cons (pg_name (i := 6) sc_law_due.nd rfl (Or.inl rfl)) (pgs_cons (pg_name (i := 13) sc_law_due.nd rfl (Or.inl rfl)) (pgs_cons (pg_name (i := 12) sc_law_due.nd rfl (Or.inl rfl)) pgs_nil))))))
        (pss_cons (ps_dput hu (pv 10) (pv 5) (pe_tup (pa_cons (pv 6) (pa_cons (pe_ix ix_tup (pv 1) pe_int (fun _ _ => rfl)) (pa_cons (pv 13) (pa_cons (pv 2) pa_nil))))) rfl)
        (pss_one (ps_ret (pe_tup (pa_cons (pe_tup (pa_cons (pv 11) (pa_cons (pv 10) pa_nil))) (pa_cons (pv 13) (pa_cons (pv 12) pa_nil)))))))))))))), ?_⟩
    refine ⟨_, rfl, k0, _, rfl, sqt hk0, rfl, _, _, rfl, _, _, rfl, rfl, ?_⟩
    cases e with
    | fin who =>
      refine ⟨_, rfl, la, _, _, _, rfl, rfl, sqt hla, rfl, ?_⟩
      refine ⟨_, rfl, ds, rfl, .inl ⟨_, .inl hR.1⟩, _, rfl, Nat.le_of_ble_eq_true rfl, fun t1 m1 => newH m1 fun H1 e1 h1 => ⟨Nat.le_of_ble_eq_true rfl, fun t2 m2 => newH m2 fun H2 e2 h2 => ?_⟩⟩
      have e02 := e1.trans e2
      have hR2 := hR.mono e02
      have hN2 := hN.mono e02
      have hla2 := e02 _ _ hla
      have hk2 := e02 _ _ hk0
      obtain ⟨a4, ans, plc, ea, ta⟩ := row_get (K := K) hR2 (sqt h2) (S who)
      refine ⟨_, DGet.k (k := Sum.inr (S who)) hR2.1, a4, _, ea, ta, rfl, _, _, rfl, _, _, rfl, _, _, rfl, _, _, rfl, rfl, ?_⟩
      refine ⟨_, rfl, ds, _, rfl, .inl hR2.1, fun dl ml => newH ml fun H3 e3 h3 => ?_⟩
      have hla3 := e3 _ _ hla2
      have hN3 := hN2.mono e3
      have hk3 := e3 _ _ hk2
      have e03 := e02.trans e3
      have R3 : RowsAt H3 dl rs := ⟨h3, fun r hr => e3 _ _ (hR2.2 r hr)⟩
      refine ⟨_, rfl, la, _, _, _, rfl, rfl, sqt hla3, rfl, rfl, _, rfl, iteD rfl ?_⟩
      refine ⟨_, rfl, _, rfl, ?_⟩
      cases hl : limOf rs (S who) with
      | none =>
        refine iteD rfl ?_
        refine ⟨_, rfl, Nat.zero_le _, fun l nl => newH nl fun H4 e4 h4 => ⟨Nat.le_of_ble_eq_true rfl, fun p np => newH np fun H5 e5 h5 => ?_⟩⟩
        have e35 := e4.trans e5
        exact k p k0 _ _ dn ds ns rs H5 (e03.trans e35) h5 (e35 _ _ hk3) (hN3.mono e35) ((hR2.mono e3).mono e35) (ok.mono (by omega)) rt (by omega)
      | some i =>
        refine iteDn (fun z => by cases z) ?_
        refine ⟨_, rfl, _, rfl, dn, ns, b, S who, rfl, hN3, ok, rt, fun p d2 e xs ns' H4 hd2 e4 hp he hN4 ok4 rt4 => ⟨p, _, rfl, sqt hp, rfl, _, _, rfl, _, _, rfl, rfl, ?_⟩⟩
        have R4 := R3.mono e4
        have dne : d2 ≠ dl := (ne_of_none h3 hd2).symm
        refine ⟨_, rfl, _, rfl, _, rfl, Nat.le_of_ble_eq_true rfl, fun t5 nt5 => newH nt5 fun H5 e5 h5 => ⟨_, rfl, _, rfl, dl, _, rfl, DPut.k (k := Sum.inr (S who)) (e5 _ _ R4.1) (by rw [List.length_map]; exact small1000 (by omega)), chgH fun H6 x6 h6 => ?_⟩⟩
        have R5 := R4.mono e5
        have p1 := rput_ent rs ⟨S who, t5, none, lastOf rs (S who), ans, plc⟩
        have R6 := RowsAt.store (r := ⟨S who, t5, none, lastOf rs (S who), ans, plc⟩) R5 h5 x6 (by rw [← p1]; exact h6)
        have N6 := NodesAt.sx R5.1 dne x6 (hN4.mono e5)
        refine ⟨_, rfl, _, rfl, Nat.le_of_ble_eq_true rfl, fun t7 nt7 => newH nt7 fun H7 e7 h7 => ⟨_, rfl, Nat.le_of_ble_eq_true rfl, fun p8 np8 => newH np8 fun H8 e8 h8 => ?_⟩⟩
        have e68 := e7.trans e8
        exact k p8 t7 _ _ d2 dl ns' _ H8 ((e02.trans (sm_sx ((e3.trans e4).trans e5) x6 ml)).trans e68) h8 (e8 _ _ h7) (N6.mono e68) (R6.mono e68) (ok4.mono (by omega)) rt4 (by rw [rput_len]; split <;> omega)
    | ask who stamp da dd =>
      refine ⟨_, rfl, la, _, _, _, rfl, rfl, sqt hla, rfl, ?_⟩
      refine ⟨_, rfl, ds, rfl, .inl ⟨_, .inl hR.1⟩, _, rfl, Nat.le_of_ble_eq_true rfl, fun t1 m1 => newH m1 fun H1 e1 h1 => ⟨Nat.le_of_ble_eq_true rfl, fun t2 m2 => newH m2 fun H2 e2 h2 => ?_⟩⟩
      have e02 := e1.trans e2
      have hR2 := hR.mono e02
      have hN2 := hN.mono e02
      have hla2 := e02 _ _ hla
      have hk2 := e02 _ _ hk0
      obtain ⟨a4, ans, plc, ea, ta⟩ := row_get (K := K) hR2 (sqt h2) (S who)
      refine ⟨_, DGet.k (k := Sum.inr (S who)) hR2.1, a4, _, ea, ta, rfl, _, _, rfl, _, _, rfl, _, _, rfl, _, _, rfl, rfl, ?_⟩
      refine atS (σ' := [some (.ref k0), some (.ref la), some sp, some (.ref dn), some (.ref ds), some (.str (S who)), some (limV (limOf rs (S who))), some (.int (lastOf rs (S who))), some ans, some plc, none, none, none, none]) rfl ?_
      refine ⟨_, rfl, ds, _, rfl, .inl hR2.1, fun dl ml => newH ml fun H3 e3 h3 => ?_⟩
      have hla3 := e3 _ _ hla2
      have hN3 := hN2.mono e3
      have hk3 := e3 _ _ hk2
      have e03 := e02.trans e3
      have R3 : RowsAt H3 dl rs := ⟨h3, fun r hr => e3 _ _ (hR2.2 r hr)⟩
      refine ⟨_, rfl, la, _, _, _, rfl, rfl, sqt hla3, rfl, rfl, _, rfl, iteDn (by decide +kernel) ?_⟩
      refine ⟨_, rfl, la, _, _, _, rfl, rfl, sqt hla3, rfl, _, rfl, _, _, rfl, rfl, _, rfl, ite2 (fun c => ?_) (fun c => ?_)⟩
      · have bit : ∀ kk : Bool, ∃ v, atI [V.non, ans] (if kk = true then 1 else 0) = some v := fun kk => by
          cases kk with
          | true => exact ⟨_, rfl⟩
          | false => exact ⟨_, rfl⟩
        refine ⟨_, rfl, _, rfl, Nat.le_of_ble_eq_true rfl, fun l nl => newH nl fun H4 e4 h4 => ?_⟩
        refine ⟨_, rfl, la, _, _, _, rfl, rfl, sqt (e4 _ _ hla3), rfl, _, rfl, rfl, .inr ⟨_, rfl, ?_⟩⟩
        obtain ⟨v, hv⟩ := bit (decide (V.int stamp = V.int (lastOf rs (S who))))
        refine ⟨l, _, _, v, rfl, rfl, sql h4, hv, Nat.zero_le _, fun l5 nl5 => newH nl5 fun H5 e5 h5 => ⟨Nat.le_of_ble_eq_true rfl, fun p np => newH np fun H6 e6 h6 => ?_⟩⟩
        have e36 := (e4.trans e5).trans e6
        exact k p k0 _ _ dn ds ns rs H6 (e03.trans e36) h6 (e36 _ _ hk3) (hN3.mono e36) ((hR2.mono e3).mono e36) (ok.mono (by omega)) rt (by omega)
      · refine ⟨_, rfl, _, rfl, _, rfl, la, _, _, _, rfl, rfl, sqt hla3, rfl, _, rfl, dn, ns, b, limOf rs (S who), da, dd, S who, rfl, hN3, ok, hb, rt, DdAt.mono e03 hin, heo.2.2, fun p d2 lim' y e xs ns' H4 hd2 e4 hp he hN4 ok4 rt4 => ⟨p, _, rfl, sqt hp, rfl, _, _, rfl, _, _, rfl, _, _, rfl, _, _, rfl, rfl, ?_⟩⟩
        refine atS (σ' := [some (.ref k0), some (.ref la), some sp, some (.ref dn), some (.ref ds), some (.str (S who)), some (limV lim'), some (.int (lastOf rs (S who))), some ans, some plc, some (.ref dl), some (.ref d2), some (.ref e), some y]) rfl ?_
        have R4 := R3.mono e4
        have hla4 := e4 _ _ hla3
        have dne : d2 ≠ dl := by
          rcases hd2 with rfl | z
          · exact ne_of_none hN2.1 ml
          · exact (ne_of_none h3 z).symm
        refine ⟨_, rfl, _, rfl, la, _, _, _, rfl, rfl, sqt hla4, rfl, _, rfl, _, rfl, Nat.le_of_ble_eq_true rfl, fun t5 nt5 => newH nt5 fun H5 e5 h5 => ⟨_, rfl, _, rfl, dl, _, rfl, DPut.k (k := Sum.inr (S who)) (e5 _ _ R4.1) (by rw [List.length_map]; exact small1000 (by omega)), chgH fun H6 x6 h6 => ?_⟩⟩
        have R5 := R4.mono e5
        have p1 := rput_ent rs ⟨S who, t5, lim', stamp, y, sp⟩
        have R6 := RowsAt.store (r := ⟨S who, t5, lim', stamp, y, sp⟩) R5 h5 x6 (by rw [← p1]; exact h6)
        have N6 := NodesAt.sx R5.1 dne x6 (hN4.mono e5)
        refine ⟨_, rfl, _, rfl, Nat.le_of_ble_eq_true rfl, fun t7 nt7 => newH nt7 fun H7 e7 h7 => ⟨_, rfl, _, rfl, Nat.le_of_ble_eq_true rfl, fun p8 np8 => newH np8 fun H8 e8 h8 => ?_⟩⟩
        have e68 := e7.trans e8
        exact k p8 t7 _ _ d2 dl ns' _ H8 ((e02.trans (sm_sx ((e3.trans e4).trans e5) x6 ml)).trans e68) h8 (e8 _ _ h7) (N6.mono e68) (R6.mono e68) ok4 rt4 (by rw [rput_len]; split <;> omega)
end
end N17

set_option Elab.async false
set_option linter.all false
set_option maxRecDepth 100000
set_option maxHeartbeats 4000000
namespace N17
open PySem PySem.Spec PyProof.Rows
open L2 hiding CX0 E0 pass0 Fun Fun.ok fun_mk
open C8 (Cal CX0 E0 pass0)
open SX (S)
theorem Tp.tup {H H' : Hp} {b : Addr} {xs : List V} (t : Tp H H') (h : H b = some (.tup xs)) : H' b = some (.tup xs) := t _ _ (by intro _ z; cases z) h
theorem Tp.dk {H H' : Hp} {b : Addr} {xs : List (Key × V)} (t : Tp H H') (h : H b = some (.dK xs)) : H' b = some (.dK xs) := t _ _ (by intro _ z; cases z) h
theorem NodesAt.tp {H H' : Hp} {d : Addr} {ns : List Nd} (t : Tp H H') (h : NodesAt H d ns) : NodesAt H' d ns := ⟨t.dk h.1, fun n hn => t.tup (h.2 n hn)⟩
theorem RowsAt.tp {H H' : Hp} {d : Addr} {ns : List Rw} (t : Tp H H') (h : RowsAt H d ns) : RowsAt H' d ns := ⟨t.dk h.1, fun n hn => t.tup (h.2 n hn)⟩
theorem DdAt.tp {H H' : Hp} {a : Addr} {d : Dd} (t : Tp H H') (h : DdAt H a d) : DdAt H' a d := ⟨t.tup h.1, by
  cases d with
  | all q ls => exact ⟨t.tup h.2.1, fun x hx => t.tup (h.2.2 x hx)⟩
  | _ => trivial⟩
theorem EnAt.tp {H H' : Hp} {a : Addr} {e : En} (t : Tp H H') (h : EnAt H a e) : EnAt H' a e := ⟨t.tup h.1, by
  cases e with
  | fin w => trivial
  | ask w st da d => exact DdAt.tp t h.2⟩
/-- rows.get(who, a new pair), its items -/
theorem row_get2 {K : PySem.W.Frag} {H : Hp} {d t : Addr} {rs : List Rw} (h : RowsAt H d rs) (ht : H t = some (.tup [.non, .int 0])) (x : Str) :
    ∃ a xs, (valV (rs.map entR) (.inr x)).getD (.ref t) = .ref a ∧ H a = some (.tup xs) ∧ atI xs 0 = some (limV (limOf rs x)) ∧ atI xs 1 = some (.int (lastOf rs x)) := by
  rw [val_row]
  unfold limOf lastOf
  cases e : rowOf rs x with
  | none => exact ⟨t, _, rfl, ht, rfl, rfl⟩
  | some r => exact ⟨r.ad, _, rfl, h.2 r (row_in e).1, rfl, rfl⟩
theorem all_pls {H : Hp} : ∀ {xs : List V}, (∀ x ∈ xs, ∃ t l, x = V.ref t ∧ H t = some (.tup (Pl.vs l)) ∧ PlOk l) → ∃ ls : List (Addr × Pl), xs = ls.map (fun x => V.ref x.1) ∧ (∀ x ∈ ls, H x.1 = some (.tup (Pl.vs x.2))) ∧ ∀ x ∈ ls, PlOk x.2
  | [], _ => ⟨[], rfl, (fun _ h => by cases h), fun _ h => by cases h⟩
  | x :: r, h => by
    obtain ⟨t, l, rfl, h1, h2⟩ := h x (by simp)
    obtain ⟨ls, rfl, h3, h4⟩ := all_pls fun y hy => h y (List.mem_cons_of_mem _ hy)
    refine ⟨(t, l) :: ls, rfl, fun y hy => ?_, fun y hy => ?_⟩
    · rcases List.mem_cons.mp hy with rfl | hy
      · exact h1
      · exact h3 y hy
    · rcases List.mem_cons.mp hy with rfl | hy
      · exact h2
      · exact h4 y hy
section
variable {P : Program} {w : World} {K : PySem.W.Frag} {mg : Str → Option Value} {base : Heap} {f : Addr} {fd : FuncData}
/-- the store at k0 -/
def KAt (H : Hp) (k0 : Addr) (b : Int) (dn ds : Addr) (ns : List Nd) (rs : List Rw) : Prop := H k0 = some (.tup [.ref dn, .ref ds]) ∧ NodesAt H dn ns ∧ RowsAt H ds rs ∧ NOk b ns ∧ Rt ns
theorem KAt.tp {H H' : Hp} {k0 dn ds : Addr} {b : Int} {ns : List Nd} {rs : List Rw} (t : Tp H H') (h : KAt H k0 b dn ds ns rs) : KAt H' k0 b dn ds ns rs := ⟨t.tup h.1, h.2.1.tp t, h.2.2.1.tp t, h.2.2.2⟩
abbrev s_law_task : Stmt := topS 67
theorem sc_law_task : FnScope ["_law_pool_here", "_law_kept", "_law_who", "_law_limit", "_law_way", "_law_turn"] ["_law_pool_here", "_law_kept", "_law_who"] (C8.fnScope s_law_task) := C8.fnScope_by (by decide +kernel)
def spTask : Sp := fun vs H Q _ => ∃ a k0 b dn ds ns rs who, vs = [.ref a, .ref k0, .str who] ∧ Pool H a ∧ KAt H k0 b dn ds ns rs ∧ ∀ da dd H', Gx a H H' → DdAt H' da dd → DdOk dd → Q (.ref da) H'
theorem ok_law_task (F : C8.Def K mg "_law_task" s_law_task f fd) (b : Binds K fd ["_law_pool_here", "_law_kept", "_law_who"] []) (T : Tx K w mg) (c_law_take : Cal P w K mg base 1 "_law_take" spTake []) (c_law_deed : Cal P w K mg base 5 "_law_deed" spLDeed []) :
    Cal P w K mg base 6 "_law_task" spTask [] := by
  refine C8.cal0 F b .nil sc_law_task (fun vs H Q E h => ?_) (fun cdv A outer s H vs Q E hr h => ?_)
  · obtain ⟨_, _, _, _, _, _, _, _, rfl, _⟩ := h
    rfl
  · obtain ⟨a, k0, b, dn, ds, ns, rs, who, rfl, hp, hk, k⟩ := h
    have hu := hu_of hr
    refine ⟨_, (pss_cons (ps_set (i := 3) sc_law_task.nd rfl (Or.inl rfl) (pe_ix ix_tup (pe_dget2 hu (pe_ix ix_tup (pv 1) pe_int (fun _ _ => rfl)) (pv 2) (pe_tup (pa_cons pe_non (pa_cons pe_int pa_nil))) ⟨by rfl, by rfl, by rfl, by rfl⟩) pe_int (fun _ _ => rfl)))
        (pss_cons (ps_set (i := 4) sc_law_task.nd rfl (Or.inl rfl) (C8.pe_c c_law_take hr (by decide) (by rfl) (pa_cons (pv 0) (pa_cons pe_int pa_nil))))
        (C8.pss_cut (ps_if (PW.pt (pw_and (pt_cmp (pc_isN (pv 3))) (pw_and1 (pt_cmpR op_gt (C8.pe_c c_law_take hr (by decide) (by rfl) (pa_cons (pv 0) (pa_cons pe_int pa_nil))) pe_int (nomark _))))) (pss_one (ps_ret (pe_tup (pa_cons pe_str (pa_cons (pe_ix ix_list (pe_lst (pa_cons pe_int (pa_cons pe_int (pa_cons pe_int pa_nil)))) (C8.pe_c c_law_take hr (by decide) (by rfl) (pa_cons (pv 0) (pa_cons pe_int pa_nil))) (fun _ _ => rfl)) pa_nil))))) pss_nil)
        (pss_cons (ps_if (pt_cmpR op_lt (pv 4) pe_int (nomark _)) (pss_one (ps_ret (C8.pe_c c_law_deed hr (by decide) (by rfl) (pa_cons (pv 0) (pa_cons (pe_ix ix_tup (pv 1) pe_int (fun _ _ => rfl)) pa_nil))))) pss_nil)
        (pss_cons (ps_if (pt_cmpR op_lt (pv 4) pe_int (nomark _)) (pss_one (ps_ret (pe_tup (pa_cons pe_str (pa_cons (pe_callTy call_tuple_of (by rfl) T.n_tuple (by decide +kernel) (pa_cons (pe_lc rfl sc_law_task.nd (pi_range1 (by rfl) T.n_range (pa_cons (pe_op op_add pe_int (C8.pe_c c_law_take hr (by decide) (by rfl) (pa_cons (pv 0) (pa_cons pe_int pa_nil)))) pa_nil)) (L2.blkOk_by (own := [("_law_turn", 5)]) (N := ["_law_pool_here", "_law_kept", "_law_who", "_law_limit", "_law_way", "_law_turn"]) (sc := C8.fnScope s_law_task) (by decide +kernel)) (fun _ _ _ _ _ => (pg_name (i := 5) sc_law_task.nd rfl (Or.inl rfl))) (fun _ _ _ _ _ => pts_nil) (fun _ _ _ _ _ => (C8.pe_c c_law_deed hr (by decide) (by rfl) (pa_cons (pv 0) (pa_cons (pe_ix (ixk_tup K rfl) (pv 1) pe_int (fun _ _ => rfl)) pa_nil))))) pa_nil)) pa_nil))))) pss_nil)
        (pss_one (ps_ret (pe_ix ix_list (pe_lst (pa_cons (pe_tup (pa_cons pe_str pa_nil)) (pa_cons (pe_tup (pa_cons pe_str (pa_cons pe_int pa_nil))) (pa_cons (pe_tup (pa_cons pe_str pa_nil)) pa_nil)))) (C8.pe_c c_law_take hr (by decide) (by rfl) (pa_cons (pv 0) (pa_cons pe_int pa_nil))) (fun _ _ => rfl))))))))), ?_⟩
    refine ⟨_, rfl, k0, _, _, _, rfl, rfl, sqt hk.1, rfl, ds, rfl, .inl ⟨_, .inl hk.2.2.1.1⟩, _, rfl, Nat.le_of_ble_eq_true rfl, fun t nt => newH nt fun H1 e1 h1 => ?_⟩
    have hk1 := hk.tp (Same.tp e1)
    obtain ⟨a4, xs, ea, ta, at0, _⟩ := row_get2 (K := K) hk1.2.2.1 h1 who
    refine ⟨_, DGet.k (k := Sum.inr who) hk1.2.2.1.1, a4, xs, _, _, ea, rfl, sqt ta, at0, ?_⟩
    have p1 := hp.mono e1
    refine ⟨_, rfl, a, 14, rfl, p1, by decide, by decide, fun way H2 g2 _ _ => ?_⟩
    have g02 := (hp.s e1).trans g2
    refine ⟨fun σ' H' => σ' = [some (.ref a), some (.ref k0), some (.str who), some (limV (limOf rs who)), some (.int way), none] ∧ Gx a H H', ?_, ?_⟩
    · refine ⟨_, rfl, _, rfl, ?_⟩
      cases limOf rs who with
      | some i => exact iteDn (fun z => by cases z) ⟨rfl, g02⟩
      | none =>
        refine iteD rfl ⟨_, rfl, a, 4, rfl, g2.pool, by decide, by decide, fun r H3 g3 _ _ => ⟨_, _, rfl, rfl, _, rfl, ite2 (fun c => ?_) (fun c => ⟨rfl, g02.trans g3⟩)⟩⟩
        refine ⟨Nat.le_of_ble_eq_true rfl, fun l nl => newH nl fun H4 e4 h4 => ⟨_, rfl, a, 3, rfl, g3.pool.mono e4, by decide, by decide, fun r5 H5 g5 r50 r51 => ?_⟩⟩
        have hla : l ≠ a := (g3.pool.sep nl).symm
        obtain ⟨v, hv, hm⟩ := at_in r50 (show r5 < (([V.int 1, .int 7, .int 1000] : List V).length : Nat) from r51)
        have hi : ∃ i : Int, v = .int i ∧ 1 ≤ i ∧ i ≤ 1000 := by
          simp only [List.mem_cons, List.not_mem_nil, or_false] at hm
          rcases hm with rfl | rfl | rfl
          · exact ⟨1, rfl, by decide, by decide⟩
          · exact ⟨7, rfl, by decide, by decide⟩
          · exact ⟨1000, rfl, by decide, by decide⟩
        obtain ⟨i, rfl, i1, i2⟩ := hi
        exact ⟨l, _, _, _, rfl, rfl, sql (g5.x _ _ hla h4), hv, Nat.le_of_ble_eq_true rfl, fun t6 nt6 => newH nt6 fun H6 e6 h6 => k t6 (.opn i) H6 ((((g02.trans g3).s e4).trans g5).s e6) ⟨h6, trivial⟩ ⟨i1, i2⟩⟩
    · rintro σ' H3 ⟨rfl, g3⟩
      have hk3 := hk.tp (g3.tp hp)
      refine ⟨_, rfl, _, _, rfl, rfl, _, rfl, ite2 (fun c => ?_) (fun c => ?_)⟩
      · exact ⟨_, rfl, _, rfl, k0, _, _, _, rfl, rfl, sqt hk3.1, rfl, a, dn, ns, b, rfl, g3.pool, hk3.2.1, hk3.2.2.2.1, hk3.2.2.2.2.ne, fun t l H4 g4 ht hl => k t (.pl l) H4 (g3.trans g4) ⟨ht, trivial⟩ hl⟩
      · refine ⟨_, rfl, _, _, rfl, rfl, _, rfl, ite2 (fun c2 => ?_) (fun c2 => ?_)⟩
        · refine ⟨_, rfl, a, 4, rfl, g3.pool, by decide, by decide, fun r4 H4 g4 r40 r41 => ⟨_, _, rfl, rfl, _, rfl, by omega, by omega, fun D nD => ?_⟩⟩
          have hk4 := hk3.tp (g4.tp g3.pool)
          refine lc_gx (a := a) walk_range (fun v H => ∃ t l, v = .ref t ∧ H t = some (.tup (Pl.vs l)) ∧ PlOk l) nD g4.pool (by omega) (fun v H H' tp ⟨t, l, h1, h2, h3⟩ => ⟨t, l, h1, tp.tup h2, h3⟩) (fun i Ha Nx hi gx hpa kp => ?_) (fun Ha xs gx hD hl hR => ?_)
          · have hka := hk4.tp (gx.tp g4.pool)
            exact ⟨rfl, _, rfl, _, rfl, k0, _, _, _, rfl, rfl, sqt hka.1, rfl, a, dn, ns, b, rfl, hpa, hka.2.1, hka.2.2.2.1, hka.2.2.2.2.ne, fun t l H5 g5 ht hl => kp _ _ g5 ⟨t, l, rfl, ht, hl⟩⟩
          · obtain ⟨ls, rfl, hls, hlo⟩ := all_pls hR
            rw [List.length_map] at hl
            refine ⟨D, _, rfl, .inl ⟨sql hD, fun t5 nt5 => newH nt5 fun H5 e5 h5 => ⟨Nat.le_of_ble_eq_true rfl, fun t6 nt6 => newH nt6 fun H6 e6 h6 => ?_⟩⟩⟩
            have e56 := e5.trans e6
            exact k t6 (.all t5 ls) H6 (((g3.trans g4).trans gx).s e56) ⟨h6, e6 _ _ h5, fun x hx => e56 _ _ (hls x hx)⟩ ⟨by omega, by omega, hlo⟩
        · refine ⟨Nat.le_of_ble_eq_true rfl, fun t4 m4 => newH m4 fun H4 e4 h4 => ⟨Nat.le_of_ble_eq_true rfl, fun t5 m5 => newH m5 fun H5 e5 h5 => ⟨Nat.le_of_ble_eq_true rfl, fun t6 m6 => newH m6 fun H6 e6 h6 => ⟨Nat.le_of_ble_eq_true rfl, fun l nl => newH nl fun H7 e7 h7 => ?_⟩⟩⟩⟩
          have p7 := (((g3.pool.mono e4).mono e5).mono e6).mono e7
          have hla : l ≠ a := ((((g3.pool.mono e4).mono e5).mono e6).sep nl).symm
          refine ⟨_, rfl, a, 3, rfl, p7, by decide, by decide, fun r8 H8 g8 r80 r81 => ?_⟩
          obtain ⟨v, hv, hm⟩ := at_in r80 (show r8 < (([V.ref t4, .ref t5, .ref t6] : List V).length : Nat) from r81)
          have gg := (((((g3.s e4).s e5).s e6).s e7).trans g8)
          have d4 : DdAt H8 t4 .close := ⟨g8.tup p7 (e7 _ _ (e6 _ _ (e5 _ _ h4))), trivial⟩
          have d5 : DdAt H8 t5 (.opn 5) := ⟨g8.tup p7 (e7 _ _ (e6 _ _ h5)), trivial⟩
          have d6 : DdAt H8 t6 .bring := ⟨g8.tup p7 (e7 _ _ h6), trivial⟩
          refine ⟨l, _, _, v, rfl, rfl, sql (g8.x _ _ hla h7), hv, ?_⟩
          simp only [List.mem_cons, List.not_mem_nil, or_false] at hm
          rcases hm with rfl | rfl | rfl
          · exact k t4 .close H8 gg d4 trivial
          · exact k t5 (.opn 5) H8 gg d5 ⟨by decide, by decide⟩
          · exact k t6 .bring H8 gg d6 trivial
end
end N17

set_option Elab.async false
set_option linter.all false
set_option maxRecDepth 100000
set_option maxHeartbeats 4000000
namespace N17
open PySem PySem.Spec PyProof.Rows
open L2 hiding CX0 E0 pass0 Fun Fun.ok fun_mk
open C8 (Cal CX0 E0 pass0)
open SX (S)
/-- a line of the script: its place, its entry -/
structure Ln where
  q : Addr
  la : Addr
  sp : V
  e : En
def LnAt (H : Hp) (x : Ln) : Prop := H x.q = some (.tup [x.sp, .ref x.la]) ∧ EnAt H x.la x.e ∧ EnOk x.e
theorem LnAt.tp {H H' : Hp} {x : Ln} (t : Tp H H') (h : LnAt H x) : LnAt H' x := ⟨t.tup h.1, h.2.1.tp t, h.2.2⟩
@[elab_as_elim] theorem dispH {motive : Hp → Prop} {H : Hp} {d a : Addr} {X Y Z : HO} (nd : H d = none) (na : upd H d X a = none) (k : ∀ H', Same H H' → H' d = some Z → H' a = some Y → motive H') : motive (upd (upd (upd H d X) a Y) d Z) := by
  have nda : d ≠ a := fun e => by rw [← e, upd_same] at na; cases na
  refine k _ (fun b o hb => ?_) upd_same ?_
  · have h1 : b ≠ d := ne_of_none hb nd
    have h2 : b ≠ a := fun e => by
      rw [upd_ne nda.symm] at na
      rw [e, na] at hb
      cases hb
    rw [upd_ne h1, upd_ne h2, upd_ne h1]
    exact hb
  · rw [upd_ne nda.symm, upd_same]
theorem root_ok (a : Addr) : NOk 0 [rootN a] := ⟨by simp, Nat.le_of_ble_eq_true rfl, fun n hn => by rw [List.mem_singleton.mp hn]; exact root_path, fun n hn => by rw [List.mem_singleton.mp hn]; exact Int.le_refl _, fun n hn => by rw [List.mem_singleton.mp hn]; exact ⟨Int.le_refl _, Int.le_refl _⟩⟩
section
variable {P : Program} {w : World} {K : PySem.W.Frag} {mg : Str → Option Value} {base : Heap} {f : Addr} {fd : FuncData}
abbrev s_law_drawn_line : Stmt := topS 68
theorem sc_law_drawn_line : FnScope ["_law_pool_here", "_law_kept", "_law_who", "_law_last", "_law_stamp"] ["_law_pool_here", "_law_kept"] (C8.fnScope s_law_drawn_line) := C8.fnScope_by (by decide +kernel)
def spDrawn : Sp := fun vs H Q _ => ∃ a k0 b dn ds ns rs, vs = [.ref a, .ref k0] ∧ Pool H a ∧ KAt H k0 b dn ds ns rs ∧ ∀ la e H', Gx a H H' → EnAt H' la e → EnOk e → Q (.ref la) H'
theorem ok_law_drawn_line (F : C8.Def K mg "_law_drawn_line" s_law_drawn_line f fd) (b : Binds K fd ["_law_pool_here", "_law_kept"] []) (T : Tx K w mg) (c_law_take : Cal P w K mg base 1 "_law_take" spTake []) (c_law_task : Cal P w K mg base 6 "_law_task" spTask []) :
    Cal P w K mg base 7 "_law_drawn_line" spDrawn [] := by
  refine C8.cal0 F b .nil sc_law_drawn_line (fun vs H Q E h => ?_) (fun cdv A outer s H vs Q E hr h => ?_)
  · obtain ⟨_, _, _, _, _, _, _, rfl, _⟩ := h
    rfl
  · obtain ⟨a, k0, b, dn, ds, ns, rs, rfl, hp, hk, k⟩ := h
    have hu := hu_of hr
    refine ⟨_, (pss_cons (ps_set (i := 2) sc_law_drawn_line.nd rfl (Or.inl rfl) (pe_ix ix_list (pe_lst (pa_cons pe_str (pa_cons pe_str (pa_cons pe_str pa_nil)))) (C8.pe_c c_law_take hr (by decide) (by rfl) (pa_cons (pv 0) (pa_cons pe_int pa_nil))) (fun _ _ => rfl)))
        (pss_cons (ps_if (pt_cmpR op_eq (C8.pe_c c_law_take hr (by decide) (by rfl) (pa_cons (pv 0) (pa_cons pe_int pa_nil))) pe_int (nomark _)) (pss_one (ps_ret (pe_tup (pa_cons pe_str (pa_cons (pv 2) pa_nil))))) pss_nil)
        (pss_cons (ps_set (i := 3) sc_law_drawn_line.nd rfl (Or.inl rfl) (pe_ix ix_tup (pe_dget2 hu (pe_ix ix_tup (pv 1) pe_int (fun _ _ => rfl)) (pv 2) (pe_tup (pa_cons pe_non (pa_cons pe_int pa_nil))) ⟨by rfl, by rfl, by rfl, by rfl⟩) pe_int (fun _ _ => rfl)))
        (pss_cons (ps_set (i := 4) sc_law_drawn_line.nd rfl (Or.inl rfl) (pe_callB (call_max2 rfl) (by rfl) T.n_max (by decide +kernel) (pa_cons pe_int (pa_cons (pe_op op_add (pv 3) (pe_ix ix_list (pe_lst (pa_cons pe_int (pa_cons pe_int (pa_cons pe_int (pa_cons pe_int (pa_cons pe_int (pa_cons pe_int (pa_cons pe_int (pa_cons pe_int (pa_cons pe_int (pa_cons (pe_op op_sub pe_int pe_int) pa_nil))))))))))) (C8.pe_c c_law_take hr (by decide) (by rfl) (pa_cons (pv 0) (pa_cons pe_int pa_nil))) (fun _ _ => rfl))) pa_nil))))
        (pss_one (ps_ret (pe_tup (pa_cons pe_str (pa_cons (pv 2) (pa_cons (pv 4) (pa_cons (C8.pe_c c_law_task hr (by decide) (by rfl) (pa_cons (pv 0) (pa_cons (pv 1) (pa_cons (pv 2) pa_nil)))) pa_nil))))))))))), ?_⟩
    refine ⟨Nat.le_of_ble_eq_true rfl, fun l nl => newH nl fun H1 e1 h1 => ⟨_, rfl, a, 3, rfl, hp.mono e1, by decide, by decide, fun r H2 g2 r0 r1 => ?_⟩⟩
    have hla : l ≠ a := (hp.sep nl).symm
    obtain ⟨v, hv, hm⟩ := at_in r0 (show r < (([V.str "xa", .str "yb", .str "zz"] : List V).length : Nat) from r1)
    have hwho : ∃ who : Cs, v = .str (S who) ∧ IsWord who := by
      simp only [List.mem_cons, List.not_mem_nil, or_false] at hm
      rcases hm with rfl | rfl | rfl
      · exact ⟨[120, 97], congrArg V.str (by decide +kernel), by decide, by decide, by unfold Let; decide +kernel⟩
      · exact ⟨[121, 98], congrArg V.str (by decide +kernel), by decide, by decide, by unfold Let; decide +kernel⟩
      · exact ⟨[122, 122], congrArg V.str (by decide +kernel), by decide, by decide, by unfold Let; decide +kernel⟩
    obtain ⟨who, rfl, hw⟩ := hwho
    refine ⟨l, _, _, _, rfl, rfl, sql (g2.x _ _ hla h1), hv, ?_⟩
    have g02 := (hp.s e1).trans g2
    refine ⟨_, rfl, a, 14, rfl, g2.pool, by decide, by decide, fun r3 H3 g3 _ _ => ⟨rfl, _, rfl, ite2 (fun c => ?_) (fun c => ?_)⟩⟩
    · exact ⟨_, rfl, Nat.le_of_ble_eq_true rfl, fun t nt => newH nt fun H4 e4 h4 => k t (.fin who) H4 ((g02.trans g3).s e4) ⟨h4, trivial⟩ hw⟩
    · have g03 := g02.trans g3
      have hk3 := hk.tp (g03.tp hp)
      refine ⟨_, rfl, k0, _, _, _, rfl, rfl, sqt hk3.1, rfl, ds, rfl, .inl ⟨_, .inl hk3.2.2.1.1⟩, _, rfl, Nat.le_of_ble_eq_true rfl, fun t nt => newH nt fun H4 e4 h4 => ?_⟩
      have hk4 := hk3.tp (Same.tp e4)
      obtain ⟨a4, xs, ea, ta, _, at1⟩ := row_get2 (K := K) hk4.2.2.1 h4 (S who)
      refine ⟨_, DGet.k (k := Sum.inr (S who)) hk4.2.2.1.1, a4, xs, _, _, ea, rfl, sqt ta, at1, ?_⟩
      refine ⟨_, rfl, _, _, rfl, rfl, Nat.le_of_ble_eq_true rfl, fun l5 m5 => newH m5 fun H5 e5 h5 => ?_⟩
      have p4 := g03.pool.mono e4
      have hla5 : l5 ≠ a := (p4.sep m5).symm
      refine ⟨_, rfl, a, 10, rfl, p4.mono e5, by decide, by decide, fun r6 H6 g6 r60 r61 => ?_⟩
      obtain ⟨v, hv, hm⟩ := at_in r60 (show r6 < (([V.int 1, .int 1, .int 1, .int 1, .int 1, .int 1, .int 2, .int 5, .int 0, .int (0 - 1)] : List V).length : Nat) from r61)
      have hi : ∃ i : Int, v = .int i := by
        simp only [List.mem_cons, List.not_mem_nil, or_false] at hm
        rcases hm with rfl | rfl | rfl | rfl | rfl | rfl | rfl | rfl | rfl | rfl <;> exact ⟨_, rfl⟩
      obtain ⟨i, rfl⟩ := hi
      refine ⟨l5, _, _, _, rfl, rfl, sql (g6.x _ _ hla5 h5), hv, _, _, rfl, rfl, _, _, rfl, ?_⟩
      have hst : 1 ≤ (if lastOf rs (S who) + i > 1 then lastOf rs (S who) + i else 1) := by split <;> omega
      generalize (if lastOf rs (S who) + i > 1 then lastOf rs (S who) + i else 1) = st at hst
      have g36 : Gx a H3 H6 := ((g03.pool.s e4).s e5).trans g6
      have hk6 := hk3.tp (g36.tp g03.pool)
      refine ⟨_, rfl, _, rfl, _, rfl, _, rfl, _, rfl, a, k0, b, dn, ds, ns, rs, S who, rfl, g6.pool, hk6, fun da dd H7 g7 hda hdd => ⟨Nat.le_of_ble_eq_true rfl, fun t8 nt8 => newH nt8 fun H8 e8 h8 => ?_⟩⟩
      exact k t8 (.ask who st da dd) H8 (((g03.trans g36).trans g7).s e8) ⟨h8, DdAt.mono e8 hda⟩ ⟨hw, hst, hdd⟩
abbrev s_law_gone : Stmt := topS 69
theorem sc_law_gone : FnScope ["_law_pool_here", "_law_many", "_law_kept", "_law_lines", "_law_spot", "_law_turn", "_law_line_here"] ["_law_pool_here", "_law_many"] (C8.fnScope s_law_gone) := C8.fnScope_by (by decide +kernel)
def spGone : Sp := fun vs H Q _ => ∃ a many, vs = [.ref a, .int many] ∧ Pool H a ∧ 0 ≤ many ∧ many ≤ 60 ∧ ∀ L, ∀ xs : List Ln, ∀ H', H L = none → Gx a H H' → H' L = some (.lst (xs.map fun x => .ref x.q)) → (∀ x ∈ xs, LnAt H' x) → xs.length ≤ 60 → Q (.ref L) H'
theorem ok_law_gone (F : C8.Def K mg "_law_gone" s_law_gone f fd) (b : Binds K fd ["_law_pool_here", "_law_many"] []) (T : Tx K w mg) (c_law_take : Cal P w K mg base 1 "_law_take" spTake []) (c_law_drawn_line : Cal P w K mg base 7 "_law_drawn_line" spDrawn [])
    (c_law_due : Cal P w K mg base 6 "_law_due" spLDue []) : Cal P w K mg base 8 "_law_gone" spGone [] := by
  refine C8.cal0 F b .nil sc_law_gone (fun vs H Q E h => ?_) (fun cdv A outer s H vs Q E hr h => ?_)
  · obtain ⟨_, _, rfl, _⟩ := h
    rfl
  · obtain ⟨a, many, rfl, hp, m0, m1, k⟩ := h
    refine ⟨_, (pss_cons (ps_set (i := 2) sc_law_gone.nd rfl (Or.inl rfl) (pe_tup (pa_cons (pe_disp (pps_cons pe_str (pe_tup (pa_cons pe_str (pa_cons pe_int (pa_cons pe_int (pa_cons pe_non pa_nil))))) pps_nil) (by rfl) (by rfl) (fun z => by cases z) (by decide)) (pa_cons pe_dnewK pa_nil))))
        (pss_cons (ps_set (i := 3) sc_law_gone.nd rfl (Or.inl rfl) (pe_lst pa_nil))
        (pss_cons (ps_set (i := 4) sc_law_gone.nd rfl (Or.inl rfl) (pe_tup (pa_cons (pe_op op_add pe_int (C8.pe_c c_law_take hr (by decide) (by rfl) (pa_cons (pv 0) (pa_cons pe_int pa_nil)))) (pa_cons pe_int pa_nil))))
        (pss_cons (ps_for PassesOwn.never rfl (pi_range1 (by rfl) T.n_range (pa_cons (pv 1) pa_nil)) (pg_name (i := 5) sc_law_gone.nd rfl (Or.inl rfl)) (pss_cons (ps_set (i := 6) sc_law_gone.nd rfl (Or.inl rfl) (C8.pe_c c_law_drawn_line hr (by decide) (by rfl) (pa_cons (pv 0) (pa_cons (pv 2) pa_nil))))
        (pss_cons (ps_set (i := 4) sc_law_gone.nd rfl (Or.inl rfl) (pe_ix ix_list (pe_lst (pa_cons (pe_tup (pa_cons (pe_ix ix_tup (pv 4) pe_int (fun _ _ => rfl)) (pa_cons (pe_op op_add (pe_ix ix_tup (pv 4) pe_int (fun _ _ => rfl)) pe_int) pa_nil))) (pa_cons (pe_tup (pa_cons (pe_op op_add (pe_op op_add (pe_ix ix_tup (pv 4) pe_int (fun _ _ => rfl)) pe_int) (C8.pe_c c_law_take hr (by decide) (by rfl) (pa_cons (pv 0) (pa_cons pe_int pa_nil)))) (pa_cons pe_int pa_nil))) pa_nil))) (pe_callTy call_int1 (by rfl) T.n_int (by decide +kernel) (pa_cons (pe_cmpR op_eq (C8.pe_c c_law_take hr (by decide) (by rfl) (pa_cons (pv 0) (pa_cons pe_int pa_nil))) pe_int (nomark _)) pa_nil)) (fun _ _ => rfl)))
        (pss_cons (ps_expr (pe_bm PySem.F.plainAttrs_list PySem.F.slot_list_append PySem.F.type_list_append mt_append (pv 3) (pa_cons (pe_tup (pa_cons (pv 4) (pa_cons (pv 6) pa_nil))) pa_nil)))
        (pss_one (ps_set (i := 2) sc_law_gone.nd rfl (Or.inl rfl) (pe_ix ix_tup (C8.pe_c c_law_due hr (by decide) (by rfl) (pa_cons (pv 2) (pa_cons (pv 6) (pa_cons (pv 4) pa_nil)))) pe_int (fun _ _ => rfl))))))))
        (pss_one (ps_ret (pv 3))))))), ?_⟩
    intro d nd
    refine ⟨Nat.le_of_ble_eq_true rfl, fun a0 na => ?_⟩
    have nda : d ≠ a0 := fun e => by rw [← e, upd_same] at na; cases na
    refine ⟨by rw [upd_ne nda, upd_same], [(.inr ("/" : Str), .ref a0)], rfl, Nat.le_of_ble_eq_true rfl, ?_⟩
    refine dispH nd na fun H1 e1 hd ha => ?_
    have hN1 : NodesAt H1 d [rootN a0] := ⟨hd, fun n hn => by rw [List.mem_singleton.mp hn]; exact ha⟩
    refine fun ds ns => newH ns fun H2 e2 h2 => ⟨Nat.le_of_ble_eq_true rfl, fun k0 nk => newH nk fun H3 e3 h3 => ⟨Nat.zero_le _, fun ll nl => newH nl fun H4 e4 h4 => ?_⟩⟩
    have e04 := ((e1.trans e2).trans e3).trans e4
    refine ⟨_, rfl, a, 3, rfl, hp.mono e04, by decide, by decide, fun r5 H5 g5 _ _ => ⟨_, _, rfl, rfl, Nat.le_of_ble_eq_true rfl, fun sp nsp => newH nsp fun H6 e6 h6 => ?_⟩⟩
    have g06 : Gx a H H6 := ((hp.s e04).trans g5).s e6
    have p4 := hp.mono e04
    have nla : ll ≠ a := ((((hp.mono e1).mono e2).mono e3).sep nl).symm
    have h46 : H6 ll = some (.lst []) := e6 _ _ (g5.x _ _ nla h4)
    have t46 : Tp H4 H6 := (g5.tp p4).trans (Same.tp e6)
    have hk6 : KAt H6 k0 (6 * ((0 : Nat) : Int)) d ds [rootN a0] [] := ⟨t46.tup (e4 _ _ h3), ((hN1.mono e2).mono (e3.trans e4)).tp t46, ⟨t46.dk (e4 _ _ (e3 _ _ h2)), fun _ h => by cases h⟩, root_ok a0, rootN a0, by simp, rfl, rfl⟩
    have nl0 : H ll = none := sm_free ((e1.trans e2).trans e3) nl
    refine ⟨_, rfl, many, rfl, by omega, by omega, ?_⟩
    refine for_it (walk_range (lo := 0) (n := many.toNat)) (fun i σ H' => ∃ k0 sp x5 x6 dn ds ns rs xs X Y, σ = [some (.ref a), some (.int many), some (.ref k0), some (.ref ll), some (.ref sp), x5, x6] ∧ Gx a H H' ∧ KAt H' k0 (6 * (i : Int)) dn ds ns rs ∧ rs.length ≤ i ∧
        H' sp = some (.tup [.int X, .int Y]) ∧ H' ll = some (.lst (xs.map fun x => .ref x.q)) ∧ (∀ x ∈ xs, LnAt H' x) ∧ xs.length = i)
      ⟨k0, sp, none, none, d, ds, _, [], [], _, _, rfl, g06, hk6, Nat.le_refl _, h6, h46, (fun _ h => by cases h), rfl⟩ (fun _ _ _ _ _ => trivial) (fun i x σ Ha Hb hi p y => ?_) (fun σ Ha p => ?_)
    · obtain ⟨k0, sp, x5, x6, dn, ds, ns, rs, xs, X, Y, rfl, g0, hk, hrl, hsp, hll, hxs, hxl⟩ := p
      obtain ⟨rfl, rfl⟩ := y
      refine ⟨_, rfl, _, rfl, a, k0, _, dn, ds, ns, rs, rfl, g0.pool, hk, fun la e H2 g2 hla heo => ?_⟩
      have q2 := g2.pool
      have t2 := g2.tp g0.pool
      have hsp2 := t2.tup hsp
      refine ⟨_, rfl, sp, _, _, _, rfl, rfl, sqt hsp2, rfl, _, rfl, sp, _, _, _, rfl, rfl, sqt hsp2, rfl, _, _, rfl, rfl, Nat.le_of_ble_eq_true rfl, fun t3 m3 => newH m3 fun H3 e3 h3 => ?_⟩
      have hsp3 := e3 _ _ hsp2
      refine ⟨_, rfl, sp, _, _, _, rfl, rfl, sqt hsp3, rfl, _, _, rfl, rfl, _, rfl, a, 2, rfl, q2.mono e3, by decide, by decide, fun r4 H4 g4 _ _ => ⟨_, _, rfl, rfl, Nat.le_of_ble_eq_true rfl, fun t5 m5 => newH m5 fun H5 e5 h5 => ⟨Nat.le_of_ble_eq_true rfl, fun l6 m6 => newH m6 fun H6 e6 h6 => ?_⟩⟩⟩
      have p3 := q2.mono e3
      have p6 := (g4.pool.mono e5).mono e6
      have l6a : l6 ≠ a := ((g4.pool.mono e5).sep m6).symm
      refine ⟨_, rfl, a, 6, rfl, p6, by decide, by decide, fun r7 H7 g7 _ _ => ⟨rfl, .inr ⟨_, rfl, ?_⟩⟩⟩
      have g46 : Gx a H4 H6 := (g4.pool.s e5).s e6
      have g27 : Gx a H2 H7 := ((((q2.s e3).trans g4).s e5).s e6).trans g7
      have h37 : H7 t3 = some (.tup [.int X, .int (Y + 1)]) := g7.tup p6 (e6 _ _ (e5 _ _ (g4.tup p3 h3)))
      have h57 := g7.tup p6 (e6 _ _ h5)
      have pick : ∀ kk : Bool, ∃ s2 X2 Y2, atI [V.ref t3, V.ref t5] (if kk = true then 1 else 0) = some (V.ref s2) ∧ H7 s2 = some (.tup [.int X2, .int Y2]) := fun kk => by
        cases kk with
        | true => exact ⟨t5, _, _, rfl, h57⟩
        | false => exact ⟨t3, _, _, rfl, h37⟩
      obtain ⟨s2, X2, Y2, hs2, hsv⟩ := pick (decide (V.int r7 = V.int 0))
      refine ⟨l6, _, _, _, rfl, rfl, sql (g7.x _ _ l6a h6), hs2, ?_⟩
      have g07 := (g0.trans g2).trans g27
      have hll7 := g27.x _ _ nla (g2.x _ _ nla hll)
      refine ⟨_, rfl, .inl ⟨rfl, _, sql hll7⟩, _, rfl, _, rfl, Nat.le_of_ble_eq_true rfl, fun q8 m8 => newH m8 fun H8 e8 h8 => ⟨ll, _, _, rfl, rfl, e8 _ _ hll7, by rw [List.length_map]; exact small1000 (by omega), chgH fun H9 x9 h9 => ?_⟩⟩
      have hll8 := e8 _ _ hll7
      have t79 : Tp H7 H9 := (Same.tp e8).trans fun b o n hb => x9 b o (fun z => by rw [z, hll8] at hb; exact n _ (Option.some.inj hb).symm) hb
      have t29 := (g27.tp q2).trans t79
      have ta9 := t2.trans t29
      have hk9 := hk.tp ta9
      have p9 : Pool H9 a := by
        obtain ⟨x, y, h1, r⟩ := g27.pool.mono e8
        exact ⟨x, y, x9 _ _ (fun z => nla z.symm) h1, r⟩
      have s9 : SameX a H H9 := fun b o nb hb => x9 _ _ (fun z => by rw [z, nl0] at hb; cases hb) (e8 _ _ (g07.x _ _ nb hb))
      have hla9 : EnAt H9 la e := hla.tp t29
      refine ⟨_, rfl, _, rfl, _, rfl, k0, la, .ref s2, dn, ds, ns, _, rs, e, rfl, hk9.1, hk9.2.1, hk9.2.2.1, hk9.2.2.2.1, by omega, hk9.2.2.2.2, by omega, hla9, heo, fun p k2 y z d2 ds2 ns' rs' H10 e10 hp10 hk10 hN10 hR10 ok10 rt10 hl10 => ⟨p, _, _, _, rfl, rfl, sqt hp10, rfl, ?_⟩⟩
      refine ⟨k2, s2, _, _, d2, ds2, ns', rs', xs ++ [⟨q8, la, .ref s2, e⟩], X2, Y2, rfl, ⟨fun b o nb hb => e10 _ _ (s9 b o nb hb), p9.mono e10⟩, ⟨hk10, hN10, hR10, by rw [show 6 * ((i + 1 : Nat) : Int) = 6 * (i : Int) + 6 by omega]; exact ok10, rt10⟩, by omega, e10 _ _ (t79.tup hsv), ?_, fun x hx => ?_, by rw [List.length_append, List.length_singleton]; omega⟩
      · rw [e10 _ _ h9, List.map_append]
        rfl
      · rcases List.mem_append.mp hx with hx | hx
        · exact (hxs x hx).tp (ta9.trans (Same.tp e10))
        · rw [List.mem_singleton.mp hx]
          exact ⟨e10 _ _ (x9 _ _ (ne_of_none hll7 m8).symm h8), hla9.mono e10, heo⟩
    · obtain ⟨k0, sp, x5, x6, dn, ds, ns, rs, xs, X, Y, rfl, g0, hk, hrl, hsp, hll, hxs, hxl⟩ := p
      exact ⟨_, rfl, k ll xs Ha nl0 g0 hll hxs (by omega)⟩
end
end N17

set_option Elab.async false
set_option linter.all false
set_option maxRecDepth 100000
set_option maxHeartbeats 4000000
namespace N17
open PySem PySem.Spec PyProof.Rows
open L2 hiding CX0 E0 pass0 Fun Fun.ok fun_mk
open C8 (Cal CX0 E0 pass0)
open SX (S)
theorem rent_at {rs : List Rw} {i : Nat} {k : Key} {v : V} (h : (rs.map entR)[i]? = some (k, v)) : ∃ r ∈ rs, rs[i]? = some r ∧ k = .inr r.who ∧ v = .ref r.ad := by
  rw [List.getElem?_map] at h
  cases e : rs[i]? with
  | none => rw [e] at h; cases h
  | some r =>
    rw [e] at h
    cases h
    exact ⟨r, List.mem_of_getElem? e, rfl, rfl, rfl⟩
theorem row_of {rs : List Rw} (h : (rs.map (·.who)).Nodup) {r : Rw} (hr : r ∈ rs) : rowOf rs r.who = some r := by
  induction rs with
  | nil => cases hr
  | cons m t ih =>
    have h' : (m.who :: t.map (·.who)).Nodup := h
    obtain ⟨h1, h2⟩ := List.nodup_cons.mp h'
    unfold rowOf
    rw [List.find?_cons]
    rcases List.mem_cons.mp hr with rfl | hr1
    · rw [decide_eq_true rfl]
    · have : ¬ m.who = r.who := fun z => h1 (List.mem_map.mpr ⟨r, hr1, z.symm⟩)
      rw [decide_eq_false this]
      exact ih h2 hr1
theorem DGet.lk {H : Hp} {a d : Addr} {od : Obj} {A B : List (Key × V)} {k : Key} (hd : H d = some (.dK A)) (ha : H a = some (.dK B)) : DGet (upd H d (.frz od (.dK A))) a (kV k) (valV B k) := by
  refine .inl ⟨B, k, ?_, rfl, rfl⟩
  by_cases z : a = d
  · subst z
    rw [hd] at ha
    cases ha
    exact .inr ⟨od, upd_same⟩
  · exact .inl (by rw [upd_ne z]; exact ha)
theorem DGet.up {H H' : Hp} {a : Addr} {k : Key} {r : Option V} (e : Same H H') (h : DGet H a (kV k) r) (B : List (Key × V)) (hr : Rd H a (.dK B)) (hv : r = valV B k) : DGet H' a (kV k) r := by
  refine .inl ⟨B, k, ?_, rfl, hv⟩
  rcases hr with h1 | ⟨o, h1⟩
  · exact .inl (e _ _ h1)
  · exact .inr ⟨o, e _ _ h1⟩
theorem dget_lk {H H' : Hp} {a d : Addr} {od : Obj} {A B : List (Key × V)} {k : Key} (hd : H d = some (.dK A)) (ha : H a = some (.dK B)) (e : Same (upd H d (.frz od (.dK A))) H') : DGet H' a (kV k) (valV B k) := by
  refine .inl ⟨B, k, ?_, rfl, rfl⟩
  by_cases z : a = d
  · subst z
    rw [hd] at ha
    cases ha
    exact .inr ⟨od, e _ _ upd_same⟩
  · exact .inl (e _ _ (by rw [upd_ne z]; exact ha))
theorem filterMap_bind {α β : Type} (xs : List α) (q : α → Bool) (g : α → β) : (List.range xs.length).filterMap (fun i => (xs[i]?).bind fun x => if q x = true then some (g x) else none) = (xs.filter q).map g := by
  refine (range_bind _ xs).trans ?_
  induction xs with
  | nil => rfl
  | cons y r ih =>
    rw [List.filterMap_cons, List.filter_cons, ih]
    cases h : q y <;> simp
theorem filterMap_none (n : Nat) : (List.range n).filterMap (fun _ => (none : Option V)) = [] := by simp
def opens (rs : List Rw) : List V := (rs.filter fun r => r.lim.isSome).map fun r => V.str r.who
theorem opens_flat (rs : List Rw) : (opens rs ++ [V.non]).all flatV = true := by
  rw [List.all_eq_true]
  intro v hv
  rcases List.mem_append.mp hv with hv | hv
  · obtain ⟨r, _, rfl⟩ := List.mem_map.mp hv
    rfl
  · rw [List.mem_singleton.mp hv]
    rfl
theorem own_in {ns : List Nd} {rs : List Rw} (how : Owned ns rs) {n : Nd} (hn : n ∈ ns) : inV (ownV n.own) (opens rs ++ [V.non]) = true := by
  unfold inV
  rw [List.any_eq_true]
  cases ho : n.own with
  | none => exact ⟨V.non, by simp, rfl⟩
  | some x =>
    have h := how n hn x ho
    unfold limOf at h
    cases e : rowOf rs x with
    | none => rw [e] at h; cases h
    | some r =>
      rw [e] at h
      obtain ⟨h1, h2⟩ := row_in e
      refine ⟨V.str r.who, List.mem_append_left _ (List.mem_map.mpr ⟨r, List.mem_filter.mpr ⟨h1, h⟩, rfl⟩), ?_⟩
      show (r.who == x) = true
      rw [h2]
      exact beq_self_eq_true x
theorem own_flat (o : Option Str) : flatV (ownV o) = true := by cases o <;> rfl
section
variable {P : Program} {w : World} {K : PySem.W.Frag} {mg : Str → Option Value} {base : Heap} {f : Addr} {fd : FuncData}
abbrev s_law_owned_right : Stmt := topS 70
theorem sc_law_owned_right : FnScope ["_law_kept", "_law_open_now", "_law_who", "_law_road"] ["_law_kept"] (C8.fnScope s_law_owned_right) := C8.fnScope_by (by decide +kernel)
def spOwned : Sp := fun vs H Q _ => ∃ k0 dn ds ns b rs, vs = [.ref k0] ∧ H k0 = some (.tup [.ref dn, .ref ds]) ∧ NodesAt H dn ns ∧ NOk b ns ∧ RowsAt H ds rs ∧ (rs.map (·.who)).Nodup ∧ rs.length ≤ 900 ∧ Owned ns rs ∧ ∀ H', Same H H' → Q (.bl true) H'
theorem ok_law_owned_right (F : C8.Def K mg "_law_owned_right" s_law_owned_right f fd) (b : Binds K fd ["_law_kept"] []) (T : Tx K w mg) : Cal P w K mg base 1 "_law_owned_right" spOwned [] := by
  refine C8.cal0 F b .nil sc_law_owned_right (fun vs H Q E h => ?_) (fun cdv A outer s H vs Q E hr h => ?_)
  · obtain ⟨_, _, _, _, _, _, rfl, _⟩ := h
    rfl
  · obtain ⟨k0, dn, ds, ns, b, rs, rfl, hk0, hN, ok, hR, hnd, hrl, how, k⟩ := h
    have hu := hu_of hr
    refine ⟨_, (pss_cons (ps_set (i := 1) sc_law_owned_right.nd rfl (Or.inr rfl) (pe_lock (pe_lc rfl sc_law_owned_right.nd (pi_keys (pe_ix ix_tup (pv 0) pe_int (fun _ _ => rfl))) (L2.blkOk_by (own := [("_law_who", 2)]) (N := ["_law_kept", "_law_open_now", "_law_who", "_law_road"]) (sc := C8.fnScope s_law_owned_right) (by decide +kernel)) (fun _ _ _ _ _ => (pg_name (i := 2) sc_law_owned_right.nd rfl (Or.inl rfl))) (fun _ _ _ _ _ => (pts_one (pt_cmp (pc_notN (pe_ix (ixk_tup K rfl) (pe_dget hu (pe_ix (ixk_tup K rfl) (pv 0) pe_int (fun _ _ => rfl)) (pv 2) (fun _ _ => rfl)) pe_int (fun _ _ => rfl)))))) (fun _ _ _ _ _ => (pv 2)))))
        (pss_one (ps_ret (pe_cmpR (op_eqD hr.units) (pe_lock (pe_lc rfl sc_law_owned_right.nd (pi_keys (pe_ix ix_tup (pv 0) pe_int (fun _ _ => rfl))) (L2.blkOk_by (own := [("_law_road", 3)]) (N := ["_law_kept", "_law_open_now", "_law_who", "_law_road"]) (sc := C8.fnScope s_law_owned_right) (by decide +kernel)) (fun _ _ _ _ _ => (pg_name (i := 3) sc_law_owned_right.nd rfl (Or.inl rfl))) (fun _ _ _ _ _ => (pts_one (pt_cmpR (opk_notIn_seq K rfl) (pe_ix (ixk_tup K rfl) (pe_dget hu (pe_ix (ixk_tup K rfl) (pv 0) pe_int (fun _ _ => rfl)) (pv 3) (fun _ _ => rfl)) pe_int (fun _ _ => rfl)) (pe_op op_cat (pv 1) (pe_lst (pa_cons pe_non pa_nil))) (by rfl)))) (fun _ _ _ _ _ => (pv 3)))) (pe_lst pa_nil) (nomark _))))), ?_⟩
    refine ⟨ds, _, hR.1, trivial, fun od => ⟨_, rfl, k0, _, _, _, rfl, rfl, sqt (lk_at hR.1 hk0), rfl, ds, od, rfl, .inl ⟨_, upd_same, fun D nD => ?_⟩⟩⟩
    refine lc_opt walk_keys (fun i => (rs[i]?).bind fun r => if r.lim.isSome = true then some (V.str r.who) else none) nD (by rw [List.length_map]; omega) (fun Ha sm => sm _ _ upd_same) (fun i x Ha Hb Nx hi sm _ y kp dr => ?_) (fun H1 e1 h1 => ?_)
    · obtain ⟨rfl, k2, v2, hk, rfl⟩ := y
      obtain ⟨r, hr1, hri, rfl, rfl⟩ := rent_at hk
      have hg := dget_lk (k := Sum.inr r.who) hR.1 hR.1 sm
      rw [val_row, row_of hnd hr1] at hg
      have hra := sm _ _ (lk_at (f := .frz od (.dK (rs.map entR))) hR.1 (hR.2 r hr1))
      refine ⟨rfl, _, rfl, k0, _, _, _, rfl, rfl, sqt (sm _ _ (lk_at hR.1 hk0)), rfl, _, rfl, ds, _, rfl, hg, r.ad, r.vs, _, _, rfl, rfl, sqt hra, rfl, _, rfl, ?_⟩
      cases hl : r.lim with
      | none => exact iteEq rfl (dr _ (by rw [hri]; show (if r.lim.isSome = true then _ else none) = none; rw [hl]; rfl) (Same.refl _))
      | some j => exact iteNe (fun z => by cases z) ⟨_, rfl, kp _ _ (by rw [hri]; show (if r.lim.isSome = true then _ else none) = _; rw [hl]; rfl) (Same.refl _)⟩
    · refine ⟨e1 _ _ upd_same, ?_⟩
      have nDs : D ≠ ds := fun z => by rw [z, upd_same] at nD; cases nD
      have hDv : H1 D = some (.lst (opens rs)) := by
        rw [h1, List.length_map]
        exact congrArg (fun z => some (HO.lst z)) (filterMap_bind rs (fun r => r.lim.isSome) fun r => V.str r.who)
      have e2 : Same H (upd H1 ds (.dK (rs.map entR))) := sm_unlock e1 hR.1
      have hD2 : (upd H1 ds (.dK (rs.map entR))) D = some (.lst (opens rs)) := by rw [upd_ne nDs]; exact hDv
      generalize upd H1 ds (.dK (rs.map entR)) = H2 at e2 hD2
      have hN2 := hN.mono e2
      have hk2 := e2 _ _ hk0
      refine ⟨dn, _, hN2.1, trivial, fun od2 => ⟨_, rfl, k0, _, _, _, rfl, rfl, sqt (lk_at hN2.1 hk2), rfl, dn, od2, rfl, .inl ⟨_, upd_same, fun D2 nD2 => ?_⟩⟩⟩
      have hD3 : (upd H2 dn (.frz od2 (.dK (ns.map ent)))) D = some (.lst (opens rs)) := by rw [upd_ne (ne_of hD2 hN2.1 (by intro z; cases z))]; exact hD2
      refine lc_opt walk_keys (fun _ => none) nD2 (by rw [List.length_map]; have := ok.few; omega) (fun Ha sm => sm _ _ upd_same) (fun i x Ha Hb Nx hi sm _ y kp dr => ?_) (fun H3 e3 h3 => ?_)
      · obtain ⟨rfl, k2, v2, hk, rfl⟩ := y
        obtain ⟨n, hn, _, rfl, rfl⟩ := ent_at hk
        have hg := dget_lk (k := Sum.inr n.path) hN2.1 hN2.1 sm
        rw [look_of ok.nd hn] at hg
        have hna := sm _ _ (lk_at (f := .frz od2 (.dK (ns.map ent))) hN2.1 (hN2.2 n hn))
        refine ⟨rfl, _, rfl, k0, _, _, _, rfl, rfl, sqt (sm _ _ (lk_at hN2.1 hk2)), rfl, _, rfl, dn, _, rfl, hg, n.ad, n.vs, _, _, rfl, rfl, sqt hna, rfl, ?_⟩
        refine ⟨_, rfl, Nat.le_of_ble_eq_true rfl, fun z nz => newH nz fun H4 e4 h4 => ⟨D, z, _, _, rfl, rfl, e4 _ _ (sm _ _ hD3), h4, ?_, fun q nq => newH nq fun H5 e5 h5 => ⟨q, _, rfl, .inl (sql h5), own_flat _, opens_flat rs, _, rfl, ?_⟩⟩⟩
        · have : (opens rs).length ≤ rs.length := by unfold opens; rw [List.length_map]; exact List.length_filter_le _ _
          exact sz5 (by show (opens rs).length + 1 ≤ 1000; omega)
        · rw [own_in how hn]
          exact dr _ rfl (e4.trans e5)
      · rw [filterMap_none] at h3
        refine ⟨e3 _ _ upd_same, ?_⟩
        have nD2n : D2 ≠ dn := fun z => by rw [z, upd_same] at nD2; cases nD2
        have e4 : Same H2 (upd H3 dn (.dK (ns.map ent))) := sm_unlock e3 hN2.1
        have h4 : (upd H3 dn (.dK (ns.map ent))) D2 = some (.lst []) := by rw [upd_ne nD2n]; exact h3
        generalize upd H3 dn (.dK (ns.map ent)) = H4 at e4 h4
        refine ⟨Nat.zero_le _, fun l nl => newH nl fun H5 e5 h5 => ⟨_, _, .lst (sql (e5 _ _ h4)) .nil, .lst (sql h5) .nil, rfl, rfl, ?_⟩⟩
        exact k H5 ((e2.trans e4).trans e5)
end
end N17

set_option Elab.async false
set_option linter.all false
set_option maxRecDepth 100000
set_option maxHeartbeats 4000000
namespace N17
open PySem PySem.Spec PyProof.Rows
open L2 hiding CX0 E0 pass0 Fun Fun.ok fun_mk
open C8 (Cal CX0 E0 pass0)
open SX (S)
/-- the paths of b that a lacks -/
def newP (a b : List Nd) : List Str := (b.filter fun m => decide (m.path ∉ a.map (·.path))).map (·.path)
def wordP (w : Str) (es : List Evt) : List Str := (es.filter fun x => decide (x.w = w)).map (·.p)
theorem wordP_mem {w : Str} {es : List Evt} {p : Str} (h : ∃ x ∈ es, x.w = w ∧ x.p = p) : p ∈ wordP w es := by
  obtain ⟨x, hx, h1, h2⟩ := h
  exact List.mem_map.mpr ⟨x, List.mem_filter.mpr ⟨hx, decide_eq_true h1⟩, h2⟩
theorem inV_strs {p : Str} {l : List Str} (h : p ∈ l) : inV (.str p) (l.map V.str) = true := by
  unfold inV
  rw [List.any_eq_true]
  exact ⟨V.str p, List.mem_map.mpr ⟨p, h, rfl⟩, beq_self_eq_true p⟩
theorem strs_flat (l : List Str) : (l.map V.str).all flatV = true := by
  rw [List.all_eq_true]
  intro v hv
  obtain ⟨p, _, rfl⟩ := List.mem_map.mp hv
  rfl
theorem nmS {i : Nat} {x : V} {σ σ' : L2.St} {H : Hp} {Q : L2.St → Hp → Prop} (e : σ.set i (some x) = σ') (h : Q σ' H) : gName i x σ H Q := by
  subst e
  exact h
section
variable {P : Program} {w : World} {K : PySem.W.Frag} {mg : Str → Option Value} {base : Heap} {f : Addr} {fd : FuncData}
abbrev s_law_step_right : Stmt := topS 71
theorem sc_law_step_right : FnScope ["_law_kept", "_law_later", "_law_line_here", "_law_events", "_law_come", "_law_road", "_law_gone_here", "_law_told", "_law_word_here", "_law_left_here", "_law_who", "_law_was", "_law_now", "_law_own", "_law_rises"] ["_law_kept", "_law_later", "_law_line_here", "_law_events"] (C8.fnScope s_law_step_right) := C8.fnScope_by (by decide +kernel)
def spStep : Sp := fun vs H Q _ => ∃ k0 k1 la ev dn ds ns b rs dn2 ds2 ns2 b2 rs2 e es, vs = [.ref k0, .ref k1, .ref la, .ref ev] ∧ H k0 = some (.tup [.ref dn, .ref ds]) ∧ NodesAt H dn ns ∧ NOk b ns ∧ RowsAt H ds rs ∧
  H k1 = some (.tup [.ref dn2, .ref ds2]) ∧ NodesAt H dn2 ns2 ∧ NOk b2 ns2 ∧ RowsAt H ds2 rs2 ∧ (rs.map (·.who)).Nodup ∧ EnAt H la e ∧ EvAt H ev es ∧ es.length ≤ 120 ∧ Tr e ns rs ns2 rs2 es ∧ ∀ H', Same H H' → Q (.bl true) H'
theorem ok_law_step_right (F : C8.Def K mg "_law_step_right" s_law_step_right f fd) (b : Binds K fd ["_law_kept", "_law_later", "_law_line_here", "_law_events"] []) (T : Tx K w mg) : Cal P w K mg base 1 "_law_step_right" spStep [] := by
  refine C8.cal0 F b .nil sc_law_step_right (fun vs H Q E h => ?_) (fun cdv A outer s H vs Q E hr h => ?_)
  · obtain ⟨_, _, _, _, _, _, _, _, _, _, _, _, _, _, _, _, rfl, _⟩ := h
    rfl
  · obtain ⟨k0, k1, la, ev, dn, ds, ns, b, rs, dn2, ds2, ns2, b2, rs2, e, es, rfl, hk0, hN, ok, hR, hk1, hN2, ok2, hR2, hnd, he, hE, hel, tr, k⟩ := h
    have hu := hu_of hr
    refine ⟨_, (pss_cons (ps_lock (ps_setLc (i := 4) rfl sc_law_step_right.nd rfl rfl (sw_true rfl rfl rfl (by decide +kernel)) (pi_keys (pe_ix ix_tup (pv 1) pe_int (fun _ _ => rfl))) (L2.blkOk_by (own := [("_law_road", 5)]) (N := ["_law_kept", "_law_later", "_law_line_here", "_law_events", "_law_come", "_law_road", "_law_gone_here", "_law_told", "_law_word_here", "_law_left_here", "_law_who", "_law_was", "_law_now", "_law_own", "_law_rises"]) (sc := C8.fnScope s_law_step_right) (by decide +kernel)) (fun _ _ _ _ _ => (pg_name (i := 5) sc_law_step_right.nd rfl (Or.inl rfl))) (fun _ _ _ _ _ => (pts_one (pt_cmp (pc_dnotin hu (pv 5) (pe_ix (ixk_tup K rfl) (pv 0) pe_int (fun _ _ => rfl)))))) (fun _ _ _ _ _ => (pv 5))))
        (pss_cons (ps_lock (ps_setLc (i := 6) rfl sc_law_step_right.nd rfl rfl (sw_true rfl rfl rfl (by decide +kernel)) (pi_keys (pe_ix ix_tup (pv 0) pe_int (fun _ _ => rfl))) (L2.blkOk_by (own := [("_law_road", 5)]) (N := ["_law_kept", "_law_later", "_law_line_here", "_law_events", "_law_come", "_law_road", "_law_gone_here", "_law_told", "_law_word_here", "_law_left_here", "_law_who", "_law_was", "_law_now", "_law_own", "_law_rises"]) (sc := C8.fnScope s_law_step_right) (by decide +kernel)) (fun _ _ _ _ _ => (pg_name (i := 5) sc_law_step_right.nd rfl (Or.inl rfl))) (fun _ _ _ _ _ => (pts_one (pt_cmp (pc_dnotin hu (pv 5) (pe_ix (ixk_tup K rfl) (pv 1) pe_int (fun _ _ => rfl)))))) (fun _ _ _ _ _ => (pv 5))))
        (pss_cons (ps_set (i := 7) sc_law_step_right.nd rfl (Or.inr rfl) (pe_lc (g := gTup K 2 (gCons (gName 8) (gCons (gName 5) gNil))) rfl sc_law_step_right.nd (pi_list (pv 3)) (L2.blkOk_by (own := [("_law_word_here", 8), ("_law_road", 5)]) (N := ["_law_kept", "_law_later", "_law_line_here", "_law_events", "_law_come", "_law_road", "_law_gone_here", "_law_told", "_law_word_here", "_law_left_here", "_law_who", "_law_was", "_law_now", "_law_own", "_law_rises"]) (sc := C8.fnScope s_law_step_right) (by decide +kernel)) (fun _ _ _ _ _ => (pg_tup rfl (pgs_cons (pg_name (i := 8) sc_law_step_right.nd rfl (Or.inl rfl)) (pgs_cons (pg_name (i := 5) sc_law_step_right.nd rfl (Or.inl rfl)) pgs_nil)))) (fun _ _ _ _ _ => (pts_one (pt_cmpR op_eq (pv 8) pe_str (nomark _)))) (fun _ _ _ _ _ => (pv 5))))
        (pss_cons (ps_set (i := 9) sc_law_step_right.nd rfl (Or.inr rfl) (pe_lc (g := gTup K 2 (gCons (gName 8) (gCons (gName 5) gNil))) rfl sc_law_step_right.nd (pi_list (pv 3)) (L2.blkOk_by (own := [("_law_word_here", 8), ("_law_road", 5)]) (N := ["_law_kept", "_law_later", "_law_line_here", "_law_events", "_law_come", "_law_road", "_law_gone_here", "_law_told", "_law_word_here", "_law_left_here", "_law_who", "_law_was", "_law_now", "_law_own", "_law_rises"]) (sc := C8.fnScope s_law_step_right) (by decide +kernel)) (fun _ _ _ _ _ => (pg_tup rfl (pgs_cons (pg_name (i := 8) sc_law_step_right.nd rfl (Or.inl rfl)) (pgs_cons (pg_name (i := 5) sc_law_step_right.nd rfl (Or.inl rfl)) pgs_nil)))) (fun _ _ _ _ _ => (pts_one (pt_cmpR op_eq (pv 8) pe_str (nomark _)))) (fun _ _ _ _ _ => (pv 5))))
        (pss_cons (ps_if (pt_cmpR (op_neD hr.units) (pe_op op_cat (pe_lc rfl sc_law_step_right.nd (pi_list (pv 4)) (L2.blkOk_by (own := [("_law_road", 5)]) (N := ["_law_kept", "_law_later", "_law_line_here", "_law_events", "_law_come", "_law_road", "_law_gone_here", "_law_told", "_law_word_here", "_law_left_here", "_law_who", "_law_was", "_law_now", "_law_own", "_law_rises"]) (sc := C8.fnScope s_law_step_right) (by decide +kernel)) (fun _ _ _ _ _ => (pg_name (i := 5) sc_law_step_right.nd rfl (Or.inl rfl))) (fun _ _ _ _ _ => (pts_one (pt_cmpR (opk_notIn_seq K rfl) (pv 5) (pv 7) (by rfl)))) (fun _ _ _ _ _ => (pv 5))) (pe_lc rfl sc_law_step_right.nd (pi_list (pv 6)) (L2.blkOk_by (own := [("_law_road", 5)]) (N := ["_law_kept", "_law_later", "_law_line_here", "_law_events", "_law_come", "_law_road", "_law_gone_here", "_law_told", "_law_word_here", "_law_left_here", "_law_who", "_law_was", "_law_now", "_law_own", "_law_rises"]) (sc := C8.fnScope s_law_step_right) (by decide +kernel)) (fun _ _ _ _ _ => (pg_name (i := 5) sc_law_step_right.nd rfl (Or.inl rfl))) (fun _ _ _ _ _ => (pts_one (pt_cmpR (opk_notIn_seq K rfl) (pv 5) (pv 9) (by rfl)))) (fun _ _ _ _ _ => (pv 5)))) (pe_lst pa_nil) (nomark _)) (pss_one (ps_ret pe_bl)) pss_nil)
        (pss_cons (ps_set (i := 10) sc_law_step_right.nd rfl (Or.inr rfl) (pe_ix ix_tup (pv 2) pe_int (fun _ _ => rfl)))
        (pss_cons (ps_set (i := 11) sc_law_step_right.nd rfl (Or.inl rfl) (pe_dget2 hu (pe_ix ix_tup (pv 0) pe_int (fun _ _ => rfl)) (pv 10) (pe_tup (pa_cons pe_non (pa_cons pe_int pa_nil))) ⟨by rfl, by rfl, by rfl, by rfl⟩))
        (pss_cons (ps_set (i := 12) sc_law_step_right.nd rfl (Or.inl rfl) (pe_dget2 hu (pe_ix ix_tup (pv 1) pe_int (fun _ _ => rfl)) (pv 10) (pe_tup (pa_cons pe_non (pa_cons pe_int pa_nil))) ⟨by rfl, by rfl, by rfl, by rfl⟩))
        (pss_cons (ps_setLc (i := 13) rfl sc_law_step_right.nd rfl rfl (sw_true rfl rfl rfl (by decide +kernel)) (pi_list (pe_callB (call_sortedD rfl) (by rfl) T.n_sorted (by decide +kernel) (pa_cons (pe_ix ix_tup (pv 0) pe_int (fun _ _ => rfl)) pa_nil))) (L2.blkOk_by (own := [("_law_road", 5)]) (N := ["_law_kept", "_law_later", "_law_line_here", "_law_events", "_law_come", "_law_road", "_law_gone_here", "_law_told", "_law_word_here", "_law_left_here", "_law_who", "_law_was", "_law_now", "_law_own", "_law_rises"]) (sc := C8.fnScope s_law_step_right) (by decide +kernel)) (fun _ _ _ _ _ => (pg_name (i := 5) sc_law_step_right.nd rfl (Or.inl rfl))) (fun _ _ _ _ _ => (pts_one (pt_cmpR op_eq (pe_ix (ixk_tup K rfl) (pe_dget hu (pe_ix (ixk_tup K rfl) (pv 0) pe_int (fun _ _ => rfl)) (pv 5) (fun _ _ => rfl)) pe_int (fun _ _ => rfl)) (pv 10) (nomark _)))) (fun _ _ _ _ _ => (pv 5)))
        (C8.pss_cut (ps_if (PW.pt (pw_and (pt_cmp (pc_notN (pe_ix ix_tup (pv 11) pe_int (fun _ _ => rfl)))) (pw_and (pt_cmp (pc_isN (pe_ix ix_tup (pv 12) pe_int (fun _ _ => rfl)))) (pw_and1 (pt_cmpR (op_neD hr.units) (pv 9) (pv 13) (nomark _)))))) (pss_one (ps_ret pe_bl)) pss_nil)
        (pss_cons (ps_set (i := 14) sc_law_step_right.nd rfl (Or.inl rfl) (pe_and (pe_cmpR op_eq (pe_ix ix_tup (pv 2) pe_int (fun _ _ => rfl)) pe_str (nomark _)) (pe_one (pe_cmpR op_gt (pe_ix ix_tup (pv 2) pe_int (fun _ _ => rfl)) (pe_ix ix_tup (pv 11) pe_int (fun _ _ => rfl)) (nomark _)))))
        (pss_cons (ps_if (PW.pt (pw_or (pt_cmpR op_ne (pe_ix ix_tup (pv 12) pe_int (fun _ _ => rfl)) (pe_ix ix_list (pe_lst (pa_cons (pe_ix ix_tup (pv 11) pe_int (fun _ _ => rfl)) (pa_cons (pe_ix ix_tup (pv 2) (pe_un un_neg pe_int) (fun _ _ => rfl)) pa_nil))) (pe_callTy call_int1 (by rfl) T.n_int (by decide +kernel) (pa_cons (pv 14) pa_nil)) (fun _ _ => rfl)) (nomark _)) (pw_or1 (pt_cmpR op_lt (pe_ix ix_tup (pv 12) pe_int (fun _ _ => rfl)) (pe_ix ix_tup (pv 11) pe_int (fun _ _ => rfl)) (nomark _))))) (pss_one (ps_ret pe_bl)) pss_nil)
        (pss_one (ps_ret (pe_or (pv 14) (pe_or (pe_cmpR op_eq (pe_ix ix_tup (pv 2) pe_int (fun _ _ => rfl)) pe_str (nomark _)) (pe_one (pe_cmpR (op_eqT hr.units) (pe_tup (pa_cons (pv 1) (pa_cons (pv 3) pa_nil))) (pe_tup (pa_cons (pv 0) (pa_cons (pe_lst pa_nil) pa_nil))) (nomark _))))))))))))))))))), ?_⟩
    have h60 := ok.few
    have h602 := ok2.few
    -- come
    refine ⟨dn2, _, hN2.1, trivial, fun od => ⟨_, rfl, k1, _, _, _, rfl, rfl, sqt (lk_at hN2.1 hk1), rfl, dn2, od, rfl, .inl ⟨_, upd_same, fun D nD => ?_⟩⟩⟩
    refine lc_opt walk_keys (fun i => (ns2[i]?).bind fun m => if decide (m.path ∉ ns.map (·.path)) = true then some (V.str m.path) else none) nD (by rw [List.length_map]; omega) (fun Ha sm => sm _ _ upd_same) (fun i x Ha Hb Nx hi sm _ y kp dr => ?_) (fun H1 e1 h1 => ?_)
    · obtain ⟨rfl, k2, v2, hk, rfl⟩ := y
      obtain ⟨n, hn, hni, rfl, rfl⟩ := ent_at hk
      have hg := dget_lk (k := Sum.inr n.path) hN2.1 hN.1 sm
      refine ⟨rfl, _, rfl, _, rfl, k0, _, _, _, rfl, rfl, sqt (sm _ _ (lk_at hN2.1 hk0)), rfl, dn, _, rfl, hg, _, rfl, ?_⟩
      cases ev : valV (ns.map ent) (.inr n.path) with
      | none => exact ⟨_, rfl, kp _ _ (by rw [hni]; show (if decide (n.path ∉ ns.map (·.path)) = true then _ else none) = _; rw [decide_eq_true (look_none ev)]; rfl) (Same.refl _)⟩
      | some v => exact dr _ (by rw [hni]; show (if decide (n.path ∉ ns.map (·.path)) = true then _ else none) = none; rw [decide_eq_false (fun z => z (mem_of_look ev))]; rfl) (Same.refl _)
    · refine ⟨e1 _ _ upd_same, ?_⟩
      have nDd : D ≠ dn2 := fun z => by rw [z, upd_same] at nD; cases nD
      have hDv : H1 D = some (.lst ((newP ns ns2).map V.str)) := by
        rw [h1, List.length_map]
        exact congrArg (fun z => some (HO.lst z)) ((filterMap_bind ns2 (fun m => decide (m.path ∉ ns.map (·.path))) fun m => V.str m.path).trans (by unfold newP; rw [List.map_map]; rfl))
      have e2 : Same H (upd H1 dn2 (.dK (ns2.map ent))) := sm_unlock e1 hN2.1
      have hD2 : (upd H1 dn2 (.dK (ns2.map ent))) D = some (.lst ((newP ns ns2).map V.str)) := by rw [upd_ne nDd]; exact hDv
      generalize upd H1 dn2 (.dK (ns2.map ent)) = H2 at e2 hD2
      have hk02 := e2 _ _ hk0
      have hk12 := e2 _ _ hk1
      have hN' := hN.mono e2
      have hN2' := hN2.mono e2
      -- gone
      refine ⟨dn, _, hN'.1, trivial, fun od3 => ⟨_, rfl, k0, _, _, _, rfl, rfl, sqt (lk_at hN'.1 hk02), rfl, dn, od3, rfl, .inl ⟨_, upd_same, fun D3 nD3 => ?_⟩⟩⟩
      refine lc_opt walk_keys (fun i => (ns[i]?).bind fun m => if decide (m.path ∉ ns2.map (·.path)) = true then some (V.str m.path) else none) nD3 (by rw [List.length_map]; omega) (fun Ha sm => sm _ _ upd_same) (fun i x Ha Hb Nx hi sm _ y kp dr => ?_) (fun H3 e3 h3 => ?_)
      · obtain ⟨rfl, k2, v2, hk, rfl⟩ := y
        obtain ⟨n, hn, hni, rfl, rfl⟩ := ent_at hk
        have hg := dget_lk (k := Sum.inr n.path) hN'.1 hN2'.1 sm
        refine ⟨rfl, _, rfl, _, rfl, k1, _, _, _, rfl, rfl, sqt (sm _ _ (lk_at hN'.1 hk12)), rfl, dn2, _, rfl, hg, _, rfl, ?_⟩
        cases ev : valV (ns2.map ent) (.inr n.path) with
        | none => exact ⟨_, rfl, kp _ _ (by rw [hni]; show (if decide (n.path ∉ ns2.map (·.path)) = true then _ else none) = _; rw [decide_eq_true (look_none ev)]; rfl) (Same.refl _)⟩
        | some v => exact dr _ (by rw [hni]; show (if decide (n.path ∉ ns2.map (·.path)) = true then _ else none) = none; rw [decide_eq_false (fun z => z (mem_of_look ev))]; rfl) (Same.refl _)
      refine ⟨e3 _ _ upd_same, ?_⟩
      have nD3d : D3 ≠ dn := fun z => by rw [z, upd_same] at nD3; cases nD3
      have hDv3 : H3 D3 = some (.lst ((newP ns2 ns).map V.str)) := by
        rw [h3, List.length_map]
        exact congrArg (fun z => some (HO.lst z)) ((filterMap_bind ns (fun m => decide (m.path ∉ ns2.map (·.path))) fun m => V.str m.path).trans (by unfold newP; rw [List.map_map]; rfl))
      have e24 : Same H2 (upd H3 dn (.dK (ns.map ent))) := sm_unlock e3 hN'.1
      have hD4 : (upd H3 dn (.dK (ns.map ent))) D3 = some (.lst ((newP ns2 ns).map V.str)) := by rw [upd_ne nD3d]; exact hDv3
      generalize upd H3 dn (.dK (ns.map ent)) = H4 at e24 hD4
      have e4 := e2.trans e24
      have hDc4 := e24 _ _ hD2
      clear e3 h3 hDv3 nD3d nD3 hDv h1 e1 nD nDd
      have hE4 := hE.mono e4
      -- told
      refine ⟨_, rfl, ev, rfl, ⟨_, sql hE4.1⟩, fun D5 nD5 => ?_⟩
      refine lc_opt walk_list (fun i => (es[i]?).bind fun y => if decide (y.w = ("made" : Str)) = true then some (V.str y.p) else none) nD5 (by rw [List.length_map]; omega) (fun Ha sm => sql (sm _ _ hE4.1)) (fun i x Ha Hb Nx hi sm _ y kp dr => ?_) (fun H5 e5 h5 => ?_)
      · obtain ⟨rfl, hx⟩ := y
        rw [List.getElem?_map] at hx
        cases ey : es[i]? with
        | none => rw [ey] at hx; cases hx
        | some y =>
          rw [ey] at hx
          cases hx
          refine ⟨y.ad, _, rfl, sqt (sm _ _ (hE4.2 y (List.mem_of_getElem? ey))), rfl, _, _, rfl, _, _, rfl, rfl, rfl, _, rfl, rfl, _, rfl, ?_⟩
          by_cases c : y.w = ("made" : Str)
          · exact iteD (congrArg V.str c) ⟨_, rfl, kp _ _ (by rw [ey]; show (if decide (y.w = ("made" : Str)) = true then _ else none) = _; rw [decide_eq_true c]; rfl) (Same.refl _)⟩
          · exact iteDn (fun z => c (V.str.inj z)) (dr _ (by rw [ey]; show (if decide (y.w = ("made" : Str)) = true then _ else none) = _; rw [decide_eq_false c]; rfl) (Same.refl _))
      have hD5 : H5 D5 = some (.lst ((wordP "made" es).map V.str)) := by
        rw [h5, List.length_map]
        exact congrArg (fun z => some (HO.lst z)) ((filterMap_bind es (fun y => decide (y.w = ("made" : Str))) fun y => V.str y.p).trans (by unfold wordP; rw [List.map_map]; rfl))
      have hE5 := hE4.mono e5
      -- left
      refine ⟨_, rfl, ev, rfl, ⟨_, sql hE5.1⟩, fun D6 nD6 => ?_⟩
      refine lc_opt walk_list (fun i => (es[i]?).bind fun y => if decide (y.w = ("gone" : Str)) = true then some (V.str y.p) else none) nD6 (by rw [List.length_map]; omega) (fun Ha sm => sql (sm _ _ hE5.1)) (fun i x Ha Hb Nx hi sm _ y kp dr => ?_) (fun H6 e6 h6 => ?_)
      · obtain ⟨rfl, hx⟩ := y
        rw [List.getElem?_map] at hx
        cases ey : es[i]? with
        | none => rw [ey] at hx; cases hx
        | some y =>
          rw [ey] at hx
          cases hx
          refine ⟨y.ad, _, rfl, sqt (sm _ _ (hE5.2 y (List.mem_of_getElem? ey))), rfl, _, _, rfl, _, _, rfl, rfl, rfl, _, rfl, rfl, _, rfl, ?_⟩
          by_cases c : y.w = ("gone" : Str)
          · exact iteD (congrArg V.str c) ⟨_, rfl, kp _ _ (by rw [ey]; show (if decide (y.w = ("gone" : Str)) = true then _ else none) = _; rw [decide_eq_true c]; rfl) (Same.refl _)⟩
          · exact iteDn (fun z => c (V.str.inj z)) (dr _ (by rw [ey]; show (if decide (y.w = ("gone" : Str)) = true then _ else none) = _; rw [decide_eq_false c]; rfl) (Same.refl _))
      have hD6 : H6 D6 = some (.lst ((goneP es).map V.str)) := by
        rw [h6, List.length_map]
        exact congrArg (fun z => some (HO.lst z)) ((filterMap_bind es (fun y => decide (y.w = ("gone" : Str))) fun y => V.str y.p).trans (by unfold goneP; rw [List.map_map]; rfl))
      have e46 := e5.trans e6
      have eH6 := e4.trans e46
      have hDc6 := e46 _ _ hDc4
      have hDg6 := e46 _ _ hD4
      have hDt6 := e6 _ _ hD5
      clear h5 h6 hD5 hE5 hE4 hD4 hDc4 nD5 nD6 hk02 hk12 hN' hN2' hD2
      refine nmS (σ' := [some (.ref k0), some (.ref k1), some (.ref la), some (.ref ev), some (.ref D), none, some (.ref D3), some (.ref D5), none, some (.ref D6), none, none, none, none, none]) rfl ?_
      -- nothing untold
      refine ⟨_, rfl, D, rfl, ⟨_, sql hDc6⟩, fun Da nDa => ?_⟩
      have c60 : (newP ns ns2).length ≤ 60 := by
        unfold newP
        rw [List.length_map]
        exact Nat.le_trans (List.length_filter_le _ _) h602
      have g60 : (newP ns2 ns).length ≤ 60 := by
        unfold newP
        rw [List.length_map]
        exact Nat.le_trans (List.length_filter_le _ _) h60
      refine lc_opt (walk_list (xs := (newP ns ns2).map V.str)) (fun _ => none) nDa (by rw [List.length_map]; omega) (fun Ha sm => sql (sm _ _ hDc6)) (fun i x Ha Hb Nx hi sm _ y kp dr => ?_) (fun H7 e7 h7 => ?_)
      · obtain ⟨rfl, hx⟩ := y
        obtain ⟨p, hp, rfl⟩ := List.mem_map.mp (List.mem_of_getElem? hx)
        refine ⟨rfl, _, rfl, _, rfl, D5, _, rfl, .inl (sql (sm _ _ hDt6)), rfl, strs_flat _, _, rfl, ?_⟩
        obtain ⟨m, hm, rfl⟩ := List.mem_map.mp hp
        obtain ⟨hm1, hm2⟩ := List.mem_filter.mp hm
        have hmem : m.path ∈ wordP "made" es := by
          rcases tr.eff.came m hm1 with ⟨n, hn, z⟩ | z
          · exact absurd (List.mem_map.mpr ⟨n, hn, z⟩) (of_decide_eq_true hm2)
          · exact wordP_mem z
        rw [inV_strs hmem]
        exact dr _ rfl (Same.refl _)
      rw [filterMap_none] at h7
      refine ⟨_, rfl, D3, rfl, ⟨_, sql (e7 _ _ hDg6)⟩, fun Db nDb => ?_⟩
      refine lc_opt (walk_list (xs := (newP ns2 ns).map V.str)) (fun _ => none) nDb (by rw [List.length_map]; omega) (fun Ha sm => sql (sm _ _ (e7 _ _ hDg6))) (fun i x Ha Hb Nx hi sm _ y kp dr => ?_) (fun H8 e8 h8 => ?_)
      · obtain ⟨rfl, hx⟩ := y
        obtain ⟨p, hp, rfl⟩ := List.mem_map.mp (List.mem_of_getElem? hx)
        refine ⟨rfl, _, rfl, _, rfl, D6, _, rfl, .inl (sql (sm _ _ (e7 _ _ hD6))), rfl, strs_flat _, _, rfl, ?_⟩
        obtain ⟨m, hm, rfl⟩ := List.mem_map.mp hp
        obtain ⟨hm1, hm2⟩ := List.mem_filter.mp hm
        have hmem : m.path ∈ goneP es := by
          rcases tr.eff.went m hm1 with ⟨n, hn, z⟩ | z
          · exact absurd (List.mem_map.mpr ⟨n, hn, z⟩) (of_decide_eq_true hm2)
          · exact wordP_mem z
        rw [inV_strs hmem]
        exact dr _ rfl (Same.refl _)
      rw [filterMap_none] at h8
      refine ⟨Da, Db, _, _, rfl, rfl, e8 _ _ h7, h8, Nat.zero_le _, fun p9 np9 => newH np9 fun H9 e9 h9 => ⟨Nat.zero_le _, fun l10 nl10 => newH nl10 fun H10 e10 h10 => ⟨_, _, .lst (sql (e10 _ _ h9)) .nil, .lst (sql h10) .nil, rfl, rfl, _, rfl, ?_⟩⟩⟩
      refine iteTF (fun c => absurd c (by decide)) (fun _ => ?_)
      have e610 := ((e7.trans e8).trans e9).trans e10
      have eHA := eH6.trans e610
      have hDl10 := e610 _ _ hD6
      -- who, was, now
      have hla := eHA _ _ he.1
      have ewho : atI e.vs 1 = some (V.str (S e.who)) := by cases e <;> rfl
      refine ⟨_, rfl, la, _, _, _, rfl, rfl, sqt hla, ewho, ?_⟩
      refine ⟨_, rfl, k0, _, _, _, rfl, rfl, sqt (eHA _ _ hk0), rfl, ds, rfl, .inl ⟨_, .inl (eHA _ _ hR.1)⟩, _, rfl, Nat.le_of_ble_eq_true rfl, fun t11 nt11 => newH nt11 fun H11 e11 h11 => ?_⟩
      have eHB := eHA.trans e11
      obtain ⟨a6, xs6, ea6, ta6, at60, at61⟩ := row_get2 (K := K) (hR.mono eHB) h11 (S e.who)
      refine ⟨_, DGet.k (k := Sum.inr (S e.who)) (eHB _ _ hR.1), ?_⟩
      rw [ea6]
      refine ⟨_, rfl, k1, _, _, _, rfl, rfl, sqt (eHB _ _ hk1), rfl, ds2, rfl, .inl ⟨_, .inl (eHB _ _ hR2.1)⟩, _, rfl, Nat.le_of_ble_eq_true rfl, fun t12 nt12 => newH nt12 fun H12 e12 h12 => ?_⟩
      have eHC := eHB.trans e12
      obtain ⟨a7, xs7, ea7, ta7, at70, at71⟩ := row_get2 (K := K) (hR2.mono eHC) h12 (S e.who)
      refine ⟨_, DGet.k (k := Sum.inr (S e.who)) (eHC _ _ hR2.1), ?_⟩
      rw [ea7]
      have ta6' := e12 _ _ ta6
      refine nmS (σ' := [some (.ref k0), some (.ref k1), some (.ref la), some (.ref ev), some (.ref D), none, some (.ref D3), some (.ref D5), none, some (.ref D6), some (.str (S e.who)), some (.ref a6), some (.ref a7), none, none]) rfl ?_
      -- own
      have hNC := hN.mono eHC
      refine ⟨_, rfl, k0, _, _, _, rfl, rfl, sqt (eHC _ _ hk0), rfl, dn, _, ns.map (·.path), rfl, .inl hNC.1, keys_ent ns, by rw [List.length_map]; omega, fun ys c13 hys hsrt nc => newH nc fun H13 e13 h13 => ⟨c13, rfl, ⟨_, sql h13⟩, fun D14 nD14 => ?_⟩⟩
      have hND := hNC.mono e13
      have eHD := eHC.trans e13
      have hyl : ys.length = ns.length := by rw [hys.length_eq, List.length_map]
      refine lc_opt walk_list (fun i => (ys[i]?).bind fun p => if ownIs ns (S e.who) p = true then some (V.str p) else none) nD14 (by rw [List.length_map]; omega) (fun Ha sm => sql (sm _ _ h13)) (fun i x Ha Hb Nx hi sm _ y kp dr => ?_) (fun H14 e14 h14 => ?_)
      · obtain ⟨rfl, hx⟩ := y
        rw [List.getElem?_map] at hx
        cases ep : ys[i]? with
        | none => rw [ep] at hx; cases hx
        | some p =>
          rw [ep] at hx
          cases hx
          have hp : p ∈ ns.map (·.path) := hys.mem_iff.mp (List.mem_of_getElem? ep)
          obtain ⟨n, hn, rfl⟩ := List.mem_map.mp hp
          have hNa := hND.mono sm
          have hg := DGet.k (k := Sum.inr n.path) hNa.1
          rw [look_of ok.nd hn] at hg
          refine ⟨rfl, _, rfl, k0, _, _, _, rfl, rfl, sqt (sm _ _ (eHD _ _ hk0)), rfl, _, rfl, dn, _, rfl, hg, n.ad, n.vs, _, _, rfl, rfl, sqt (hNa.2 n hn), rfl, _, rfl, (own_dec n.own (S e.who)).1, _, rfl, ?_⟩
          have eo : decide (ownV n.own = .str (S e.who)) = ownIs ns (S e.who) n.path := by
            rw [(own_dec n.own (S e.who)).2]
            unfold ownIs
            rw [ownOf_of ok.nd hn]
          rw [eo]
          refine iteTF (fun c1 => ?_) (fun c1 => ?_)
          · exact ⟨_, rfl, kp _ _ (by rw [ep]; show (if ownIs ns (S e.who) n.path = true then some (V.str n.path) else none) = _; rw [if_pos c1]) (Same.refl _)⟩
          · exact dr _ (by rw [ep]; show (if ownIs ns (S e.who) n.path = true then some (V.str n.path) else none) = _; rw [c1, if_neg Bool.false_ne_true]) (Same.refl _)
      have hD14 : H14 D14 = some (.lst ((ys.filter (ownIs ns (S e.who))).map V.str)) := by
        rw [h14, List.length_map]
        exact congrArg (fun z => some (HO.lst z)) ((range_bind (fun p => if ownIs ns (S e.who) p = true then some (V.str p) else none) ys).trans (filterMap_str _ ys))
      have eHE := eHD.trans e14
      have hDl := (((e11.trans e12).trans e13).trans e14) _ _ hDl10
      have tb6 := (e13.trans e14) _ _ ta6'
      have tb7 := (e13.trans e14) _ _ ta7
      refine nmS (σ' := [some (.ref k0), some (.ref k1), some (.ref la), some (.ref ev), some (.ref D), none, some (.ref D3), some (.ref D5), none, some (.ref D6), some (.str (S e.who)), some (.ref a6), some (.ref a7), some (.ref D14), none]) rfl ?_
      generalize hσ : ([some (.ref k0), some (.ref k1), some (.ref la), some (.ref ev), some (.ref D), none, some (.ref D3), some (.ref D5), none, some (.ref D6), some (.str (S e.who)), some (.ref a6), some (.ref a7), some (.ref D14), none] : L2.St) = σ9
      refine ⟨fun σ' H' => σ' = σ9 ∧ H14 = H', ?_, ?_⟩
      · subst hσ
        refine ⟨_, rfl, a6, xs6, _, _, rfl, rfl, sqt tb6, at60, _, rfl, ?_⟩
        cases hl1 : limOf rs (S e.who) with
        | none => exact iteEq rfl ⟨rfl, rfl⟩
        | some j =>
          refine iteNe (fun z => by cases z) ?_
          refine ⟨_, rfl, a7, xs7, _, _, rfl, rfl, sqt tb7, at70, _, rfl, ?_⟩
          cases hl2 : limOf rs2 (S e.who) with
          | some j2 => exact iteDn (fun z => by cases z) ⟨rfl, rfl⟩
          | none =>
            refine iteD rfl ?_
            obtain ⟨_, ys2, hp2, hs2, hg2⟩ := tr.shut (by rw [hl1]; rfl) hl2
            have hy : ys2 = ys := sorted_one hp2 hs2 hys hsrt
            rw [hy] at hg2
            have hok : ∀ z ∈ ys.filter (ownIs ns (S e.who)), PyData.strOk z = true := fun z hz => by
              obtain ⟨n, hn, rfl⟩ := List.mem_map.mp (hys.mem_iff.mp (List.mem_filter.mp hz).1)
              exact (ok.path n hn).low
            have hDl2 : H14 D6 = some (.lst ((ys.filter (ownIs ns (S e.who))).map V.str)) := by rw [hDl, hg2]
            refine ⟨_, rfl, _, rfl, _, _, .lst (sql hDl2) (datS _), .lst (sql hD14) (datS _), shapedS _ hok, shapedS _ hok, _, rfl, ?_⟩
            rw [SeqAt.eqv_refl (.list ((ys.filter (ownIs ns (S e.who))).map PyData.str)) (lay_strs _ hok)]
            exact ⟨rfl, rfl⟩
      · rintro σ' H' ⟨rfl, rfl⟩
        subst hσ
        have hlaE := eHE _ _ he.1
        cases e with
        | fin who =>
          refine ⟨_, rfl, la, _, _, _, rfl, rfl, sqt hlaE, rfl, rfl, _, rfl, iteDn (by decide +kernel) ?_⟩
          have hlast : lastOf rs2 (S who) = lastOf rs (S who) := tr.last
          refine ⟨_, rfl, a7, xs7, _, _, rfl, rfl, sqt tb7, at71, _, rfl, a6, xs6, _, _, rfl, rfl, sqt tb6, at61, _, rfl, _, rfl, la, _, _, _, rfl, rfl, sqt hlaE, rfl, Nat.le_of_ble_eq_true rfl, fun l15 nl15 => newH nl15 fun H15 e15 h15 => ?_⟩
          refine ⟨_, rfl, .inr ⟨_, rfl, l15, _, _, _, rfl, rfl, sql h15, rfl, rfl, _, rfl, iteEq (congrArg V.int hlast) ?_⟩⟩
          refine ⟨_, rfl, a7, xs7, _, _, rfl, rfl, sqt (e15 _ _ tb7), at71, _, rfl, a6, xs6, _, _, rfl, rfl, sqt (e15 _ _ tb6), at61, _, _, rfl, rfl, _, rfl, iteDn (by show ¬ lastOf rs2 (S who) < lastOf rs (S who); omega) ?_⟩
          refine ⟨_, rfl, _, rfl, ?_⟩
          refine ⟨_, rfl, la, _, _, _, rfl, rfl, sqt (e15 _ _ hlaE), rfl, rfl, _, rfl, iteD rfl ?_⟩
          exact k H15 (eHE.trans e15)
        | ask who st da dd =>
          refine ⟨_, rfl, la, _, _, _, rfl, rfl, sqt hlaE, rfl, rfl, _, rfl, iteD rfl ?_⟩
          refine ⟨_, rfl, la, _, _, _, rfl, rfl, sqt hlaE, rfl, _, rfl, a6, xs6, _, _, rfl, rfl, sqt tb6, at61, _, _, rfl, rfl, ?_⟩
          have hlast : lastOf rs2 (S who) = if lastOf rs (S who) < st then st else lastOf rs (S who) := tr.last
          refine nmS (σ' := [some (.ref k0), some (.ref k1), some (.ref la), some (.ref ev), some (.ref D), none, some (.ref D3), some (.ref D5), none, some (.ref D6), some (.str (S who)), some (.ref a6), some (.ref a7), some (.ref D14), some (.bl (decide (lastOf rs (S who) < st)))]) rfl ?_
          by_cases c : lastOf rs (S who) < st
          · rw [if_pos c] at hlast
            rw [decide_eq_true c]
            refine ⟨_, rfl, a7, xs7, _, _, rfl, rfl, sqt tb7, at71, _, rfl, a6, xs6, _, _, rfl, rfl, sqt tb6, at61, _, rfl, _, rfl, la, _, _, _, rfl, rfl, sqt hlaE, rfl, Nat.le_of_ble_eq_true rfl, fun l15 nl15 => newH nl15 fun H15 e15 h15 => ?_⟩
            have eHF := eHE.trans e15
            refine ⟨_, rfl, .inr ⟨_, rfl, l15, _, _, _, rfl, rfl, sql h15, rfl, rfl, _, rfl, iteEq (congrArg V.int hlast) ?_⟩⟩
            refine ⟨_, rfl, a7, xs7, _, _, rfl, rfl, sqt (e15 _ _ tb7), at71, _, rfl, a6, xs6, _, _, rfl, rfl, sqt (e15 _ _ tb6), at61, _, _, rfl, rfl, _, rfl, iteDn (by show ¬ lastOf rs2 (S who) < lastOf rs (S who); omega) ?_⟩
            refine ⟨_, rfl, _, rfl, ?_⟩
            exact k H15 eHF
          · rw [if_neg c] at hlast
            rw [decide_eq_false c]
            refine ⟨_, rfl, a7, xs7, _, _, rfl, rfl, sqt tb7, at71, _, rfl, a6, xs6, _, _, rfl, rfl, sqt tb6, at61, _, rfl, _, rfl, la, _, _, _, rfl, rfl, sqt hlaE, rfl, Nat.le_of_ble_eq_true rfl, fun l15 nl15 => newH nl15 fun H15 e15 h15 => ?_⟩
            have eHF := eHE.trans e15
            refine ⟨_, rfl, .inr ⟨_, rfl, l15, _, _, _, rfl, rfl, sql h15, rfl, rfl, _, rfl, iteEq (congrArg V.int hlast) ?_⟩⟩
            refine ⟨_, rfl, a7, xs7, _, _, rfl, rfl, sqt (e15 _ _ tb7), at71, _, rfl, a6, xs6, _, _, rfl, rfl, sqt (e15 _ _ tb6), at61, _, _, rfl, rfl, _, rfl, iteDn (by show ¬ lastOf rs2 (S who) < lastOf rs (S who); omega) ?_⟩
            refine ⟨_, rfl, _, rfl, ?_⟩
            refine ⟨_, rfl, la, _, _, _, rfl, rfl, sqt (e15 _ _ hlaE), rfl, rfl, _, rfl, iteDn (by decide +kernel) ?_⟩
            obtain ⟨h1, h2, h3⟩ := tr.stale who st da dd rfl (by omega)
            subst h1 h2 h3
            refine ⟨_, rfl, _, rfl, Nat.le_of_ble_eq_true rfl, fun p1 np1 => newH np1 fun H16 e16 h16 => ⟨_, rfl, Nat.zero_le _, fun l2 nl2 => newH nl2 fun H17 e17 h17 => ⟨Nat.le_of_ble_eq_true rfl, fun p3 np3 => newH np3 fun H18 e18 h18 => ?_⟩⟩⟩
            have eHG := ((eHF.trans e16).trans e17).trans e18
            refine ⟨p1, p3, _, _, rfl, rfl, sqt (e18 _ _ (e17 _ _ h16)), sqt h18, .cons (.inr ⟨k1, k0, _, _, rfl, rfl, sqt (eHG _ _ hk1), sqt (eHG _ _ hk0), .cons (.inl (.inr (.inr (.inr ⟨dn2, dn, _, _, rfl, rfl, eHG _ _ hN2.1, eHG _ _ hN.1, rfl, fun p hp => ?_⟩)))) (.cons (.inl (.inr (.inr (.inr ⟨ds2, ds, _, _, rfl, rfl, eHG _ _ hR2.1, eHG _ _ hR.1, rfl, fun p hp => ?_⟩)))) .nil)⟩) (.cons (.inl (.inr (.inr (.inl ⟨ev, l2, _, _, rfl, rfl, sql (eHG _ _ hE.1), sql (e18 _ _ h17), .nil⟩)))) .nil), k H18 eHG⟩
            · obtain ⟨n, hn, rfl⟩ := List.mem_map.mp hp
              exact ⟨_, look_of ok.nd hn, .inr (.inl ⟨n.ad, rfl, rfl⟩)⟩
            · obtain ⟨r, hr, rfl⟩ := List.mem_map.mp hp
              refine ⟨.ref r.ad, ?_, .inr (.inl ⟨r.ad, rfl, rfl⟩)⟩
              show valV (rs2.map entR) (.inr r.who) = _
              rw [val_row, row_of hnd hr]
              rfl
end
end N17

set_option Elab.async false
set_option linter.all false
set_option maxRecDepth 100000
set_option maxHeartbeats 4000000
namespace N17
open PySem PySem.Spec PyProof.Rows
open L2 hiding CX0 E0 pass0 Fun Fun.ok fun_mk
open C8 (Cal CX0 E0 pass0)
open SX (S)
/-- an entry that the sessions have seen -/
def Seen (rs : List Rw) : En → Prop
  | .fin _ => True
  | .ask w st _ _ => st ≤ lastOf rs (S w)
theorem Tr.up {e : En} {ns ns' : List Nd} {rs rs' : List Rw} {es : List Evt} (t : Tr e ns rs ns' rs' es) (x : Str) : lastOf rs x ≤ lastOf rs' x := by
  by_cases h : x = S e.who
  · subst h
    have h1 := t.last
    cases e with
    | fin w => rw [h1]; exact Int.le_refl _
    | ask w st da d =>
      have h2 : lastOf rs' (S w) = if lastOf rs (S w) < st then st else lastOf rs (S w) := h1
      show lastOf rs (S w) ≤ lastOf rs' (S w)
      rw [h2]
      split <;> omega
  · rw [t.other x h]
    exact Int.le_refl _
theorem Tr.seen {e : En} {ns ns' : List Nd} {rs rs' : List Rw} {es : List Evt} (t : Tr e ns rs ns' rs' es) : Seen rs' e := by
  cases e with
  | fin w => trivial
  | ask w st da d =>
    have h2 : lastOf rs' (S w) = if lastOf rs (S w) < st then st else lastOf rs (S w) := t.last
    show st ≤ lastOf rs' (S w)
    rw [h2]
    split <;> omega
theorem Seen.up {e e2 : En} {ns ns' : List Nd} {rs rs' : List Rw} {es : List Evt} (t : Tr e ns rs ns' rs' es) (h : Seen rs e2) : Seen rs' e2 := by
  cases e2 with
  | fin w => trivial
  | ask w st da d =>
    have h1 : st ≤ lastOf rs (S w) := h
    exact Int.le_trans h1 (t.up _)
theorem Gx.same {a : Addr} {H H1 H2 : Hp} (n : H a = none) (e : Same H H1) (g : Gx a H1 H2) : Same H H2 := fun b o hb => g.x b o (ne_of_none hb n) (e b o hb)
section
variable {P : Program} {w : World} {K : PySem.W.Frag} {mg : Str → Option Value} {base : Heap} {f : Addr} {fd : FuncData}
abbrev s_law : Stmt := topS 72
theorem sc_law : FnScope ["_law_script", "_law_k", "_law_pool_here", "_law_kept", "_law_lines", "_law_spot", "_law_line_here", "_law_later", "_law_answer", "_law_events"] ["_law_script"] (C8.fnScope s_law) := C8.fnScope_by (by decide +kernel)
def spLaw (K : PySem.W.Frag) : Sp := fun vs H Q _ => ∃ a, ∃ ns : List Int, vs = [.ref a] ∧ SqL K H a (ns.map V.int) ∧ ns.length ≤ 63 ∧ ∀ H', Q (.bl true) H'
theorem ok_law (F : C8.Def K mg "law" s_law f fd) (T : Tx K w mg) (c_law_pool : Cal P w K mg base 1 "_law_pool" (spPool (K := K)) []) (c_first_state : Cal P w K mg base 2 "first_state" spFirstState []) (c_law_take : Cal P w K mg base 1 "_law_take" spTake [])
    (c_law_gone : Cal P w K mg base 8 "_law_gone" spGone []) (c_done : CalK P w K mg base 8 "done" ["place"] spDone) (c_law_owned_right : Cal P w K mg base 1 "_law_owned_right" spOwned []) (c_law_step_right : Cal P w K mg base 1 "_law_step_right" spStep []) :
    FnOk P w K mg base CX0 9 f fd ["_law_script"] (spLaw K) := by
  refine C8.fn0 F.fn sc_law (fun vs H Q E h => ?_) (fun cdv A outer s H vs Q E hr h => ?_)
  · obtain ⟨_, _, rfl, _⟩ := h
    rfl
  · obtain ⟨a, ns, rfl, hS, hlen, k⟩ := h
    have hu := hu_of hr
    refine ⟨_, (pss_cons (ps_for PassesOwn.never rfl (pi_range1 (by rfl) T.n_range (pa_cons (pe_callB (call_max2 rfl) (by rfl) T.n_max (by decide +kernel) (pa_cons pe_int (pa_cons (pe_callB (call_min2 rfl) (by rfl) T.n_min (by decide +kernel) (pa_cons (pe_callB call_len (by rfl) T.n_len (by decide +kernel) (pa_cons (pv 0) pa_nil)) (pa_cons pe_int pa_nil))) pa_nil))) pa_nil)) (pg_name (i := 1) sc_law.nd rfl (Or.inl rfl)) (pss_cons (ps_set (i := 2) sc_law.nd rfl (Or.inl rfl) (C8.pe_c c_law_pool hr (by decide) (by rfl) (pa_cons (pv 0) (pa_cons (pv 1) pa_nil))))
        (pss_cons (ps_set (i := 3) sc_law.nd rfl (Or.inl rfl) (pe_c0 c_first_state hr (by decide) (by rfl)))
        (pss_cons (ps_set (i := 4) sc_law.nd rfl (Or.inl rfl) (C8.pe_c c_law_gone hr (by decide) (by rfl) (pa_cons (pv 2) (pa_cons (pe_op op_add pe_int (C8.pe_c c_law_take hr (by decide) (by rfl) (pa_cons (pv 2) (pa_cons pe_int pa_nil)))) pa_nil))))
        (pss_cons (ps_for PassesOwn.never rfl (pi_list (pv 4)) (pg_tup rfl (pgs_cons (pg_name (i := 5) sc_law.nd rfl (Or.inl rfl)) (pgs_cons (pg_name (i := 6) sc_law.nd rfl (Or.inl rfl)) pgs_nil))) (pss_cons (ps_asg (pe_ck c_done hr (by decide) (by rfl) (pa_cons (pv 3) (pa_cons (pv 6) pa_nil)) (pk_cons (pv 5) pk_nil)) (pg_tup rfl (pgs_cons (pg_name (i := 7) sc_law.nd rfl (Or.inl rfl)) (pgs_cons (pg_name (i := 8) sc_law.nd rfl (Or.inl rfl)) (pgs_cons (pg_name (i := 9) sc_law.nd rfl (Or.inl rfl)) pgs_nil)))))
        (pss_cons (ps_if (PW.pt (pw_or (pt_not (pt_val (C8.pe_c c_law_owned_right hr (by decide) (by rfl) (pa_cons (pv 7) pa_nil)))) (pw_or1 (pt_not (pt_val (C8.pe_c c_law_step_right hr (by decide) (by rfl) (pa_cons (pv 3) (pa_cons (pv 7) (pa_cons (pv 6) (pa_cons (pv 9) pa_nil)))))))))) (pss_one (ps_ret pe_bl)) pss_nil)
        (pss_one (ps_set (i := 3) sc_law.nd rfl (Or.inl rfl) (pv 7))))))
        (pss_one (ps_for PassesOwn.never rfl (pi_list (pv 4)) (pg_tup rfl (pgs_cons (pg_name (i := 5) sc_law.nd rfl (Or.inl rfl)) (pgs_cons (pg_name (i := 6) sc_law.nd rfl (Or.inl rfl)) pgs_nil))) (pss_one (ps_if (PW.pt (pw_and (pt_cmpR op_eq (pe_ix ix_tup (pv 6) pe_int (fun _ _ => rfl)) pe_str (nomark _)) (pw_and1 (pt_cmpR (op_neT hr.units) (pe_ix ix_tup (pe_ck c_done hr (by decide) (by rfl) (pa_cons (pv 3) (pa_cons (pv 6) pa_nil)) (pk_cons (pe_tup (pa_cons pe_int (pa_cons pe_int pa_nil))) pk_nil)) pe_int (fun _ _ => rfl)) (pv 3) (nomark _))))) (pss_one (ps_ret pe_bl)) pss_nil)))))))))
        (pss_one (ps_ret pe_bl))), ?_⟩
    refine ⟨_, rfl, _, _, rfl, .inl ⟨_, hS, rfl⟩, _, _, rfl, _, _, rfl, _, rfl, ?_, ?_, ?_⟩
    · rw [List.length_map]; split <;> split <;> omega
    · rw [List.length_map]; split <;> split <;> omega
    rw [List.length_map]
    have hn8 : (if (if (8 : Int) < (ns.length : Int) then (8 : Int) else (ns.length : Int)) > 1 then (if (8 : Int) < (ns.length : Int) then (8 : Int) else (ns.length : Int)) else 1).toNat ≤ 8 := by split <;> split <;> omega
    generalize (if (if (8 : Int) < (ns.length : Int) then (8 : Int) else (ns.length : Int)) > 1 then (if (8 : Int) < (ns.length : Int) then (8 : Int) else (ns.length : Int)) else 1).toNat = nn at hn8
    refine for_it walk_range (fun _ σ H' => ∃ y1 y2 y3 y4 y5 y6 y7 y8 y9, σ = [some (.ref a), y1, y2, y3, y4, y5, y6, y7, y8, y9] ∧ Same H H') ⟨none, none, none, none, none, none, none, none, none, rfl, Same.refl _⟩ (fun _ _ _ _ _ => trivial) (fun i x σ Ha Hb hi p y => ?_) (fun σ Ha p => ?_)
    · obtain ⟨y1, y2, y3, y4, y5, y6, y7, y8, y9, rfl, sm⟩ := p
      obtain ⟨rfl, rfl⟩ := y
      refine ⟨_, rfl, _, rfl, a, _, ns, rfl, sm.seq hS, by omega, by omega, by omega, fun p H1 e1 np hp => ?_⟩
      refine ⟨rfl, fun k0 d e a0 H2 e2 h2 hN2 hE2 => ?_⟩
      have hp2 := hp.mono e2
      refine ⟨_, rfl, _, rfl, p, 31, rfl, hp2, by decide, by decide, fun r H3 g3 r0 r1 => ⟨_, _, rfl, rfl, p, _, rfl, g3.pool, by omega, by omega, fun L xs H4 nL g4 hL hxs hxl => ?_⟩⟩
      have g24 := g3.trans g4
      have s4 : Same H H4 := sm.trans (Gx.same np (e1.trans e2) g24)
      have t4 := g24.tp hp2
      have hk4 : H4 k0 = some (.tup [.ref d, .ref e]) := t4.tup h2
      have hN4 := hN2.tp t4
      have hR4 : RowsAt H4 e [] := ⟨t4.dk hE2, fun _ h => by cases h⟩
      refine ⟨_, rfl, L, rfl, ⟨_, sql hL⟩, ?_⟩
      refine for_it (walk_list (xs := xs.map fun x => V.ref x.q)) (fun j σ H' => ∃ k0 dn ds n2 rs z5 z6 z7 z8 z9, σ = [some (.ref a), some (.int (0 + (i : Int))), some (.ref p), some (.ref k0), some (.ref L), z5, z6, z7, z8, z9] ∧ Same H4 H' ∧
          H' k0 = some (.tup [.ref dn, .ref ds]) ∧ NodesAt H' dn n2 ∧ NOk (6 * (j : Int)) n2 ∧ RowsAt H' ds rs ∧ (rs.map (·.who)).Nodup ∧ rs.length ≤ j ∧ Owned n2 rs ∧ ∀ x ∈ xs.take j, Seen rs x.e)
        ⟨k0, d, e, _, [], y5, y6, y7, y8, y9, rfl, Same.refl _, hk4, hN4, (root_ok a0).mono (by omega), hR4, by simp, Nat.le_refl _, (fun n hn x hx => by rw [List.mem_singleton.mp hn] at hx; cases hx), (fun x hx => by simp at hx)⟩ (fun j σ H' _ p => ?_) (fun j x σ Hc Hd hj p y => ?_) (fun σ Hc p => ?_)
      · obtain ⟨_, _, _, _, _, _, _, _, _, _, _, s, _⟩ := p
        exact sql (s _ _ hL)
      · obtain ⟨k0, dn, ds, n2, rs, z5, z6, z7, z8, z9, rfl, s, hk0, hN, ok, hR, hnd, hrl, how, hseen⟩ := p
        obtain ⟨rfl, hx⟩ := y
        rw [List.length_map] at hj
        rw [List.getElem?_map, List.getElem?_eq_getElem hj] at hx
        cases hx
        have er : xs.take (j + 1) = xs.take j ++ [xs[j]] := List.take_succ_eq_append_getElem hj
        have hz := (hxs _ (List.getElem_mem hj)).tp (Same.tp s)
        generalize xs[j] = z at er hz
        obtain ⟨hzq, hze, hzo⟩ := hz
        refine ⟨z.q, _, rfl, sqt hzq, rfl, _, _, rfl, _, _, rfl, rfl, ?_⟩
        refine ⟨_, rfl, _, rfl, _, rfl, k0, dn, ds, n2, _, rs, z.la, z.e, z.sp, rfl, hk0, hN, ok, by omega, hR, hnd, by omega, hze, hzo, fun p5 n3 rs3 es H5 e5 res ok3 nd3 l3 tr => ?_⟩
        obtain ⟨k5, y, ev, d5, ds5, hp5, hk5, hN5, hR5, hE5, hel⟩ := res
        refine ⟨p5, _, rfl, sqt hp5, rfl, _, _, rfl, _, _, rfl, _, _, rfl, rfl, ?_⟩
        refine ⟨_, rfl, k5, d5, ds5, n3, _, rs3, rfl, hk5, hN5, ok3, hR5, nd3, by omega, tr.opened how, fun H6 e6 => ⟨_, rfl, ?_⟩⟩
        refine ⟨_, rfl, _, rfl, _, rfl, _, rfl, k0, k5, z.la, ev, dn, ds, n2, _, rs, d5, ds5, n3, _, rs3, z.e, es, rfl, e6 _ _ (e5 _ _ hk0), (hN.mono e5).mono e6, ok, (hR.mono e5).mono e6, e6 _ _ hk5, hN5.mono e6, ok3, hR5.mono e6, hnd, (hze.mono e5).mono e6, hE5.mono e6, hel, tr, fun H7 e7 => ⟨_, rfl, ?_⟩⟩
        have e67 := e6.trans e7
        refine ⟨_, rfl, k5, d5, ds5, n3, rs3, _, _, _, _, _, rfl, (s.trans e5).trans e67, e67 _ _ hk5, hN5.mono e67, ?_, hR5.mono e67, nd3, by omega, tr.opened how, fun x hx => ?_⟩
        · rw [show 6 * ((j + 1 : Nat) : Int) = 6 * (j : Int) + 6 by omega]
          exact ok3
        · rw [er] at hx
          rcases List.mem_append.mp hx with hx | hx
          · exact (hseen x hx).up tr
          · rw [List.mem_singleton.mp hx]
            exact tr.seen
      · obtain ⟨k0, dn, ds, n2, rs, z5, z6, z7, z8, z9, rfl, s, hk0, hN, ok, hR, hnd, hrl, how, hseen⟩ := p
        rw [List.length_map] at ok hrl hseen
        rw [List.take_length] at hseen
        have hL5 := s _ _ hL
        refine ⟨_, rfl, L, rfl, ⟨_, sql hL5⟩, ?_⟩
        refine for_it (walk_list (xs := xs.map fun x => V.ref x.q)) (fun j σ H' => ∃ z5 z6 z7 z8 z9, σ = [some (.ref a), some (.int (0 + (i : Int))), some (.ref p), some (.ref k0), some (.ref L), z5, z6, z7, z8, z9] ∧ Same Hc H')
          ⟨_, _, _, _, _, rfl, Same.refl _⟩ (fun j σ H' _ p => ?_) (fun j x σ Hd He hj p y => ?_) (fun σ Hd p => ?_)
        · obtain ⟨_, _, _, _, _, _, s⟩ := p
          exact sql (s _ _ hL5)
        · obtain ⟨u5, u6, u7, u8, u9, rfl, s2⟩ := p
          obtain ⟨rfl, hx⟩ := y
          rw [List.length_map] at hj
          rw [List.getElem?_map, List.getElem?_eq_getElem hj] at hx
          cases hx
          have hmem := List.getElem_mem hj
          have hz := ((hxs _ hmem).tp (Same.tp s)).tp (Same.tp s2)
          have hsz := hseen _ hmem
          generalize xs[j] = z at hz hsz
          obtain ⟨hzq, hze, hzo⟩ := hz
          refine ⟨z.q, _, rfl, sqt hzq, rfl, _, _, rfl, _, _, rfl, rfl, ?_⟩
          obtain ⟨zq, zla, zsp, ze⟩ := z
          dsimp only at hze hzo hsz hzq ⊢
          cases ze with
          | fin who => exact ⟨_, rfl, zla, _, _, _, rfl, rfl, sqt hze.1, rfl, rfl, _, rfl, iteDn (by decide +kernel) ⟨_, _, _, _, _, rfl, s2⟩⟩
          | ask who st da dd =>
            refine ⟨_, rfl, zla, _, _, _, rfl, rfl, sqt hze.1, rfl, rfl, _, rfl, iteD rfl ?_⟩
            refine ⟨_, rfl, _, rfl, Nat.le_of_ble_eq_true rfl, fun t nt => newH nt fun H6 e6 h6 => ?_⟩
            have s6 := s2.trans e6
            refine ⟨k0, dn, ds, n2, _, rs, zla, .ask who st da dd, .ref t, rfl, s6 _ _ hk0, hN.mono s6, ok, by omega, hR.mono s6, hnd, by omega, hze.mono e6, hzo, fun p5 n3 rs3 es H7 e7 res ok3 nd3 l3 tr => ?_⟩
            obtain ⟨k5, y, ev, d5, ds5, hp5, hk5, hN5, hR5, hE5, hel⟩ := res
            obtain ⟨h1, h2, h3⟩ := tr.stale who st da dd rfl hsz
            have s7 := s6.trans e7
            refine ⟨p5, _, _, _, rfl, rfl, sqt hp5, rfl, _, rfl, k5, k0, _, _, rfl, rfl, sqt hk5, sqt (s7 _ _ hk0), .cons (.inl (.inr (.inr (.inr ⟨d5, dn, _, _, rfl, rfl, hN5.1, (hN.mono s7).1, by rw [h1], fun q hq => ?_⟩)))) (.cons (.inl (.inr (.inr (.inr ⟨ds5, ds, _, _, rfl, rfl, hR5.1, (hR.mono s7).1, by rw [h2], fun q hq => ?_⟩)))) .nil), _, rfl, ⟨_, _, _, _, _, rfl, s7⟩⟩
            · rw [h1] at hq
              obtain ⟨n, hn, rfl⟩ := List.mem_map.mp hq
              exact ⟨_, look_of ok.nd hn, .inr (.inl ⟨n.ad, rfl, rfl⟩)⟩
            · rw [h2] at hq
              obtain ⟨r, hr, rfl⟩ := List.mem_map.mp hq
              refine ⟨.ref r.ad, ?_, .inr (.inl ⟨r.ad, rfl, rfl⟩)⟩
              show valV (rs.map entR) (.inr r.who) = _
              rw [val_row, row_of hnd hr]
              rfl
        · obtain ⟨u5, u6, u7, u8, u9, rfl, s2⟩ := p
          exact ⟨_, _, _, _, _, _, _, _, _, rfl, (s4.trans s).trans s2⟩
    · obtain ⟨y1, y2, y3, y4, y5, y6, y7, y8, y9, rfl, sm⟩ := p
      exact k _
end
end N17

set_option Elab.async false
set_option linter.all false
set_option maxRecDepth 100000
set_option maxHeartbeats 4000000
namespace N17
open PySem PySem.Spec PyProof.Rows
open L2 hiding CX0 E0 pass0 Fun Fun.ok fun_mk
open C8 (Cal CX0 E0 pass0)
open SX (S)
theorem g2_rel : ∀ {vs : List V} {us : List Value} {zs : List V} {ws : List Value}, Vals vs us → Vals zs ws → Vals (g2 vs zs) (g2 us ws) := by
  intro vs us zs ws h g
  match h with
  | .nil => exact .nil
  | .cons a .nil => exact .nil
  | .cons a (.cons b (.cons c r)) => exact .nil
  | .cons a (.cons b .nil) =>
    match g with
    | .nil => exact .nil
    | .cons c .nil => exact .cons a (.cons b (.cons c .nil))
    | .cons c (.cons d r) => exact .nil
theorem kb2 {K : PySem.W.Frag} {fd : FuncData} {p q r : Str} (h : ∀ a b c : Value, bindArgs fd ⟨[a, b], [r].zip [c]⟩ = pure ([p, q, r].zip [a, b, c])) : KBinds K fd [p, q, r] [r] g2 g2 where
  to := fun s us ws _ hl => by
    match us, ws, hl with
    | [a, b], [c], _ => exact .of_eq (h a b c)
    | [], _, hl => cases hl
    | [_], _, hl => cases hl
    | _ :: _ :: _ :: _, _, hl => cases hl
    | [_, _], [], hl => cases hl
    | [_, _], _ :: _ :: _, hl => cases hl
  rel := g2_rel
/-- a def as the top wrote it -/
structure DF (K : PySem.W.Frag) (x : Str) (st : Stmt) : Prop where
  ex : ∃ (f : Addr) (kV doc pm : Value) (an : Option Addr) (cdv ct oc : Value) (od : Option Addr) (osl : Array (Option Value)),
    PySem.W.nsIn K mainGlobals x = some (some (.ref f)) ∧ K.lookup f = some ⟨oc, od, .func (PySem.W.fnOf x x (C8.fnArgs st) (C8.fnBody st) (C8.fnScope st) .none kV doc pm an cdv ct), osl⟩ ∧ PySem.W.codeIn K cdv x = true ∧ PySem.W.keepIn K (.ref f) = true
theorem DF.mk' {K : PySem.W.Frag} {x : Str} {st : Stmt} {f : Addr} {kV doc pm : Value} {an : Option Addr} {cdv ct oc : Value} {od : Option Addr} {osl : Array (Option Value)} (a : PySem.W.nsIn K mainGlobals x = some (some (.ref f)))
    (l : K.lookup f = some ⟨oc, od, .func (PySem.W.fnOf x x (C8.fnArgs st) (C8.fnBody st) (C8.fnScope st) .none kV doc pm an cdv ct), osl⟩) (c : PySem.W.codeIn K cdv x = true) (k : PySem.W.keepIn K (.ref f) = true) : DF K x st := ⟨f, kV, doc, pm, an, cdv, ct, oc, od, osl, a, l, c, k⟩
theorem DF.get {K : PySem.W.Frag} {h : Heap} {mg : Str → Option Value} {x : Str} {st : Stmt} (d : DF K x st) (X : K.In h) (G : h.Ns mainGlobals mg) : ∃ (f : Addr) (kV doc pm : Value) (an : Option Addr) (cdv ct : Value), C8.Def K mg x st f (PySem.W.fnOf x x (C8.fnArgs st) (C8.fnBody st) (C8.fnScope st) .none kV doc pm an cdv ct) := by
  obtain ⟨f, kV, doc, pm, an, cdv, ct, oc, od, osl, a, l, c, k⟩ := d.ex
  exact ⟨f, kV, doc, pm, an, cdv, ct, ⟨⟨oc, od, .none, kV, doc, pm, an, cdv, ct, osl, rfl, l, c⟩⟩, PySem.W.mg_of X G a, k⟩
theorem c_int {K : PySem.W.Frag} {h : Heap} {mg : Str → Option Value} (X : K.In h) (G : h.Ns mainGlobals mg) {n : Str} {i : Int} {t : Nat} (e : PySem.W.nsIn K mainGlobals n = some (some (.int i t))) : ∃ u, mg n = some u ∧ RelV (.int i) u := ⟨_, PySem.W.mg_of X G e, t, rfl⟩
theorem c_str {K : PySem.W.Frag} {h : Heap} {mg : Str → Option Value} (X : K.In h) (G : h.Ns mainGlobals mg) {n z : Str} {t : Nat} (e : PySem.W.nsIn K mainGlobals n = some (some (.str z t))) : ∃ u, mg n = some u ∧ RelV (.str z) u := ⟨_, PySem.W.mg_of X G e, t, rfl⟩
theorem w_tup {K : PySem.W.Frag} {a : Addr} {oc : Value} {od : Option Addr} {its : Array Value} {n : Nat} {sl : Array (Option Value)} {xs : List V} (l : K.lookup a = some ⟨.type "tuple", od, .seq its n, sl⟩) (z : its.size ≤ 100) (v : Vals xs its.toList) (H : Hp) : SqT K H a xs :=
  .inr ⟨_, its, n, l, rfl, rfl, sz5 (Nat.le_trans z (by decide)), v⟩
theorem all_mk {l : PySem.W.OpenLaw} {w : World} {K : PySem.W.Frag} {h : Heap} {mg : Str → Option Value} {fa : Addr} {t_LETTERS : Nat} {t_FIGURES : Nat} {t_ROOT : Nat} {t_LONGEST : Nat} {t_MOST_PARTS : Nat} {t_MANY_FIGURES : Nat} {t_MOST_NODES : Nat} {t_MOST_MADE : Nat} {t_MOST_TEXT : Nat} {t_MOST_DEEDS : Nat} {t_MOST_LIMIT : Nat} {pL : Addr} {esL : Array DictEntry} {nL : Nat} {tL1 : Nat} {tL2 : Nat} {tL3 : Nat} {tL4 : Nat} {pO : Addr} {odO : Option Addr} {iO : Array Value} {nO : Nat} {slO : Array (Option Value)} {tO : Nat} {pN : Addr} {odN : Option Addr} {iN : Array Value} {nN : Nat} {slN : Array (Option Value)} {tN : Nat} {pW : Addr} (X : K.In h) (G : h.Ns mainGlobals mg) (hfa : mg "law" = some (.ref fa))
    (d_is_whole : DF K "is_whole" s_is_whole)
    (d_is_word : DF K "is_word" s_is_word)
    (d_is_part : DF K "is_part" s_is_part)
    (d_parts_of : DF K "parts_of" s_parts_of)
    (d_is_path : DF K "is_path" s_is_path)
    (d_path_of : DF K "path_of" s_path_of)
    (d_parent_of : DF K "parent_of" s_parent_of)
    (d_last_part : DF K "last_part" s_last_part)
    (d_is_text : DF K "is_text" s_is_text)
    (d_is_count : DF K "is_count" s_is_count)
    (d_is_make : DF K "is_make" s_is_make)
    (d_is_plain : DF K "is_plain" s_is_plain)
    (d_first_nodes : DF K "first_nodes" s_first_nodes)
    (d_kids_of : DF K "kids_of" s_kids_of)
    (d_refused : DF K "refused" s_refused)
    (d_numbered_path : DF K "numbered_path" s_numbered_path)
    (d_make : DF K "make" s_make)
    (d_put : DF K "put" s_put)
    (d_dropped : DF K "dropped" s_dropped)
    (d_drop : DF K "drop" s_drop)
    (d_done_plain : DF K "done_plain" s_done_plain)
    (d_is_deed : DF K "is_deed" s_is_deed)
    (d_is_entry : DF K "is_entry" s_is_entry)
    (d_first_state : DF K "first_state" s_first_state)
    (d_without_owner : DF K "without_owner" s_without_owner)
    (d_done_all : DF K "done_all" s_done_all)
    (d_done_deed : DF K "done_deed" s_done_deed)
    (d_ended : DF K "ended" s_ended)
    (d_done : DF K "done" s_done)
    (d_law_pool : DF K "_law_pool" s_law_pool)
    (d_law_take : DF K "_law_take" s_law_take)
    (d_law_word : DF K "_law_word" s_law_word)
    (d_law_part : DF K "_law_part" s_law_part)
    (d_law_line : DF K "_law_line" s_law_line)
    (d_law_path : DF K "_law_path" s_law_path)
    (d_law_count : DF K "_law_count" s_law_count)
    (d_law_deed : DF K "_law_deed" s_law_deed)
    (d_law_above : DF K "_law_above" s_law_above)
    (d_law_kids : DF K "_law_kids" s_law_kids)
    (d_law_make : DF K "_law_make" s_law_make)
    (d_law_plainly : DF K "_law_plainly" s_law_plainly)
    (d_law_left : DF K "_law_left" s_law_left)
    (d_law_all_done : DF K "_law_all_done" s_law_all_done)
    (d_law_does : DF K "_law_does" s_law_does)
    (d_law_due : DF K "_law_due" s_law_due)
    (d_law_task : DF K "_law_task" s_law_task)
    (d_law_drawn_line : DF K "_law_drawn_line" s_law_drawn_line)
    (d_law_gone : DF K "_law_gone" s_law_gone)
    (d_law_owned_right : DF K "_law_owned_right" s_law_owned_right)
    (d_law_step_right : DF K "_law_step_right" s_law_step_right)
    (d_law : DF K "law" s_law)
    (n_len : PySem.W.nsIn K mainGlobals "len" = some none)
    (n_isinstance : PySem.W.nsIn K mainGlobals "isinstance" = some none)
    (n_all : PySem.W.nsIn K mainGlobals "all" = some none)
    (n_sorted : PySem.W.nsIn K mainGlobals "sorted" = some none)
    (n_dict : PySem.W.nsIn K mainGlobals "dict" = some none)
    (n_tuple : PySem.W.nsIn K mainGlobals "tuple" = some none)
    (n_range : PySem.W.nsIn K mainGlobals "range" = some none)
    (n_int : PySem.W.nsIn K mainGlobals "int" = some none)
    (n_str : PySem.W.nsIn K mainGlobals "str" = some none)
    (n_abs : PySem.W.nsIn K mainGlobals "abs" = some none)
    (n_max : PySem.W.nsIn K mainGlobals "max" = some none)
    (n_min : PySem.W.nsIn K mainGlobals "min" = some none)
    (n_enumerate : PySem.W.nsIn K mainGlobals "enumerate" = some none)
    (n_bool : PySem.W.nsIn K mainGlobals "bool" = some none)
    (g_LETTERS : PySem.W.nsIn K mainGlobals "LETTERS" = some (some (.str "abcdefghijklmnopqrstuvwxyz" t_LETTERS)))
    (g_FIGURES : PySem.W.nsIn K mainGlobals "FIGURES" = some (some (.str "0123456789" t_FIGURES)))
    (g_ROOT : PySem.W.nsIn K mainGlobals "ROOT" = some (some (.str "/" t_ROOT)))
    (g_LONGEST : PySem.W.nsIn K mainGlobals "LONGEST" = some (some (.int 8 t_LONGEST)))
    (g_MOST_PARTS : PySem.W.nsIn K mainGlobals "MOST_PARTS" = some (some (.int 5 t_MOST_PARTS)))
    (g_MANY_FIGURES : PySem.W.nsIn K mainGlobals "MANY_FIGURES" = some (some (.int 6 t_MANY_FIGURES)))
    (g_MOST_NODES : PySem.W.nsIn K mainGlobals "MOST_NODES" = some (some (.int 60 t_MOST_NODES)))
    (g_MOST_MADE : PySem.W.nsIn K mainGlobals "MOST_MADE" = some (some (.int 999999 t_MOST_MADE)))
    (g_MOST_TEXT : PySem.W.nsIn K mainGlobals "MOST_TEXT" = some (some (.int 40 t_MOST_TEXT)))
    (g_MOST_DEEDS : PySem.W.nsIn K mainGlobals "MOST_DEEDS" = some (some (.int 6 t_MOST_DEEDS)))
    (g_MOST_LIMIT : PySem.W.nsIn K mainGlobals "MOST_LIMIT" = some (some (.int 1000 t_MOST_LIMIT)))
    (g_LONG : PySem.W.nsIn K mainGlobals "LONG" = some (some (.ref pL)))
    (l_LONG : K.lookup pL = some ⟨.type "dict", none, .dict esL nL, #[]⟩)
    (k_LONG : PySem.W.KeysLit w.params esL.toList)
    (s_LONG : (pL == sysModules) = false)
    (x_LONG1 : PySem.W.nsIn K pL "make" = some (some (.int 5 tL1)))
    (x_LONG2 : PySem.W.nsIn K pL "put" = some (some (.int 4 tL2)))
    (x_LONG3 : PySem.W.nsIn K pL "drop" = some (some (.int 3 tL3)))
    (x_LONG4 : PySem.W.nsIn K pL "see" = some (some (.int 3 tL4)))
    (g_OK : PySem.W.nsIn K mainGlobals "OK" = some (some (.ref pO)))
    (l_OK : K.lookup pO = some ⟨.type "tuple", odO, .seq iO nO, slO⟩)
    (i_OK : iO.toList = [.str "ok" tO, .none])
    (g_NEVER : PySem.W.nsIn K mainGlobals "NEVER" = some (some (.ref pN)))
    (l_NEVER : K.lookup pN = some ⟨.type "tuple", odN, .seq iN nN, slN⟩)
    (i_NEVER : iN.toList = [.none, .int 0 tN, .none, .ref pW]) :
    ∃ fd : FuncData, (∀ (s : Shared) (v : Value), BindsTo s fd ⟨[v], []⟩ [("_law_script", v)]) ∧ ∀ base : Heap, K.In base → base.Ns mainGlobals mg → FnOk l.prog w K mg base CX0 9 fa fd ["_law_script"] (spLaw K) := by
  obtain ⟨f_is_whole, kV_is_whole, do_is_whole, pm_is_whole, an_is_whole, cd_is_whole, ct_is_whole, F_is_whole⟩ := d_is_whole.get X G
  obtain ⟨f_is_word, kV_is_word, do_is_word, pm_is_word, an_is_word, cd_is_word, ct_is_word, F_is_word⟩ := d_is_word.get X G
  obtain ⟨f_is_part, kV_is_part, do_is_part, pm_is_part, an_is_part, cd_is_part, ct_is_part, F_is_part⟩ := d_is_part.get X G
  obtain ⟨f_parts_of, kV_parts_of, do_parts_of, pm_parts_of, an_parts_of, cd_parts_of, ct_parts_of, F_parts_of⟩ := d_parts_of.get X G
  obtain ⟨f_is_path, kV_is_path, do_is_path, pm_is_path, an_is_path, cd_is_path, ct_is_path, F_is_path⟩ := d_is_path.get X G
  obtain ⟨f_path_of, kV_path_of, do_path_of, pm_path_of, an_path_of, cd_path_of, ct_path_of, F_path_of⟩ := d_path_of.get X G
  obtain ⟨f_parent_of, kV_parent_of, do_parent_of, pm_parent_of, an_parent_of, cd_parent_of, ct_parent_of, F_parent_of⟩ := d_parent_of.get X G
  obtain ⟨f_last_part, kV_last_part, do_last_part, pm_last_part, an_last_part, cd_last_part, ct_last_part, F_last_part⟩ := d_last_part.get X G
  obtain ⟨f_is_text, kV_is_text, do_is_text, pm_is_text, an_is_text, cd_is_text, ct_is_text, F_is_text⟩ := d_is_text.get X G
  obtain ⟨f_is_count, kV_is_count, do_is_count, pm_is_count, an_is_count, cd_is_count, ct_is_count, F_is_count⟩ := d_is_count.get X G
  obtain ⟨f_is_make, kV_is_make, do_is_make, pm_is_make, an_is_make, cd_is_make, ct_is_make, F_is_make⟩ := d_is_make.get X G
  obtain ⟨f_is_plain, kV_is_plain, do_is_plain, pm_is_plain, an_is_plain, cd_is_plain, ct_is_plain, F_is_plain⟩ := d_is_plain.get X G
  obtain ⟨f_first_nodes, kV_first_nodes, do_first_nodes, pm_first_nodes, an_first_nodes, cd_first_nodes, ct_first_nodes, F_first_nodes⟩ := d_first_nodes.get X G
  obtain ⟨f_kids_of, kV_kids_of, do_kids_of, pm_kids_of, an_kids_of, cd_kids_of, ct_kids_of, F_kids_of⟩ := d_kids_of.get X G
  obtain ⟨f_refused, kV_refused, do_refused, pm_refused, an_refused, cd_refused, ct_refused, F_refused⟩ := d_refused.get X G
  obtain ⟨f_numbered_path, kV_numbered_path, do_numbered_path, pm_numbered_path, an_numbered_path, cd_numbered_path, ct_numbered_path, F_numbered_path⟩ := d_numbered_path.get X G
  obtain ⟨f_make, kV_make, do_make, pm_make, an_make, cd_make, ct_make, F_make⟩ := d_make.get X G
  obtain ⟨f_put, kV_put, do_put, pm_put, an_put, cd_put, ct_put, F_put⟩ := d_put.get X G
  obtain ⟨f_dropped, kV_dropped, do_dropped, pm_dropped, an_dropped, cd_dropped, ct_dropped, F_dropped⟩ := d_dropped.get X G
  obtain ⟨f_drop, kV_drop, do_drop, pm_drop, an_drop, cd_drop, ct_drop, F_drop⟩ := d_drop.get X G
  obtain ⟨f_done_plain, kV_done_plain, do_done_plain, pm_done_plain, an_done_plain, cd_done_plain, ct_done_plain, F_done_plain⟩ := d_done_plain.get X G
  obtain ⟨f_is_deed, kV_is_deed, do_is_deed, pm_is_deed, an_is_deed, cd_is_deed, ct_is_deed, F_is_deed⟩ := d_is_deed.get X G
  obtain ⟨f_is_entry, kV_is_entry, do_is_entry, pm_is_entry, an_is_entry, cd_is_entry, ct_is_entry, F_is_entry⟩ := d_is_entry.get X G
  obtain ⟨f_first_state, kV_first_state, do_first_state, pm_first_state, an_first_state, cd_first_state, ct_first_state, F_first_state⟩ := d_first_state.get X G
  obtain ⟨f_without_owner, kV_without_owner, do_without_owner, pm_without_owner, an_without_owner, cd_without_owner, ct_without_owner, F_without_owner⟩ := d_without_owner.get X G
  obtain ⟨f_done_all, kV_done_all, do_done_all, pm_done_all, an_done_all, cd_done_all, ct_done_all, F_done_all⟩ := d_done_all.get X G
  obtain ⟨f_done_deed, kV_done_deed, do_done_deed, pm_done_deed, an_done_deed, cd_done_deed, ct_done_deed, F_done_deed⟩ := d_done_deed.get X G
  obtain ⟨f_ended, kV_ended, do_ended, pm_ended, an_ended, cd_ended, ct_ended, F_ended⟩ := d_ended.get X G
  obtain ⟨f_done, kV_done, do_done, pm_done, an_done, cd_done, ct_done, F_done⟩ := d_done.get X G
  obtain ⟨f_law_pool, kV_law_pool, do_law_pool, pm_law_pool, an_law_pool, cd_law_pool, ct_law_pool, F_law_pool⟩ := d_law_pool.get X G
  obtain ⟨f_law_take, kV_law_take, do_law_take, pm_law_take, an_law_take, cd_law_take, ct_law_take, F_law_take⟩ := d_law_take.get X G
  obtain ⟨f_law_word, kV_law_word, do_law_word, pm_law_word, an_law_word, cd_law_word, ct_law_word, F_law_word⟩ := d_law_word.get X G
  obtain ⟨f_law_part, kV_law_part, do_law_part, pm_law_part, an_law_part, cd_law_part, ct_law_part, F_law_part⟩ := d_law_part.get X G
  obtain ⟨f_law_line, kV_law_line, do_law_line, pm_law_line, an_law_line, cd_law_line, ct_law_line, F_law_line⟩ := d_law_line.get X G
  obtain ⟨f_law_path, kV_law_path, do_law_path, pm_law_path, an_law_path, cd_law_path, ct_law_path, F_law_path⟩ := d_law_path.get X G
  obtain ⟨f_law_count, kV_law_count, do_law_count, pm_law_count, an_law_count, cd_law_count, ct_law_count, F_law_count⟩ := d_law_count.get X G
  obtain ⟨f_law_deed, kV_law_deed, do_law_deed, pm_law_deed, an_law_deed, cd_law_deed, ct_law_deed, F_law_deed⟩ := d_law_deed.get X G
  obtain ⟨f_law_above, kV_law_above, do_law_above, pm_law_above, an_law_above, cd_law_above, ct_law_above, F_law_above⟩ := d_law_above.get X G
  obtain ⟨f_law_kids, kV_law_kids, do_law_kids, pm_law_kids, an_law_kids, cd_law_kids, ct_law_kids, F_law_kids⟩ := d_law_kids.get X G
  obtain ⟨f_law_make, kV_law_make, do_law_make, pm_law_make, an_law_make, cd_law_make, ct_law_make, F_law_make⟩ := d_law_make.get X G
  obtain ⟨f_law_plainly, kV_law_plainly, do_law_plainly, pm_law_plainly, an_law_plainly, cd_law_plainly, ct_law_plainly, F_law_plainly⟩ := d_law_plainly.get X G
  obtain ⟨f_law_left, kV_law_left, do_law_left, pm_law_left, an_law_left, cd_law_left, ct_law_left, F_law_left⟩ := d_law_left.get X G
  obtain ⟨f_law_all_done, kV_law_all_done, do_law_all_done, pm_law_all_done, an_law_all_done, cd_law_all_done, ct_law_all_done, F_law_all_done⟩ := d_law_all_done.get X G
  obtain ⟨f_law_does, kV_law_does, do_law_does, pm_law_does, an_law_does, cd_law_does, ct_law_does, F_law_does⟩ := d_law_does.get X G
  obtain ⟨f_law_due, kV_law_due, do_law_due, pm_law_due, an_law_due, cd_law_due, ct_law_due, F_law_due⟩ := d_law_due.get X G
  obtain ⟨f_law_task, kV_law_task, do_law_task, pm_law_task, an_law_task, cd_law_task, ct_law_task, F_law_task⟩ := d_law_task.get X G
  obtain ⟨f_law_drawn_line, kV_law_drawn_line, do_law_drawn_line, pm_law_drawn_line, an_law_drawn_line, cd_law_drawn_line, ct_law_drawn_line, F_law_drawn_line⟩ := d_law_drawn_line.get X G
  obtain ⟨f_law_gone, kV_law_gone, do_law_gone, pm_law_gone, an_law_gone, cd_law_gone, ct_law_gone, F_law_gone⟩ := d_law_gone.get X G
  obtain ⟨f_law_owned_right, kV_law_owned_right, do_law_owned_right, pm_law_owned_right, an_law_owned_right, cd_law_owned_right, ct_law_owned_right, F_law_owned_right⟩ := d_law_owned_right.get X G
  obtain ⟨f_law_step_right, kV_law_step_right, do_law_step_right, pm_law_step_right, an_law_step_right, cd_law_step_right, ct_law_step_right, F_law_step_right⟩ := d_law_step_right.get X G
  obtain ⟨f_law, kV_law, do_law, pm_law, an_law, cd_law, ct_law, F_law⟩ := d_law.get X G
  have e := hfa.symm.trans F_law.mgf
  cases e
  have T : Tx K w mg :=
    { n_len := PySem.W.mg_none_of X G n_len
      n_isinstance := PySem.W.mg_none_of X G n_isinstance
      n_all := PySem.W.mg_none_of X G n_all
      n_sorted := PySem.W.mg_none_of X G n_sorted
      n_dict := PySem.W.mg_none_of X G n_dict
      n_tuple := PySem.W.mg_none_of X G n_tuple
      n_range := PySem.W.mg_none_of X G n_range
      n_int := PySem.W.mg_none_of X G n_int
      n_str := PySem.W.mg_none_of X G n_str
      n_abs := PySem.W.mg_none_of X G n_abs
      n_max := PySem.W.mg_none_of X G n_max
      n_min := PySem.W.mg_none_of X G n_min
      n_enumerate := PySem.W.mg_none_of X G n_enumerate
      n_bool := PySem.W.mg_none_of X G n_bool
      g_LETTERS := c_str X G g_LETTERS
      g_FIGURES := c_str X G g_FIGURES
      g_ROOT := c_str X G g_ROOT
      g_LONGEST := c_int X G g_LONGEST
      g_MOST_PARTS := c_int X G g_MOST_PARTS
      g_MANY_FIGURES := c_int X G g_MANY_FIGURES
      g_MOST_NODES := c_int X G g_MOST_NODES
      g_MOST_MADE := c_int X G g_MOST_MADE
      g_MOST_TEXT := c_int X G g_MOST_TEXT
      g_MOST_DEEDS := c_int X G g_MOST_DEEDS
      g_MOST_LIMIT := c_int X G g_MOST_LIMIT
      long := ⟨pL, ⟨_, PySem.W.mg_of X G g_LONG, rfl⟩, ⟨s_LONG, esL, nL, l_LONG, k_LONG⟩, ⟨_, x_LONG1⟩, ⟨_, x_LONG2⟩, ⟨_, x_LONG3⟩, ⟨_, x_LONG4⟩⟩
      ok := ⟨pO, ⟨_, PySem.W.mg_of X G g_OK, rfl⟩, w_tup (oc := .none) l_OK (by rw [← Array.length_toList, i_OK]; exact Nat.le_of_ble_eq_true rfl) (by rw [i_OK]; exact .cons ⟨_, rfl⟩ (.cons rfl .nil))⟩
      never := ⟨pN, pW, ⟨_, PySem.W.mg_of X G g_NEVER, rfl⟩, w_tup (oc := .none) l_NEVER (by rw [← Array.length_toList, i_NEVER]; exact Nat.le_of_ble_eq_true rfl) (by rw [i_NEVER]; exact .cons rfl (.cons ⟨_, rfl⟩ (.cons rfl (.cons rfl .nil))))⟩ }
  refine ⟨PySem.W.fnOf "law" "law" (C8.fnArgs s_law) (C8.fnBody s_law) (C8.fnScope s_law) .none kV_law do_law pm_law an_law cd_law ct_law, fun s v => .of_eq rfl, fun base _ _ => ?_⟩
  have k_is_whole := ok_is_whole (P := l.prog) (w := w) (base := base) F_is_whole (F_is_whole.fn.binds (ps := ["thing"]) rfl fun _ _ _ _ _ _ us hl => match us, hl with | [_], _ => rfl) T 
  have k_is_word := ok_is_word (P := l.prog) (w := w) (base := base) F_is_word (F_is_word.fn.binds (ps := ["thing"]) rfl fun _ _ _ _ _ _ us hl => match us, hl with | [_], _ => rfl) T 
  have k_is_part := ok_is_part (P := l.prog) (w := w) (base := base) F_is_part (F_is_part.fn.binds (ps := ["thing"]) rfl fun _ _ _ _ _ _ us hl => match us, hl with | [_], _ => rfl) T k_is_word
  have k_parts_of := ok_parts_of (P := l.prog) (w := w) (base := base) F_parts_of (F_parts_of.fn.binds (ps := ["path"]) rfl fun _ _ _ _ _ _ us hl => match us, hl with | [_], _ => rfl) T 
  have k_is_path := ok_is_path (P := l.prog) (w := w) (base := base) F_is_path (F_is_path.fn.binds (ps := ["thing"]) rfl fun _ _ _ _ _ _ us hl => match us, hl with | [_], _ => rfl) T k_is_part k_parts_of
  have k_path_of := ok_path_of (P := l.prog) (w := w) (base := base) F_path_of (F_path_of.fn.binds (ps := ["parts"]) rfl fun _ _ _ _ _ _ us hl => match us, hl with | [_], _ => rfl) T 
  have k_parent_of := ok_parent_of (P := l.prog) (w := w) (base := base) F_parent_of (F_parent_of.fn.binds (ps := ["path"]) rfl fun _ _ _ _ _ _ us hl => match us, hl with | [_], _ => rfl) T k_parts_of k_path_of
  have k_last_part := ok_last_part (P := l.prog) (w := w) (base := base) F_last_part (F_last_part.fn.binds (ps := ["path"]) rfl fun _ _ _ _ _ _ us hl => match us, hl with | [_], _ => rfl) T k_parts_of
  have k_is_text := ok_is_text (P := l.prog) (w := w) (base := base) F_is_text (F_is_text.fn.binds (ps := ["thing"]) rfl fun _ _ _ _ _ _ us hl => match us, hl with | [_], _ => rfl) T 
  have k_is_count := ok_is_count (P := l.prog) (w := w) (base := base) F_is_count (F_is_count.fn.binds (ps := ["thing"]) rfl fun _ _ _ _ _ _ us hl => match us, hl with | [_], _ => rfl) T k_is_whole
  have k_is_make := ok_is_make (P := l.prog) (w := w) (base := base) F_is_make (F_is_make.fn.binds (ps := ["path", "rest"]) rfl fun _ _ _ _ _ _ us hl => match us, hl with | [_, _], _ => rfl) T k_is_text k_is_word k_last_part
  have k_is_plain := ok_is_plain (P := l.prog) (w := w) (base := base) F_is_plain (F_is_plain.fn.binds (ps := ["thing"]) rfl fun _ _ _ _ _ _ us hl => match us, hl with | [_], _ => rfl) T k_is_path k_is_make k_is_text k_is_count
  have k_first_nodes := ok_first_nodes (P := l.prog) (w := w) (base := base) F_first_nodes (F_first_nodes.fn.binds (ps := []) rfl fun _ _ _ _ _ _ us hl => match us, hl with | [], _ => rfl) T 
  have k_kids_of := ok_kids_of (P := l.prog) (w := w) (base := base) F_kids_of (F_kids_of.fn.binds (ps := ["nodes", "path"]) rfl fun _ _ _ _ _ _ us hl => match us, hl with | [_, _], _ => rfl) T k_parent_of k_last_part
  have k_refused := ok_refused (P := l.prog) (w := w) (base := base) F_refused (F_refused.fn.binds (ps := ["nodes", "word"]) rfl fun _ _ _ _ _ _ us hl => match us, hl with | [_, _], _ => rfl) T 
  have k_numbered_path := ok_numbered_path (P := l.prog) (w := w) (base := base) F_numbered_path (F_numbered_path.fn.binds (ps := ["path", "made"]) rfl fun _ _ _ _ _ _ us hl => match us, hl with | [_, _], _ => rfl) T 
  have k_make := ok_make (P := l.prog) (w := w) (base := base) F_make (F_make.fn.binds (ps := ["nodes", "asker", "path", "text", "own", "numbered"]) rfl fun _ _ _ _ _ _ us hl => match us, hl with | [_, _, _, _, _, _], _ => rfl) T k_parent_of k_refused k_numbered_path
  have k_put := ok_put (P := l.prog) (w := w) (base := base) F_put (F_put.fn.binds (ps := ["nodes", "path", "text"]) rfl fun _ _ _ _ _ _ us hl => match us, hl with | [_, _, _], _ => rfl) T 
  have k_dropped := ok_dropped (P := l.prog) (w := w) (base := base) F_dropped (F_dropped.fn.binds (ps := ["nodes", "path"]) rfl fun _ _ _ _ _ _ us hl => match us, hl with | [_, _], _ => rfl) T k_parent_of
  have k_drop := ok_drop (P := l.prog) (w := w) (base := base) F_drop (F_drop.fn.binds (ps := ["nodes", "path"]) rfl fun _ _ _ _ _ _ us hl => match us, hl with | [_, _], _ => rfl) T k_kids_of k_refused k_dropped
  have k_done_plain := ok_done_plain (P := l.prog) (w := w) (base := base) F_done_plain (kb2 fun _ _ _ => rfl) T k_is_plain k_make k_refused k_put k_drop
  have k_is_deed := ok_is_deed (P := l.prog) (w := w) (base := base) F_is_deed (F_is_deed.fn.binds (ps := ["thing"]) rfl fun _ _ _ _ _ _ us hl => match us, hl with | [_], _ => rfl) T k_is_plain k_is_whole
  have k_is_entry := ok_is_entry (P := l.prog) (w := w) (base := base) F_is_entry (F_is_entry.fn.binds (ps := ["thing"]) rfl fun _ _ _ _ _ _ us hl => match us, hl with | [_], _ => rfl) T k_is_word k_is_whole k_is_deed
  have k_first_state := ok_first_state (P := l.prog) (w := w) (base := base) F_first_state (F_first_state.fn.binds (ps := []) rfl fun _ _ _ _ _ _ us hl => match us, hl with | [], _ => rfl) T k_first_nodes
  have k_without_owner := ok_without_owner (P := l.prog) (w := w) (base := base) F_without_owner (F_without_owner.fn.binds (ps := ["nodes", "asker"]) rfl fun _ _ _ _ _ _ us hl => match us, hl with | [_, _], _ => rfl) T k_dropped
  have k_done_all := ok_done_all (P := l.prog) (w := w) (base := base) F_done_all (F_done_all.fn.binds (ps := ["nodes", "deeds", "asker"]) rfl fun _ _ _ _ _ _ us hl => match us, hl with | [_, _, _], _ => rfl) T k_done_plain
  have k_done_deed := ok_done_deed (P := l.prog) (w := w) (base := base) F_done_deed (F_done_deed.fn.binds (ps := ["nodes", "limit", "deed", "asker"]) rfl fun _ _ _ _ _ _ us hl => match us, hl with | [_, _, _, _], _ => rfl) T k_done_plain k_done_all k_without_owner
  have k_ended := ok_ended (P := l.prog) (w := w) (base := base) F_ended (F_ended.fn.binds (ps := ["nodes", "sessions", "asker"]) rfl fun _ _ _ _ _ _ us hl => match us, hl with | [_, _, _], _ => rfl) T k_without_owner
  have k_done := ok_done (P := l.prog) (w := w) (base := base) F_done (kb2 fun _ _ _ => rfl) T k_is_entry k_ended k_done_deed
  have k_law_pool := ok_law_pool (P := l.prog) (w := w) (base := base) F_law_pool (F_law_pool.fn.binds (ps := ["_law_script", "_law_k"]) rfl fun _ _ _ _ _ _ us hl => match us, hl with | [_, _], _ => rfl) T 
  have k_law_take := ok_law_take (P := l.prog) (w := w) (base := base) F_law_take (F_law_take.fn.binds (ps := ["_law_pool_here", "_law_many"]) rfl fun _ _ _ _ _ _ us hl => match us, hl with | [_, _], _ => rfl) T 
  have k_law_word := ok_law_word (P := l.prog) (w := w) (base := base) F_law_word (F_law_word.fn.binds (ps := ["_law_pool_here"]) rfl fun _ _ _ _ _ _ us hl => match us, hl with | [_], _ => rfl) T k_law_take
  have k_law_part := ok_law_part (P := l.prog) (w := w) (base := base) F_law_part (F_law_part.fn.binds (ps := ["_law_pool_here"]) rfl fun _ _ _ _ _ _ us hl => match us, hl with | [_], _ => rfl) T k_law_take k_law_word
  have k_law_line := ok_law_line (P := l.prog) (w := w) (base := base) F_law_line (F_law_line.fn.binds (ps := ["_law_pool_here"]) rfl fun _ _ _ _ _ _ us hl => match us, hl with | [_], _ => rfl) T k_law_take
  have k_law_path := ok_law_path (P := l.prog) (w := w) (base := base) F_law_path (F_law_path.fn.binds (ps := ["_law_pool_here", "_law_web", "_law_many"]) rfl fun _ _ _ _ _ _ us hl => match us, hl with | [_, _, _], _ => rfl) T k_law_take k_law_part
  have k_law_count := ok_law_count (P := l.prog) (w := w) (base := base) F_law_count (F_law_count.fn.binds (ps := ["_law_pool_here", "_law_web", "_law_road"]) rfl fun _ _ _ _ _ _ us hl => match us, hl with | [_, _, _], _ => rfl) T k_law_take
  have k_law_deed := ok_law_deed (P := l.prog) (w := w) (base := base) F_law_deed (F_law_deed.fn.binds (ps := ["_law_pool_here", "_law_web"]) rfl fun _ _ _ _ _ _ us hl => match us, hl with | [_, _], _ => rfl) T k_law_take k_law_path k_law_line k_law_count
  have k_law_above := ok_law_above (P := l.prog) (w := w) (base := base) F_law_above (F_law_above.fn.binds (ps := ["_law_road"]) rfl fun _ _ _ _ _ _ us hl => match us, hl with | [_], _ => rfl) T 
  have k_law_kids := ok_law_kids (P := l.prog) (w := w) (base := base) F_law_kids (F_law_kids.fn.binds (ps := ["_law_web", "_law_road"]) rfl fun _ _ _ _ _ _ us hl => match us, hl with | [_, _], _ => rfl) T k_law_above
  have k_law_make := ok_law_make (P := l.prog) (w := w) (base := base) F_law_make (F_law_make.fn.binds (ps := ["_law_web", "_law_task_here", "_law_who"]) rfl fun _ _ _ _ _ _ us hl => match us, hl with | [_, _, _], _ => rfl) T k_law_above
  have k_law_plainly := ok_law_plainly (P := l.prog) (w := w) (base := base) F_law_plainly (F_law_plainly.fn.binds (ps := ["_law_web", "_law_task_here", "_law_who"]) rfl fun _ _ _ _ _ _ us hl => match us, hl with | [_, _, _], _ => rfl) T k_law_above k_law_kids k_law_make
  have k_law_left := ok_law_left (P := l.prog) (w := w) (base := base) F_law_left (F_law_left.fn.binds (ps := ["_law_web", "_law_who"]) rfl fun _ _ _ _ _ _ us hl => match us, hl with | [_, _], _ => rfl) T k_law_above
  have k_law_all_done := ok_law_all_done (P := l.prog) (w := w) (base := base) F_law_all_done (F_law_all_done.fn.binds (ps := ["_law_web", "_law_tasks", "_law_who"]) rfl fun _ _ _ _ _ _ us hl => match us, hl with | [_, _, _], _ => rfl) T k_law_plainly
  have k_law_does := ok_law_does (P := l.prog) (w := w) (base := base) F_law_does (F_law_does.fn.binds (ps := ["_law_web", "_law_limit", "_law_task_here", "_law_who"]) rfl fun _ _ _ _ _ _ us hl => match us, hl with | [_, _, _, _], _ => rfl) T k_law_plainly k_law_all_done k_law_left
  have k_law_due := ok_law_due (P := l.prog) (w := w) (base := base) F_law_due (F_law_due.fn.binds (ps := ["_law_kept", "_law_line_here", "_law_spot"]) rfl fun _ _ _ _ _ _ us hl => match us, hl with | [_, _, _], _ => rfl) T k_law_left k_law_does
  have k_law_task := ok_law_task (P := l.prog) (w := w) (base := base) F_law_task (F_law_task.fn.binds (ps := ["_law_pool_here", "_law_kept", "_law_who"]) rfl fun _ _ _ _ _ _ us hl => match us, hl with | [_, _, _], _ => rfl) T k_law_take k_law_deed
  have k_law_drawn_line := ok_law_drawn_line (P := l.prog) (w := w) (base := base) F_law_drawn_line (F_law_drawn_line.fn.binds (ps := ["_law_pool_here", "_law_kept"]) rfl fun _ _ _ _ _ _ us hl => match us, hl with | [_, _], _ => rfl) T k_law_take k_law_task
  have k_law_gone := ok_law_gone (P := l.prog) (w := w) (base := base) F_law_gone (F_law_gone.fn.binds (ps := ["_law_pool_here", "_law_many"]) rfl fun _ _ _ _ _ _ us hl => match us, hl with | [_, _], _ => rfl) T k_law_take k_law_drawn_line k_law_due
  have k_law_owned_right := ok_law_owned_right (P := l.prog) (w := w) (base := base) F_law_owned_right (F_law_owned_right.fn.binds (ps := ["_law_kept"]) rfl fun _ _ _ _ _ _ us hl => match us, hl with | [_], _ => rfl) T 
  have k_law_step_right := ok_law_step_right (P := l.prog) (w := w) (base := base) F_law_step_right (F_law_step_right.fn.binds (ps := ["_law_kept", "_law_later", "_law_line_here", "_law_events"]) rfl fun _ _ _ _ _ _ us hl => match us, hl with | [_, _, _, _], _ => rfl) T 
  exact ok_law F_law T k_law_pool k_first_state k_law_take k_law_gone k_done k_law_owned_right k_law_step_right
theorem walk {l : PySem.W.OpenLaw} {q : Program} {loose : List Str} {XP : (Str → Option Value) → Heap → Prop} {YP : World → Heap → Prop} {d : DefRec} {K : Params → PySem.W.Frag} (hn : l.most = some 63) (hdf : d.params.defaults = [])
    (hY : ∀ (w : World) (h : Heap), YP w h → (K w.params).In h)
    (F : ∀ (w : World) (mg : Str → Option Value) (fa : Addr) (h : Heap), (K w.params).In h → h.Ns mainGlobals mg → mg d.name = some (.ref fa) →
      ∃ fd : FuncData, (∀ (s : Shared) (u : Value), BindsTo s fd ⟨[u], []⟩ [("_law_script", u)]) ∧ ∀ base : Heap, (K w.params).In base → base.Ns mainGlobals mg → FnOk l.prog w (K w.params) mg base CX0 9 fa fd ["_law_script"] (spLaw (K w.params))) :
    PySem.W.WalkO q loose XP YP l.row.toRowW d [] (fun f vs => PySem.call f vs) :=
  L2.walk_of (n := 63) (k := 9) (x := "_law_script") (CX := fun _ => CX0) (sp := fun w => spLaw (K w.params)) hn (by decide) hdf ⟨rfl, by decide, by decide⟩ hY F (fun _ _ a ns hl _ hS => ⟨a, ns, rfl, hS, hl, fun _ => rfl⟩) fun _ _ _ _ _ z => z
end N17

open PySem PySem.W PyProof.Rows
set_option maxRecDepth 100000 in
set_option maxHeartbeats 0 in
theorem PySem.Challenge.cw_watchednodes_k17_whole_nodes_go_with_the_holds : PySem.Challenge.rw_watchednodes_k17_whole_nodes_go_with_the.Holds := by
  w_on; o_law; k_head; (case hw => w_witness2)
  k_fill
  refine N17.walk (l := PySem.Challenge.rw_watchednodes_k17_whole_nodes_go_with_the) rfl rfl (fun w h Y => PySem.W.kIn_of Y) ?F
  case F =>
    intro w mg fa h KX G hmg
    refine' N17.all_mk KX G hmg ?d_is_whole ?d_is_word ?d_is_part ?d_parts_of ?d_is_path ?d_path_of ?d_parent_of ?d_last_part ?d_is_text ?d_is_count ?d_is_make ?d_is_plain ?d_first_nodes ?d_kids_of ?d_refused ?d_numbered_path ?d_make ?d_put ?d_dropped ?d_drop ?d_done_plain ?d_is_deed ?d_is_entry ?d_first_state ?d_without_owner ?d_done_all ?d_done_deed ?d_ended ?d_done ?d_law_pool ?d_law_take ?d_law_word ?d_law_part ?d_law_line ?d_law_path ?d_law_count ?d_law_deed ?d_law_above ?d_law_kids ?d_law_make ?d_law_plainly ?d_law_left ?d_law_all_done ?d_law_does ?d_law_due ?d_law_task ?d_law_drawn_line ?d_law_gone ?d_law_owned_right ?d_law_step_right ?d_law ?n_len ?n_isinstance ?n_all ?n_sorted ?n_dict ?n_tuple ?n_range ?n_int ?n_str ?n_abs ?n_max ?n_min ?n_enumerate ?n_bool ?g_LETTERS ?g_FIGURES ?g_ROOT ?g_LONGEST ?g_MOST_PARTS ?g_MANY_FIGURES ?g_MOST_NODES ?g_MOST_MADE ?g_MOST_TEXT ?g_MOST_DEEDS ?g_MOST_LIMIT ?g_LONG ?l_LONG ?k_LONG ?s_LONG ?x_LONG1 ?x_LONG2 ?x_LONG3 ?x_LONG4 ?g_OK ?l_OK ?i_OK ?g_NEVER ?l_NEVER ?i_NEVER
    (case d_is_whole => refine' N17.DF.mk' ?a ?l ?c ?k; (case a => k_is); (case l => k_is); (case c => k_is); (case k => k_is))
    (case d_is_word => refine' N17.DF.mk' ?a ?l ?c ?k; (case a => k_is); (case l => k_is); (case c => k_is); (case k => k_is))
    (case d_is_part => refine' N17.DF.mk' ?a ?l ?c ?k; (case a => k_is); (case l => k_is); (case c => k_is); (case k => k_is))
    (case d_parts_of => refine' N17.DF.mk' ?a ?l ?c ?k; (case a => k_is); (case l => k_is); (case c => k_is); (case k => k_is))
    (case d_is_path => refine' N17.DF.mk' ?a ?l ?c ?k; (case a => k_is); (case l => k_is); (case c => k_is); (case k => k_is))
    (case d_path_of => refine' N17.DF.mk' ?a ?l ?c ?k; (case a => k_is); (case l => k_is); (case c => k_is); (case k => k_is))
    (case d_parent_of => refine' N17.DF.mk' ?a ?l ?c ?k; (case a => k_is); (case l => k_is); (case c => k_is); (case k => k_is))
    (case d_last_part => refine' N17.DF.mk' ?a ?l ?c ?k; (case a => k_is); (case l => k_is); (case c => k_is); (case k => k_is))
    (case d_is_text => refine' N17.DF.mk' ?a ?l ?c ?k; (case a => k_is); (case l => k_is); (case c => k_is); (case k => k_is))
    (case d_is_count => refine' N17.DF.mk' ?a ?l ?c ?k; (case a => k_is); (case l => k_is); (case c => k_is); (case k => k_is))
    (case d_is_make => refine' N17.DF.mk' ?a ?l ?c ?k; (case a => k_is); (case l => k_is); (case c => k_is); (case k => k_is))
    (case d_is_plain => refine' N17.DF.mk' ?a ?l ?c ?k; (case a => k_is); (case l => k_is); (case c => k_is); (case k => k_is))
    (case d_first_nodes => refine' N17.DF.mk' ?a ?l ?c ?k; (case a => k_is); (case l => k_is); (case c => k_is); (case k => k_is))
    (case d_kids_of => refine' N17.DF.mk' ?a ?l ?c ?k; (case a => k_is); (case l => k_is); (case c => k_is); (case k => k_is))
    (case d_refused => refine' N17.DF.mk' ?a ?l ?c ?k; (case a => k_is); (case l => k_is); (case c => k_is); (case k => k_is))
    (case d_numbered_path => refine' N17.DF.mk' ?a ?l ?c ?k; (case a => k_is); (case l => k_is); (case c => k_is); (case k => k_is))
    (case d_make => refine' N17.DF.mk' ?a ?l ?c ?k; (case a => k_is); (case l => k_is); (case c => k_is); (case k => k_is))
    (case d_put => refine' N17.DF.mk' ?a ?l ?c ?k; (case a => k_is); (case l => k_is); (case c => k_is); (case k => k_is))
    (case d_dropped => refine' N17.DF.mk' ?a ?l ?c ?k; (case a => k_is); (case l => k_is); (case c => k_is); (case k => k_is))
    (case d_drop => refine' N17.DF.mk' ?a ?l ?c ?k; (case a => k_is); (case l => k_is); (case c => k_is); (case k => k_is))
    (case d_done_plain => refine' N17.DF.mk' ?a ?l ?c ?k; (case a => k_is); (case l => k_is); (case c => k_is); (case k => k_is))
    (case d_is_deed => refine' N17.DF.mk' ?a ?l ?c ?k; (case a => k_is); (case l => k_is); (case c => k_is); (case k => k_is))
    (case d_is_entry => refine' N17.DF.mk' ?a ?l ?c ?k; (case a => k_is); (case l => k_is); (case c => k_is); (case k => k_is))
    (case d_first_state => refine' N17.DF.mk' ?a ?l ?c ?k; (case a => k_is); (case l => k_is); (case c => k_is); (case k => k_is))
    (case d_without_owner => refine' N17.DF.mk' ?a ?l ?c ?k; (case a => k_is); (case l => k_is); (case c => k_is); (case k => k_is))
    (case d_done_all => refine' N17.DF.mk' ?a ?l ?c ?k; (case a => k_is); (case l => k_is); (case c => k_is); (case k => k_is))
    (case d_done_deed => refine' N17.DF.mk' ?a ?l ?c ?k; (case a => k_is); (case l => k_is); (case c => k_is); (case k => k_is))
    (case d_ended => refine' N17.DF.mk' ?a ?l ?c ?k; (case a => k_is); (case l => k_is); (case c => k_is); (case k => k_is))
    (case d_done => refine' N17.DF.mk' ?a ?l ?c ?k; (case a => k_is); (case l => k_is); (case c => k_is); (case k => k_is))
    (case d_law_pool => refine' N17.DF.mk' ?a ?l ?c ?k; (case a => k_is); (case l => k_is); (case c => k_is); (case k => k_is))
    (case d_law_take => refine' N17.DF.mk' ?a ?l ?c ?k; (case a => k_is); (case l => k_is); (case c => k_is); (case k => k_is))
    (case d_law_word => refine' N17.DF.mk' ?a ?l ?c ?k; (case a => k_is); (case l => k_is); (case c => k_is); (case k => k_is))
    (case d_law_part => refine' N17.DF.mk' ?a ?l ?c ?k; (case a => k_is); (case l => k_is); (case c => k_is); (case k => k_is))
    (case d_law_line => refine' N17.DF.mk' ?a ?l ?c ?k; (case a => k_is); (case l => k_is); (case c => k_is); (case k => k_is))
    (case d_law_path => refine' N17.DF.mk' ?a ?l ?c ?k; (case a => k_is); (case l => k_is); (case c => k_is); (case k => k_is))
    (case d_law_count => refine' N17.DF.mk' ?a ?l ?c ?k; (case a => k_is); (case l => k_is); (case c => k_is); (case k => k_is))
    (case d_law_deed => refine' N17.DF.mk' ?a ?l ?c ?k; (case a => k_is); (case l => k_is); (case c => k_is); (case k => k_is))
    (case d_law_above => refine' N17.DF.mk' ?a ?l ?c ?k; (case a => k_is); (case l => k_is); (case c => k_is); (case k => k_is))
    (case d_law_kids => refine' N17.DF.mk' ?a ?l ?c ?k; (case a => k_is); (case l => k_is); (case c => k_is); (case k => k_is))
    (case d_law_make => refine' N17.DF.mk' ?a ?l ?c ?k; (case a => k_is); (case l => k_is); (case c => k_is); (case k => k_is))
    (case d_law_plainly => refine' N17.DF.mk' ?a ?l ?c ?k; (case a => k_is); (case l => k_is); (case c => k_is); (case k => k_is))
    (case d_law_left => refine' N17.DF.mk' ?a ?l ?c ?k; (case a => k_is); (case l => k_is); (case c => k_is); (case k => k_is))
    (case d_law_all_done => refine' N17.DF.mk' ?a ?l ?c ?k; (case a => k_is); (case l => k_is); (case c => k_is); (case k => k_is))
    (case d_law_does => refine' N17.DF.mk' ?a ?l ?c ?k; (case a => k_is); (case l => k_is); (case c => k_is); (case k => k_is))
    (case d_law_due => refine' N17.DF.mk' ?a ?l ?c ?k; (case a => k_is); (case l => k_is); (case c => k_is); (case k => k_is))
    (case d_law_task => refine' N17.DF.mk' ?a ?l ?c ?k; (case a => k_is); (case l => k_is); (case c => k_is); (case k => k_is))
    (case d_law_drawn_line => refine' N17.DF.mk' ?a ?l ?c ?k; (case a => k_is); (case l => k_is); (case c => k_is); (case k => k_is))
    (case d_law_gone => refine' N17.DF.mk' ?a ?l ?c ?k; (case a => k_is); (case l => k_is); (case c => k_is); (case k => k_is))
    (case d_law_owned_right => refine' N17.DF.mk' ?a ?l ?c ?k; (case a => k_is); (case l => k_is); (case c => k_is); (case k => k_is))
    (case d_law_step_right => refine' N17.DF.mk' ?a ?l ?c ?k; (case a => k_is); (case l => k_is); (case c => k_is); (case k => k_is))
    (case d_law => refine' N17.DF.mk' ?a ?l ?c ?k; (case a => k_is); (case l => k_is); (case c => k_is); (case k => k_is))
    (case n_len => k_is)
    (case n_isinstance => k_is)
    (case n_all => k_is)
    (case n_sorted => k_is)
    (case n_dict => k_is)
    (case n_tuple => k_is)
    (case n_range => k_is)
    (case n_int => k_is)
    (case n_str => k_is)
    (case n_abs => k_is)
    (case n_max => k_is)
    (case n_min => k_is)
    (case n_enumerate => k_is)
    (case n_bool => k_is)
    (case g_LETTERS => k_is)
    (case g_FIGURES => k_is)
    (case g_ROOT => k_is)
    (case g_LONGEST => k_is)
    (case g_MOST_PARTS => k_is)
    (case g_MANY_FIGURES => k_is)
    (case g_MOST_NODES => k_is)
    (case g_MOST_MADE => k_is)
    (case g_MOST_TEXT => k_is)
    (case g_MOST_DEEDS => k_is)
    (case g_MOST_LIMIT => k_is)
    (case g_LONG => k_is)
    (case l_LONG => k_is)
    (case k_LONG => exact ⟨⟨_, _, rfl, rfl⟩, ⟨_, _, rfl, rfl⟩, ⟨_, _, rfl, rfl⟩, ⟨_, _, rfl, rfl⟩, trivial⟩)
    (case s_LONG => decide)
    (case x_LONG1 => k_is)
    (case x_LONG2 => k_is)
    (case x_LONG3 => k_is)
    (case x_LONG4 => k_is)
    (case g_OK => k_is)
    (case l_OK => k_is)
    (case i_OK => rfl)
    (case g_NEVER => k_is)
    (case l_NEVER => k_is)
    (case i_NEVER => rfl)
