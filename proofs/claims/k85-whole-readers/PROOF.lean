import PyProof.Rows.All
import Wide.All
import OpenK.AllK
import Wide.FinOn
import PyProof.Rows.StrRev
import KE.KWithOwn
import KE.KRevSl
import HandS.ForMost
import HandS.Style
import HandS.OwnEq
import HandS.Property
import KE.GoesMore
import KE.GoesEnum
import HandS.Walk
import KE.KCallOwn
import PyProof.InstNe
import PyProof.Rows.ListStrD
import HandS.More
import HandS.Star
import HandS.ClsMeth
import HandS.HeadHook1
import HandS.IsInst
import HandS.FStr
import HandS.TryOnly
import HandS.TupAny
import HandS.TupLe
import HandS.Wide
import HandS.Replace
import HandS.DictComp
import HandS.Defaults
import HandS.WordsDict
import HandS.AnyAll
import HandS.Head0
import HandS.HeadEnd
import PySem.Challenge.RW_growntexts_k85_whole_readers_and_functio
import HandS.Head1
import HandS.Head2
import HandS.HeadHook2
import HandS.HeadNt
set_option Elab.async false
set_option linter.all false
set_option maxRecDepth 100000
set_option maxHeartbeats 2000000
namespace Gt
open PySem PySem.Spec PyProof.Rows L2
/-! ### a text turned about -/
def revS (z : Str) : Str := ⟨z.cps.toList.reverse.toArray⟩
theorem revS_len (z : Str) : (revS z).length = z.length := by
  show (z.cps.toList.reverse.toArray).size = z.cps.size
  simp
theorem pick_rev (z : Str) : ((Builtin.Str.strSliceIndices none none (-1) z.length).filterMap (z.cps[·]?)).toArray = z.cps.toList.reverse.toArray := by
  rw [picked_rev, PySem.W.krv_range, List.filterMap_reverse]
  have e : (List.range z.length).filterMap (z.cps[·]?) = z.cps.toList := PySem.W.krv_all z.cps
  rw [e]
def tRevS (te ts : TE) : TE := fun σ H Q => te σ H fun x H1 => ∃ z, x = .str z ∧ z.length ≤ sizeLine ∧ ts σ H1 fun y H2 => y = .int (-1) ∧ Q (.str (revS z)) H2
section
variable {X : Cx}
theorem pe_revS {e st : Expr} {te ts : TE} {p3 pos : Pos} (he : PE X e te) (hs : PE X st ts) : PE X (.Subscript e (.Slice none none (some st) p3) pos) (tRevS te ts) := by
  refine ⟨fun pins s σ H Q I h => ?_⟩
  refine Subscript_ (thn (he.run pins s σ H _ I h) fun v s1 ⟨x, H1, I1, r1, q1⟩ => ?_)
  obtain ⟨z, ex, hz, q⟩ := q1
  subst ex
  obtain ⟨t, rfl⟩ := r1
  have hst : PO X (some st) (tPart ts) := po_some hs
  refine wpAny_Slice (thn (po_none.run pins s1 σ H1 (fun o H2 => o = none ∧ H2 = H1) I1 ⟨rfl, rfl⟩) fun vl s2 ⟨l, H2, I2, pl, el, e2⟩ => ?_)
  subst el e2
  refine thn (po_none.run pins s2 σ H2 (fun o H3 => o = none ∧ H3 = H2) I2 ⟨rfl, rfl⟩) fun vu s3 ⟨u, H3, I3, pu, eu, e3⟩ => ?_
  subst eu e3
  refine thn (hst.run pins s3 σ H3 (fun o H4 => o = some (-1) ∧ Q (.str (revS z)) H4) I3 ?_) fun vs s4 ⟨o, H4, I4, ps, eo, q4⟩ => ?_
  · have key : ∀ H' (y : V), (y = .int (-1) ∧ Q (.str (revS z)) H') → ∃ i, y = .int i ∧ (some i = some (-1) ∧ Q (.str (revS z)) H') := fun H' y ⟨a, b⟩ => ⟨-1, a, rfl, b⟩
    have e0 : (fun (y : V) (H' : Hp) => ∃ i, y = V.int i ∧ (some i = some (-1 : Int) ∧ Q (.str (revS z)) H')) = fun y H' => y = .int (-1) ∧ Q (.str (revS z)) H' := by
      funext y H'
      exact propext ⟨fun ⟨i, a, b, c⟩ => ⟨by rw [a, Option.some.inj b], c⟩, key H' y⟩
    show ts σ H3 fun y H' => ∃ i, y = V.int i ∧ (some i = some (-1 : Int) ∧ Q (.str (revS z)) H')
    rw [e0]
    exact q
  · subst eo
    have I5 : Inv X pins σ H4 { s4 with heap := s4.heap.push { cls := .type "slice", data := .fields #[vl, vu, vs] } } := I4.kept (t' := s4.toks) fun b ob q => Heap.get?_push_of_some _ q
    show wpAny (model X.prog X.w) X.A (subscriptTail e (.Slice none none (some st) p3) (.str z t) (.ref s4.heap.objs.size)) (EP X pins σ Q) X.xe { s4 with heap := s4.heap.push { cls := .type "slice", data := .fields #[vl, vu, vs] } }
    refine tail_any (ops := [.str z t, .ref s4.heap.objs.size]) (typeIs_str _ _ _) PySem.F.slot_str_getitem.lookup ?_ (by with_unfolding_all rfl)
    obtain ⟨l, rfl, el⟩ := IsPart.raw pl
    obtain ⟨u, rfl, eu⟩ := IsPart.raw pu
    obtain ⟨p, rfl, ep⟩ := IsPart.raw ps
    have hsl := Heap.IsSliceOf.new s4.heap (partValue l) (partValue u) (partValue p)
    obtain ⟨os, hos, hcs, hds⟩ := hsl
    cases p with
    | none => cases ep
    | some p =>
      obtain ⟨i, tk⟩ := p
      have ei : i = -1 := Option.some.inj ep
      subst ei
      refine wpAny_getItem_str_slice (l := l) (u := u) (st := some (-1, tk)) ⟨os, hos, hcs, hds⟩ rfl ?_
      show (if (((-1 : Int) == 1) && ((Builtin.Str.strSliceIndices (l.map (·.1)) (u.map (·.1)) (-1) z.length).length == z.length)) = true then Made.val (.str z t)
        else Made.str ⟨((Builtin.Str.strSliceIndices (l.map (·.1)) (u.map (·.1)) (-1) z.length).filterMap (z.cps[·]?)).toArray⟩).post (EP X pins σ Q) _
      rw [if_neg (by simp), el, eu, pick_rev]
      exact ⟨by show (revS z).length ≤ _; rw [revS_len]; exact hz, .str (revS z), H4, I5.tok _, ⟨_, rfl⟩, q4⟩
end
end Gt

set_option Elab.async false
set_option linter.all false
set_option maxRecDepth 100000
set_option maxHeartbeats 2000000
namespace Gt
open PySem PySem.Spec PyProof.Rows L2
/-! ### what enumerate and zip walk: a list, a tuple, a text -/
inductive Src where
  | lst (a : Addr) | tup (a : Addr) | txt (z : Str)
def Src.vv : Src → V
  | .lst a => .ref a
  | .tup a => .ref a
  | .txt z => .str z
def Src.is (K : PySem.W.Frag) (S : Src) (H : Hp) (xs : List V) : Prop := match S with
  | .lst a => SqL K H a xs
  | .tup a => SqT K H a xs
  | .txt z => xs = z.cps.toList.map fun c => V.str ⟨#[c]⟩
def Src.tn (S : Src) (it : Addr) (t : Tok) (i : Nat) (h : Heap) : Prop := match S with
  | .lst a => h.IsListIter it a i
  | .tup a => h.IsTupleIter it a i
  | .txt z => h.IsStrIter it (strIterType z) z t i
def Src.addr : Src → List Addr
  | .lst a => [a]
  | .tup a => [a]
  | .txt _ => []
def Src.ob (S : Src) (t : Tok) : Obj := match S with
  | .lst a => { cls := .type "list_iterator", data := .fields #[.ref a, .int 0 0] }
  | .tup a => { cls := .type "tuple_iterator", data := .fields #[.ref a, .int 0 0] }
  | .txt z => { cls := .type (strIterType z), data := .fields #[.str z t, .int 0 0] }
section
variable {X : Cx} {pins : List (Addr × Obj)} {σ : L2.St} {H : Hp} {s : Shared} {S : Src} {xs : List V}
theorem Src.inj (I : Inv X pins σ H s) {ys : List V} (h : S.is X.K H xs) (h' : S.is X.K H ys) : xs = ys := by
  cases S with
  | lst a => exact I.list_inj h h'
  | tup a => exact I.tuple_inj h h'
  | txt z => exact Eq.trans h (Eq.symm h')
theorem Src.tn_obj {it : Addr} {t : Tok} {i : Nat} {h : Heap} (x : S.tn it t i h) : ∃ o, h.get? it = some o ∧ ∀ v, o.data ≠ .cell v := by
  cases S with
  | lst a => obtain ⟨o, e, _, d⟩ := x; exact ⟨o, e, fun v q => by rw [d] at q; cases q⟩
  | tup a => obtain ⟨o, e, _, d⟩ := x; exact ⟨o, e, fun v q => by rw [d] at q; cases q⟩
  | txt z => obtain ⟨o, e, _, d⟩ := x; exact ⟨o, e, fun v q => by rw [d] at q; cases q⟩
theorem Src.tn_keep {it : Addr} {t : Tok} {i : Nat} {h h' : Heap} (x : S.tn it t i h) (k : ∀ o, h.get? it = some o → h'.get? it = some o) : S.tn it t i h' := by
  cases S with
  | lst a => obtain ⟨o, e, r⟩ := x; exact ⟨o, k o e, r⟩
  | tup a => obtain ⟨o, e, r⟩ := x; exact ⟨o, k o e, r⟩
  | txt z => obtain ⟨o, e, r⟩ := x; exact ⟨o, k o e, r⟩
theorem Src.lt (I : Inv X pins σ H s) (h : S.is X.K H xs) : ∀ a ∈ S.addr, a < s.heap.objs.size := fun a ha => by
  cases S with
  | lst b =>
    have e : a = b := by simpa [Src.addr] using ha
    subst e
    obtain ⟨_, _, p, _⟩ := I.list h
    exact p.lt
  | tup b =>
    have e : a = b := by simpa [Src.addr] using ha
    subst e
    obtain ⟨_, _, p, _⟩ := I.tuple h
    exact p.lt
  | txt z => cases ha
theorem Src.ob_tn {it : Addr} {t : Tok} {h : Heap} (e : h.get? it = some (S.ob t)) : S.tn it t 0 h := by
  cases S with
  | lst a => exact ⟨_, e, rfl, rfl⟩
  | tup a => exact ⟨_, e, rfl, rfl⟩
  | txt z => exact ⟨_, e, rfl, rfl⟩
theorem Src.draws {A : Around} (I : Inv X pins σ H s) (hh : A.handled = none) (h : S.is X.K H xs) {it : Addr} (t : Tok) (ha : ∀ a ∈ S.addr, a ≠ it) :
    ∃ (P : Nat → Value → Prop) (St : Nat → Heap → Prop), Draws X.prog X.w A it (it :: S.addr) xs.length P St ∧ (∀ i, S.tn it t i s.heap → St i s.heap) ∧ (∀ i h', St i h' → S.tn it t i h') ∧ ∀ i v, P i v → ∃ x, xs[i]? = some x ∧ RelV x v := by
  cases S with
  | lst a =>
    obtain ⟨its, rv, p, _⟩ := I.list h
    have hl : xs.length = its.toArray.size := by rw [rv.length] <;> simp
    refine ⟨_, _, hl ▸ Draws.list hh it a (ha a (by simp [Src.addr])) its.toArray, fun i st => ⟨st, p.isList⟩, fun i h' st => st.1, fun i v e => ?_⟩
    have e' : its[i]? = some v := by simpa using e
    have hi : i < xs.length := by rw [rv.length]; exact (List.getElem?_eq_some_iff.mp e').1
    obtain ⟨u, hu, ru⟩ := rv.get (List.getElem?_eq_getElem hi)
    rw [e'] at hu
    exact ⟨xs[i], List.getElem?_eq_getElem hi, by rw [Option.some.inj hu]; exact ru⟩
  | tup a =>
    obtain ⟨its, rv, p, _⟩ := I.tuple h
    have hl : xs.length = its.toArray.size := by rw [rv.length] <;> simp
    refine ⟨_, _, hl ▸ Draws.tuple hh it a (ha a (by simp [Src.addr])) its.toArray, fun i st => ⟨st, p⟩, fun i h' st => st.1, fun i v e => ?_⟩
    have e' : its[i]? = some v := by simpa using e
    have hi : i < xs.length := by rw [rv.length]; exact (List.getElem?_eq_some_iff.mp e').1
    obtain ⟨u, hu, ru⟩ := rv.get (List.getElem?_eq_getElem hi)
    rw [e'] at hu
    exact ⟨xs[i], List.getElem?_eq_getElem hi, by rw [Option.some.inj hu]; exact ru⟩
  | txt z =>
    have hx : xs = z.cps.toList.map fun c => V.str ⟨#[c]⟩ := h
    subst hx
    have hl : (z.cps.toList.map fun c => V.str ⟨#[c]⟩).length = z.cps.size := by simp
    refine ⟨_, _, hl ▸ Draws.text hh it z t, fun i st => st, fun i h' st => st, fun i v e => ?_⟩
    obtain ⟨c, u, hc, rfl⟩ := e
    have hc' : z.cps.toList[i]? = some c := by rw [← hc]; simp
    exact ⟨V.str ⟨#[c]⟩, by rw [List.getElem?_map, hc']; rfl, ⟨u, rfl⟩⟩
end
def ItE (K : PySem.W.Frag) (S : Src) : It :=
  ⟨fun i H => ∃ xs x, S.is K H xs ∧ xs[i]? = some x,
   fun i H v H' => ∃ T x, v = .ref T ∧ H T = none ∧ H' = upd H T (.tup [.int (i : Nat), x]) ∧ ∀ xs, S.is K H xs → xs[i]? = some x,
   fun i H => ∃ xs, S.is K H xs ∧ xs.length = i⟩
theorem turn_enumS {P : Program} {w : World} {K : PySem.W.Frag} {elts : List Expr} {kk : Nat} {tpos : Pos} {S : Src} {e it : Addr} {t : Tok} (hei : e ≠ it) (ha : ∀ a ∈ S.addr, a ≠ it ∧ a ≠ e) :
    Turn P w K (.Tuple elts kk tpos) (ItE K S) [e, it] e (fun i h => (∃ old, IsEnum h e it ((i : Nat) : Int) old) ∧ S.tn it t i h) where
  mem := by simp
  obj := fun i h st b hb => by
    obtain ⟨⟨old, he⟩, st2⟩ := st
    have e' : b = e ∨ b = it := by simpa using hb
    rcases e' with z | z
    · rw [z]; exact ⟨_, he, fun v q => nomatch q⟩
    · rw [z]; exact Src.tn_obj st2
  keep := fun i h h' st k => let ⟨⟨old, he⟩, hi⟩ := st; ⟨⟨old, k e (by simp) _ he⟩, Src.tn_keep (S := S) hi fun o q => k it (by simp) o q⟩
  item := by
    intro X hP hw hK hc i pins s σ H E I hf st hg
    subst hP hw hK
    obtain ⟨⟨old, he⟩, hit⟩ := st
    obtain ⟨xs, x, hq, hx⟩ := hg
    have hlt : i < xs.length := (List.getElem?_eq_some_iff.mp hx).1
    obtain ⟨Pd, St, D, d1, d2, d3⟩ := Src.draws (A := X.A.in1) I (I.ok.hd hc) hq t (fun a h => (ha a h).1)
    have hel : e < s.heap.objs.size := Heap.lt_size he
    have hil : it < s.heap.objs.size := by obtain ⟨_, q, _⟩ := Src.tn_obj hit; exact Heap.lt_size q
    have hef : e ∉ it :: S.addr := fun hm => by
      rcases List.mem_cons.mp hm with z | z
      · exact hei z
      · exact (ha e z).2 rfl
    refine wpAny_pyNext_enum_itemD D he (d1 i hit) hlt hei hef fun u h' tk hP ho hst' hT hsz hk => ?_
    obtain ⟨x', hx', ru⟩ := d3 i u hP
    rw [hx] at hx'
    have exx : x' = x := (Option.some.inj hx').symm
    subst exx
    refine ⟨_, rfl, wpAny_letOwnedTupleGo_enum (s := { s with heap := h', toks := tk + 1 }) ho fun h'' he' sb => ?_⟩
    have hT2 : h''.get? s.heap.objs.size = some { cls := .type "tuple", data := .seq #[.int i tk, u] } := (sb.2 _ (Nat.ne_of_gt hel)).trans hT
    have new : ObjOk X.prog X.w (upd H s.heap.objs.size (.tup [.int (i : Nat), x'])) h'' s.heap.objs.size (.tup [.int (i : Nat), x']) :=
      ⟨by show 2 ≤ sizeLine; decide, [.int i tk, u], .cons ⟨_, rfl⟩ (.cons ru .nil), ⟨_, hT2, rfl, _, rfl⟩⟩
    have I1 : Inv X pins σ (upd H s.heap.objs.size (.tup [.int (i : Nat), x'])) { s with heap := h'', toks := tk + 1 } :=
      I.turnedNew (ch := [e, it]) (fun b ob hb q => (sb.2 b (fun z => hb (by simp [z]))).trans (hk b ob (fun z => hb (by simp [z])) (fun z => hb (by simp [z])) q)) hf (Nat.le_refl _) new
    refine ⟨.ref s.heap.objs.size, _, I1, rfl, ⟨_, x', rfl, I.hok.fresh (Nat.le_refl _), rfl, fun ys hy => by rw [Src.inj I hy hq]; exact hx⟩, ⟨⟨u, ?_⟩, Src.tn_keep (S := S) (d2 _ _ hst') fun o q => (sb.2 it (Ne.symm hei)).trans q⟩, fun b hb => ?_⟩
    · have e1 : ((i + 1 : Nat) : Int) = (i : Int) + 1 := by omega
      rw [e1]; exact he'
    · have hb' : b < s.heap.objs.size := by
        have e' : b = e ∨ b = it := by simpa using hb
        rcases e' with z | z
        · rw [z]; exact hel
        · rw [z]; exact hil
      rw [upd_ne (Nat.ne_of_lt hb')]
      exact (hf b hb).1
  done := by
    intro X hP hw hK hc i pins s σ H E I hf st hg
    subst hP hw hK
    obtain ⟨⟨old, he⟩, hit⟩ := st
    obtain ⟨xs, hq, hx⟩ := hg
    subst hx
    obtain ⟨Pd, St, D, d1, d2, d3⟩ := Src.draws (A := X.A.in1) I (I.ok.hd hc) hq t (fun a h => (ha a h).1)
    obtain ⟨f0, f1, f2, f3, f4, f5⟩ := hf it (by simp)
    exact wpAny_pyNext_enum_endD D he (d1 _ hit) fun h' eb => ⟨rfl, I.turned (t' := s.toks) (fun b o hb q => eb b o hb q) f0 f1 f3 f4 f5⟩
  self := fun A i s Q E st h => let ⟨⟨_, he⟩, _⟩ := st; wpAny_pyIter_enum he h
def iEnumS (K : PySem.W.Frag) (ta : TA) : TI := fun σ H R => ta σ H fun vs H1 => ∃ (S : Src) (xs : List V), vs = [S.vv] ∧ S.is K H1 xs ∧ R (ItE K S) H1
/-- how it begins -/
theorem Src.begins {X : Cx} {pins : List (Addr × Obj)} {σ : L2.St} {H : Hp} {s : Shared} {S : Src} {xs : List V} {u : Value} (I : Inv X pins σ H s) (h : S.is X.K H xs) (r : RelV S.vv u) :
    ∃ (t : Tok) (Hh : Heap → Prop), Begins u (S.ob t) Hh ∧ Hh s.heap := by
  cases S with
  | lst a =>
    cases r
    obtain ⟨its, rv, p, _⟩ := I.list h
    exact ⟨0, _, begins_list a its.toArray, p.isList⟩
  | tup a =>
    cases r
    obtain ⟨its, rv, p, _⟩ := I.tuple h
    exact ⟨0, _, begins_tuple a its.toArray, p⟩
  | txt z =>
    obtain ⟨t, rfl⟩ := r
    exact ⟨t, _, begins_text z t, trivial⟩
theorem walk_enumS {K : PySem.W.Frag} {S : Src} {xs : List V} : Walk (ItE K S) xs.length (fun H => S.is K H xs) (YPair (fun i => some (.int (i : Nat))) (fun i => xs[i]?)) := by
  refine ⟨fun i _ hi q => ⟨xs, xs[i], q, by simp [hi]⟩, fun _ q => ⟨xs, q, rfl⟩, fun i H v H' _ q y => ?_⟩
  obtain ⟨T, x, h1, h2, h3, h4⟩ := y
  exact ⟨T, .int (i : Nat), x, h1, h2, h3, rfl, h4 xs q⟩

set_option maxHeartbeats 4000000 in
theorem meets_enumerate_newB1 {v : Value} {o : Obj} {H : Heap → Prop} (B : Begins v o H) :
    Meets (Builtin.«enumerate.__new__» ⟨[.type "enumerate", v], []⟩) (fun _ R s => H s.heap ∧
      R (.ok (.ret (.ref (s.heap.push o).objs.size))) { s with heap := (s.heap.push o).push { cls := .type "enumerate", data := .fields #[.none, .bool false, .ref s.heap.objs.size, rawInt 0, .none, .none] } }) :=
  .of_wp fun prog w A R s h => by
    obtain ⟨hp, g, d, tk, os⟩ := s; obtain ⟨h1, h⟩ := h
    have hsub := sub_enumerate
    have q1 : ∀ {A' : Around} {E : Value → Shared → Prop} {Q : Value → Shared → Prop}, Q (.ref hp.objs.size) ⟨hp.push o, g, d, tk, os⟩ → wpAny (model prog w) A' (pyIter v) Q E ⟨hp, g, d, tk, os⟩ :=
      fun q => B.iter prog w _ _ ⟨hp, g, d, tk, os⟩ _ h1 q
    wp_walk using q1
    refine wpAny_stack_any fun st => wpAny_pure ?_
    split
    · rename_i c _ _ _ _ _
      cases (c == Value.type "enumerate")
      · wp_walk using q1
        exact ⟨_, rfl, h⟩
      · wp_walk using q1
        exact ⟨_, rfl, h⟩
    · wp_walk using q1
      exact ⟨_, rfl, h⟩

section
variable {prog : Program} {w : World} {A : Around} {E : Value → Shared → Prop} {s : Shared}
theorem enum_begins1 {v : Value} {o : Obj} {H : Heap → Prop} {Q : Value → Shared → Prop} (B : Begins v o H) (h1 : H s.heap)
    (h : ∀ h', IsEnum h' (s.heap.objs.size + 1) s.heap.objs.size 0 .none → h'.get? s.heap.objs.size = some o → h'.objs.size = s.heap.objs.size + 2 →
      (∀ b o, s.heap.get? b = some o → h'.get? b = some o) → Q (.ref (s.heap.objs.size + 1)) { s with heap := h' }) :
    wpAny (model prog w) A (call (.type "enumerate") [v]) Q E s := by
  refine callType_new F.called_enumerate (by decide) (F.typeCall_enumerate_1 _) (F.newCall_enumerate_1 _) (fun obj => F.args_object_init_2 obj _) F.entry_enumerate_new
    (meets_enumerate_newB1 B) ⟨h1, ?_⟩
  have hz : (s.heap.push o).objs.size = s.heap.objs.size + 1 := Heap.size_push ..
  show _ ∧ _
  rw [hz]
  have he : IsEnum ((s.heap.push o).push { cls := .type "enumerate", data := .fields #[.none, .bool false, .ref s.heap.objs.size, rawInt 0, .none, .none] }) (s.heap.objs.size + 1) s.heap.objs.size 0 .none := by
    have := Heap.get?_push_size (s.heap.push o) (o := { cls := .type "enumerate", data := .fields #[.none, .bool false, .ref s.heap.objs.size, rawInt 0, .none, .none] }) rfl
    rw [hz] at this; exact this
  refine ⟨⟨_, he, rfl⟩, h _ he (Heap.get?_push_of_some _ (Heap.get?_push_size _ B.free)) (by rw [Heap.size_push, hz]) fun b o x => Heap.get?_push_of_some _ (Heap.get?_push_of_some _ x)⟩
end
theorem pi_enumS {X : Cx} {e : Expr} {ta : TA} {p pos tpos : Pos} {elts : List Expr} {kk : Nat} (hg : Gl X "enumerate") (hm : X.mg "enumerate" = none) (ha : PA X [e] ta) (hs : starEach [e] X.env = [(false, eval e X.env)] := by rfl) :
    PI X (.Tuple elts kk tpos) (.Call (.Name "enumerate" p) [e] [] pos) (iEnumS X.K ta) := by
  refine ⟨fun pins s σ H R I h => ?_⟩
  refine Call_ (ld_blt I hg hm boot_enumerate (PyProof.Rows.callWith_type1 (thn (ha.run pos pins s σ H _ I h) fun us s1 ⟨vs, H1, I1, r1, q1⟩ => ?_) hs rfl))
  obtain ⟨S, xs, ex, hq, q⟩ := q1
  subst ex
  cases r1 with
  | cons r rr =>
    cases rr
    obtain ⟨t, Hh, B, hb⟩ := Src.begins I1 hq r
    refine enum_begins1 B hb fun h' he hit hsz hk => wpAny_pyIter_enum he ?_
    have I2 : Inv X pins σ H1 { s1 with heap := h' } := I1.kept (t' := s1.toks) hk
    have lt := Src.lt I1 hq
    refine ⟨s1.heap.objs.size + 1, [s1.heap.objs.size + 1, s1.heap.objs.size], _, _, H1, rfl, I2, turn_enumS (S := S) (e := s1.heap.objs.size + 1) (it := s1.heap.objs.size) (t := t) (Nat.succ_ne_self _) (fun a h => ⟨Nat.ne_of_lt (lt a h), Nat.ne_of_lt (Nat.lt_succ_of_lt (lt a h))⟩), ⟨⟨.none, he⟩, Src.ob_tn hit⟩, fun b hb => ?_, q⟩
    have e' : b = s1.heap.objs.size + 1 ∨ b = s1.heap.objs.size := by simpa using hb
    have hle : s1.heap.objs.size ≤ b := by
      rcases e' with z | z
      · rw [z]; exact Nat.le_add_right _ _
      · rw [z]; exact Nat.le_refl _
    exact I1.fpOk hle (I1.hok.fresh hle)
/-! ### zip -/
def ItZ (K : PySem.W.Frag) (S1 S2 : Src) : It :=
  ⟨fun i H => ∃ (xs ys : List V) (x y : V), S1.is K H xs ∧ S2.is K H ys ∧ xs[i]? = some x ∧ ys[i]? = some y,
    fun i H v H' => ∃ T x y, v = .ref T ∧ H T = none ∧ H' = upd H T (.tup [x, y]) ∧ (∀ xs, S1.is K H xs → xs[i]? = some x) ∧ ∀ ys, S2.is K H ys → ys[i]? = some y,
    fun i H => ∃ xs ys : List V, S1.is K H xs ∧ S2.is K H ys ∧ i ≤ xs.length ∧ i ≤ ys.length ∧ (i = xs.length ∨ i = ys.length)⟩
theorem turn_zipS {P : Program} {w : World} {K : PySem.W.Frag} {elts : List Expr} {kk : Nat} {tpos : Pos} {S1 S2 : Src} {z TI TO i1 i2 : Addr} {t1 t2 : Tok} (D : ZipSep2 z TI TO i1 i2 (i1 :: S1.addr) (i2 :: S2.addr))
    (n1 : ∀ a ∈ S1.addr, a ≠ i1) (n2 : ∀ a ∈ S2.addr, a ≠ i2) :
    Turn P w K (.Tuple elts kk tpos) (ItZ K S1 S2) [z, TI, TO, i1, i2] z (fun i h => IsZip h z TI TO .none ∧ IsTupOf2 h TI (.ref i1) (.ref i2) ∧ (∃ x y, IsTupOf2 h TO x y) ∧ S1.tn i1 t1 i h ∧ S2.tn i2 t2 i h) where
  mem := by simp
  obj := fun i h st c hc => by
    obtain ⟨hz, hTI, ⟨x, y, hTO⟩, h1, h2⟩ := st
    have e' : c = z ∨ c = TI ∨ c = TO ∨ c = i1 ∨ c = i2 := by simpa using hc
    rcases e' with q | q | q | q | q
    · rw [q]; exact ⟨_, hz, fun v q => nomatch q⟩
    · rw [q]; exact ⟨_, hTI, fun v q => nomatch q⟩
    · rw [q]; exact ⟨_, hTO, fun v q => nomatch q⟩
    · rw [q]; exact Src.tn_obj h1
    · rw [q]; exact Src.tn_obj h2
  keep := fun i h h' st k => by
    obtain ⟨hz, hTI, ⟨x, y, hTO⟩, h1, h2⟩ := st
    exact ⟨k z (by simp) _ hz, k TI (by simp) _ hTI, ⟨x, y, k TO (by simp) _ hTO⟩, Src.tn_keep (S := S1) h1 fun o q => k i1 (by simp) o q, Src.tn_keep (S := S2) h2 fun o q => k i2 (by simp) o q⟩
  item := by
    intro X hP hw hK hc i pins s σ H E I hf st hg
    subst hP hw hK
    obtain ⟨hz, hTI, ⟨x0, y0, hTO⟩, h1, h2⟩ := st
    obtain ⟨xs, ys, x, y, hqx, hqy, hx, hy⟩ := hg
    have l1 : i < xs.length := (List.getElem?_eq_some_iff.mp hx).1
    have l2 : i < ys.length := (List.getElem?_eq_some_iff.mp hy).1
    obtain ⟨P1, St1, D1, a1, b1, c1⟩ := Src.draws (A := X.A.in1) I (I.ok.hd hc) hqx t1 n1
    obtain ⟨P2, St2, D2, a2, b2, c2⟩ := Src.draws (A := X.A.in1) I (I.ok.hd hc) hqy t2 n2
    have hzl : z < s.heap.objs.size := Heap.lt_size hz
    refine wpAny_pyNext_zipD2_item D D1 D2 hz hTI hTO (a1 i h1) (a2 i h2) l1 l2 fun u u2 h' tk p1 p2 z' TO' h1' h2' hT hsz hk => ?_
    obtain ⟨x', ex', ru⟩ := c1 i u p1
    obtain ⟨y', ey', ru2⟩ := c2 i u2 p2
    rw [hx] at ex'
    rw [hy] at ey'
    have exx : x' = x := (Option.some.inj ex').symm
    have eyy : y' = y := (Option.some.inj ey').symm
    subst exx eyy
    refine ⟨_, rfl, wpAny_letOwnedTupleGo_zip (s := { s with heap := h', toks := tk }) z' fun h'' z'' sb => ?_⟩
    have hT2 : h''.get? s.heap.objs.size = some { cls := .type "tuple", data := .seq #[u, u2] } := (sb.2 _ (Nat.ne_of_gt hzl)).trans hT
    have new : ObjOk X.prog X.w (upd H s.heap.objs.size (.tup [x', y'])) h'' s.heap.objs.size (.tup [x', y']) :=
      ⟨by show 2 ≤ sizeLine; decide, [u, u2], .cons ru (.cons ru2 .nil), ⟨_, hT2, rfl, _, rfl⟩⟩
    have I1 : Inv X pins σ (upd H s.heap.objs.size (.tup [x', y'])) { s with heap := h'', toks := tk } :=
      I.turnedNew (t' := tk) (ch := [z, TI, TO, i1, i2]) (fun c o hb q => (sb.2 c (fun q' => hb (by simp [q']))).trans (hk c o (fun q' => hb (by simp [q'])) (fun q' => hb (by simp [q'])) (fun q' => hb (by simp [q'])) (fun q' => hb (by simp [q'])) q)) hf (Nat.le_refl _) new
    refine ⟨.ref s.heap.objs.size, _, I1, rfl, ⟨_, x', y', rfl, I.hok.fresh (Nat.le_refl _), rfl, fun l hl => by rw [Src.inj I hl hqx]; exact hx, fun l hl => by rw [Src.inj I hl hqy]; exact hy⟩, ⟨z'', ?_, ⟨u, u2, ?_⟩, ?_, ?_⟩, fun c hcm => ?_⟩
    · exact (sb.2 _ D.TIz).trans (hk _ _ D.TIz D.TITO D.TIi1 D.TIi2 hTI)
    · exact (sb.2 _ D.TOz).trans TO'
    · exact Src.tn_keep (S := S1) (b1 _ _ h1') fun o q => (sb.2 _ (Ne.symm D.zi1)).trans q
    · exact Src.tn_keep (S := S2) (b2 _ _ h2') fun o q => (sb.2 _ (Ne.symm D.zi2)).trans q
    · have hlt : c < s.heap.objs.size := by
        have e' : c = z ∨ c = TI ∨ c = TO ∨ c = i1 ∨ c = i2 := by simpa using hcm
        rcases e' with q | q | q | q | q
        · rw [q]; exact hzl
        · rw [q]; exact Heap.lt_size hTI
        · rw [q]; exact Heap.lt_size hTO
        · rw [q]; obtain ⟨_, e1, _⟩ := Src.tn_obj h1; exact Heap.lt_size e1
        · rw [q]; obtain ⟨_, e2, _⟩ := Src.tn_obj h2; exact Heap.lt_size e2
      rw [upd_ne (Nat.ne_of_lt hlt)]
      exact (hf c hcm).1
  done := by
    intro X hP hw hK hc i pins s σ H E I hf st hg
    subst hP hw hK
    obtain ⟨hz, hTI, ⟨x0, y0, hTO⟩, h1, h2⟩ := st
    obtain ⟨xs, ys, hqx, hqy, hl1, hl2, hend⟩ := hg
    obtain ⟨P1, St1, D1, a1, b1, c1⟩ := Src.draws (A := X.A.in1) I (I.ok.hd hc) hqx t1 n1
    obtain ⟨P2, St2, D2, a2, b2, c2⟩ := Src.draws (A := X.A.in1) I (I.ok.hd hc) hqy t2 n2
    exact wpAny_pyNext_zipD2_end D D1 D2 hz hTI hTO (a1 i h1) (a2 i h2) hl1 hl2 hend fun h' tk hk => ⟨rfl, I.turnedL (t' := tk) (ch := [z, TI, TO, i1, i2]) (fun c o hb q =>
      hk c o (fun q' => hb (by simp [q'])) (fun q' => hb (by simp [q'])) (fun q' => hb (by simp [q'])) (fun q' => hb (by simp [q'])) q) hf⟩
  self := fun A i s Q E st h => wpAny_pyIter_zip st.1 h
def iZipS (K : PySem.W.Frag) (ta : TA) : TI := fun σ H R => ta σ H fun vs H1 => ∃ (S1 S2 : Src) (xs ys : List V), vs = [S1.vv, S2.vv] ∧ S1.is K H1 xs ∧ S2.is K H1 ys ∧ R (ItZ K S1 S2) H1
theorem pi_zipS {X : Cx} {e e2 : Expr} {ta : TA} {p pos tpos : Pos} {elts : List Expr} {kk : Nat} (hg : Gl X "zip") (hm : X.mg "zip" = none) (ha : PA X [e, e2] ta)
    (hs : starEach [e, e2] X.env = (false, eval e X.env) :: starEach [e2] X.env := by rfl) (hpl : (backTo pos (starEach [e2] X.env)).any (·.1) = false := by rfl) :
    PI X (.Tuple elts kk tpos) (.Call (.Name "zip" p) [e, e2] [] pos) (iZipS X.K ta) := by
  refine ⟨fun pins s σ H R I h => ?_⟩
  refine Call_ (ld_blt I hg hm PyProof.Rows.boot_zip (PyProof.Rows.callWith_type1 (thn (ha.run pos pins s σ H _ I h) fun us s1 ⟨vs, H1, I1, r1, q1⟩ => ?_) hs hpl))
  obtain ⟨S1, S2, xs, ys, ex, hqx, hqy, q⟩ := q1
  subst ex
  cases r1 with
  | cons r rr =>
    cases rr with
    | cons r' rr =>
      cases rr
      obtain ⟨t1, Hh1, B1, hb1⟩ := Src.begins I1 hqx r
      obtain ⟨t2, Hh2, B2, hb2⟩ := Src.begins I1 hqy r'
      have lt1 := Src.lt I1 hqx
      have lt2 := Src.lt I1 hqy
      refine zip_begins2 B1 B2 hb1 hb2 fun h' hz hTI hTO h1 h2 hsz hk => wpAny_pyIter_zip hz ?_
      have I2 : Inv X pins σ H1 { s1 with heap := h' } := I1.kept (t' := s1.toks) hk
      refine ⟨s1.heap.objs.size + 4, [s1.heap.objs.size + 4, s1.heap.objs.size + 2, s1.heap.objs.size + 3, s1.heap.objs.size, s1.heap.objs.size + 1], _, _, H1, rfl, I2,
        turn_zipS (S1 := S1) (S2 := S2) (t1 := t1) (t2 := t2) (zip_sep2 lt1 lt2) (fun a h => Nat.ne_of_lt (lt1 a h)) (fun a h => Nat.ne_of_lt (Nat.lt_succ_of_lt (lt2 a h))), ⟨hz, hTI, ⟨_, _, hTO⟩, Src.ob_tn h1, Src.ob_tn h2⟩, fun c hcm => ?_, q⟩
      have e' : c = s1.heap.objs.size + 4 ∨ c = s1.heap.objs.size + 2 ∨ c = s1.heap.objs.size + 3 ∨ c = s1.heap.objs.size ∨ c = s1.heap.objs.size + 1 := by simpa using hcm
      have hle : s1.heap.objs.size ≤ c := by
        rcases e' with z | z | z | z | z
        · rw [z]; exact Nat.le_add_right _ _
        · rw [z]; exact Nat.le_add_right _ _
        · rw [z]; exact Nat.le_add_right _ _
        · rw [z]; exact Nat.le_refl _
        · rw [z]; exact Nat.le_add_right _ _
      exact I1.fpOk hle (I1.hok.fresh hle)
theorem walk_zipS {K : PySem.W.Frag} {S1 S2 : Src} {xs ys : List V} {n : Nat} (h1 : xs.length = n) (h2 : ys.length = n) : Walk (ItZ K S1 S2) n (fun H => S1.is K H xs ∧ S2.is K H ys) (YPair (fun i => xs[i]?) (fun i => ys[i]?)) := by
  subst h1
  refine ⟨fun i _ hi q => ⟨xs, ys, xs[i], ys[i], q.1, q.2, by simp [hi], by simp [h2, hi]⟩, fun _ q => ⟨xs, ys, q.1, q.2, Nat.le_refl _, by omega, .inl rfl⟩, fun i H v H' _ q y => ?_⟩
  obtain ⟨T, x, z, e1, e2, e3, e4, e5⟩ := y
  exact ⟨T, x, z, e1, e2, e3, e4 xs q.1, e5 ys q.2⟩
end Gt

set_option Elab.async false
set_option linter.all false
set_option maxRecDepth 100000
set_option maxHeartbeats 2000000
namespace Gt
open PySem PySem.Spec PyProof.Rows L2 StX
section
variable {X : Cx} {pins : List (Addr × Obj)} {σ : L2.St} {H : Hp} {s : Shared} {k j : Nat} {sp : Sp} {x m : Str} {C f : Addr} {e o : Expr} {es : List Expr} {ta te : TE} {t : TA} {pos p apos : Pos}
/-- a def runs somewhere below the body -/
theorem run_at {A' : Around} {Ex : Value → Shared → Prop} {Q : VK} {us : List Value} {vs : List V} (F : FnR X.prog X.w X.K X.mg X.base CX0 k f sp) (hr : Room k A') (hf : A'.frames = X.A.frames) (I : Inv X pins σ H s) (r : Vals vs us) (h : sp vs H Q E0) :
    wpAny (model X.prog X.w) A' (call (.ref f) us) (EP X pins σ Q) Ex s := by
  have e0 : Env0 X.prog X.w X.K X.mg X.base A' X.stack s H := by
    have e := I.env0
    exact ⟨by rw [hf]; exact e.frames, e.mod, e.bs, e.bsz, e.funs, e.frf, e.hok, e.bare⟩
  refine wpAny_call (codeAny_mono (F A' X.stack s H us vs Q E0 hr e0 r h) fun r s' hq => ?_)
  cases r with
  | error er => exact False.elim hq
  | ok fl =>
    cases fl with
    | ret u => exact I.after hq
    | next => exact False.elim hq
    | brk => exact False.elim hq
    | cont => exact False.elim hq
/-! ### defs, methods, properties, classes by name -/
structure GF (P : Program) (w : World) (K : PySem.W.Frag) (mg : Str → Option Value) (base : Heap) (k : Nat) (x : Str) (sp : Sp) : Prop where
  ex : ∃ f, FnR P w K mg base CX0 k f sp ∧ mg x = some (.ref f) ∧ PySem.W.keepIn K (.ref f) = true
structure GM (P : Program) (w : World) (K : PySem.W.Frag) (mg : Str → Option Value) (base : Heap) (k : Nat) (C : Addr) (m : Str) (sp : Sp) : Prop where
  ex : ∃ f, FnR P w K mg base CX0 k f sp ∧ Meth K C m f
structure GP (P : Program) (w : World) (K : PySem.W.Frag) (mg : Str → Option Value) (base : Heap) (k : Nat) (C : Addr) (m : Str) (sp : Sp) : Prop where
  ex : ∃ p f, FnR P w K mg base CX0 k f sp ∧ PropOf K C m p f
structure GC (P : Program) (w : World) (K : PySem.W.Frag) (mg : Str → Option Value) (base : Heap) (k : Nat) (x : Str) (C : Addr) (sp : Sp) : Prop where
  ex : ∃ f, FnR P w K mg base CX0 k f sp ∧ Mk K C f
  at_ : mg x = some (.ref C)
def tCl (sp : Sp) (t : TA) : TE := fun σ H Q => t σ H fun vs H1 => sp vs H1 Q E0
theorem pc_g (G : GF X.prog X.w X.K X.mg X.base k x sp) (hr : Room j X.A) (ha : PA X (e :: es) t) (hg : Gl X x := by rfl) (hk : k ≤ j := by decide) (hd : (x == ("__debug__" : Str)) = false := by decide)
    (he : starEach (e :: es) X.env = (false, eval e X.env) :: starEach es X.env := by rfl) (hpl : (backTo pos (starEach es X.env)).any (·.1) = false := by rfl) :
    PE X (.Call (.Name x p) (e :: es) [] pos) (tCl sp t) := by
  obtain ⟨f, F, hm, kp⟩ := G.ex
  refine ⟨fun pins s σ H Q I h => ?_⟩
  refine wpAny_Call_Name_kw (ld_glob I hg hm ?_ hd)
  refine PySem.W.callWith_K (h₀ := X.base) I.ok.mod.kin kp (thn (ha.run pos pins s σ H _ I h) fun us s1 ⟨vs, H1, I1, r, q⟩ => ⟨I1.kIn, ?_⟩) he hpl
  exact run_at F (hr.mono hk) rfl I1 r q
def tMt (C : Addr) (m : Str) (sp : Sp) (ta : TE) (t : TA) : TE := fun σ H Q => ta σ H fun x H1 => ∃ a dx fs, x = .ref a ∧ H1 a = some (.ins C dx fs) ∧ fs.lookup m = none ∧ t σ H1 fun vs H2 => sp (x :: vs) H2 Q E0
theorem pc_m {pl : Sem Bool} (G : GM X.prog X.w X.K X.mg X.base k C m sp) (c : Cls X.K C) (hr : Room j X.A) (ho : PE X o ta) (ha : PA X (e :: es) t) (hk : k ≤ j := by decide)
    (hst : starEach (e :: es) X.env = (false, eval e X.env) :: starEach es X.env := by rfl) (hpl : (backTo pos (starEach es X.env)).any (·.1) = false := by rfl)
    (ht : eval (.Call (.Attribute o m apos) (e :: es) [] pos) X.env = (do
      let ov ← eval o X.env
      standAt apos.atName
      let (f, first) ← holding [ov] (getMethod ov m pl)
      callWith pos f first (backTo pos (starEach (e :: es) X.env)) (backToKw pos (keywordEach [] X.env))) := by rfl) :
    PE X (.Call (.Attribute o m apos) (e :: es) [] pos) (tMt C m sp ta t) := by
  obtain ⟨f, F, hm⟩ := G.ex
  refine ⟨fun pins s σ H Q I h => ?_⟩
  refine PySem.W.methodCall_KW (pl := pl) (thn (ho.run pins s σ H _ I h) fun u s1 ⟨x, H1, I1, rx, a, dx, fs, ex, ea, l, q⟩ => ?_) ht
  subst ex
  obtain rfl : u = Value.ref a := rx
  refine getmeth_ok I1 ea c hm l ?_
  refine PySem.W.callWith_K (first := [.ref a]) (h₀ := X.base) I.ok.mod.kin hm.kp (thn (ha.run pos pins s1 σ H1 _ I1 q) fun us s2 ⟨vs, H2, I2, r, q2⟩ => ⟨I2.kIn, ?_⟩) hst hpl
  exact run_at (us := .ref a :: us) (vs := .ref a :: vs) F (hr.mono hk) rfl I2 (.cons rfl r) q2
theorem pc_m0 {pl : Sem Bool} (G : GM X.prog X.w X.K X.mg X.base k C m sp) (c : Cls X.K C) (hr : Room j X.A) (ho : PE X o ta) (hk : k ≤ j := by decide)
    (ht : eval (.Call (.Attribute o m apos) [] [] pos) X.env = (do
      let ov ← eval o X.env
      standAt apos.atName
      let (f, first) ← holding [ov] (getMethod ov m pl)
      callWith pos f first (backTo pos (starEach [] X.env)) (backToKw pos (keywordEach [] X.env))) := by rfl) :
    PE X (.Call (.Attribute o m apos) [] [] pos) (tMt C m sp ta tNil) := by
  obtain ⟨f, F, hm⟩ := G.ex
  refine ⟨fun pins s σ H Q I h => ?_⟩
  refine PySem.W.methodCall_KW (pl := pl) (thn (ho.run pins s σ H _ I h) fun u s1 ⟨x, H1, I1, rx, a, dx, fs, ex, ea, l, q⟩ => ?_) ht
  subst ex
  obtain rfl : u = Value.ref a := rx
  refine getmeth_ok I1 ea c hm l ?_
  exact PySem.W.callWith_K0 (first := [.ref a]) I1.kIn hm.kp (run_at (us := [.ref a]) (vs := [.ref a]) F (hr.mono hk) rfl I1 (.cons rfl .nil) q)
def tPr (C : Addr) (sp : Sp) (ta : TE) : TE := fun σ H Q => ta σ H fun x H1 => ∃ a dx fs, x = .ref a ∧ H1 a = some (.ins C dx fs) ∧ sp [.ref a] H1 Q E0
theorem pc_p (G : GP X.prog X.w X.K X.mg X.base k C m sp) (c : Cls X.K C) (hr : Room j X.A) (ho : PE X e ta) (hk : k + 1 ≤ j := by decide)
    (hab : attributeBase e m X.env (eval e X.env) = eval e X.env := by rfl) : PE X (.Attribute e m pos) (tPr C sp ta) := by
  obtain ⟨p, f, F, hp⟩ := G.ex
  refine ⟨fun pins s σ H Q I h => ?_⟩
  refine attr_of hab (thn (ho.run pins s σ H _ I h) fun u s1 ⟨x, H1, I1, rx, a, dx, fs, ex, ea, q⟩ => ?_)
  subst ex
  obtain rfl : u = Value.ref a := rx
  obtain ⟨mA, O, _, _, _, _⟩ := ins_get I1.hok ea
  obtain ⟨od, J, _⟩ := O.look
  obtain ⟨rest, hrec⟩ := hp.rec_
  have I2 := I1.tok (s1.toks + 1)
  have hc : (PySem.W.clsIn X.K C).isSome = true := by
    obtain ⟨cd, hc, _⟩ := PySem.W.any_some c.hd
    rw [hc] <;> rfl
  refine PySem.W.get_bind I1.kIn J (PySem.W.plainGet_of (c.get m)).1 (PySem.W.findObj_data hc hp.at_ hp.get hp.tak) (PySem.W.plainGet_of (c.get m)).2 (wpAny_call (PySem.W.prop_get (s := { s1 with toks := s1.toks + 1 }) I1.kIn hrec ?_))
  have hr1 : Room (k + 1) X.A := hr.mono hk
  refine codeAny_mono (F X.A.in1 X.stack { s1 with toks := s1.toks + 1 } H1 [.ref a] [.ref a] Q E0 hr1.in1 I2.env0.in1 (.cons rfl .nil) q) fun r s' hq => ?_
  cases r with
  | error er => exact False.elim hq
  | ok fl =>
    cases fl with
    | ret u =>
      obtain ⟨v, H', I3, rv, q3⟩ := I2.after hq
      show wpAny _ _ (handedOut u) _ _ _
      rw [PySem.W.handedOut_of (handed_of rv)]
      exact wpAny_pure ⟨v, H', I3, rv, q3⟩
    | next => exact False.elim hq
    | brk => exact False.elim hq
    | cont => exact False.elim hq
theorem pc_c (G : GC X.prog X.w X.K X.mg X.base k x C sp) (hr : Room j X.A) (ha : PA X (e :: es) t) (hg : Gl X x := by rfl) (hk : k + 1 ≤ j := by decide) (hdb : (x == ("__debug__" : Str)) = false := by decide)
    (he : starEach (e :: es) X.env = (false, eval e X.env) :: starEach es X.env := by rfl) (hpl : (backTo pos (starEach es X.env)).any (·.1) = false := by rfl) : PE X (.Call (.Name x p) (e :: es) [] pos) (tMakeR C sp E0 t) := by
  obtain ⟨f, F, M⟩ := G.ex
  exact pe_makeR M F (hr.mono hk) hg G.at_ pass0 ha hdb he hpl
/-- a class that a local name holds -/
def tMakeL (i : Nat) (C : Addr) (sp : Sp) (t : TA) : TE := fun σ H Q => σ[i]? = some (some (.ref C)) ∧ tMakeR C sp E0 t σ H Q
theorem pc_cl {i : Nat} {x' : Str} (G : GC X.prog X.w X.K X.mg X.base k x' C sp) (hr : Room j X.A) (ha : PA X (e :: es) t) (hN : X.N[i]? = some x) (hv : Vis X.env.scope x) (hk : k + 1 ≤ j := by decide) (hdb : (x == ("__debug__" : Str)) = false := by decide) (hcd : (x == ("__classdict__" : Str)) = false := by decide)
    (he : starEach (e :: es) X.env = (false, eval e X.env) :: starEach es X.env := by rfl) (hpl : (backTo pos (starEach es X.env)).any (·.1) = false := by rfl) : PE X (.Call (.Name x p) (e :: es) [] pos) (tMakeL i C sp t) := by
  obtain ⟨f, F, M⟩ := G.ex
  refine ⟨fun pins s σ H Q I h => ?_⟩
  obtain ⟨hs, ht⟩ := h
  refine wpAny_Call_Name_kw (thn ((pe_var (pos := p) hN hv hdb hcd).run pins s σ H (fun v H1 => v = .ref C ∧ H1 = H) I ⟨.ref C, hs, rfl, rfl⟩) fun u s1 ⟨v, H1, I1, r1, q1⟩ => ?_)
  obtain ⟨rfl, rfl⟩ := q1
  cases r1
  refine PySem.W.callWith_K (h₀ := X.base) I.ok.mod.kin M.kp (thn (ha.run pos pins s1 σ _ _ I1 ht) fun us s2 ⟨vs, H2, I2, r, q⟩ => ⟨I2.kIn, ?_⟩) he hpl
  exact run_makeR M F (hr.mono hk) pass0 I2 r q
/-- a def that a local name holds -/
def tCallV (i : Nat) (f : Addr) (sp : Sp) (t : TA) : TE := fun σ H Q => σ[i]? = some (some (.ref f)) ∧ t σ H fun vs H1 => sp vs H1 Q E0
theorem pc_l {i : Nat} (F : FnR X.prog X.w X.K X.mg X.base CX0 k f sp) (kp : PySem.W.keepIn X.K (.ref f) = true) (hr : Room j X.A) (ha : PA X (e :: es) t) (hN : X.N[i]? = some x) (hv : Vis X.env.scope x) (hk : k ≤ j := by decide) (hdb : (x == ("__debug__" : Str)) = false := by decide) (hcd : (x == ("__classdict__" : Str)) = false := by decide)
    (he : starEach (e :: es) X.env = (false, eval e X.env) :: starEach es X.env := by rfl) (hpl : (backTo pos (starEach es X.env)).any (·.1) = false := by rfl) : PE X (.Call (.Name x p) (e :: es) [] pos) (tCallV i f sp t) := by
  refine ⟨fun pins s σ H Q I h => ?_⟩
  obtain ⟨hs, ht⟩ := h
  refine wpAny_Call_Name_kw (thn ((pe_var (pos := p) hN hv hdb hcd).run pins s σ H (fun v H1 => v = .ref f ∧ H1 = H) I ⟨.ref f, hs, rfl, rfl⟩) fun u s1 ⟨v, H1, I1, r1, q1⟩ => ?_)
  obtain ⟨rfl, rfl⟩ := q1
  cases r1
  refine PySem.W.callWith_K (h₀ := X.base) I.ok.mod.kin kp (thn (ha.run pos pins s1 σ _ _ I1 ht) fun us s2 ⟨vs, H2, I2, r, q⟩ => ⟨I2.kIn, ?_⟩) he hpl
  exact run_at F (hr.mono hk) rfl I2 r q
/-! ### an attribute as a target -/
def gAttr (K : PySem.W.Frag) (to : TE) (f : Str) : TG := fun v σ H Q => to σ H fun x H1 => ∃ a C dx fs, x = .ref a ∧ H1 a = some (.ins C dx fs) ∧ Cls K C ∧ NoAttr K C f ∧ fs.length < 1000 ∧ Q σ (upd H1 a (.ins C dx (putF f v fs)))
theorem pg_attr {f : Str} (ho : PE X o ta) : PG X (.Attribute o f pos) (gAttr X.K ta f) := by
  refine ⟨fun pins s σ H v u Q I r h => ?_⟩
  rw [arm_assign_Attribute]
  refine wpAny_bind (wpAny_holding (thn (ho.run pins s σ H _ I h) fun ov s1 ⟨x, H1, I1, rx, a, C, dx, fs, ex, ea, c, n, l, q⟩ => ?_))
  subst ex
  obtain rfl : ov = Value.ref a := rx
  refine wpAny_bind (wpAny_standAt (wpAny_bind (wpAny_holding (setattr_ok I1 ea c n l r fun s3 I3 => ?_))))
  exact wpAny_release ⟨σ, _, I3, q⟩
/-! ### list(text), len(own), str(own) -/
theorem call_listS : CallR X (.type "list") (fun xs H Q => ∃ z : Str, xs = [.str z] ∧ X.calm = true ∧ z.length ≤ sizeLine ∧ ∀ p, H p = none → Q (.ref p) (upd H p (.lst (z.cps.toList.map fun c => V.str ⟨#[c]⟩)))) := by
  intro pins s σ H xs us Q I r h
  obtain ⟨z, rfl, hc, hz, q⟩ := h
  obtain ⟨u, rfl, t, rfl⟩ := vals1 r
  refine call_list_str (I.ok.hd hc) z t (hn := hz) fun h' tk acc' c' hk hS' hacc => ?_
  have hn := I.hok.fresh (Nat.le_refl s.heap.objs.size)
  refine ⟨.ref s.heap.objs.size, _, I.laid (o := .lst (z.cps.toList.map fun c => V.str ⟨#[c]⟩)) (t' := tk) hk (Nat.le_refl _) ⟨?_, acc'.toList, c', ?_, ?_⟩, rfl, q _ hn⟩
  · rw [List.length_map, Array.length_toList]
    exact hz
  · have key : ∀ (l : List Nat) (us : List Value), us.length = l.length → (∀ (i : Nat) (v : Value), us[i]? = some v → ∃ c u, l[i]? = some c ∧ v = .str ⟨#[c]⟩ u) → Vals (l.map fun c => V.str ⟨#[c]⟩) us := by
      intro l
      induction l with
      | nil =>
        intro us hl _
        cases us with
        | nil => exact .nil
        | cons a b => simp at hl
      | cons c l ih =>
        intro us hl hu
        cases us with
        | nil => simp at hl
        | cons a b =>
          obtain ⟨c', u, e1, e2⟩ := hu 0 a rfl
          have e1' : c = c' := by simpa using e1
          refine .cons ⟨u, by rw [e2, e1']⟩ (ih b (by simpa using hl) fun i v e => ?_)
          have := hu (i + 1) v (by simpa using e)
          simpa using this
    refine key _ _ (by simpa using hacc.1) fun i v e => ?_
    obtain ⟨c, u, e1, e2⟩ := hacc.2 i v (by simpa using e)
    exact ⟨c, u, by simpa using e1, e2⟩
  · simpa using hS'
theorem cr_lenOwn (G : ∃ f, FnR X.prog X.w X.K X.mg X.base CX0 k f sp ∧ PySem.W.findIn X.K (.ref C) "__len__" = some (some (.ref f)) ∧ PySem.W.isFn X.K (.ref f) = true) (hr : Room j X.A) (hk : k + 1 ≤ j := by decide) :
    CallR X (.builtin "len") (fun xs H Q => ∃ a dx fs, xs = [.ref a] ∧ H a = some (.ins C dx fs) ∧ sp [.ref a] H (fun v H' => ∃ n : Nat, v = .int n ∧ n < 2 ^ 63 ∧ Q (.int n) H') E0) := by
  obtain ⟨f, F, hs, hf⟩ := G
  intro pins s σ H xs us Q I r h
  obtain ⟨a, dx, fs, rfl, ea, q⟩ := h
  obtain ⟨u, rfl, ru⟩ := vals1 r
  cases ru
  obtain ⟨mA, O, _, _, _, _⟩ := ins_get I.hok ea
  obtain ⟨od, J, _⟩ := O.look
  obtain ⟨mm, F0⟩ := I.fr
  have hr1 : Room (k + 1) X.A := hr.mono hk
  refine PySem.W.len_K F0 I.ok.mod.kin J hs hf (thn (run_at (us := [.ref a]) (vs := [.ref a]) F hr1.in1 rfl I (.cons rfl .nil) q) fun v s2 ⟨y, H2, I2, ry, n, ey, hn, q2⟩ => ?_)
  subst ey
  obtain ⟨t, rfl⟩ := ry
  exact ⟨⟨by omega, by omega⟩, .int n, H2, I2.tok _, ⟨_, rfl⟩, q2⟩
theorem cr_strOwn (G : ∃ f, FnR X.prog X.w X.K X.mg X.base CX0 k f sp ∧ PySem.W.findIn X.K (.ref C) "__str__" = some (some (.ref f)) ∧ PySem.W.isFn X.K (.ref f) = true) (hr : Room j X.A) (hk : k + 2 ≤ j := by decide) :
    CallR X (.type "str") (fun xs H Q => ∃ a dx fs, xs = [.ref a] ∧ H a = some (.ins C dx fs) ∧ sp [.ref a] H (fun v H' => ∃ z : Str, v = .str z ∧ Q (.str z) H') E0) := by
  obtain ⟨f, F, hs, hf⟩ := G
  intro pins s σ H xs us Q I r h
  obtain ⟨a, dx, fs, rfl, ea, q⟩ := h
  obtain ⟨u, rfl, ru⟩ := vals1 r
  cases ru
  obtain ⟨mA, O, _, _, _, _⟩ := ins_get I.hok ea
  obtain ⟨od, J, _⟩ := O.look
  have hr1 : Room (k + 2) X.A := hr.mono hk
  refine PySem.W.kso_call hr1.in1.in1.units0 I.kIn J hs hf (thn (run_at (us := [.ref a]) (vs := [.ref a]) F hr1.in1.in1 rfl I (.cons rfl .nil) q) fun v s2 ⟨y, H2, I2, ry, z, ey, q2⟩ => ?_)
  subst ey
  obtain ⟨t, rfl⟩ := ry
  exact ⟨.str z, H2, I2, ⟨_, rfl⟩, q2⟩
end
end Gt

set_option Elab.async false
set_option linter.all false
set_option maxRecDepth 100000
set_option maxHeartbeats 2000000
namespace Gt
open PySem PySem.Spec PyProof.Rows L2 StX
section
variable {prog : Program} {w : World} {A : Around} {E : Value → Shared → Prop} {s : Shared} {K : PySem.W.Frag} {x y C f : Addr} {ox : Obj} {od : Option Obj}
theorem bound_builtin {M : Model} {name : Str} {id : String} {args : List Value} {Q : Option Value → Shared → Prop} (X : K.In s.heap) (I : PySem.W.InstAt s.heap x ox C od) (hs : PySem.W.findIn K (.ref C) name = some (some (.builtin id)))
    (hb : ∀ self, bindSpecial (.builtin id) self = pure (.builtin id, [self])) (h : wpAny M A (call (.builtin id) (.ref x :: args)) (fun v => Q (some v)) E s) : wpAny M A (callSpecialIfBound? (.ref x) name args) Q E s := by
  simp only [callSpecialIfBound?, bindSpecialIfBound?]
  refine wpAny_holding (wpAny_bind (wpAny_bind (wpAny_bind (I.type.here ((PySem.W.looks_findIn X hs).here ?_)))))
  refine wpAny_bind (wpAny_askSetting (wpAny_ite ?_))
  have fin : wpAny M A (call (.builtin id) ([.ref x] ++ args) >>= fun v => pure (some v)) Q E s := wpAny_bind (wpAny_mono h (fun v s' h' => wpAny_pure h') fun _ _ h' => h')
  split
  · refine wpAny_bind (wpAny_of_eq (hb _) (wpAny_pure (by exact fin)))
  · exact wpAny_tryCatch (wpAny_bind (wpAny_of_eq (hb _) (wpAny_pure (by exact fin))))

open Builtin in
theorem objNe_K {y : Value} {Q : Fin → Shared → Prop} (hu : A.units < cLine) (X : K.In s.heap) (I : PySem.W.InstAt s.heap x ox C od) (he : PySem.W.findIn K (.ref C) "__eq__" = some (some (.ref f))) (hf : PySem.W.isFn K (.ref f) = true)
    (h : wpAny (model prog w) A (call (.ref f) [.ref x, y]) (fun v s' => ∃ b, v = .bool b ∧ Q (.done (.ret (.bool (!b)))) s') E s) :
    wpAny (model prog w) A (Builtin.«object.__ne__» ⟨[.ref x, y], []⟩) Q E s := by
  unfold Builtin.«object.__ne__»
  repeat (first
    | with_reducible refine wpAny_cRoomFor hu ?_
    | (refine wpAny_bind (m := callSpecialIfBound? (.ref x) (Str.ofString "__eq__") [y])
        (PySem.W.ifBound_K X I he hf (wpAny_mono h (fun r s' hr => by
          obtain ⟨b, rfl, hq⟩ := hr
          repeat (first | exact hq | exact wpAny_pure hq | exact wpAny_truthy_bool hq | (refine wpAny_bind (m := truthy (.bool _)) (wpAny_truthy_bool ?_)) | wp_step)) fun _ _ e => e)))
    | wp_step)
theorem ne_K {y : Addr} {oy : Obj} {dy : Option Obj} {Q : Value → Shared → Prop} (hu : A.units + 1 < cLine) (X : K.In s.heap) (I : PySem.W.InstAt s.heap x ox C od) (Iy : PySem.W.InstAt s.heap y oy C dy)
    (hn : PySem.W.findIn K (.ref C) "__ne__" = some (some (.builtin "object.__ne__"))) (hm : PySem.W.mroIn K C (.type "object") = some true)
    (he : PySem.W.findIn K (.ref C) "__eq__" = some (some (.ref f))) (hf : PySem.W.isFn K (.ref f) = true)
    (h : wpAny (model prog w) A.in1 (call (.ref f) [.ref x, .ref y]) (fun v s' => ∃ b, v = .bool b ∧ Q (.bool (!b)) s') E s) :
    wpAny (model prog w) A (compareOp .NotEq (.ref x) (.ref y)) Q E s := by
  have one : wpAny (model prog w) A (tryCompare (.ref x) "__ne__" (.ref y)) (fun r s' => ∃ v, r = some v ∧ Q v s') E s := by
    unfold tryCompare
    refine wpAny_bind (bound_builtin X I hn PySem.F.cmp_object.ne.bind (wpAny_call (codeAny_call_builtin PySem.F.cmp_object.ne.plain PySem.F.cmpEntry_ne
      (PySem.W.check_slot (i := "object.__ne__") (owner := "object") (n := "__ne__") PySem.F.cmpKind_ne PySem.F.cmpSplit_ne (I.type.andThen (PySem.W.looks_mroIn X hm)) (PySem.F.cmpArgs_ne _ _)
        (objNe_K (A := A.in1) (by exact hu) X I he hf (wpAny_mono h (fun v s' hv => ?_) fun _ _ e => e))))))
    obtain ⟨b, rfl, hq⟩ := hv
    first
      | exact ⟨b, rfl, wpAny_pure ⟨_, rfl, hq⟩⟩
      | exact ⟨b, rfl, wpAny_pure (wpAny_pure ⟨_, rfl, hq⟩)⟩
      | exact ⟨b, rfl, ⟨_, rfl, hq⟩⟩
  show wpAny (model prog w) A (richCompare .NotEq (.ref x) (.ref y)) Q E s
  unfold richCompare
  simp only [oneThing_ref]
  refine wpAny_holding (wpAny_bind (wpAny_cRoomFor (Nat.lt_of_succ_lt hu) ?_))
  refine wpAny_bind (I.type.here (wpAny_bind (Iy.type.here ?_)))
  rw [show (Value.ref C != Value.ref C) = false from by simp]
  simp only [Bool.false_eq_true, if_false]
  refine wpAny_bind (wpAny_pure ?_)
  simp only [Bool.false_eq_true, if_false]
  refine wpAny_bind (wpAny_mono one (fun r s' z => ?_) fun _ _ e => e)
  obtain ⟨v, rfl, hq⟩ := z
  exact wpAny_pure hq
end
section
variable {X : Cx} {k j kx : Nat} {sp spE spX : Sp} {x y : Str} {C f : Addr}
theorem op_neOwn (G : ∃ f, FnR X.prog X.w X.K X.mg X.base CX0 k f sp ∧ PySem.W.findIn X.K (.ref C) "__eq__" = some (some (.ref f)) ∧ PySem.W.isFn X.K (.ref f) = true)
    (hn : PySem.W.findIn X.K (.ref C) "__ne__" = some (some (.builtin "object.__ne__"))) (hm : PySem.W.mroIn X.K C (.type "object") = some true) (hr : Room j X.A) (hk : k + 1 ≤ j := by decide) :
    OpR X (compareOp .NotEq) (fun x y H Q => ∃ a b dx dy fs gs, x = .ref a ∧ y = .ref b ∧ H a = some (.ins C dx fs) ∧ H b = some (.ins C dy gs) ∧ sp [.ref a, .ref b] H (fun v H' => ∃ c, v = .bl c ∧ Q (.bl (!c)) H') E0) := by
  obtain ⟨f, F, he, hf⟩ := G
  intro pins s σ H x y v u Q I rx ry h
  obtain ⟨a, b, dx, dy, fs, gs, rfl, rfl, ea, eb, q⟩ := h
  cases rx
  cases ry
  obtain ⟨mA, O, _, _, _, _⟩ := ins_get I.hok ea
  obtain ⟨mB, O', _, _, _, _⟩ := ins_get I.hok eb
  obtain ⟨od, J, _⟩ := O.look
  obtain ⟨od', J', _⟩ := O'.look
  have hr1 : Room (k + 1) X.A := hr.mono hk
  refine ne_K (by have := hr1.units; omega) I.kIn J J' hn hm he hf (thn (run_at (us := [.ref a, .ref b]) (vs := [.ref a, .ref b]) F hr1.in1 rfl I (.cons rfl (.cons rfl .nil)) q) fun v s2 ⟨y, H2, I2, ry, c, ey, q2⟩ => ?_)
  subst ey
  cases ry
  exact ⟨c, rfl, .bl (!c), H2, I2, rfl, q2⟩
/-! ### with C(..) as name -/
def tWith (C : Addr) (spE spX : Sp) (i : Nat) (tc : TE) (tb : TS) : TS := fun D σ H => tc σ H fun x H1 => ∃ a dx fs, x = .ref a ∧ H1 a = some (.ins C dx fs) ∧ spE [.ref a] H1 (fun v H2 =>
  tb ⟨fun σ' H' => spX [.ref a, .non, .non, .non] H' (fun _ H'' => D.nx σ' H'') E0, fun r H' => spX [.ref a, .non, .non, .non] H' (fun _ H'' => D.rt r H'') E0,
    fun σ' H' => spX [.ref a, .non, .non, .non] H' (fun _ H'' => D.bk σ' H'') E0, fun σ' H' => spX [.ref a, .non, .non, .non] H' (fun _ H'' => D.ct σ' H'') E0⟩ (σ.set i (some v)) H2) E0
theorem ps_with {ctx : Expr} {i : Nat} {py pos : Pos} {body : List Stmt} {tc : TE} {tb : TS} (hc : PE X ctx tc)
    (GE : ∃ f, FnR X.prog X.w X.K X.mg X.base CX0 k f spE ∧ PySem.W.findIn X.K (.ref C) "__enter__" = some (some (.ref f)) ∧ PySem.W.isFn X.K (.ref f) = true)
    (GX : ∃ f, FnR X.prog X.w X.K X.mg X.base CX0 kx f spX ∧ PySem.W.findIn X.K (.ref C) "__exit__" = some (some (.ref f)) ∧ PySem.W.isFn X.K (.ref f) = true)
    (hr : Room j X.A) (hN : X.N.Nodup) (hi : X.N[i]? = some y) (hx : Loc X.env.scope y) (hb : PSs X.nox body tb) (hk : k ≤ j := by decide) (hkx : kx ≤ j := by decide)
    (hf : X.fn y = true ∨ X.env.scope.names.lookup y = some .local := by first | exact .inl rfl | exact .inr rfl) :
    PS X (.With [⟨ctx, some (.Name y py)⟩] body pos) (tWith C spE spX i tc tb) := by
  obtain ⟨fe, FE, he, hfe⟩ := GE
  obtain ⟨fx, FX, hxx, hfx⟩ := GX
  refine ⟨fun pins s σ H D I h => ?_⟩
  refine PySem.W.kw_execN (thn (hc.run pins s σ H _ I h) fun u s1 ⟨x, H1, I1, rx, a, dx, fs, ex, ea, q⟩ => ?_)
  subst ex
  obtain rfl : u = Value.ref a := rx
  obtain ⟨mA, O, _, _, _, _⟩ := ins_get I1.hok ea
  obtain ⟨od, J, _⟩ := O.look
  obtain ⟨mm, F0⟩ := I1.fr
  refine PySem.W.kw_inN F0 I1.ok.mod.kin J he hfe hxx hfx (thn (run_at (us := [.ref a]) (vs := [.ref a]) FE (hr.mono hk) rfl I1 (.cons rfl .nil) q) fun v s2 ⟨z, H2, I2, rz, q2⟩ => ?_)
  refine store_ok I2 hN hi hx rz (fun s3 I3 => ?_) hf
  refine wpAny_mono (hb.run pins s3 _ H2 _ (I3.wish _) q2) (fun fl s4 hq => ?_) fun _ _ z => z
  have exit : ∀ {Q' : Hp → Prop} {σ' : L2.St} {H' : Hp} {R : Shared → Prop}, L2.Inv X pins σ' H' s4 → spX [.ref a, .non, .non, .non] H' (fun _ H'' => Q' H'') E0 → (∀ s5 H'', L2.Inv X pins σ' H'' s5 → Q' H'' → R s5) →
      wpAny (model X.prog X.w) X.A (call (.ref fx) [.ref a, .none, .none, .none]) (fun _ s5 => R s5) X.xe s4 := fun {Q' σ' H' R} I4 q4 k4 =>
    thn (run_at (us := [.ref a, .none, .none, .none]) (vs := [.ref a, .non, .non, .non]) FX (hr.mono hkx) rfl I4 (.cons rfl (.cons rfl (.cons rfl (.cons rfl .nil)))) q4) fun _ s5 ⟨_, H'', I5, _, q5⟩ => k4 s5 H'' I5 q5
  show wpAny (model X.prog X.w) X.A (call (.ref fx) [.ref a, .none, .none, .none]) (fun _ s5 => SP X pins D fl s5) X.xe s4
  cases fl with
  | next =>
    obtain ⟨σ', H', I4, q4⟩ := hq.unwish
    exact exit I4 q4 fun s5 H'' I5 q5 => ⟨σ', H'', I5, q5⟩
  | brk =>
    obtain ⟨σ', H', I4, q4⟩ := hq.unwish
    exact exit I4 q4 fun s5 H'' I5 q5 => ⟨σ', H'', I5, q5⟩
  | cont =>
    obtain ⟨σ', H', I4, q4⟩ := hq.unwish
    exact exit I4 q4 fun s5 H'' I5 q5 => ⟨σ', H'', I5, q5⟩
  | ret u =>
    obtain ⟨r, σ', H', I4, rr, q4⟩ := hq.unwish
    exact exit I4 q4 fun s5 H'' I5 q5 => ⟨r, σ', H'', I5, rr, q5⟩
end
end Gt

set_option Elab.async false
set_option linter.all false
set_option maxRecDepth 100000
set_option maxHeartbeats 2000000
namespace Gt
open PySem PySem.Spec PyProof.Rows L2 StX
/-! ### the programs, plainly -/
structure Sett where
  src : Option Nat
  hd : Str
  tl : Str
  tn : Bool
inductive Part where
  | box (n : Nat) | tur (n : Nat) | told (x : Str)
abbrev Way := Nat × List Sett
structure Prg where
  signs : Str
  letters : Str
  m0 : Nat
  t0 : List Str
  ways : List (List Way)
  ends : List (Option (List Part))
abbrev Stand := Nat × List Str
def Sett.over (s : Sett) (ts : List Str) : Str := match s.src with
  | none => s.hd
  | some n => s.hd ++ (if s.tn then revS (ts.getD n Str.empty) else ts.getD n Str.empty) ++ s.tl
def Part.text (ts : List Str) : Part → Str
  | .box n => ts.getD n Str.empty
  | .tur n => revS (ts.getD n Str.empty)
  | .told x => x
def rowText (ts : List Str) : List Part → Str
  | [] => Str.empty
  | p :: r => p.text ts ++ rowText ts r
def Prg.led (p : Prg) (now : Stand) (k : Nat) : Stand :=
  let w := (p.ways.getD now.1 []).getD k (0, [])
  (w.1, w.2.map fun s => s.over now.2)
def Prg.shown (p : Prg) (now : Stand) : Option Str := (p.ends.getD now.1 none).map fun r => rowText now.2 r
def Prg.stood (p : Prg) (ks : List Nat) : Stand := ks.foldl p.led (p.m0, p.t0)
/-! ### what is well-formed -/
def Of (signs x : Str) : Prop := ∀ c ∈ x.cps.toList, c ∈ signs.cps.toList
def Low (x : Str) : Prop := ∀ c ∈ x.cps.toList, 97 ≤ c ∧ c ≤ 122
structure SettOk (signs : Str) (boxes : Nat) (s : Sett) : Prop where
  hd : Of signs s.hd
  tl : Of signs s.tl
  hl : s.hd.length ≤ 2
  tll : s.tl.length ≤ 2
  src : ∀ n, s.src = some n → n < boxes
  non : s.src = none → s.tl = Str.empty ∧ s.tn = false
def PartOk (signs : Str) (boxes : Nat) : Part → Prop
  | .box n => n < boxes
  | .tur n => n < boxes
  | .told x => x ≠ Str.empty ∧ Of signs x ∧ x.length ≤ 2
structure WayOk (signs : Str) (modes boxes : Nat) (w : Way) : Prop where
  m : w.1 < modes
  n : w.2.length = boxes
  s : ∀ x ∈ w.2, SettOk signs boxes x
def EndOk (signs : Str) (boxes : Nat) (e : Option (List Part)) : Prop := ∀ ps, e = some ps → ps.length ≤ 3 ∧ ∀ q ∈ ps, PartOk signs boxes q
structure WF (p : Prg) : Prop where
  low : Low p.signs
  nd : p.signs.cps.toList.Nodup
  s1 : 1 ≤ p.signs.length
  s3 : p.signs.length ≤ 3
  let' : p.letters = "xy"
  b1 : 1 ≤ p.t0.length
  b2 : p.t0.length ≤ 2
  t0 : ∀ x ∈ p.t0, Of p.signs x ∧ x.length ≤ 1000
  w1 : 1 ≤ p.ways.length
  w3 : p.ways.length ≤ 3
  m0 : p.m0 < p.ways.length
  rows : ∀ row ∈ p.ways, row.length = 2 ∧ ∀ w ∈ row, WayOk p.signs p.ways.length p.t0.length w
  el : p.ends.length = p.ways.length
  en : ∀ e ∈ p.ends, EndOk p.signs p.t0.length e
structure StandOk (signs : Str) (modes boxes L : Nat) (now : Stand) : Prop where
  m : now.1 < modes
  n : now.2.length = boxes
  t : ∀ x ∈ now.2, Of signs x ∧ x.length ≤ L
/-- the same signs, letters, numbers of modes and of boxes -/
structure Kin (p q : Prg) : Prop where
  s : q.signs = p.signs
  l : q.letters = p.letters
  m : q.ways.length = p.ways.length
  b : q.t0.length = p.t0.length
theorem len_app (a b : Str) : (a ++ b).length = a.length + b.length := by
  show (a.cps ++ b.cps).size = _
  rw [Array.size_append] <;> rfl
theorem of_app {s a b : Str} (h1 : Of s a) (h2 : Of s b) : Of s (a ++ b) := fun c hc => by
  have e : (a ++ b).cps.toList = a.cps.toList ++ b.cps.toList := by
    show (a.cps ++ b.cps).toList = _
    rw [Array.toList_append]
  rw [e] at hc
  rcases List.mem_append.mp hc with h | h
  · exact h1 c h
  · exact h2 c h
theorem of_rev {s a : Str} (h : Of s a) : Of s (revS a) := fun c hc => h c (by
  have e : (revS a).cps.toList = a.cps.toList.reverse := rfl
  rw [e] at hc
  exact List.mem_reverse.mp hc)
theorem of_empty {s : Str} : Of s Str.empty := fun c hc => by cases hc
theorem getD_ok {P : Str → Prop} {ts : List Str} (h : ∀ x ∈ ts, P x) {n : Nat} (hn : n < ts.length) : P (ts.getD n Str.empty) := by
  rw [List.getD_eq_getElem?_getD, List.getElem?_eq_getElem hn]
  exact h _ (List.getElem_mem hn)
theorem over_ok {signs : Str} {boxes L : Nat} {s : Sett} {ts : List Str} (hs : SettOk signs boxes s) (hn : ts.length = boxes) (ht : ∀ x ∈ ts, Of signs x ∧ x.length ≤ L) : Of signs (s.over ts) ∧ (s.over ts).length ≤ L + 4 := by
  have hh := hs.hl
  have ht' := hs.tll
  unfold Sett.over
  cases e : s.src with
  | none => exact ⟨hs.hd, by show s.hd.length ≤ _; omega⟩
  | some n =>
    obtain ⟨g1, g2⟩ := getD_ok ht (by rw [hn]; exact hs.src n e)
    cases s.tn with
    | true =>
      refine ⟨of_app (of_app hs.hd (of_rev g1)) hs.tl, ?_⟩
      show (s.hd ++ revS _ ++ s.tl).length ≤ _
      rw [len_app, len_app, revS_len]
      omega
    | false =>
      refine ⟨of_app (of_app hs.hd g1) hs.tl, ?_⟩
      show (s.hd ++ ts.getD n Str.empty ++ s.tl).length ≤ _
      rw [len_app, len_app]
      omega
theorem way_at {p : Prg} (h : WF p) {m k : Nat} (hm : m < p.ways.length) (hk : k < 2) : ∃ row w, p.ways[m]? = some row ∧ row[k]? = some w ∧ row.length = 2 ∧ WayOk p.signs p.ways.length p.t0.length w ∧ (p.ways.getD m []).getD k (0, []) = w := by
  obtain ⟨h2, h3⟩ := h.rows _ (List.getElem_mem hm)
  have hk' : k < (p.ways[m]).length := by rw [h2]; exact hk
  refine ⟨_, _, List.getElem?_eq_getElem hm, List.getElem?_eq_getElem hk', h2, h3 _ (List.getElem_mem hk'), ?_⟩
  simp [List.getD_eq_getElem?_getD, List.getElem?_eq_getElem hm, List.getElem?_eq_getElem hk']
theorem led_ok {p : Prg} (h : WF p) {now : Stand} {L k : Nat} (hs : StandOk p.signs p.ways.length p.t0.length L now) (hk : k < 2) : StandOk p.signs p.ways.length p.t0.length (L + 4) (p.led now k) := by
  obtain ⟨row, w, e1, e2, e3, hw, e⟩ := way_at h hs.m hk
  have el : p.led now k = (w.1, w.2.map fun s => s.over now.2) := by
    unfold Prg.led
    rw [e]
  rw [el]
  refine ⟨hw.m, by rw [List.length_map]; exact hw.n, fun x hx => ?_⟩
  obtain ⟨s, hs', rfl⟩ := List.mem_map.mp hx
  exact over_ok (hw.s s hs') hs.n hs.t
theorem begin_ok {p : Prg} (h : WF p) : StandOk p.signs p.ways.length p.t0.length 1000 (p.m0, p.t0) := ⟨h.m0, rfl, h.t0⟩
/-! ### the double -/
structure Dbl (p q : Prg) (d : Nat) : Prop where
  s : q.signs = p.signs
  l : q.letters = p.letters
  m0 : q.m0 = p.m0
  t0 : q.t0 = p.t0
  dd : d < p.ways.length
  wl : q.ways.length = p.ways.length + 1
  el : q.ends.length = p.ways.length + 1
  w : ∀ i, i ≤ p.ways.length → ∀ k, k < 2 → ∃ l l' ss, (p.ways.getD (if i = p.ways.length then d else i) []).getD k (0, []) = (l, ss) ∧ (q.ways.getD i []).getD k (0, []) = (l', ss) ∧ (l' = l ∨ (l = d ∧ l' = p.ways.length))
  e : ∀ i, i ≤ p.ways.length → q.ends.getD i none = p.ends.getD (if i = p.ways.length then d else i) none
structure Tw (p : Prg) (d : Nat) (a b : Stand) : Prop where
  t : b.2 = a.2
  m : a.1 < p.ways.length
  b : b.1 = a.1 ∨ (a.1 = d ∧ b.1 = p.ways.length)
theorem Tw.ix {p : Prg} {d : Nat} {a b : Stand} (h : Tw p d a b) : b.1 ≤ p.ways.length ∧ (if b.1 = p.ways.length then d else b.1) = a.1 := by
  have hm := h.m
  rcases h.b with e | ⟨e1, e2⟩
  · rw [e]
    exact ⟨by omega, if_neg (by omega)⟩
  · rw [e2, if_pos rfl]
    exact ⟨Nat.le_refl _, e1.symm⟩
theorem Tw.led {p q : Prg} {d : Nat} (hp : WF p) (D : Dbl p q d) {a b : Stand} (h : Tw p d a b) {k : Nat} (hk : k < 2) : Tw p d (p.led a k) (q.led b k) := by
  obtain ⟨i1, i2⟩ := h.ix
  obtain ⟨l, l', ss, e1, e2, e3⟩ := D.w b.1 i1 k hk
  rw [i2] at e1
  obtain ⟨row, w, _, _, _, hw, e⟩ := way_at hp h.m hk
  have el : w = (l, ss) := by rw [← e, e1]
  have a1 : p.led a k = (l, ss.map fun s => s.over a.2) := by unfold Prg.led; rw [e1]
  have b1 : q.led b k = (l', ss.map fun s => s.over b.2) := by unfold Prg.led; rw [e2]
  rw [a1, b1, h.t]
  refine ⟨rfl, ?_, ?_⟩
  · have := hw.m
    rw [el] at this
    exact this
  · rcases e3 with e3 | ⟨e3, e4⟩
    · exact .inl e3
    · exact .inr ⟨e3, e4⟩
theorem Tw.shown {p q : Prg} {d : Nat} (D : Dbl p q d) {a b : Stand} (h : Tw p d a b) : q.shown b = p.shown a := by
  obtain ⟨i1, i2⟩ := h.ix
  unfold Prg.shown
  rw [D.e b.1 i1, i2, h.t]
theorem Tw.start {p q : Prg} {d : Nat} (hp : WF p) (D : Dbl p q d) : Tw p d (p.m0, p.t0) (q.m0, q.t0) := ⟨D.t0, hp.m0, .inl D.m0⟩

/-! ### heaps -/
def Kp (M : List Addr) (H H' : Hp) : Prop := ∀ a o, a ∉ M → H a = some o → H' a = some o
theorem Kp.refl {M : List Addr} {H : Hp} : Kp M H H := fun _ _ _ h => h
theorem Kp.trans {M : List Addr} {H H1 H2 : Hp} (a : Kp M H H1) (b : Kp M H1 H2) : Kp M H H2 := fun x o n h => b x o n (a x o n h)
theorem Kp.of {M : List Addr} {H H' : Hp} (h : Same H H') : Kp M H H' := fun a o _ e => h a o e
theorem Kp.mono {M N : List Addr} {H H' : Hp} (h : Kp M H H') (s : ∀ a ∈ M, a ∈ N) : Kp N H H' := fun a o n e => h a o (fun q => n (s a q)) e
theorem Same.upd {H : Hp} {p : Addr} {o : HO} (h : H p = none) : Same H (L2.upd H p o) := fun a u e => by
  rw [upd_ne (ne_of_none e h)]
  exact e
theorem Same.of {H H' : Hp} (h : Kp [] H H') : Same H H' := fun a o e => h a o (by simp) e
theorem Kp.upd {M : List Addr} {H : Hp} {p : Addr} {o : HO} (h : p ∈ M) : Kp M H (L2.upd H p o) := fun a u n e => by
  rw [upd_ne (fun q => n (by rw [q]; exact h))]
  exact e
/-- the heap without what may change -/
def hid (S : List Addr) (H : Hp) : Hp := fun a => if a ∈ S then none else H a
theorem hid_at {S : List Addr} {H : Hp} {a : Addr} (h : a ∉ S) : hid S H a = H a := by
  unfold hid
  rw [if_neg h]
theorem hid_le {S : List Addr} {H : Hp} : Same (hid S H) H := fun a o e => by
  unfold hid at e
  split at e
  · cases e
  · exact e
theorem hid_in {S : List Addr} {H : Hp} {a : Addr} {o : HO} (h : hid S H a = some o) : a ∉ S := fun q => by
  unfold hid at h
  rw [if_pos q] at h
  cases h
theorem hid_kp {S M : List Addr} {H H' : Hp} (h : Kp M H H') (s : ∀ a ∈ M, a ∈ S) : Same (hid S H) (hid S H') := fun a o e => by
  have n := hid_in e
  rw [hid_at n] at e ⊢
  exact h a o (fun q => n (s a q)) e
theorem hid_same {S : List Addr} {H H' : Hp} (h : Same H H') : Same (hid S H) (hid S H') := hid_kp (M := []) (fun a o _ e => h a o e) (by simp)
theorem hid_mono {S S' : List Addr} {H : Hp} (s : ∀ a ∈ S, a ∈ S') : Same (hid S' H) (hid S H) := fun a o e => by
  have n := hid_in e
  rw [hid_at n] at e
  rw [hid_at fun q => n (s a q)]
  exact e
def Dom (S : List Addr) (H : Hp) : Prop := ∀ a ∈ S, H a ≠ none
theorem Dom.same {S : List Addr} {H H' : Hp} (d : Dom S H) (h : Same H H') : Dom S H' := fun a ha e => by
  cases q : H a with
  | none => exact d a ha q
  | some o =>
    rw [h a o q] at e
    cases e
theorem Dom.kp {S M : List Addr} {H H' : Hp} (d : Dom S H) (h : Kp M H H') (hm : ∀ a ∈ M, H' a ≠ none) : Dom S H' := fun a ha e => by
  by_cases q : a ∈ M
  · exact hm a q e
  · cases z : H a with
    | none => exact d a ha z
    | some o =>
      rw [h a o q z] at e
      cases e
theorem Dom.new {S : List Addr} {H : Hp} {p : Addr} (d : Dom S H) (h : H p = none) : p ∉ S := fun q => d p q h
theorem Dom.nil {H : Hp} : Dom [] H := fun a h => by cases h
theorem Dom.cons {S : List Addr} {H : Hp} {p : Addr} {o : HO} (h : H p = some o) (d : Dom S H) : Dom (p :: S) H := fun a ha e => by
  rcases List.mem_cons.mp ha with q | q
  · rw [q, h] at e
    cases e
  · exact d a q e
/-- a new object -/
theorem newp {S : List Addr} {H : Hp} {o : HO} {Q : VK} (d : Dom S H) (k : ∀ p H1, Same H H1 → Dom S H1 → H p = none → H1 p = some o → hid S H1 p = some o → Q (.ref p) H1) : ∀ p, H p = none → Q (.ref p) (L2.upd H p o) := fun p hp =>
  k p _ (Same.upd hp) (d.same (Same.upd hp)) hp upd_same (by rw [hid_at (d.new hp)]; exact upd_same)
theorem sqL {K : PySem.W.Frag} {H : Hp} {a : Addr} {xs : List V} (h : H a = some (.lst xs)) : SqL K H a xs := .inl (.inl h)
theorem sqT {K : PySem.W.Frag} {H : Hp} {a : Addr} {xs : List V} (h : H a = some (.tup xs)) : SqT K H a xs := .inl (.inl h)
theorem hsqL {K : PySem.W.Frag} {S : List Addr} {H : Hp} {a : Addr} {xs : List V} (h : hid S H a = some (.lst xs)) : SqL K H a xs := sqL (hid_le _ _ h)
theorem hsqT {K : PySem.W.Frag} {S : List Addr} {H : Hp} {a : Addr} {xs : List V} (h : hid S H a = some (.tup xs)) : SqT K H a xs := sqT (hid_le _ _ h)
/-! ### lists of things -/
abbrev All2 {α : Type} (R : V → α → Prop) (vs : List V) (xs : List α) : Prop := Paired R vs xs
section
variable {α β : Type} {R R' : V → α → Prop}
theorem All2.mono {vs : List V} {xs : List α} (h : All2 R vs xs) (k : ∀ v x, R v x → R' v x) : All2 R' vs xs := Paired.mapP h k
theorem All2.len {vs : List V} {xs : List α} (h : All2 R vs xs) : vs.length = xs.length := Paired.length h
theorem All2.get : ∀ {vs : List V} {xs : List α}, All2 R vs xs → ∀ {i : Nat} {v : V}, vs[i]? = some v → ∃ x, xs[i]? = some x ∧ R v x
  | _, _, .nil, i, v, e => by simp at e
  | _, _, .cons r _, 0, v, e => by
    simp at e
    subst e
    exact ⟨_, rfl, r⟩
  | _, _, .cons _ t, i + 1, v, e => by
    obtain ⟨x, h1, h2⟩ := All2.get t (i := i) (v := v) (by simpa using e)
    exact ⟨x, by simpa using h1, h2⟩
theorem All2.at : ∀ {vs : List V} {xs : List α}, All2 R vs xs → ∀ {i : Nat} {x : α}, xs[i]? = some x → ∃ v, vs[i]? = some v ∧ R v x
  | _, _, .nil, i, v, e => by simp at e
  | _, _, .cons r _, 0, v, e => by
    simp at e
    subst e
    exact ⟨_, rfl, r⟩
  | _, _, .cons _ t, i + 1, v, e => by
    obtain ⟨x, h1, h2⟩ := All2.at t (i := i) (x := v) (by simpa using e)
    exact ⟨x, by simpa using h1, h2⟩
theorem All2.snoc : ∀ {vs : List V} {xs : List α} {v : V} {x : α}, All2 R vs xs → R v x → All2 R (vs ++ [v]) (xs ++ [x])
  | _, _, _, _, .nil, r => .cons r .nil
  | _, _, _, _, .cons a t, r => .cons a (All2.snoc t r)
theorem All2.app : ∀ {vs ws : List V} {xs ys : List α}, All2 R vs xs → All2 R ws ys → All2 R (vs ++ ws) (xs ++ ys)
  | _, _, _, _, .nil, r => r
  | _, _, _, _, .cons a t, r => .cons a (All2.app t r)
theorem All2.set : ∀ {vs : List V} {xs : List α} {v : V} {x : α} (i : Nat), All2 R vs xs → R v x → All2 R (vs.set i v) (xs.set i x)
  | _, _, _, _, _, .nil, _ => .nil
  | _, _, _, _, 0, .cons _ t, r => .cons r t
  | _, _, _, _, i + 1, .cons a t, r => .cons a (All2.set i t r)
theorem all2_str : ∀ (xs : List Str), All2 (fun v x => v = .str x) (xs.map V.str) xs
  | [] => .nil
  | _ :: r => .cons rfl (all2_str r)
theorem All2.strs : ∀ {vs : List V} {xs : List Str}, All2 (fun v x => v = .str x) vs xs → vs = xs.map V.str
  | _, _, .nil => rfl
  | _, _, .cons a t => by rw [a, List.map_cons, All2.strs t]
theorem All2.bls : ∀ {vs : List V} {xs : List Bool}, All2 (fun v x => v = .bl x) vs xs → vs = xs.map V.bl
  | _, _, .nil => rfl
  | _, _, .cons a t => by rw [a, List.map_cons, All2.bls t]
end
/-! ### the law's data -/
def vN (o : Option Nat) : V := match o with
  | none => .non
  | some n => .int (n : Nat)
def rSett (G : Hp) (v : V) (s : Sett) : Prop := ∃ a, v = .ref a ∧ G a = some (.tup [vN s.src, .str s.hd, .str s.tl, .bl s.tn])
def rWay (G : Hp) (v : V) (w : Way) : Prop := ∃ a b vs, v = .ref a ∧ G a = some (.tup [.int (w.1 : Nat), .ref b]) ∧ G b = some (.lst vs) ∧ All2 (rSett G) vs w.2
def rRow (G : Hp) (v : V) (r : List Way) : Prop := ∃ a vs, v = .ref a ∧ G a = some (.lst vs) ∧ All2 (rWay G) vs r
def rWays (G : Hp) (v : V) (r : List (List Way)) : Prop := ∃ a vs, v = .ref a ∧ G a = some (.lst vs) ∧ All2 (rRow G) vs r
def Part.kind : Part → Str
  | .box _ => "box"
  | .tur _ => "turned"
  | .told _ => "told"
def Part.val : Part → V
  | .box n => .int (n : Nat)
  | .tur n => .int (n : Nat)
  | .told x => .str x
def rPart (G : Hp) (v : V) (p : Part) : Prop := ∃ a, v = .ref a ∧ G a = some (.tup [.str p.kind, p.val])
def rEnd (G : Hp) (v : V) (e : Option (List Part)) : Prop := match e with
  | none => v = .non
  | some ps => ∃ a vs, v = .ref a ∧ G a = some (.lst vs) ∧ All2 (rPart G) vs ps
def rEnds (G : Hp) (v : V) (es : List (Option (List Part))) : Prop := ∃ a vs, v = .ref a ∧ G a = some (.lst vs) ∧ All2 (rEnd G) vs es
structure rPrg' (G : Hp) (a b e : Addr) (c d : V) (p : Prg) : Prop where
  a : G a = some (.lst [.str p.signs, .str p.letters, .ref b, c, d])
  b : G b = some (.tup [.int (p.m0 : Nat), .ref e])
  e : G e = some (.lst (p.t0.map V.str))
  c : rWays G c p.ways
  d : rEnds G d p.ends
def rPrg (G : Hp) (v : V) (p : Prg) : Prop := ∃ a b e c d, v = .ref a ∧ rPrg' G a b e c d p
def rStand (G : Hp) (v : V) (s : Stand) : Prop := ∃ a b, v = .ref a ∧ G a = some (.tup [.int (s.1 : Nat), .ref b]) ∧ G b = some (.tup (s.2.map V.str))
section
variable {G G' : Hp} (h : Same G G') {v : V}
include h
theorem rSett.up {s : Sett} (r : rSett G v s) : rSett G' v s := let ⟨a, e, q⟩ := r; ⟨a, e, h _ _ q⟩
theorem rWay.up {w : Way} (r : rWay G v w) : rWay G' v w := let ⟨a, b, vs, e, q1, q2, q3⟩ := r; ⟨a, b, vs, e, h _ _ q1, h _ _ q2, q3.mono fun _ _ z => z.up h⟩
theorem rRow.up {w : List Way} (r : rRow G v w) : rRow G' v w := let ⟨a, vs, e, q1, q2⟩ := r; ⟨a, vs, e, h _ _ q1, q2.mono fun _ _ z => z.up h⟩
theorem rWays.up {w : List (List Way)} (r : rWays G v w) : rWays G' v w := let ⟨a, vs, e, q1, q2⟩ := r; ⟨a, vs, e, h _ _ q1, q2.mono fun _ _ z => z.up h⟩
theorem rPart.up {p : Part} (r : rPart G v p) : rPart G' v p := let ⟨a, e, q⟩ := r; ⟨a, e, h _ _ q⟩
theorem rEnd.up {e : Option (List Part)} (r : rEnd G v e) : rEnd G' v e := by
  cases e with
  | none => exact r
  | some ps =>
    obtain ⟨a, vs, e, q1, q2⟩ := r
    exact ⟨a, vs, e, h _ _ q1, q2.mono fun _ _ z => z.up h⟩
theorem rEnds.up {es : List (Option (List Part))} (r : rEnds G v es) : rEnds G' v es := let ⟨a, vs, e, q1, q2⟩ := r; ⟨a, vs, e, h _ _ q1, q2.mono fun _ _ z => z.up h⟩
theorem rPrg'.up {a b e : Addr} {c d : V} {p : Prg} (r : rPrg' G a b e c d p) : rPrg' G' a b e c d p := ⟨h _ _ r.a, h _ _ r.b, h _ _ r.e, r.c.up h, r.d.up h⟩
theorem rPrg.up {p : Prg} (r : rPrg G v p) : rPrg G' v p := let ⟨a, b, e, c, d, q, r⟩ := r; ⟨a, b, e, c, d, q, r.up h⟩
theorem rStand.up {s : Stand} (r : rStand G v s) : rStand G' v s := let ⟨a, b, e, q1, q2⟩ := r; ⟨a, b, e, h _ _ q1, h _ _ q2⟩
end
/-! ### the package's objects -/
def cS (K : PySem.W.Frag) : Addr := He.ga K "Setting"
def cP (K : PySem.W.Frag) : Addr := He.ga K "Program"
def cR (K : PySem.W.Frag) : Addr := He.ga K "Reader"
def cL (K : PySem.W.Frag) : Addr := He.ga K "Live"
def cB (K : PySem.W.Frag) : Addr := He.ga K "Block"
def fsS (s : Sett) : List (Str × V) := [("source", vN s.src), ("head", .str s.hd), ("tail", .str s.tl), ("is_turned", .bl s.tn)]
def oSett (K : PySem.W.Frag) (G : Hp) (v : V) (s : Sett) : Prop := ∃ a dx, v = .ref a ∧ G a = some (.ins (cS K) dx (fsS s))
def oWay (K : PySem.W.Frag) (G : Hp) (v : V) (w : Way) : Prop := ∃ a b vs, v = .ref a ∧ G a = some (.tup [.int (w.1 : Nat), .ref b]) ∧ G b = some (.tup vs) ∧ All2 (oSett K G) vs w.2
def oRow (K : PySem.W.Frag) (G : Hp) (v : V) (r : List Way) : Prop := ∃ a vs, v = .ref a ∧ G a = some (.tup vs) ∧ All2 (oWay K G) vs r
def oWays (K : PySem.W.Frag) (G : Hp) (v : V) (r : List (List Way)) : Prop := ∃ a vs, v = .ref a ∧ G a = some (.tup vs) ∧ All2 (oRow K G) vs r
def oEnd (G : Hp) (v : V) (e : Option (List Part)) : Prop := match e with
  | none => v = .non
  | some ps => ∃ a vs, v = .ref a ∧ G a = some (.tup vs) ∧ All2 (rPart G) vs ps
def oEnds (G : Hp) (v : V) (es : List (Option (List Part))) : Prop := ∃ a vs, v = .ref a ∧ G a = some (.tup vs) ∧ All2 (oEnd G) vs es
def fsP (p : Prg) (b c d : V) : List (Str × V) := [("signs", .str p.signs), ("letters", .str p.letters), ("begin", b), ("ways", c), ("ends", d), ("modes", .int (p.ways.length : Nat)), ("boxes", .int (p.t0.length : Nat))]
structure oPrg' (K : PySem.W.Frag) (G : Hp) (a dx : Addr) (b c d : V) (p : Prg) : Prop where
  a : G a = some (.ins (cP K) dx (fsP p b c d))
  b : rStand G b (p.m0, p.t0)
  c : oWays K G c p.ways
  d : oEnds G d p.ends
def oPrg (K : PySem.W.Frag) (G : Hp) (v : V) (p : Prg) : Prop := ∃ a dx b c d, v = .ref a ∧ oPrg' K G a dx b c d p
section
variable {K : PySem.W.Frag} {G G' : Hp} (h : Same G G') {v : V}
include h
theorem oSett.up {s : Sett} (r : oSett K G v s) : oSett K G' v s := let ⟨a, dx, e, q⟩ := r; ⟨a, dx, e, h _ _ q⟩
theorem oWay.up {w : Way} (r : oWay K G v w) : oWay K G' v w := let ⟨a, b, vs, e, q1, q2, q3⟩ := r; ⟨a, b, vs, e, h _ _ q1, h _ _ q2, q3.mono fun _ _ z => z.up h⟩
theorem oRow.up {w : List Way} (r : oRow K G v w) : oRow K G' v w := let ⟨a, vs, e, q1, q2⟩ := r; ⟨a, vs, e, h _ _ q1, q2.mono fun _ _ z => z.up h⟩
theorem oWays.up {w : List (List Way)} (r : oWays K G v w) : oWays K G' v w := let ⟨a, vs, e, q1, q2⟩ := r; ⟨a, vs, e, h _ _ q1, q2.mono fun _ _ z => z.up h⟩
theorem oEnd.up {e : Option (List Part)} (r : oEnd G v e) : oEnd G' v e := by
  cases e with
  | none => exact r
  | some ps =>
    obtain ⟨a, vs, e, q1, q2⟩ := r
    exact ⟨a, vs, e, h _ _ q1, q2.mono fun _ _ z => z.up h⟩
theorem oEnds.up {es : List (Option (List Part))} (r : oEnds G v es) : oEnds G' v es := let ⟨a, vs, e, q1, q2⟩ := r; ⟨a, vs, e, h _ _ q1, q2.mono fun _ _ z => z.up h⟩
theorem oPrg'.up {a dx : Addr} {b c d : V} {p : Prg} (r : oPrg' K G a dx b c d p) : oPrg' K G' a dx b c d p := ⟨h _ _ r.a, r.b.up h, r.c.up h, r.d.up h⟩
theorem oPrg.up {p : Prg} (r : oPrg K G v p) : oPrg K G' v p := let ⟨a, dx, b, c, d, q, r⟩ := r; ⟨a, dx, b, c, d, q, r.up h⟩
end
/-! ### a name of the module -/
def Glv (mg : Str → Option Value) (x : Str) (v : V) : Prop := ∃ u, mg x = some u ∧ RelV v u
theorem pe_gl {X : Cx} {x : Str} {v : V} {pos : Pos} (h : Glv X.mg x v) (hg : Gl X x := by rfl) (hd : (x == ("__debug__" : Str)) = false := by decide) : PE X (.Name x pos) (tC v) := by
  obtain ⟨u, h1, h2⟩ := h
  exact pe_glob hg h1 h2 hd
end Gt

set_option Elab.async false
set_option linter.all false
set_option maxRecDepth 100000
set_option maxHeartbeats 2000000
namespace Gt
open PySem PySem.Spec PyProof.Rows L2 StX
/-! ### the text -/
abbrev mainP : Program := (PySem.Challenge.rw_growntexts_k85_whole_readers_and_functio).prog
/-! ### what a for walks: a list, a tuple, a text -/
def ItS (K : PySem.W.Frag) : Src → It
  | .lst a => Itl K a
  | .tup a => Itt K a
  | .txt z => Its z
def iSrc (K : PySem.W.Frag) (te : TE) : TI := fun σ H R => te σ H fun x H1 => ∃ (S : Src) (xs : List V), x = S.vv ∧ S.is K H1 xs ∧ R (ItS K S) H1
section
variable {X : Cx} {tg : Expr}
theorem pi_src {e : Expr} {te : TE} (he : PE X e te) : PI X tg e (iSrc X.K te) := by
  refine ⟨fun pins s σ H R I h => ?_⟩
  refine thn (he.run pins s σ H _ I h) fun v s1 ⟨x, H1, I1, r1, q1⟩ => ?_
  obtain ⟨S, xs, ex, hq, q⟩ := q1
  subst ex
  cases S with
  | lst a =>
    cases r1
    have hq : SqL X.K H1 a xs := hq
    obtain ⟨its, rv, p, hz⟩ := I1.list hq
    refine wpAny_pyIter_list p.isList ?_
    refine ⟨s1.heap.objs.size, [s1.heap.objs.size], _, _, H1, rfl, I1.kept (t' := s1.toks) fun b o e => Heap.get?_push_of_some _ e, turn_list a _, ⟨_, Heap.get?_push_size _ rfl, rfl, rfl⟩, fun b hb => ?_, q⟩
    have e : b = s1.heap.objs.size := by simpa using hb
    subst e
    exact I1.fpOk (Nat.le_refl _) (I1.hok.fresh (Nat.le_refl _))
  | tup a =>
    cases r1
    have hq : SqT X.K H1 a xs := hq
    obtain ⟨its, rv, p, hz⟩ := I1.tuple hq
    refine wpAny_pyIter_tuple (show s1.heap.IsTuple a its.toArray from p) ?_
    refine ⟨s1.heap.objs.size, [s1.heap.objs.size], _, _, H1, rfl, I1.kept (t' := s1.toks) fun b o e => Heap.get?_push_of_some _ e, turn_tuple a _, ⟨_, Heap.get?_push_size _ rfl, rfl, rfl⟩, fun b hb => ?_, q⟩
    have e : b = s1.heap.objs.size := by simpa using hb
    subst e
    exact I1.fpOk (Nat.le_refl _) (I1.hok.fresh (Nat.le_refl _))
  | txt x =>
    obtain ⟨t, rfl⟩ := r1
    cases ha : x.cps.all (· < 128)
    · exact wpAny_pyIter_wide ha (pi_one (tk := s1.toks) I1 _ (turn_str _ x t "str_iterator" (.inr rfl)) ⟨_, Heap.get?_push_size _ rfl, rfl, rfl⟩ q)
    · exact wpAny_pyIter_ascii ha (pi_one (tk := s1.toks) I1 _ (turn_str _ x t "str_ascii_iterator" (.inl rfl)) ⟨_, Heap.get?_push_size _ rfl, rfl, rfl⟩ q)
end
theorem walk_src {K : PySem.W.Frag} {S : Src} {xs : List V} : Walk (ItS K S) xs.length (fun H => S.is K H xs) (YAt xs) := by
  cases S with
  | lst a => exact walk_list
  | tup a => exact walk_tup
  | txt z =>
    refine ⟨fun i H hi q => ?_, fun H q => ?_, fun i H v H' hi q y => ?_⟩
    · have q : xs = z.cps.toList.map fun c => V.str ⟨#[c]⟩ := q
      show i < z.cps.size
      rw [q, List.length_map, Array.length_toList] at hi
      exact hi
    · have q : xs = z.cps.toList.map fun c => V.str ⟨#[c]⟩ := q
      show z.cps.size ≤ xs.length
      rw [q, List.length_map, Array.length_toList]
      exact Nat.le_refl _
    · have q : xs = z.cps.toList.map fun c => V.str ⟨#[c]⟩ := q
      obtain ⟨e, c, hc, rfl⟩ := y
      refine ⟨e, ?_⟩
      rw [q, List.getElem?_map]
      have hc' : z.cps.toList[i]? = some c := by rw [← hc]; simp
      rw [hc']
      rfl
/-! ### subscripts and len -/
def Src.small : Src → Prop
  | .txt z => z.length ≤ sizeLine
  | _ => True
def rSrc (K : PySem.W.Frag) : R2 := fun x y H Q => ∃ (S : Src) (xs : List V) (i : Int) (v : V), x = S.vv ∧ y = .int i ∧ S.is K H xs ∧ S.small ∧ atI xs i = some v ∧ Q v H
theorem atI_map {α β : Type} (f : α → β) (xs : List α) (i : Int) : atI (xs.map f) i = (atI xs i).map f := by
  unfold atI
  rw [List.length_map]
  cases ixN xs.length i with
  | none => rfl
  | some j => simp
section
variable {X : Cx}
theorem ix_src : IxR X (rSrc X.K) := by
  intro value slice pins s σ H x y v u Q I rx ry h hs
  obtain ⟨S, xs, i, z, rfl, rfl, hq, hz, he, q⟩ := h
  cases S with
  | lst a => exact ix_list value slice pins s σ H (.ref a) (.int i) v u Q I rx ry ⟨a, xs, i, z, rfl, rfl, hq, he, q⟩ hs
  | tup a => exact ix_tup value slice pins s σ H (.ref a) (.int i) v u Q I rx ry ⟨a, xs, i, z, rfl, rfl, hq, he, q⟩ hs
  | txt w =>
    have hq : xs = w.cps.toList.map fun c => V.str ⟨#[c]⟩ := hq
    rw [hq, atI_map] at he
    cases e : atI w.cps.toList i with
    | none => rw [e] at he; cases he
    | some c =>
      rw [e] at he
      cases he
      exact ix_str value slice pins s σ H (.str w) (.int i) v u Q I rx ry ⟨w, i, c, rfl, rfl, hz, e, q⟩ hs
theorem call_lenS : CallR X (.builtin "len") (fun vs H Q => ∃ (S : Src) (xs : List V), vs = [S.vv] ∧ S.is X.K H xs ∧ S.small ∧ Q (.int (xs.length : Nat)) H) := by
  intro pins s σ H vs us Q I r h
  obtain ⟨S, xs, rfl, hq, hz, q⟩ := h
  refine call_len pins s σ H _ us Q I r ⟨S.vv, xs.length, rfl, ?_, q⟩
  cases S with
  | lst a => exact .inl ⟨xs, hq, rfl⟩
  | tup a => exact .inr ⟨xs, hq, rfl⟩
  | txt z =>
    refine ⟨hz, ?_⟩
    have hq : xs = z.cps.toList.map fun c => V.str ⟨#[c]⟩ := hq
    rw [hq, List.length_map, Array.length_toList] <;> rfl
end
/-! ### the same with the written part named (within a comprehension) -/
section
variable {X : Cx} {K : PySem.W.Frag}
theorem call_lenK (h : X.K = K) : CallR X (.builtin "len") (fun vs H Q => ∃ (S : Src) (xs : List V), vs = [S.vv] ∧ S.is K H xs ∧ S.small ∧ Q (.int (xs.length : Nat)) H) := by subst h; exact call_lenS
theorem ix_srcK (h : X.K = K) : IxR X (rSrc K) := by subst h; exact ix_src
theorem pi_srcK (h : X.K = K) {tg e : Expr} {te : TE} (he : PE X e te) : PI X tg e (iSrc K te) := by subst h; exact pi_src he
theorem pe_fldK (h : X.K = K) {e : Expr} {f : Str} {pos : Pos} {ta : TE} (he : PE X e ta) (hb : attributeBase e f X.env (eval e X.env) = eval e X.env) : PE X (.Attribute e f pos) (tFld K ta f) := by subst h; exact pe_fld he hb
theorem pg_tupK (h : X.K = K) {es : List Expr} {k : Nat} {t : TGs} {n : Nat} {pos : Pos} (hc : X.calm = true) (ht : PGs X es t)
    (hn : (assignEach es X.env).length = n := by rfl) (hst : (assignEach es X.env).findIdx? (·.1) = none := by rfl) : PG X (.Tuple es k pos) (gTup K n t) := by subst h; exact pg_tup hc ht hn hst
theorem call_tupleK (h : X.K = K) : CallR X (.type "tuple") (fun xs H Q => ∃ p ys, xs = [.ref p] ∧ ((SqL K H p ys ∧ ∀ l, H l = none → Q (.ref l) (upd H l (.tup ys))) ∨ (SqT K H p ys ∧ Q (.ref p) H))) := by subst h; exact call_tuple_of
theorem call_listK (h : X.K = K) : CallR X (.type "list") (fun xs H Q => ∃ p ys, xs = [.ref p] ∧ (SqL K H p ys ∨ SqT K H p ys) ∧ ∀ l, H l = none → Q (.ref l) (upd H l (.lst ys))) := by subst h; exact call_list_of
end
abbrev pj_nil {X : Cx} : PJ X [] [] := .nil
theorem pj_cons {X : Cx} {e : Expr} {t : TE} {es : List Expr} {ts : List TE} (h : PE X e t) (r : PJ X es ts) : PJ X (e :: es) (t :: ts) := .cons h r
/-! ### what stands in the module -/
def aK (K : PySem.W.Frag) : Addr := He.ga K "KINDS"
def aW (K : PySem.W.Frag) : Addr := He.ga K "_law_worked"
structure Glo (K : PySem.W.Frag) (mg : Str → Option Value) : Prop where
  b_len : mg "len" = none
  b_isinstance : mg "isinstance" = none
  b_str : mg "str" = none
  b_int : mg "int" = none
  b_list : mg "list" = none
  b_tuple : mg "tuple" = none
  b_bool : mg "bool" = none
  b_range : mg "range" = none
  b_enumerate : mg "enumerate" = none
  b_zip : mg "zip" = none
  b_all : mg "all" = none
  b_any : mg "any" = none
  b_abs : mg "abs" = none
  b_min : mg "min" = none
  b_max : mg "max" = none
  v_LOWER : Glv mg "LOWER" (.str "abcdefghijklmnopqrstuvwxyz")
  v_DIGITS : Glv mg "DIGITS" (.str "0123456789")
  v_KINDS : Glv mg "KINDS" (.ref (aK K))
  t_KINDS : ∀ H, SqT K H (aK K) [.str "box", .str "turned"]
  v__law_worked : Glv mg "_law_worked" (.ref (aW K))
  v_Setting : Glv mg "Setting" (.ref (cS K))
  v_Program : Glv mg "Program" (.ref (cP K))
  cS : Cls K (cS K)
  cP : Cls K (cP K)
  cR : Cls K (cR K)
  cL : Cls K (cL K)
  cB : Cls K (cB K)
  nS : ∀ f ∈ (["source", "head", "tail", "is_turned"] : List Str), NoAttr K (Gt.cS K) f
  nP : ∀ f ∈ (["signs", "letters", "begin", "ways", "ends", "modes", "boxes"] : List Str), NoAttr K (Gt.cP K) f
  nR : ∀ f ∈ (["lines", "line_at", "signs", "letters", "begin", "ways", "ends"] : List Str), NoAttr K (Gt.cR K) f
  nL : ∀ f ∈ (["past"] : List Str), NoAttr K (Gt.cL K) f
  nB : ∀ f ∈ (["live", "kept"] : List Str), NoAttr K (Gt.cB K) f
  iS : ∀ {H : Hp} {a dx : Addr} {fs : List (Str × V)}, H a = some (.ins (Gt.cS K) dx fs) → TyX K H (.ref a) (.ref (Gt.cS K))
  iP : ∀ {H : Hp} {a dx : Addr} {fs : List (Str × V)}, H a = some (.ins (Gt.cP K) dx fs) → TyX K H (.ref a) (.ref (Gt.cP K))
  kS : PySem.W.kitOne K (.ref (Gt.cS K)) (.ref (Gt.cS K)) = some true
  kP : PySem.W.kitOne K (.ref (Gt.cP K)) (.ref (Gt.cP K)) = some true
  neP : PySem.W.findIn K (.ref (Gt.cP K)) "__ne__" = some (some (.builtin "object.__ne__"))
  mroP : PySem.W.mroIn K (Gt.cP K) (.type "object") = some true
/-! ### the places -/
def top (i : Nat) : Stmt := mainP.main.body.getD i (.Pass ⟨0, 0, 0, 0⟩)
end Gt

set_option Elab.async false
set_option linter.all false
set_option maxRecDepth 100000
set_option maxHeartbeats 2000000
namespace Gt
open PySem PySem.Spec PyProof.Rows L2 StX
/-! ### comprehensions and loops, folded -/
def LcB (J : It) (g : TG) (tt : TT) (te : TE) (vs : List Nat) (σ : L2.St) (Q : VK) (H1 : Hp) : Prop := ∀ D, H1 D = none → ∃ W : Nat → Nat → Hp → Prop, (∃ m, W 0 m (upd H1 D (.lst []))) ∧ ∀ i m H, W i m H →
  (J.stop i H ∧ Q (.ref D) H) ∨ (J.go i H ∧ ∃ Nx : Hp → Prop, (∀ H', Nx H' → ∃ m', m' < m ∧ W (i + 1) m' H') ∧ ∀ x H', J.yld i H x H' → g x (wipe σ vs) H' fun σ2 H2 => wipe σ2 vs = wipe σ vs ∧ tt σ2 H2 fun b H3 =>
    if b = true then te σ2 H3 fun y H4 => ∃ acc, H4 D = some (.lst acc) ∧ acc.length < sizeLine ∧ Nx (upd H4 D (.lst (acc ++ [y]))) else Nx H3)
def ForB (J : It) (g : TG) (tb : TS) (D : Ends) (σ : L2.St) (H1 : Hp) : Prop := ∃ W : Nat → Nat → L2.St → Hp → Prop, (∃ m, W 0 m σ H1) ∧ ∀ i m σ H, W i m σ H →
      (J.stop i H ∧ D.nx σ H) ∨ (J.go i H ∧ ∃ N : L2.St → Hp → Prop, (∀ σ' H', N σ' H' → ∃ m', m' < m ∧ W (i + 1) m' σ' H') ∧ ∀ x H', J.yld i H x H' → g x σ H' fun σ2 H2 => tb { D with nx := N, ct := N, bk := D.nx } σ2 H2)
section
variable {K : PySem.W.Frag} {e : TE} {ta : TA} {g : TG} {tt : TT} {te : TE} {tb : TS} {vs : List Nat}
theorem lcE_src : tLc (iSrc K e) g tt te vs = fun σ H Q => e σ H fun x H1 => ∃ (S : Src) (xs : List V), x = S.vv ∧ S.is K H1 xs ∧ LcB (ItS K S) g tt te vs σ Q H1 := rfl
theorem lcE_enum : tLc (iEnumS K ta) g tt te vs = fun σ H Q => ta σ H fun ws H1 => ∃ (S : Src) (xs : List V), ws = [S.vv] ∧ S.is K H1 xs ∧ LcB (ItE K S) g tt te vs σ Q H1 := rfl
theorem lcE_rng : tLc (iRng1 ta) g tt te vs = fun σ H Q => ta σ H fun ws H1 => ∃ j : Int, ws = [.int j] ∧ -(2 ^ 62) ≤ j ∧ j < 2 ^ 62 ∧ LcB (Itr 0 j.toNat) g tt te vs σ Q H1 := rfl
theorem forE_src : tFor (iSrc K e) g tb = fun D σ H => e σ H fun x H1 => ∃ (S : Src) (xs : List V), x = S.vv ∧ S.is K H1 xs ∧ ForB (ItS K S) g tb D σ H1 := rfl
theorem forE_enum : tFor (iEnumS K ta) g tb = fun D σ H => ta σ H fun ws H1 => ∃ (S : Src) (xs : List V), ws = [S.vv] ∧ S.is K H1 xs ∧ ForB (ItE K S) g tb D σ H1 := rfl
theorem forE_rng : tFor (iRng1 ta) g tb = fun D σ H => ta σ H fun ws H1 => ∃ j : Int, ws = [.int j] ∧ -(2 ^ 62) ≤ j ∧ j < 2 ^ 62 ∧ ForB (Itr 0 j.toNat) g tb D σ H1 := rfl
theorem forE_zip : tFor (iZipS K ta) g tb = fun D σ H => iZipS K ta σ H fun J H1 => ForB J g tb D σ H1 := rfl
theorem forB {J : It} {n : Nat} {G : Hp → Prop} {Y : Nat → Hp → V → Hp → Prop} (w : Walk J n G Y) {D : Ends} {σ : L2.St} {H : Hp} (Pv : Nat → L2.St → Hp → Prop) (h0 : Pv 0 σ H) (hG : ∀ i σ H, i ≤ n → Pv i σ H → G H)
    (hs : ∀ i x σ H H', i < n → Pv i σ H → Y i H x H' → g x σ H' fun σ2 H2 => tb { D with nx := Pv (i + 1), ct := Pv (i + 1), bk := D.nx } σ2 H2) (hd : ∀ σ H, Pv n σ H → D.nx σ H) : ForB J g tb D σ H := for_it w Pv h0 hG hs hd
theorem same_cons {S M : List Addr} {H1 H : Hp} {D : Addr} (hD : H1 D = none) (hM : ∀ a ∈ M, a ∈ S) (k : Kp M H1 H) : Same (hid S H1) (hid (D :: S) H) := fun a o e => by
  have e1 : H1 a = some o := hid_le _ _ e
  have na := hid_in e
  have nd : a ≠ D := fun z => by rw [z, hD] at e1; cases e1
  rw [hid_at (fun z => (List.mem_cons.mp z).elim nd na)]
  exact k a o (fun z => na (hM a z)) e1
theorem lcB {J : It} {n : Nat} {G : Hp → Prop} {Y : Nat → Hp → V → Hp → Prop} (w : Walk J n G Y) {σ : L2.St} {Q : VK} {H1 : Hp} (S M : List Addr) (I : Hp → Prop) (R : Nat → Hp → V → Prop) (hd : Dom S H1) (hM : ∀ a ∈ M, a ∈ S) (hn : n < sizeLine)
    (h0 : I H1) (hI : ∀ H H', (∀ a ∈ M, H' a = H a) → I H → I H') (hMd : ∀ H, I H → ∀ a ∈ M, H a ≠ none) (hG : ∀ H, Same (hid S H1) (hid S H) → I H → G H) (hR : ∀ i G G' v, Same G G' → R i G v → R i G' v)
    (step : ∀ S2 i x H H' Z, i < n → (∀ a ∈ S, a ∈ S2) → Dom S2 H → Same (hid S H1) (hid S2 H) → I H → Y i H x H' → (∀ y H4, Kp M H H4 → I H4 → R i (hid S2 H4) y → Z y H4) →
      g x (wipe σ vs) H' fun σ2 H2 => wipe σ2 vs = wipe σ vs ∧ te σ2 H2 Z)
    (done : ∀ D ws H, Kp M H1 H → Dom S H → I H → D ∉ S → H1 D = none → H D = some (.lst ws) → ws.length = n → (∀ i v, ws[i]? = some v → R i (hid S H) v) → Q (.ref D) H) : LcB J g tYes te vs σ Q H1 := by
  intro D hD
  have dn : D ∉ S := fun q => hd D q hD
  have dm : D ∉ M := fun q => dn (hM D q)
  have hup : ∀ {H : Hp} {o : HO}, ∀ a ∈ M, upd H D o a = H a := fun {H o} a ha => upd_ne (fun q => dm (by rw [← q]; exact ha))
  have sub : ∀ a ∈ M, a ∈ D :: S := fun a h => List.mem_cons_of_mem _ (hM a h)
  refine lc_it w (fun i H => Kp M H1 H ∧ Dom (D :: S) H ∧ I H ∧ ∃ acc, H D = some (.lst acc) ∧ acc.length = i ∧ ∀ j v, acc[j]? = some v → R j (hid (D :: S) H) v) ?_ ?_ ?_ ?_
  · exact ⟨Kp.of (Same.upd hD), .cons upd_same (hd.same (Same.upd hD)), hI _ _ hup h0, [], upd_same, rfl, fun j v e => by simp at e⟩
  · rintro i H hi ⟨k, d, q, _⟩
    exact hG H (hid_kp k hM) q
  · rintro i x H H' hi ⟨k, d, q, acc, ea, la, ra⟩ y
    show g x (wipe σ vs) H' fun σ2 H2 => wipe σ2 vs = wipe σ vs ∧ te σ2 H2 _
    refine step (D :: S) i x H H' _ hi (fun a h => List.mem_cons_of_mem _ h) d (same_cons hD hM k) q y fun v H4 k4 i4 r4 => ?_
    have ea4 := k4 D _ dm ea
    have kk := k.trans k4
    have kD : Kp [D] H4 (upd H4 D (.lst (acc ++ [v]))) := Kp.upd (by simp)
    have sD := hid_kp (S := D :: S) kD (by simp)
    refine ⟨acc, ea4, by omega, fun a o n e => ?_, ?_, hI _ _ hup i4, acc ++ [v], upd_same, by simp [la], fun j u e => ?_⟩
    · have nd : a ≠ D := fun z => by rw [z, hD] at e; cases e
      rw [upd_ne nd]
      exact kk a o n e
    · intro a ha
      by_cases z : a = D
      · rw [z, upd_same]; exact fun z => by cases z
      · rw [upd_ne z]
        by_cases am : a ∈ M
        · exact hMd _ i4 a am
        · cases e : H a with
          | none => exact absurd e (d a ha)
          | some o => rw [k4 a o am e]; exact fun z => by cases z
    · by_cases hj : j < acc.length
      · rw [List.getElem?_append_left hj] at e
        exact hR _ _ _ _ ((hid_kp k4 sub).trans sD) (ra j u e)
      · have ej : j = i := by
          have := (List.getElem?_eq_some_iff.mp e).1
          rw [List.length_append] at this
          have : j < acc.length + 1 := this
          omega
        subst ej
        rw [List.getElem?_append_right (by omega), la, Nat.sub_self] at e
        cases e
        exact hR _ _ _ _ sD r4
  · rintro H ⟨k, d, q, acc, ea, la, ra⟩
    exact done D acc H k (fun a ha => d a (List.mem_cons_of_mem _ ha)) q dn hD ea la fun i v e => hR _ _ _ _ (hid_mono fun a h => List.mem_cons_of_mem _ h) (ra i v e)
/-- no box: what was stands -/
theorem lcB0 {J : It} {n : Nat} {G : Hp → Prop} {Y : Nat → Hp → V → Hp → Prop} (w : Walk J n G Y) {σ : L2.St} {Q : VK} {H1 : Hp} (S : List Addr) (R : Nat → Hp → V → Prop) (hd : Dom S H1) (hn : n < sizeLine)
    (hG : ∀ H, Same H1 H → G H) (hR : ∀ i G G' v, Same G G' → R i G v → R i G' v)
    (step : ∀ S2 i x H H' Z, i < n → (∀ a ∈ S, a ∈ S2) → Dom S2 H → Same (hid S H1) (hid S2 H) → Same H1 H → Y i H x H' → (∀ y H4, Same H H4 → R i (hid S2 H4) y → Z y H4) →
      g x (wipe σ vs) H' fun σ2 H2 => wipe σ2 vs = wipe σ vs ∧ te σ2 H2 Z)
    (done : ∀ D ws H, Same H1 H → Dom S H → D ∉ S → H1 D = none → H D = some (.lst ws) → ws.length = n → (∀ i v, ws[i]? = some v → R i (hid S H) v) → Q (.ref D) H) : LcB J g tYes te vs σ Q H1 := by
  intro D hD
  have dn : D ∉ S := fun q => hd D q hD
  refine lc_it w (fun i H => Same H1 H ∧ Dom (D :: S) H ∧ ∃ acc, H D = some (.lst acc) ∧ acc.length = i ∧ ∀ j v, acc[j]? = some v → R j (hid (D :: S) H) v) ?_ ?_ ?_ ?_
  · exact ⟨Same.upd hD, .cons upd_same (hd.same (Same.upd hD)), [], upd_same, rfl, fun j v e => by simp at e⟩
  · rintro i H hi ⟨k, d, _⟩
    exact hG H k
  · rintro i x H H' hi ⟨k, d, acc, ea, la, ra⟩ y
    show g x (wipe σ vs) H' fun σ2 H2 => wipe σ2 vs = wipe σ vs ∧ te σ2 H2 _
    refine step (D :: S) i x H H' _ hi (fun a h => List.mem_cons_of_mem _ h) d (same_cons hD (M := []) (by simp) (Kp.of k)) k y fun v H4 k4 r4 => ?_
    have ea4 := k4 D _ ea
    have kD : Kp [D] H4 (upd H4 D (.lst (acc ++ [v]))) := Kp.upd (by simp)
    have sD := hid_kp (S := D :: S) kD (by simp)
    refine ⟨acc, ea4, by omega, fun a o e => ?_, (d.same k4).kp kD (fun a ha => ?_), acc ++ [v], upd_same, by simp [la], fun j u e => ?_⟩
    · have nd : a ≠ D := fun z => by rw [z, hD] at e; cases e
      rw [upd_ne nd]
      exact k4 a o (k a o e)
    · rw [List.mem_singleton.mp ha, upd_same]
      exact fun z => by cases z
    · by_cases hj : j < acc.length
      · rw [List.getElem?_append_left hj] at e
        exact hR _ _ _ _ ((hid_same k4).trans sD) (ra j u e)
      · have ej : j = i := by
          have := (List.getElem?_eq_some_iff.mp e).1
          rw [List.length_append] at this
          have : j < acc.length + 1 := this
          omega
        subst ej
        rw [List.getElem?_append_right (by omega), la, Nat.sub_self] at e
        cases e
        exact hR _ _ _ _ sD r4
  · rintro H ⟨k, d, acc, ea, la, ra⟩
    exact done D acc H k (fun a ha => d a (List.mem_cons_of_mem _ ha)) dn hD ea la fun i v e => hR _ _ _ _ (hid_mono fun a h => List.mem_cons_of_mem _ h) (ra i v e)
end
/-- what a comprehension over things gives -/
theorem all2_of {α : Type} {r : V → α → Prop} : ∀ {xs : List α} {ws : List V}, ws.length = xs.length → (∀ (i : Nat) v x, ws[i]? = some v → xs[i]? = some x → r v x) → All2 r ws xs
  | [], [], _, _ => .nil
  | [], _ :: _, h, _ => by simp at h
  | _ :: _, [], h, _ => by simp at h
  | x :: xs, w :: ws, h, k => .cons (k 0 w x rfl rfl) (all2_of (by simpa using h) fun i v y e1 e2 => k (i + 1) v y (by simpa using e1) (by simpa using e2))
theorem bls_of {ws : List V} (h : ∀ (i : Nat) v, ws[i]? = some v → v = .bl true) : ws = (List.replicate ws.length true).map V.bl := by
  apply List.ext_getElem?
  intro i
  cases e : ws[i]? with
  | none =>
    have hi : ws.length ≤ i := by simpa using e
    simp [hi]
  | some v =>
    have hi := (List.getElem?_eq_some_iff.mp e).1
    rw [h i v e]
    simp [hi]
theorem all_rep (n : Nat) : (List.replicate n true).all id = true := by simp
theorem flss_of {ws : List V} (h : ∀ (i : Nat) v, ws[i]? = some v → v = .bl false) : ws = (List.replicate ws.length false).map V.bl := by
  apply List.ext_getElem?
  intro i
  cases e : ws[i]? with
  | none =>
    have hi : ws.length ≤ i := by simpa using e
    simp [hi]
  | some v =>
    have hi := (List.getElem?_eq_some_iff.mp e).1
    rw [h i v e]
    simp [hi]
theorem any_rep (n : Nat) : (List.replicate n false).any id = false := by simp
theorem Src.same {K : PySem.W.Frag} {S : Src} {H H' : Hp} {xs : List V} (s : Same H H') (h : S.is K H xs) : S.is K H' xs := by
  cases S with
  | lst a => exact Same.seq s h
  | tup a =>
    rcases (show SqT K H a xs from h) with h | h
    · refine .inl ?_
      rcases h with h | ⟨o, h⟩
      · exact .inl (s _ _ h)
      · exact .inr ⟨o, s _ _ h⟩
    · exact .inr h
  | txt z => exact h
/-- all([.. for x in source]) -/
theorem allS {K : PySem.W.Frag} {S : Src} {xs : List V} {g : TG} {te : TE} {vs : List Nat} {σ : L2.St} {Q : VK} {H1 : Hp} (h : S.is K H1 xs) (hn : xs.length < sizeLine)
    (step : ∀ (i : Nat) x H Z, xs[i]? = some x → Same H1 H → (∀ H4, Same H H4 → Z (.bl true) H4) → g x (wipe σ vs) H fun σ2 H2 => wipe σ2 vs = wipe σ vs ∧ te σ2 H2 Z)
    (done : ∀ (a : Addr) (bs : List Bool) H', Same H1 H' → SqL K H' a (bs.map V.bl) → bs.all id = true → Q (.ref a) H') : LcB (ItS K S) g tYes te vs σ Q H1 := by
  refine lcB0 (walk_src (K := K) (S := S)) [] (fun _ _ v => v = .bl true) Dom.nil hn (fun _ s => Src.same s h) (fun _ _ _ _ _ h => h) (fun S2 i x H H' Z hi _ _ _ s1 y hz => ?_) fun D ws H' sm _ _ _ eD hl hv => ?_
  · obtain ⟨e, hx⟩ := y
    subst e
    exact step i x _ Z hx s1 fun H4 s4 => hz _ _ s4 rfl
  · rw [bls_of hv] at eD
    exact done D _ _ sm (sqL eD) (all_rep _)
theorem anyS {K : PySem.W.Frag} {S : Src} {xs : List V} {g : TG} {te : TE} {vs : List Nat} {σ : L2.St} {Q : VK} {H1 : Hp} (h : S.is K H1 xs) (hn : xs.length < sizeLine)
    (step : ∀ (i : Nat) x H Z, xs[i]? = some x → Same H1 H → (∀ H4, Same H H4 → Z (.bl false) H4) → g x (wipe σ vs) H fun σ2 H2 => wipe σ2 vs = wipe σ vs ∧ te σ2 H2 Z)
    (done : ∀ (a : Addr) (bs : List Bool) H', Same H1 H' → SqL K H' a (bs.map V.bl) → bs.any id = false → Q (.ref a) H') : LcB (ItS K S) g tYes te vs σ Q H1 := by
  refine lcB0 (walk_src (K := K) (S := S)) [] (fun _ _ v => v = .bl false) Dom.nil hn (fun _ s => Src.same s h) (fun _ _ _ _ _ h => h) (fun S2 i x H H' Z hi _ _ _ s1 y hz => ?_) fun D ws H' sm _ _ _ eD hl hv => ?_
  · obtain ⟨e, hx⟩ := y
    subst e
    exact step i x _ Z hx s1 fun H4 s4 => hz _ _ s4 rfl
  · rw [flss_of hv] at eD
    exact done D _ _ sm (sqL eD) (any_rep _)
def LcB2 (J : It) (g : TG) (tt : TT) (wi1 : TI) (g1 : TG) (tt1 : TT) (te : TE) (vs vs1 : List Nat) (σ : L2.St) (Q : VK) (H1 : Hp) : Prop := ∀ D, H1 D = none → ∃ W : Nat → Nat → Hp → Prop, (∃ m, W 0 m (upd H1 D (.lst []))) ∧ ∀ i m H, W i m H →
  (J.stop i H ∧ Q (.ref D) H) ∨ (J.go i H ∧ ∃ Nx : Hp → Prop, (∀ H', Nx H' → ∃ m', m' < m ∧ W (i + 1) m' H') ∧ ∀ x H', J.yld i H x H' → g x (wipe σ vs) H' fun σ2 H2 => wipe σ2 vs = wipe σ vs ∧ tt σ2 H2 fun b H3 =>
    if b = true then wi1 σ2 H3 fun J1 H4 => ∃ W1 : Nat → Nat → Hp → Prop, (∃ m, W1 0 m H4) ∧ ∀ j k H, W1 j k H →
      (J1.stop j H ∧ Nx H) ∨ (J1.go j H ∧ ∃ Nx1 : Hp → Prop, (∀ H', Nx1 H' → ∃ k', k' < k ∧ W1 (j + 1) k' H') ∧ ∀ x H', J1.yld j H x H' → g1 x (wipe σ2 vs1) H' fun σ3 H5 => wipe σ3 vs1 = wipe σ2 vs1 ∧ tt1 σ3 H5 fun b H6 =>
        if b = true then te σ3 H6 fun y H7 => ∃ acc, H7 D = some (.lst acc) ∧ acc.length < sizeLine ∧ Nx1 (upd H7 D (.lst (acc ++ [y]))) else Nx1 H6)
    else Nx H3)
theorem lc2E_src {K : PySem.W.Frag} {e : TE} {g : TG} {tt : TT} {wi1 : TI} {g1 : TG} {tt1 : TT} {te : TE} {vs vs1 : List Nat} : tLc2 (iSrc K e) g tt wi1 g1 tt1 te vs vs1 = fun σ H Q => e σ H fun x H1 => ∃ (S : Src) (xs : List V), x = S.vv ∧ S.is K H1 xs ∧ LcB2 (ItS K S) g tt wi1 g1 tt1 te vs vs1 σ Q H1 := rfl
/-! ### what follows a statement, kept folded -/
inductive Box (p : Prop) : Type where
  | mk : Box p
def Later {p : Prop} (_ : Box p) : Prop := p
theorem later {p : Prop} (h : p) : Later (Box.mk : Box p) := h
theorem seqE {t u : TS} : tSeq t u = fun D σ H => t { D with nx := fun σ' H' => Later (Box.mk : Box (u D σ' H')) } σ H := rfl
theorem ite2' {c : Bool} {A B : Prop} (h1 : c = true → A) (h2 : c = false → B) : if c = true then A else B := by
  cases c with
  | true => rw [if_pos rfl]; exact h1 rfl
  | false => rw [if_neg (by decide)]; exact h2 rfl
def FmtV (x : V) (H1 : Hp) (Q : VK) : Prop := (∃ y : Str, x = .str y ∧ y.length ≤ sizeLine ∧ Q (.str y) H1) ∨ ∃ i : Int, x = .int i ∧ i.natAbs.log2 < 1920 ∧ Q (.str (toString i)) H1
theorem fmtE {te : TE} : tFmt te = fun σ H Q => te σ H fun x H1 => FmtV x H1 Q := rfl
theorem fmt_str {y : Str} {H : Hp} {Q : VK} (h : y.length ≤ sizeLine) (q : Q (.str y) H) : FmtV (.str y) H Q := .inl ⟨y, rfl, h, q⟩
/-! ### defs by name, methods by class -/
structure Def (K : PySem.W.Frag) (mg : Str → Option Value) (x : Str) (st : Stmt) (ps : List Str) : Prop where
  ex : ∃ f fd, FunD K x x (defArgs st) (defBody st) (defScope st) [] [] f fd ∧ Binds K fd ps [] ∧ mg x = some (.ref f)
structure Mth (K : PySem.W.Frag) (C : Addr) (m q : Str) (st : Stmt) (ps : List Str) : Prop where
  ex : ∃ f fd, FunD K m q (defArgs st) (defBody st) (defScope st) [] [] f fd ∧ Binds K fd ps [] ∧ Meth K C m f
section
variable {P : Program} {w : World} {K : PySem.W.Frag} {mg : Str → Option Value} {base : Heap} {x m q : Str} {C : Addr} {st : Stmt} {N ps : List Str} {k : Nat} {sp : Sp}
theorem Def.go (D : Def K mg x st ps) (S : FnScope N ps (defScope st)) (len : ∀ vs H Q E, sp vs H Q E → vs.length = ps.length)
    (hbody : ∀ (f : Addr) (cdv : Value) (A : Around) (outer : List Env) (s : Shared) (H : Hp) (vs : List V) (Q : VK) (E : XK), Room k (A.deeper (envOfC x (defScope st) s.heap.objs.size f cdv)) → sp vs H Q E →
      ∃ t, PSs (cxOf CX0 P w K mg base N x (defScope st) f cdv A outer s H E).nox (defBody st) t ∧ t { nx := fun _ H' => Q .non H', rt := Q } (start N vs) H) : GF P w K mg base (k + 1) x sp := by
  obtain ⟨f, fd, F, b, m⟩ := D.ex
  have ok : FnOk P w K mg base CX0 (k + 1) f fd ps sp := F.ok S len fun cdv A outer s H vs Q E hr h => let ⟨t, p, q⟩ := hbody f cdv A outer s H vs Q E hr h; ⟨t, PSs.nox p, q⟩
  exact ⟨f, (ok.raw b .nil).imp fun vs H Q E h => by rw [List.append_nil]; exact h, m, F.kp⟩
theorem Mth.go (D : Mth K C m q st ps) (S : FnScope N ps (defScope st)) (len : ∀ vs H Q E, sp vs H Q E → vs.length = ps.length)
    (hbody : ∀ (f : Addr) (cdv : Value) (A : Around) (outer : List Env) (s : Shared) (H : Hp) (vs : List V) (Q : VK) (E : XK), Room k (A.deeper (envOfC q (defScope st) s.heap.objs.size f cdv)) → sp vs H Q E →
      ∃ t, PSs (cxOf CX0 P w K mg base N q (defScope st) f cdv A outer s H E).nox (defBody st) t ∧ t { nx := fun _ H' => Q .non H', rt := Q } (start N vs) H) : GM P w K mg base (k + 1) C m sp := by
  obtain ⟨f, fd, F, b, mm⟩ := D.ex
  have ok : FnOk P w K mg base CX0 (k + 1) f fd ps sp := F.ok S len fun cdv A outer s H vs Q E hr h => let ⟨t, p, q⟩ := hbody f cdv A outer s H vs Q E hr h; ⟨t, PSs.nox p, q⟩
  exact ⟨f, (ok.raw b .nil).imp fun vs H Q E h => by rw [List.append_nil]; exact h, mm⟩
/-- a special method, found by the class -/
abbrev GS (P : Program) (w : World) (K : PySem.W.Frag) (mg : Str → Option Value) (base : Heap) (k : Nat) (C : Addr) (m : Str) (sp : Sp) : Prop :=
  ∃ f, FnR P w K mg base CX0 k f sp ∧ PySem.W.findIn K (.ref C) m = some (some (.ref f)) ∧ PySem.W.isFn K (.ref f) = true
structure Spc (K : PySem.W.Frag) (C : Addr) (m q : Str) (st : Stmt) (ps : List Str) : Prop where
  ex : ∃ f fd, FunD K m q (defArgs st) (defBody st) (defScope st) [] [] f fd ∧ Binds K fd ps [] ∧ PySem.W.findIn K (.ref C) m = some (some (.ref f)) ∧ PySem.W.isFn K (.ref f) = true
structure Prp (K : PySem.W.Frag) (C : Addr) (m q : Str) (st : Stmt) (ps : List Str) : Prop where
  ex : ∃ p f fd, FunD K m q (defArgs st) (defBody st) (defScope st) [] [] f fd ∧ Binds K fd ps [] ∧ PropOf K C m p f
structure Ini (K : PySem.W.Frag) (mg : Str → Option Value) (x : Str) (C : Addr) (q : Str) (st : Stmt) (ps : List Str) (dvs : List V) : Prop where
  ex : ∃ f fd dv0, FunD K "__init__" q (defArgs st) (defBody st) (defScope st) dv0 [] f fd ∧ Binds K fd ps [] ∧ (∃ ds, Vals dvs ds ∧ Binds K fd ps ds) ∧ Mk K C f
  at_ : mg x = some (.ref C)
/-- a def that an address holds -/
structure Adr (K : PySem.W.Frag) (f : Addr) (m q : Str) (st : Stmt) (ps : List Str) : Prop where
  ex : ∃ fd, FunD K m q (defArgs st) (defBody st) (defScope st) [] [] f fd ∧ Binds K fd ps []
theorem Spc.go (D : Spc K C m q st ps) (S : FnScope N ps (defScope st)) (len : ∀ vs H Q E, sp vs H Q E → vs.length = ps.length)
    (hbody : ∀ (f : Addr) (cdv : Value) (A : Around) (outer : List Env) (s : Shared) (H : Hp) (vs : List V) (Q : VK) (E : XK), Room k (A.deeper (envOfC q (defScope st) s.heap.objs.size f cdv)) → sp vs H Q E →
      ∃ t, PSs (cxOf CX0 P w K mg base N q (defScope st) f cdv A outer s H E).nox (defBody st) t ∧ t { nx := fun _ H' => Q .non H', rt := Q } (L2.start N vs) H) : GS P w K mg base (k + 1) C m sp := by
  obtain ⟨f, fd, F, b, mm⟩ := D.ex
  have ok : FnOk P w K mg base CX0 (k + 1) f fd ps sp := F.ok S len fun cdv A outer s H vs Q E hr h => let ⟨t, p, q⟩ := hbody f cdv A outer s H vs Q E hr h; ⟨t, PSs.nox p, q⟩
  exact ⟨f, (ok.raw b .nil).imp fun vs H Q E h => by rw [List.append_nil]; exact h, mm⟩
theorem Prp.go (D : Prp K C m q st ps) (S : FnScope N ps (defScope st)) (len : ∀ vs H Q E, sp vs H Q E → vs.length = ps.length)
    (hbody : ∀ (f : Addr) (cdv : Value) (A : Around) (outer : List Env) (s : Shared) (H : Hp) (vs : List V) (Q : VK) (E : XK), Room k (A.deeper (envOfC q (defScope st) s.heap.objs.size f cdv)) → sp vs H Q E →
      ∃ t, PSs (cxOf CX0 P w K mg base N q (defScope st) f cdv A outer s H E).nox (defBody st) t ∧ t { nx := fun _ H' => Q .non H', rt := Q } (L2.start N vs) H) : GP P w K mg base (k + 1) C m sp := by
  obtain ⟨p, f, fd, F, b, mm⟩ := D.ex
  have ok : FnOk P w K mg base CX0 (k + 1) f fd ps sp := F.ok S len fun cdv A outer s H vs Q E hr h => let ⟨t, p, q⟩ := hbody f cdv A outer s H vs Q E hr h; ⟨t, PSs.nox p, q⟩
  exact ⟨p, f, (ok.raw b .nil).imp fun vs H Q E h => by rw [List.append_nil]; exact h, mm⟩
theorem Ini.go {dvs : List V} (D : Ini K mg x C q st ps dvs) (S : FnScope N ps (defScope st)) (len : ∀ vs H Q E, sp vs H Q E → vs.length = ps.length)
    (hbody : ∀ (f : Addr) (cdv : Value) (A : Around) (outer : List Env) (s : Shared) (H : Hp) (vs : List V) (Q : VK) (E : XK), Room k (A.deeper (envOfC q (defScope st) s.heap.objs.size f cdv)) → sp vs H Q E →
      ∃ t, PSs (cxOf CX0 P w K mg base N q (defScope st) f cdv A outer s H E).nox (defBody st) t ∧ t { nx := fun _ H' => Q .non H', rt := Q } (L2.start N vs) H) :
    GC P w K mg base (k + 1) x C sp ∧ GC P w K mg base (k + 1) x C (fun vs H Q E => sp (vs ++ dvs) H Q E) := by
  obtain ⟨f, fd, dv0, F, b, ⟨ds, vd, b2⟩, mk⟩ := D.ex
  have ok : FnOk P w K mg base CX0 (k + 1) f fd ps sp := F.ok S len fun cdv A outer s H vs Q E hr h => let ⟨t, p, q⟩ := hbody f cdv A outer s H vs Q E hr h; ⟨t, PSs.nox p, q⟩
  exact ⟨⟨⟨f, (ok.raw b .nil).imp fun vs H Q E h => by rw [List.append_nil]; exact h, mk⟩, D.at_⟩, ⟨⟨f, ok.raw b2 vd, mk⟩, D.at_⟩⟩
theorem Adr.go {f : Addr} (D : Adr K f m q st ps) (S : FnScope N ps (defScope st)) (len : ∀ vs H Q E, sp vs H Q E → vs.length = ps.length)
    (hbody : ∀ (f : Addr) (cdv : Value) (A : Around) (outer : List Env) (s : Shared) (H : Hp) (vs : List V) (Q : VK) (E : XK), Room k (A.deeper (envOfC q (defScope st) s.heap.objs.size f cdv)) → sp vs H Q E →
      ∃ t, PSs (cxOf CX0 P w K mg base N q (defScope st) f cdv A outer s H E).nox (defBody st) t ∧ t { nx := fun _ H' => Q .non H', rt := Q } (L2.start N vs) H) : FnR P w K mg base CX0 (k + 1) f sp ∧ PySem.W.keepIn K (.ref f) = true := by
  obtain ⟨fd, F, b⟩ := D.ex
  have ok : FnOk P w K mg base CX0 (k + 1) f fd ps sp := F.ok S len fun cdv A outer s H vs Q E hr h => let ⟨t, p, q⟩ := hbody f cdv A outer s H vs Q E hr h; ⟨t, PSs.nox p, q⟩
  exact ⟨(ok.raw b .nil).imp fun vs H Q E h => by rw [List.append_nil]; exact h, F.kp⟩
end
end Gt

set_option Elab.async false
set_option linter.all false
set_option maxRecDepth 100000
set_option maxHeartbeats 2000000
namespace Gt
open PySem PySem.Spec PyProof.Rows L2 StX
local macro_rules | `(tactic| walk_at "r") => `(tactic| simp only [tRet, tRetN, tAndV, tOrV, tNotV, tAnd, tOr, tNot, tCB, tCons, tNil, tC, tVar, L2.start, tCl, tOp, tTest, tB, tIf, tIfS, seqE, tAsg, gName, gTup, gLst, gCons, gNil, tPar, tPar3, tTup, tLst, tFld, sFld, sFldAug, tMt, tPr, tMakeR, tMakeL, tCallV, tWith, tSl, tPart, tNoPart, tM1, tM0, tBM, tBM0, tStar, tRevS, tJs, fmtE, tDrop, tNext, tChain, tUn, tYes, gSub, gAttr, ClX.tCMeth, lcE_src, lcE_enum, lcE_rng, lc2E_src, forE_src, forE_enum, forE_rng, forE_zip, iZipS, cxOf, Cx.nox, Cx.blk,
  rI, rI0, rU, rEq, rNe, rAdd, rIsi, rIsiT, rAll, rAny, rEqD, rNeD, rSrc, rSlL, rSlT, rSlS, rCat, rCatT, rNewStrs, rAppend, rIn,
  List.map_cons, List.map_nil, List.length_cons, List.length_nil, List.replicate, List.append_nil, List.cons_append, List.nil_append, List.getElem?_cons_zero, List.getElem?_cons_succ, List.set_cons_zero, List.set_cons_succ, wipe,
  Option.some.injEq, List.cons.injEq, V.int.injEq, V.bl.injEq, V.str.injEq, V.ref.injEq, and_true, true_and, exists_eq_left', exists_eq_left, exists_eq, exists_eq', exists_and_left, Nat.sub_self, Nat.zero_add, Nat.reduceAdd, Nat.reduceSub, Bool.not_true, Bool.not_false, Bool.false_eq_true, ite_true, ite_false, if_true, if_false, and_assoc, Int.ofNat_inj])
local macro_rules | `(tactic| walk_at "n") => `(tactic| (refine later ?_; try walk_at "r"))
local macro_rules | `(tactic| walk_at "m") => `(tactic| (refine later ?_; try walk_at "r"; refine later ?_; try walk_at "r"))
abbrev cls_Setting (K : PySem.W.Frag) : Addr := cS K
abbrev cls_Program (K : PySem.W.Frag) : Addr := cP K
abbrev cls_Reader (K : PySem.W.Frag) : Addr := cR K
abbrev cls_Live (K : PySem.W.Frag) : Addr := cL K
abbrev cls_Block (K : PySem.W.Frag) : Addr := cB K
def sp_is_integer (K : PySem.W.Frag) : Sp := fun vs H Q _ => ∃ n : Int, vs = [.int n] ∧ Q (.bl true) H
theorem sc_is_integer : FnScope ["value"] ["value"] (defScope (top 23)) := ⟨rfl, rfl, rfl, by decide +kernel, rfl, by decide +kernel, by decide +kernel⟩
theorem ok_is_integer {P : Program} {w : World} {K : PySem.W.Frag} {mg : Str → Option Value} {base : Heap} (D : Def K mg "is_integer" (top 23) ["value"]) (T : Glo K mg)   : GF P w K mg base 1 "is_integer" (sp_is_integer K) := by
  have nd := sc_is_integer.nd
  refine D.go sc_is_integer (fun vs H Q E h => ?_) (fun f cdv A outer s0 H vs Q E hr h => ?_)
  · obtain ⟨n, rfl, q⟩ := h; rfl
  obtain ⟨n, rfl, q⟩ := h
  refine ⟨_, (pss_one (ps_ret (pe_and (pe_callB call_isi (by rfl) T.b_isinstance (by decide +kernel) (pa_cons (pv 0) (pa_cons (pe_bltn (v := .ty "int") (by rfl) T.b_int (by decide +kernel) rfl) pa_nil))) (pe_one (pe_not (pe_callB call_isi (by rfl) T.b_isinstance (by decide +kernel) (pa_cons (pv 0) (pa_cons (pe_bltn (v := .ty "bool") (by rfl) T.b_bool (by decide +kernel) rfl) pa_nil)))))))), ?_⟩
  clear nd hr
  walk_at "r"
  refine ⟨_, _, .ty _, .base (.int _), true, kit_ty (by decide +kernel), ?_⟩
  walk_at "r"
  exact ⟨_, _, .ty _, .base (.int _), false, kit_ty (by decide +kernel), q⟩
def sp_is_number (K : PySem.W.Frag) : Sp := fun vs H Q _ => ∃ n : Nat, vs = [.int n] ∧ Q (.bl true) H
theorem sc_is_number : FnScope ["value"] ["value"] (defScope (top 24)) := ⟨rfl, rfl, rfl, by decide +kernel, rfl, by decide +kernel, by decide +kernel⟩
theorem ok_is_number {P : Program} {w : World} {K : PySem.W.Frag} {mg : Str → Option Value} {base : Heap} (D : Def K mg "is_number" (top 24) ["value"]) (T : Glo K mg) (g_is_integer : GF P w K mg base 1 "is_integer" (sp_is_integer K))  : GF P w K mg base 2 "is_number" (sp_is_number K) := by
  have nd := sc_is_number.nd
  refine D.go sc_is_number (fun vs H Q E h => ?_) (fun f cdv A outer s0 H vs Q E hr h => ?_)
  · obtain ⟨n, rfl, q⟩ := h; rfl
  obtain ⟨n, rfl, q⟩ := h
  refine ⟨_, (pss_one (ps_ret (pe_and (pc_g g_is_integer hr (pa_cons (pv 0) pa_nil)) (pe_one (pe_cmpR op_ge (pv 0) pe_int (nomark _)))))), ?_⟩
  clear nd hr
  walk_at "r"
  refine ⟨_, rfl, ?_⟩
  walk_at "r"
  rw [decide_eq_true (by omega)]
  exact q
def sp_is_below (K : PySem.W.Frag) : Sp := fun vs H Q _ => ∃ n m : Nat, vs = [.int n, .int m] ∧ n < m ∧ Q (.bl true) H
theorem sc_is_below : FnScope ["value", "many"] ["value", "many"] (defScope (top 28)) := ⟨rfl, rfl, rfl, by decide +kernel, rfl, by decide +kernel, by decide +kernel⟩
theorem ok_is_below {P : Program} {w : World} {K : PySem.W.Frag} {mg : Str → Option Value} {base : Heap} (D : Def K mg "is_below" (top 28) ["value", "many"]) (T : Glo K mg) (g_is_number : GF P w K mg base 2 "is_number" (sp_is_number K))  : GF P w K mg base 3 "is_below" (sp_is_below K) := by
  have nd := sc_is_below.nd
  refine D.go sc_is_below (fun vs H Q E h => ?_) (fun f cdv A outer s0 H vs Q E hr h => ?_)
  · obtain ⟨n, m, rfl, hlt, q⟩ := h; rfl
  obtain ⟨n, m, rfl, hlt, q⟩ := h
  refine ⟨_, (pss_one (ps_ret (pe_and (pc_g g_is_number hr (pa_cons (pv 0) pa_nil)) (pe_one (pe_cmpR op_lt (pv 0) (pv 1) (nomark _)))))), ?_⟩
  clear nd hr
  walk_at "r"
  refine ⟨_, rfl, ?_⟩
  walk_at "r"
  rw [decide_eq_true (by omega)]
  exact q
theorem seq_ty {K : PySem.W.Frag} {H : Hp} {a : Addr} (h : (∃ xs, H a = some (.lst xs)) ∨ ∃ xs, H a = some (.tup xs)) : ∃ t, TyX K H (.ref a) t ∧ PySem.W.kitAny K t [.type "list", .type "tuple"] = some true := by
  rcases h with ⟨xs, e⟩ | ⟨xs, e⟩
  · exact ⟨_, .base (.lst e), kitAny_cons (b := true) (kit_ty (by decide +kernel)) (fun z => by cases z) fun _ => rfl⟩
  · exact ⟨_, .base (.tup e), kitAny_cons (b := false) (kit_ty (by decide +kernel)) (fun _ => kitAny_cons (b := true) (kit_ty (by decide +kernel)) (fun z => by cases z) fun _ => rfl) (fun z => by cases z)⟩
def sp_is_sequence (K : PySem.W.Frag) : Sp := fun vs H Q _ => ∃ a, vs = [.ref a] ∧ ((∃ xs, H a = some (.lst xs)) ∨ ∃ xs, H a = some (.tup xs)) ∧ ∀ H', Same H H' → Q (.bl true) H'
theorem sc_is_sequence : FnScope ["value"] ["value"] (defScope (top 25)) := ⟨rfl, rfl, rfl, by decide +kernel, rfl, by decide +kernel, by decide +kernel⟩
theorem ok_is_sequence {P : Program} {w : World} {K : PySem.W.Frag} {mg : Str → Option Value} {base : Heap} (D : Def K mg "is_sequence" (top 25) ["value"]) (T : Glo K mg)   : GF P w K mg base 1 "is_sequence" (sp_is_sequence K) := by
  have nd := sc_is_sequence.nd
  refine D.go sc_is_sequence (fun vs H Q E h => ?_) (fun f cdv A outer s0 H vs Q E hr h => ?_)
  · obtain ⟨a, rfl, ha, q⟩ := h; rfl
  obtain ⟨a, rfl, ha, q⟩ := h
  refine ⟨_, (pss_one (ps_ret (pe_callB call_isiT (by rfl) T.b_isinstance (by decide +kernel) (pa_cons (pv 0) (pa_cons (pe_tup (pa_cons (pe_bltn (v := .ty "list") (by rfl) T.b_list (by decide +kernel) rfl) (pa_cons (pe_bltn (v := .ty "tuple") (by rfl) T.b_tuple (by decide +kernel) rfl) pa_nil))) pa_nil))))), ?_⟩
  clear nd hr
  walk_at "r"
  refine ⟨by decide, fun p hp => ?_⟩
  have sm : Same H (upd H p (.tup [.ty "list", .ty "tuple"])) := Same.upd hp
  obtain ⟨t, h1, h2⟩ := seq_ty (K := K) (H := upd H p (.tup [.ty "list", .ty "tuple"])) (a := a) (ha.imp (fun ⟨xs, e⟩ => ⟨xs, sm _ _ e⟩) fun ⟨xs, e⟩ => ⟨xs, sm _ _ e⟩)
  exact ⟨_, upd_same, t, [.type "list", .type "tuple"], .cons (.ty _) (.cons (.ty _) .nil), h1, true, h2, q _ sm⟩
/-- all signs of a text stand in another -/
theorem at_sign {z : Str} {i : Nat} {x : V} (h : (z.cps.toList.map fun c => V.str ⟨#[c]⟩)[i]? = some x) : ∃ c, z.cps.toList[i]? = some c ∧ x = .str ⟨#[c]⟩ := by
  rw [List.getElem?_map] at h
  cases e : z.cps.toList[i]? with
  | none => rw [e] at h; cases h
  | some c => rw [e] at h; cases h; exact ⟨c, rfl, rfl⟩
def sp_is_text (K : PySem.W.Frag) : Sp := fun vs H Q _ => ∃ s v : Str, vs = [.str s, .str v] ∧ Of s v ∧ v.length ≤ 1000000 ∧ ∀ H', Same H H' → Q (.bl true) H'
theorem sc_is_text : FnScope ["signs", "value", "sign"] ["signs", "value"] (defScope (top 26)) := ⟨rfl, rfl, rfl, by decide +kernel, rfl, by decide +kernel, by decide +kernel⟩
theorem ok_is_text {P : Program} {w : World} {K : PySem.W.Frag} {mg : Str → Option Value} {base : Heap} (D : Def K mg "is_text" (top 26) ["signs", "value"]) (T : Glo K mg)   : GF P w K mg base 1 "is_text" (sp_is_text K) := by
  have nd := sc_is_text.nd
  refine D.go sc_is_text (fun vs H Q E h => ?_) (fun f cdv A outer s0 H vs Q E hr h => ?_)
  · obtain ⟨s, v, rfl, ho, hl, q⟩ := h; rfl
  obtain ⟨s, v, rfl, ho, hl, q⟩ := h
  refine ⟨_, (pss_one (ps_ret (pe_and (pe_callB call_isi (by rfl) T.b_isinstance (by decide +kernel) (pa_cons (pv 1) (pa_cons (pe_bltn (v := .ty "str") (by rfl) T.b_str (by decide +kernel) rfl) pa_nil))) (pe_one (pe_callB (cr_all rfl) (by rfl) T.b_all (by decide +kernel) (pa_cons (pe_lc (own := [("sign", 2)]) rfl nd (pi_src (pv 1)) (blkOk_by (own := [("sign", 2)]) (N := ["signs", "value", "sign"]) (sc := defScope (top 26)) (by decide +kernel)) (fun _ _ _ _ _ => (pg_name (i := 2) nd rfl (by first | exact Or.inl rfl | exact Or.inr rfl))) (fun _ _ _ _ _ => pts_nil) (fun _ _ _ _ _ => (pe_cmpR op_in_sign (pv 2) (pv 0) (by rfl)))) pa_nil)))))), ?_⟩
  clear nd hr
  walk_at "r"
  refine ⟨_, _, .ty _, .base (.str _), true, kit_ty (by decide +kernel), ?_⟩
  walk_at "r"
  have hn : (v.cps.toList.map fun c => V.str ⟨#[c]⟩).length < sizeLine := by
    rw [List.length_map, Array.length_toList]
    have : v.cps.size ≤ 1000000 := hl
    have : sizeLine = 16777216 := rfl
    omega
  refine ⟨.txt v, rfl, _, rfl, lcB0 (walk_src (K := K) (S := .txt v)) [] (fun _ _ v => v = .bl true) Dom.nil hn (fun _ _ => rfl) (fun _ _ _ _ _ h => h) (fun S2 i x H1 H2 Z hi hs d2 sm s1 y hz => ?_) fun D ws H' sm _ _ _ eD hl hv => ?_⟩
  · obtain ⟨e, hx⟩ := y
    subst e
    obtain ⟨c, hc, rfl⟩ := at_sign hx
    walk_at "r"
    refine ⟨c, rfl, hz _ _ (Same.refl _) ?_⟩
    rw [decide_eq_true (ho c (List.mem_of_getElem? hc))]
  · rw [bls_of hv] at eD
    refine ⟨_, rfl, _, sqL eD, ?_⟩
    rw [all_rep]
    exact q _ sm

/-! ### a dict of signs -/
def DcB (J : It) (g : TG) (tt : TT) (tk tv : TE) (vs : List Nat) (σ : L2.St) (Q : VK) (H1 : Hp) : Prop := ∀ D, H1 D = none → ∃ W : Nat → Nat → Hp → Prop, (∃ m, W 0 m (upd H1 D (.dK []))) ∧ ∀ i m H, W i m H →
  (J.stop i H ∧ Q (.ref D) H) ∨ (J.go i H ∧ ∃ Nx : Hp → Prop, (∀ H', Nx H' → ∃ m', m' < m ∧ W (i + 1) m' H') ∧ ∀ x H', J.yld i H x H' → g x (wipe σ vs) H' fun σ2 H2 => wipe σ2 vs = wipe σ vs ∧ tt σ2 H2 fun b H3 =>
    if b = true then tk σ2 H3 fun y H4 => tv σ2 H4 fun z H5 => ∃ kvs k, y = kV k ∧ H5 D = some (.dK kvs) ∧ kvs.length < sizeLine ∧ Nx (upd H5 D (.dK (putK kvs k z))) else Nx H3)
theorem dcE_src {K : PySem.W.Frag} {e : TE} {g : TG} {tt : TT} {tk tv : TE} {vs : List Nat} : tDc (iSrc K e) g tt tk tv vs = fun σ H Q => e σ H fun x H1 => ∃ (S : Src) (xs : List V), x = S.vv ∧ S.is K H1 xs ∧ DcB (ItS K S) g tt tk tv vs σ Q H1 := rfl
/-- {sign: True for sign in z}, no sign twice -/
theorem dc_signs {K : PySem.W.Frag} {z : Str} {Q : VK} {H1 : Hp} {ss : V} (hz : z.length < 1000000) (hn : z.cps.toList.Nodup)
    (done : ∀ D kvs H, Same H1 H → H D = some (.dK kvs) → kvs.length = z.length → Q (.ref D) H) : DcB (ItS K (.txt z)) (gName 1) tYes (tVar 1) (tC (.bl true)) [1] [some ss, none] Q H1 := by
  intro D hD
  have w := walk_src (K := K) (S := .txt z) (xs := z.cps.toList.map fun c => V.str ⟨#[c]⟩)
  have hl : (z.cps.toList.map fun c => V.str ⟨#[c]⟩).length = z.length := by rw [List.length_map, Array.length_toList] <;> rfl
  rw [hl] at w
  have hl2 : z.cps.toList.length = z.length := by rw [Array.length_toList] <;> rfl
  let Pv : Nat → Hp → Prop := fun i H => Same H1 H ∧ ∃ kvs : List (Key × V), H D = some (.dK kvs) ∧ kvs.map (·.1) = (z.cps.toList.take i).map fun c => (Sum.inr ⟨#[c]⟩ : Key)
  refine ⟨fun i m H => m = z.length - i ∧ i ≤ z.length ∧ Pv i H, ⟨z.length, by simp, Nat.zero_le _, Same.upd hD, [], upd_same, by simp⟩, ?_⟩
  rintro i m H ⟨rfl, hi, sm, kvs, eD, ek⟩
  have lk : kvs.length = i := by
    have := congrArg List.length ek
    rw [List.length_map, List.length_map, List.length_take, hl2] at this
    omega
  by_cases hlt : i < z.length
  · refine .inr ⟨w.goes i H hlt rfl, Pv (i + 1), fun H' p' => ⟨z.length - (i + 1), by omega, rfl, hlt, p'⟩, fun x H' y => ?_⟩
    obtain ⟨e, hx⟩ := w.yields i H x H' hlt rfl y
    subst e
    obtain ⟨c, hc, rfl⟩ := at_sign hx
    have sz : sizeLine = 16777216 := by decide
    have nw : valV kvs (Sum.inr ⟨#[c]⟩ : Key) = none := by
      cases q : valV kvs (Sum.inr ⟨#[c]⟩ : Key) with
      | none => rfl
      | some v =>
        exfalso
        unfold valV at q
        cases q2 : kvs.find? (fun kv => decide (kv.1 = (Sum.inr ⟨#[c]⟩ : Key))) with
        | none => rw [q2] at q; cases q
        | some kv =>
          have h1 := List.find?_some q2
          have h2 := List.mem_of_find?_eq_some q2
          have h3 : kv.1 ∈ kvs.map (·.1) := List.mem_map.mpr ⟨kv, h2, rfl⟩
          rw [ek, of_decide_eq_true h1] at h3
          obtain ⟨c', m1, m2⟩ := List.mem_map.mp h3
          have e3 : c' = c := by
            have := Sum.inr.inj m2
            simpa using this
          subst e3
          obtain ⟨j, hj, ej⟩ := List.mem_iff_getElem.mp m1
          have hj2 : j < i := by
            rw [List.length_take] at hj
            omega
          rw [List.getElem_take] at ej
          obtain ⟨hi3, ei⟩ := List.getElem?_eq_some_iff.mp hc
          exact (List.pairwise_iff_getElem.mp hn) j i (by omega) hi3 hj2 (by rw [ej, ei])
    refine ⟨rfl, ?_⟩
    refine ⟨_, rfl, kvs, Sum.inr ⟨#[c]⟩, rfl, eD, by omega, fun a o e => ?_, kvs ++ [(Sum.inr ⟨#[c]⟩, .bl true)], ?_, ?_⟩
    · have nd : a ≠ D := fun z => by rw [z, hD] at e; cases e
      rw [upd_ne nd]
      exact sm a o e
    · rw [upd_same, putK_new _ nw]
    · rw [List.map_append, ek, List.take_succ, hc]
      simp
  · have e : i = z.length := by omega
    subst e
    exact .inl ⟨w.stops H rfl, done D kvs H sm eD lk⟩
def lowS : Str := "abcdefghijklmnopqrstuvwxyz"
theorem low_of {z : Str} (h : Low z) : Of lowS z := fun c hc => by
  obtain ⟨h1, h2⟩ := h c hc
  have e : lowS.cps.toList = (List.range 26).map (97 + ·) := by decide +kernel
  rw [e, List.mem_map]
  exact ⟨c - 97, by simp; omega, by omega⟩
theorem txt_len (z : Str) : (z.cps.toList.map fun c => V.str ⟨#[c]⟩).length = z.length := by rw [List.length_map, Array.length_toList] <;> rfl
theorem sizeL : sizeLine = 16777216 := by decide
def sp_is_signs (K : PySem.W.Frag) : Sp := fun vs H Q _ => ∃ z : Str, vs = [.str z] ∧ Low z ∧ z.cps.toList.Nodup ∧ 1 ≤ z.length ∧ z.length < 1000000 ∧ ∀ H', Same H H' → Q (.bl true) H'
theorem sc_is_signs : FnScope ["value", "sign"] ["value"] (defScope (top 27)) := ⟨rfl, rfl, rfl, by decide +kernel, rfl, by decide +kernel, by decide +kernel⟩
theorem ok_is_signs {P : Program} {w : World} {K : PySem.W.Frag} {mg : Str → Option Value} {base : Heap} (D : Def K mg "is_signs" (top 27) ["value"]) (T : Glo K mg) (g_is_text : GF P w K mg base 1 "is_text" (sp_is_text K))  : GF P w K mg base 2 "is_signs" (sp_is_signs K) := by
  have nd := sc_is_signs.nd
  refine D.go sc_is_signs (fun vs H Q E h => ?_) (fun f cdv A outer s0 H vs Q E hr h => ?_)
  · obtain ⟨z, rfl, hlow, hn, h1, h2, q⟩ := h; rfl
  obtain ⟨z, rfl, hlow, hn, h1, h2, q⟩ := h
  refine ⟨_, (pss_one (ps_ret (pe_and (pc_g g_is_text hr (pa_cons (pe_gl T.v_LOWER) (pa_cons (pv 0) pa_nil))) (pe_and (pe_cmpR op_gt (pe_callB call_lenS (by rfl) T.b_len (by decide +kernel) (pa_cons (pv 0) pa_nil)) pe_int (nomark _)) (pe_one (pe_cmpR op_eq (pe_callB call_lenD (by rfl) T.b_len (by decide +kernel) (pa_cons (pe_dc (own := [("sign", 1)]) rfl nd (pi_src (pv 0)) (blkOk_by (own := [("sign", 1)]) (N := ["value", "sign"]) (sc := defScope (top 27)) (by decide +kernel)) (fun _ _ _ _ _ => (pg_name (i := 1) nd rfl (by first | exact Or.inl rfl | exact Or.inr rfl))) (fun _ _ _ _ _ => pts_nil) (fun _ _ _ _ _ => (pv 1)) (fun _ _ _ _ _ => pe_bl)) pa_nil)) (pe_callB call_lenS (by rfl) T.b_len (by decide +kernel) (pa_cons (pv 0) pa_nil)) (nomark _))))))), ?_⟩
  clear nd hr
  walk_at "r"
  refine ⟨lowS, z, rfl, low_of hlow, by omega, fun H1 s1 => ?_⟩
  have sz := sizeL
  walk_at "r"
  refine ⟨.txt z, rfl, _, rfl, show z.length ≤ sizeLine by omega, ?_⟩
  rw [txt_len, decide_eq_true (by omega)]
  walk_at "r"
  simp only [dcE_src]
  walk_at "r"
  refine ⟨.txt z, rfl, _, rfl, dc_signs h2 hn fun D kvs H' sm eD el => ?_⟩
  walk_at "r"
  refine ⟨kvs, eD, .txt z, rfl, _, rfl, show z.length ≤ sizeLine by omega, rfl, ?_⟩
  rw [txt_len, decide_eq_true el]
  exact q _ (s1.trans sm)
/-! ### one sign that is a number -/
def numC (n : Nat) : Str := ⟨#[48 + n]⟩
theorem num_eq {n : Nat} (h : n < 10) : Str.ofString (toString ((n : Nat) : Int)) = numC n := by
  have e := TL.tl_num n
  rw [TL.numL_lt h] at e
  have e2 : (Str.ofString (toString ((n : Nat) : Int))).cps.toList = [48 + n] := e
  have e3 : (Str.ofString (toString ((n : Nat) : Int))).cps = #[48 + n] := by
    apply Array.toList_inj.mp
    rw [e2]
  cases hq : Str.ofString (toString ((n : Nat) : Int)) with
  | mk c => rw [hq] at e3; unfold numC; rw [← e3]
theorem num_int {n : Nat} (h : n < 10) : intText? (numC n) = some (n : Int) := by
  rw [← num_eq h]
  exact TL.int_num (by rw [TL.numL_lt h]; show 1 ≤ 4300; decide)
def digS : Str := "0123456789"
def sp_number_in (K : PySem.W.Frag) : Sp := fun vs H Q _ => ∃ n : Nat, vs = [.str (numC n)] ∧ n < 10 ∧ ∀ H', Same H H' → Q (.int n) H'
theorem sc_number_in : FnScope ["word", "sign"] ["word"] (defScope (top 29)) := ⟨rfl, rfl, rfl, by decide +kernel, rfl, by decide +kernel, by decide +kernel⟩
theorem ok_number_in {P : Program} {w : World} {K : PySem.W.Frag} {mg : Str → Option Value} {base : Heap} (D : Def K mg "number_in" (top 29) ["word"]) (T : Glo K mg)   : GF P w K mg base 1 "number_in" (sp_number_in K) := by
  have nd := sc_number_in.nd
  refine D.go sc_number_in (fun vs H Q E h => ?_) (fun f cdv A outer s0 H vs Q E hr h => ?_)
  · obtain ⟨n, rfl, hn, q⟩ := h; rfl
  obtain ⟨n, rfl, hn, q⟩ := h
  refine ⟨_, (pss_cons (ps_if (PW.pt (pw_or (pt_not (pt_chain op_le op_le pe_int (pe_callB call_lenS (by rfl) T.b_len (by decide +kernel) (pa_cons (pv 0) pa_nil)) pe_int)) (pw_or1 (pt_not (pt_val (pe_callB (cr_all rfl) (by rfl) T.b_all (by decide +kernel) (pa_cons (pe_lc (own := [("sign", 1)]) rfl nd (pi_src (pv 0)) (blkOk_by (own := [("sign", 1)]) (N := ["word", "sign"]) (sc := defScope (top 29)) (by decide +kernel)) (fun _ _ _ _ _ => (pg_name (i := 1) nd rfl (by first | exact Or.inl rfl | exact Or.inr rfl))) (fun _ _ _ _ _ => pts_nil) (fun _ _ _ _ _ => (pe_cmpR op_in_sign (pv 1) (pe_gl T.v_DIGITS) (by rfl)))) pa_nil)))))))
  (pss_one (ps_ret pe_non))
  pss_nil)
  (pss_one (ps_ret (pe_ifExp (PW.pt (pw_and (pt_cmpR op_eq (pe_ix ix_src (pv 0) pe_int (fun _ _ => rfl)) pe_str (nomark _)) (pw_and1 (pt_cmpR op_ne (pv 0) pe_str (nomark _))))) pe_non (pe_callTy call_int_str (by rfl) T.b_int (by decide +kernel) (pa_cons (pv 0) pa_nil)))))), ?_⟩
  clear nd hr
  have hz : ∀ x : Str, x.length = 1 → x.length ≤ sizeLine := fun x h => by rw [h]; decide
  walk_at "r"
  refine ⟨.txt (numC n), rfl, _, rfl, hz _ rfl, ?_⟩
  rw [txt_len, show (numC n).length = 1 from rfl]
  rw [if_pos (by decide), if_neg (by decide)]
  have hl : (numC n).cps.toList = [48 + n] := rfl
  refine ⟨.txt (numC n), rfl, _, rfl, lcB0 (walk_src (K := K) (S := .txt (numC n))) [] (fun _ _ v => v = .bl true) Dom.nil (by rw [txt_len]; show 1 < sizeLine; decide) (fun _ _ => rfl) (fun _ _ _ _ _ h => h) (fun S2 i x H1 H2 Z hi hs d2 sm s1 y hz => ?_) fun D ws H' sm _ _ _ eD hl hv => ?_⟩
  · obtain ⟨e, hx⟩ := y
    subst e
    obtain ⟨c, hc, rfl⟩ := at_sign hx
    walk_at "r"
    refine ⟨c, rfl, hz _ _ (Same.refl _) ?_⟩
    have hm := List.mem_of_getElem? hc
    rw [hl, List.mem_singleton] at hm
    subst hm
    have e : digS.cps.toList = (List.range 10).map (48 + ·) := by decide +kernel
    have : 48 + n ∈ digS.cps.toList := by
      rw [e, List.mem_map]
      exact ⟨n, by simp; omega, rfl⟩
    show V.bl (decide (48 + n ∈ digS.cps.toList)) = .bl true
    rw [decide_eq_true this]
  · rw [bls_of hv] at eD
    refine ⟨_, rfl, _, sqL eD, ?_⟩
    rw [all_rep, if_neg (by decide)]
    refine later ?_
    walk_at "r"
    refine ⟨.txt (numC n), rfl, _, rfl, hz _ rfl, .str (numC n), rfl, rfl, ?_⟩
    have fin : ∃ x, intText? (numC n) = some x ∧ 1 ≤ 640 ∧ Q (V.int x) H' := ⟨n, num_int hn, by decide, q _ sm⟩
    by_cases h0 : numC n = Str.ofString "0"
    · rw [h0] at fin ⊢
      rw [if_pos (by simp)]
      refine ⟨rfl, ?_⟩
      rw [if_neg (by simp)]
      exact fin
    · rw [if_neg (by simp [h0])]
      exact fin
end Gt

set_option Elab.async false
set_option linter.all false
set_option maxRecDepth 100000
set_option maxHeartbeats 2000000
namespace Gt
open PySem PySem.Spec PyProof.Rows L2 StX
local macro_rules | `(tactic| walk_at "r") => `(tactic| simp only [tRet, tRetN, tAndV, tOrV, tNotV, tAnd, tOr, tNot, tCB, tCons, tNil, tC, tVar, L2.start, tCl, tOp, tTest, tB, tIf, tIfS, seqE, tAsg, gName, gTup, gLst, gCons, gNil, tPar, tPar3, tTup, tLst, tFld, sFld, sFldAug, tMt, tPr, tMakeR, tMakeL, tCallV, tWith, tSl, tPart, tNoPart, tM1, tM0, tBM, tBM0, tStar, tRevS, tJs, fmtE, tDrop, tNext, tChain, tUn, tYes, gSub, gAttr, ClX.tCMeth, lcE_src, lcE_enum, lcE_rng, lc2E_src, forE_src, forE_enum, forE_rng, forE_zip, iZipS, cxOf, Cx.nox, Cx.blk,
  rI, rI0, rU, rEq, rNe, rAdd, rIsi, rIsiT, rAll, rAny, rEqD, rNeD, rSrc, rSlL, rSlT, rSlS, rCat, rCatT, rNewStrs, rAppend, rIn,
  List.map_cons, List.map_nil, List.length_cons, List.length_nil, List.replicate, List.append_nil, List.cons_append, List.nil_append, List.getElem?_cons_zero, List.getElem?_cons_succ, List.set_cons_zero, List.set_cons_succ, wipe,
  Option.some.injEq, List.cons.injEq, V.int.injEq, V.bl.injEq, V.str.injEq, V.ref.injEq, and_true, true_and, exists_eq_left', exists_eq_left, exists_eq, exists_eq', exists_and_left, Nat.sub_self, Nat.zero_add, Nat.reduceAdd, Nat.reduceSub, Bool.not_true, Bool.not_false, Bool.false_eq_true, ite_true, ite_false, if_true, if_false, and_assoc, Int.ofNat_inj])
local macro_rules | `(tactic| walk_at "n") => `(tactic| (refine later ?_; try walk_at "r"))
local macro_rules | `(tactic| walk_at "m") => `(tactic| (refine later ?_; try walk_at "r"; refine later ?_; try walk_at "r"))
theorem ite_t {c : Bool} {A B : Prop} (e : c = true) (h : A) : if c = true then A else B := by rw [if_pos e]; exact h
theorem ite_f {c : Bool} {A B : Prop} (e : c = false) (h : B) : if c = true then A else B := by rw [if_neg (by rw [e]; decide)]; exact h
theorem vN_non {n : Nat} : decide (vN (some n) = V.non) = false := by simp [vN]
theorem vN_non' : decide (vN none = V.non) = true := by simp [vN]
def sp_Setting_UinitU (K : PySem.W.Frag) : Sp := fun vs H Q _ => ∃ (a dx : Addr) (sr : Option Nat) (hd tl : Str) (tn : Bool), vs = [.ref a, vN sr, .str hd, .str tl, .bl tn] ∧ H a = some (.ins (cS K) dx []) ∧ Low hd ∧ Low tl ∧ hd.length ≤ 1000 ∧ tl.length ≤ 1000 ∧ (sr = none → tl = Str.empty ∧ tn = false) ∧
  ∀ H', Kp [a] H H' → H' a = some (.ins (cS K) dx (fsS ⟨sr, hd, tl, tn⟩)) → Q .non H'
theorem sc_Setting_UinitU : FnScope ["self", "source", "head", "tail", "is_turned"] ["self", "source", "head", "tail", "is_turned"] (defScope (inClass (top 31) 0)) := ⟨rfl, rfl, rfl, by decide +kernel, rfl, by decide +kernel, by decide +kernel⟩
theorem ok_Setting_UinitU {P : Program} {w : World} {K : PySem.W.Frag} {mg : Str → Option Value} {base : Heap} (D : Ini K mg "Setting" (cls_Setting K) "Setting.__init__" (inClass (top 31) 0) ["self", "source", "head", "tail", "is_turned"] [.str "", .bl false]) (T : Glo K mg) (g_is_number : GF P w K mg base 2 "is_number" (sp_is_number K)) (g_is_text : GF P w K mg base 1 "is_text" (sp_is_text K))  : GC P w K mg base 3 "Setting" (cls_Setting K) (sp_Setting_UinitU K) ∧ GC P w K mg base 3 "Setting" (cls_Setting K) (fun vs H Q E => sp_Setting_UinitU K (vs ++ [.str "", .bl false]) H Q E) := by
  have nd := sc_Setting_UinitU.nd
  refine D.go sc_Setting_UinitU (fun vs H Q E h => ?_) (fun f cdv A outer s0 H vs Q E hr h => ?_)
  · obtain ⟨a, dx, sr, hd, tl, tn, rfl, ea, l1, l2, z1, z2, hno, q⟩ := h; rfl
  obtain ⟨a, dx, sr, hd, tl, tn, rfl, ea, l1, l2, z1, z2, hno, q⟩ := h
  refine ⟨_, (pss_cons (ps_if (PW.pt (pw_and (pt_cmpR op_notN (pv 1) pe_non (nomark _)) (pw_and1 (pt_not (pt_val (pc_g g_is_number hr (pa_cons (pv 1) pa_nil)))))))
  (pss_one ps_never)
  pss_nil)
  (pss_cons (ps_if (pt_not (pt_val (pc_g g_is_text hr (pa_cons (pe_gl T.v_LOWER) (pa_cons (pv 2) pa_nil)))))
  (pss_one ps_never)
  pss_nil)
  (pss_cons (ps_if (PW.pt (pw_or (pt_not (pt_val (pc_g g_is_text hr (pa_cons (pe_gl T.v_LOWER) (pa_cons (pv 3) pa_nil))))) (pw_or1 (PW.pt (pw_and (pt_cmpR op_isN (pv 1) pe_non (nomark _)) (pw_and1 (pt_cmpR op_ne (pv 3) pe_str (nomark _))))))))
  (pss_one ps_never)
  pss_nil)
  (pss_cons (ps_if (PW.pt (pw_or (pt_not (pt_val (pe_callB call_isi (by rfl) T.b_isinstance (by decide +kernel) (pa_cons (pv 4) (pa_cons (pe_bltn (v := .ty "bool") (by rfl) T.b_bool (by decide +kernel) rfl) pa_nil))))) (pw_or1 (PW.pt (pw_and (pt_cmpR op_isN (pv 1) pe_non (nomark _)) (pw_and1 (pt_val (pv 4))))))))
  (pss_one ps_never)
  pss_nil)
  (pss_cons (ps_fld (pv 0) (pv 1) rfl)
  (pss_cons (ps_fld (pv 0) (pv 2) rfl)
  (pss_cons (ps_fld (pv 0) (pv 3) rfl)
  (pss_one (ps_fld (pv 0) (pv 4) rfl))))))))), ?_⟩
  clear nd hr
  walk_at "r"
  have t1 : ∀ {H1 : Hp} {Z : V → Hp → Prop}, (∀ H2, Same H1 H2 → Z (.bl true) H2) → sp_is_text K [V.str "abcdefghijklmnopqrstuvwxyz", V.str hd] H1 Z E0 := fun h => ⟨lowS, hd, rfl, low_of l1, by omega, h⟩
  have t2 : ∀ {H1 : Hp} {Z : V → Hp → Prop}, (∀ H2, Same H1 H2 → Z (.bl true) H2) → sp_is_text K [V.str "abcdefghijklmnopqrstuvwxyz", V.str tl] H1 Z E0 := fun h => ⟨lowS, tl, rfl, low_of l2, by omega, h⟩
  cases sr with
  | none =>
    obtain ⟨e1, e2⟩ := hno rfl
    refine ite_f (by rw [vN_non'] <;> rfl) ?_
    walk_at "n"
    refine t1 fun H1 s1 => ?_
    walk_at "r"
    walk_at "n"
    refine t2 fun H2 s2 => ?_
    walk_at "r"
    refine ite_t vN_non' ⟨rfl, ite_f (by rw [e1]; rfl) ?_⟩
    walk_at "n"
    refine ⟨_, _, .ty _, .base (.bl _), true, kit_ty (by decide +kernel), ?_⟩
    walk_at "r"
    refine ite_t vN_non' (ite_f e2 ?_)
    walk_at "n"
    have e := s2 _ _ (s1 _ _ ea)
    refine ⟨_, _, _, e, T.cS, T.nS _ (by decide), Nat.le_of_ble_eq_true rfl, ?_⟩
    walk_at "n"
    refine ⟨_, _, _, upd_same, T.cS, T.nS _ (by decide), Nat.le_of_ble_eq_true rfl, ?_⟩
    walk_at "n"
    refine ⟨_, _, _, upd_same, T.cS, T.nS _ (by decide), Nat.le_of_ble_eq_true rfl, ?_⟩
    walk_at "n"
    refine ⟨_, _, _, upd_same, T.cS, T.nS _ (by decide), Nat.le_of_ble_eq_true rfl, ?_⟩
    have m : a ∈ [a] := by simp
    exact q _ ((((Kp.of (s1.trans s2)).trans (Kp.upd m)).trans (Kp.upd m)).trans (Kp.upd m) |>.trans (Kp.upd m)) upd_same
  | some n =>
    refine ite_t (by rw [vN_non] <;> rfl) ?_
    refine ⟨n, rfl, ?_⟩
    walk_at "r"
    walk_at "n"
    refine t1 fun H1 s1 => ?_
    walk_at "r"
    walk_at "n"
    refine t2 fun H2 s2 => ?_
    walk_at "r"
    refine ite_f vN_non ?_
    walk_at "n"
    refine ⟨_, _, .ty _, .base (.bl _), true, kit_ty (by decide +kernel), ?_⟩
    walk_at "r"
    refine ite_f vN_non ?_
    walk_at "n"
    have e := s2 _ _ (s1 _ _ ea)
    refine ⟨_, _, _, e, T.cS, T.nS _ (by decide), Nat.le_of_ble_eq_true rfl, ?_⟩
    walk_at "n"
    refine ⟨_, _, _, upd_same, T.cS, T.nS _ (by decide), Nat.le_of_ble_eq_true rfl, ?_⟩
    walk_at "n"
    refine ⟨_, _, _, upd_same, T.cS, T.nS _ (by decide), Nat.le_of_ble_eq_true rfl, ?_⟩
    walk_at "n"
    refine ⟨_, _, _, upd_same, T.cS, T.nS _ (by decide), Nat.le_of_ble_eq_true rfl, ?_⟩
    have m : a ∈ [a] := by simp
    exact q _ ((((Kp.of (s1.trans s2)).trans (Kp.upd m)).trans (Kp.upd m)).trans (Kp.upd m) |>.trans (Kp.upd m)) upd_same
def overS (sr : Option Nat) (hd tl : Str) (tn : Bool) (t : Str) : Str := match sr with
  | none => hd
  | some _ => hd ++ (if tn then revS t else t) ++ tl
def sp_Setting_over (K : PySem.W.Frag) : Sp := fun vs H Q _ => ∃ (v : V) (s : Sett) (t : Str), vs = [v, .str t] ∧ oSett K H v s ∧ s.hd.length ≤ 1000 ∧ s.tl.length ≤ 1000 ∧ t.length ≤ 100000 ∧ Q (.str (overS s.src s.hd s.tl s.tn t)) H
theorem sc_Setting_over : FnScope ["self", "text"] ["self", "text"] (defScope (inClass (top 31) 2)) := ⟨rfl, rfl, rfl, by decide +kernel, rfl, by decide +kernel, by decide +kernel⟩
theorem ok_Setting_over {P : Program} {w : World} {K : PySem.W.Frag} {mg : Str → Option Value} {base : Heap} (D : Mth K (cls_Setting K) "over" "Setting.over" (inClass (top 31) 2) ["self", "text"]) (T : Glo K mg)   : GM P w K mg base 1 (cls_Setting K) "over" (sp_Setting_over K) := by
  have nd := sc_Setting_over.nd
  refine D.go sc_Setting_over (fun vs H Q E h => ?_) (fun f cdv A outer s0 H vs Q E hr h => ?_)
  · obtain ⟨v, s, t, rfl, ⟨a, dx, rfl, ea⟩, z1, z2, z3, q⟩ := h; rfl
  obtain ⟨v, s, t, rfl, ⟨a, dx, rfl, ea⟩, z1, z2, z3, q⟩ := h
  refine ⟨_, (pss_cons (ps_if (pt_cmpR op_isN (pe_fld (pv 0) rfl) pe_non (nomark _))
  (pss_one (ps_ret (pe_fld (pv 0) rfl)))
  pss_nil)
  (pss_one (ps_ret (pe_op op_add_str (pe_op op_add_str (pe_fld (pv 0) rfl) (pe_ifExp (pt_val (pe_fld (pv 0) rfl)) (pe_revS (pv 1) (pe_un un_neg pe_int)) (pv 1))) (pe_fld (pv 0) rfl))))), ?_⟩
  clear nd hr
  have sz := sizeL
  walk_at "r"
  refine ⟨_, _, _, ea, T.cS, T.nS _ (by decide), _, rfl, ?_⟩
  cases e : s.src with
  | none =>
    rw [e] at q
    refine ite_t vN_non' ?_
    refine ⟨_, _, _, ea, T.cS, T.nS _ (by decide), _, rfl, ?_⟩
    exact q
  | some n =>
    rw [e] at q
    refine ite_f vN_non ?_
    walk_at "n"
    refine ⟨_, _, _, ea, T.cS, T.nS _ (by decide), _, rfl, ?_⟩
    refine ⟨_, _, _, ea, T.cS, T.nS _ (by decide), _, rfl, s.tn, rfl, ?_⟩
    refine ite2' (fun e2 => ?_) (fun e2 => ?_)
    · refine ⟨by omega, s.hd, rfl, by rw [revS_len]; omega, _, _, _, ea, T.cS, T.nS _ (by decide), _, rfl, s.tl, rfl, by rw [len_app, revS_len]; omega, ?_⟩
      rw [e2] at q
      exact q
    · refine ⟨s.hd, rfl, by omega, _, _, _, ea, T.cS, T.nS _ (by decide), _, rfl, s.tl, rfl, by rw [len_app]; omega, ?_⟩
      rw [e2] at q
      exact q
theorem fmt_num {n : Nat} {H : Hp} {Q : VK} (h : n < 10) (q : Q (.str (numC n)) H) : FmtV (.int (n : Nat)) H Q := .inr ⟨n, rfl, by
  show n.log2 < 1920
  exact (by decide : ∀ n, n < 10 → Nat.log2 n < 1920) n h, by
  have e : (Str.ofString (toString ((n : Nat) : Int))) = numC n := num_eq h
  show Q (.str (Str.ofString (toString ((n : Nat) : Int)))) H
  rw [e]
  exact q⟩
theorem emp_app (x : Str) : Str.empty ++ x = x := by
  show (⟨#[] ++ x.cps⟩ : Str) = x
  rw [Array.empty_append]
def markS (tn : Bool) : Str := if tn then "~" else ""
def midS (sr : Option Nat) (tn : Bool) : Str := match sr with
  | none => "-"
  | some n => markS tn ++ numC n
def settText (s : Sett) : Str := s.hd ++ "." ++ midS s.src s.tn ++ "." ++ s.tl
def sp_Setting_UstrU (K : PySem.W.Frag) : Sp := fun vs H Q _ => ∃ (v : V) (s : Sett), vs = [v] ∧ oSett K H v s ∧ s.hd.length ≤ 1000 ∧ s.tl.length ≤ 1000 ∧ (∀ n, s.src = some n → n < 10) ∧ Q (.str (settText s)) H
theorem sc_Setting_UstrU : FnScope ["self", "mark", "middle"] ["self"] (defScope (inClass (top 31) 5)) := ⟨rfl, rfl, rfl, by decide +kernel, rfl, by decide +kernel, by decide +kernel⟩
theorem ok_Setting_UstrU {P : Program} {w : World} {K : PySem.W.Frag} {mg : Str → Option Value} {base : Heap} (D : Spc K (cls_Setting K) "__str__" "Setting.__str__" (inClass (top 31) 5) ["self"]) (T : Glo K mg)   : GS P w K mg base 1 (cls_Setting K) "__str__" (sp_Setting_UstrU K) := by
  have nd := sc_Setting_UstrU.nd
  refine D.go sc_Setting_UstrU (fun vs H Q E h => ?_) (fun f cdv A outer s0 H vs Q E hr h => ?_)
  · obtain ⟨v, s, rfl, ⟨a, dx, rfl, ea⟩, z1, z2, hn, q⟩ := h; rfl
  obtain ⟨v, s, rfl, ⟨a, dx, rfl, ea⟩, z1, z2, hn, q⟩ := h
  refine ⟨_, (pss_cons (ps_set (i := 1) nd rfl (by first | exact Or.inl rfl | exact Or.inr rfl) (pe_ifExp (pt_val (pe_fld (pv 0) rfl)) pe_str pe_str))
  (pss_cons (ps_set (i := 2) nd rfl (by first | exact Or.inl rfl | exact Or.inr rfl) (pe_ifExp (pt_cmpR op_isN (pe_fld (pv 0) rfl) pe_non (nomark _)) pe_str (pe_joined (pj_cons (pe_fmt (pv 1)) (pj_cons (pe_fmt (pe_fld (pv 0) rfl)) pj_nil)))))
  (pss_one (ps_ret (pe_joined (pj_cons (pe_fmt (pe_fld (pv 0) rfl)) (pj_cons pe_str (pj_cons (pe_fmt (pv 2)) (pj_cons pe_str (pj_cons (pe_fmt (pe_fld (pv 0) rfl)) pj_nil)))))))))), ?_⟩
  clear nd hr
  have sz := sizeL
  walk_at "r"
  refine ⟨_, _, _, ea, T.cS, T.nS _ (by decide), _, rfl, s.tn, rfl, ?_⟩
  refine ite2' (fun e2 => ?_) (fun e2 => ?_)
  all_goals
    walk_at "n"
    refine ⟨_, _, _, ea, T.cS, T.nS _ (by decide), _, rfl, ?_⟩
    cases es : s.src with
    | none =>
      refine ite_t vN_non' ?_
      walk_at "n"
      refine ⟨_, _, _, ea, T.cS, T.nS _ (by decide), _, rfl, fmt_str (by omega) ⟨s.hd, rfl, ?_⟩⟩
      simp only [emp_app]
      have zd : (Str.ofString ".").length = 1 := rfl
      have zm : (Str.ofString "-").length = 1 := rfl
      have zt : (Str.ofString "~").length = 1 := rfl
      have z0 : (Str.ofString "").length = 0 := rfl
      have zn : ∀ n, (numC n).length = 1 := fun _ => rfl
      unfold settText at q
      rw [es, e2] at q
      refine ⟨by omega, by rw [len_app]; omega, fmt_str (by first | decide | (rw [len_app, zn]; decide)) ⟨_, rfl, ?_, ?_, _, _, _, ea, T.cS, T.nS _ (by decide), _, rfl, fmt_str (by omega) ⟨s.tl, rfl, ?_, q⟩⟩⟩
      all_goals (simp only [len_app, zn, zd, zm, zt, z0]; omega)
    | some n =>
      refine ite_f vN_non (fmt_str (by decide) ⟨_, rfl, (by decide), _, _, _, ea, T.cS, T.nS _ (by decide), _, rfl, ?_⟩)
      rw [es]
      refine fmt_num (hn n es) ⟨_, rfl, by rw [len_app, show (numC n).length = 1 from rfl]; exact Nat.le_of_ble_eq_true rfl, ?_⟩
      walk_at "n"
      refine ⟨_, _, _, ea, T.cS, T.nS _ (by decide), _, rfl, fmt_str (by omega) ⟨s.hd, rfl, ?_⟩⟩
      simp only [emp_app]
      have zd : (Str.ofString ".").length = 1 := rfl
      have zm : (Str.ofString "-").length = 1 := rfl
      have zt : (Str.ofString "~").length = 1 := rfl
      have z0 : (Str.ofString "").length = 0 := rfl
      have zn : ∀ n, (numC n).length = 1 := fun _ => rfl
      unfold settText at q
      rw [es, e2] at q
      refine ⟨by omega, by rw [len_app]; omega, fmt_str (by first | decide | (rw [len_app, zn]; decide)) ⟨_, rfl, ?_, ?_, _, _, _, ea, T.cS, T.nS _ (by decide), _, rfl, fmt_str (by omega) ⟨s.tl, rfl, ?_, q⟩⟩⟩
      all_goals (simp only [len_app, zn, zd, zm, zt, z0]; omega)
def sp_is_setting (K : PySem.W.Frag) : Sp := fun vs H Q _ => ∃ (g : Str) (v : V) (s : Sett), vs = [.str g, v] ∧ oSett K H v s ∧ Of g s.hd ∧ Of g s.tl ∧ s.hd.length ≤ 1000 ∧ s.tl.length ≤ 1000 ∧ ∀ H', Same H H' → Q (.bl true) H'
theorem sc_is_setting : FnScope ["signs", "value"] ["signs", "value"] (defScope (top 33)) := ⟨rfl, rfl, rfl, by decide +kernel, rfl, by decide +kernel, by decide +kernel⟩
theorem ok_is_setting {P : Program} {w : World} {K : PySem.W.Frag} {mg : Str → Option Value} {base : Heap} (D : Def K mg "is_setting" (top 33) ["signs", "value"]) (T : Glo K mg) (g_is_text : GF P w K mg base 1 "is_text" (sp_is_text K))  : GF P w K mg base 2 "is_setting" (sp_is_setting K) := by
  have nd := sc_is_setting.nd
  refine D.go sc_is_setting (fun vs H Q E h => ?_) (fun f cdv A outer s0 H vs Q E hr h => ?_)
  · obtain ⟨g, v, s, rfl, ⟨a, dx, rfl, ea⟩, h1, h2, z1, z2, q⟩ := h; rfl
  obtain ⟨g, v, s, rfl, ⟨a, dx, rfl, ea⟩, h1, h2, z1, z2, q⟩ := h
  refine ⟨_, (pss_one (ps_ret (pe_and (pe_callB call_isi (by rfl) T.b_isinstance (by decide +kernel) (pa_cons (pv 1) (pa_cons (pe_gl T.v_Setting) pa_nil))) (pe_and (pc_g g_is_text hr (pa_cons (pv 0) (pa_cons (pe_fld (pv 1) rfl) pa_nil))) (pe_one (pc_g g_is_text hr (pa_cons (pv 0) (pa_cons (pe_fld (pv 1) rfl) pa_nil)))))))), ?_⟩
  clear nd hr
  walk_at "r"
  refine ⟨_, _, .own _, T.iS ea, true, T.kS, ?_⟩
  walk_at "r"
  refine ⟨_, _, _, ea, T.cS, T.nS _ (by decide), _, rfl, ?_⟩
  refine ⟨g, s.hd, rfl, h1, by omega, fun H1 s1 => ?_⟩
  walk_at "r"
  refine ⟨_, _, _, s1 _ _ ea, T.cS, T.nS _ (by decide), _, rfl, ?_⟩
  exact ⟨g, s.tl, rfl, h2, by omega, fun H2 s2 => q _ (s1.trans s2)⟩
end Gt

set_option Elab.async false
set_option linter.all false
set_option maxRecDepth 100000
set_option maxHeartbeats 2000000
namespace Gt
open PySem PySem.Spec PyProof.Rows L2 StX
local macro_rules | `(tactic| walk_at "r") => `(tactic| simp only [tRet, tRetN, tAndV, tOrV, tNotV, tAnd, tOr, tNot, tCB, tCons, tNil, tC, tVar, L2.start, tCl, tOp, tTest, tB, tIf, tIfS, seqE, tAsg, gName, gTup, gLst, gCons, gNil, tPar, tPar3, tTup, tLst, tFld, sFld, sFldAug, tMt, tPr, tMakeR, tMakeL, tCallV, tWith, tSl, tPart, tNoPart, tM1, tM0, tBM, tBM0, tStar, tRevS, tJs, fmtE, tDrop, tNext, tChain, tUn, tYes, gSub, gAttr, ClX.tCMeth, lcE_src, lcE_enum, lcE_rng, lc2E_src, forE_src, forE_enum, forE_rng, forE_zip, iZipS, cxOf, Cx.nox, Cx.blk,
  rI, rI0, rU, rEq, rNe, rAdd, rIsi, rIsiT, rAll, rAny, rEqD, rNeD, rSrc, rSlL, rSlT, rSlS, rCat, rCatT, rNewStrs, rAppend, rIn,
  List.map_cons, List.map_nil, List.length_cons, List.length_nil, List.replicate, List.append_nil, List.cons_append, List.nil_append, List.getElem?_cons_zero, List.getElem?_cons_succ, List.set_cons_zero, List.set_cons_succ, wipe,
  Option.some.injEq, List.cons.injEq, V.int.injEq, V.bl.injEq, V.str.injEq, V.ref.injEq, and_true, true_and, exists_eq_left', exists_eq_left, exists_eq, exists_eq', exists_and_left, Nat.sub_self, Nat.zero_add, Nat.reduceAdd, Nat.reduceSub, Bool.not_true, Bool.not_false, Bool.false_eq_true, ite_true, ite_false, if_true, if_false, and_assoc, Int.ofNat_inj])
local macro_rules | `(tactic| walk_at "n") => `(tactic| (refine later ?_; try walk_at "r"))
local macro_rules | `(tactic| walk_at "m") => `(tactic| (refine later ?_; try walk_at "r"; refine later ?_; try walk_at "r"))
def sp_Setting2 (K : PySem.W.Frag) : Sp := fun vs H Q E => sp_Setting_UinitU K (vs ++ [.str "", .bl false]) H Q E
theorem app_assoc (a b c : Str) : a ++ b ++ c = a ++ (b ++ c) := by
  show (⟨(a.cps ++ b.cps) ++ c.cps⟩ : Str) = ⟨a.cps ++ (b.cps ++ c.cps)⟩
  rw [Array.append_assoc]
theorem tl_eq (z : Str) : TL.tl z = z.cps.toList := rfl
/-- a sign that a text does not have -/
def Free (c : Nat) (z : Str) : Prop := c ∉ TL.tl z
theorem free_app {c : Nat} {a b : Str} (h1 : Free c a) (h2 : Free c b) : Free c (a ++ b) := fun h => by
  rw [TL.tl_append] at h
  exact (List.mem_append.mp h).elim h1 h2
theorem free_low {c : Nat} {z : Str} (h : Low z) (hc : c < 97 ∨ 122 < c) : Free c z := fun hm => by
  have := h c hm
  omega
theorem free_num {c n : Nat} (h : c < 48 ∨ 57 < c) (hn : n < 10) : Free c (numC n) := fun hm => by
  have e : TL.tl (numC n) = [48 + n] := rfl
  rw [e, List.mem_singleton] at hm
  omega
structure SettLow (s : Sett) : Prop where
  hd : Low s.hd
  tl : Low s.tl
  z1 : s.hd.length ≤ 1000
  z2 : s.tl.length ≤ 1000
  n : ∀ n, s.src = some n → n < 10
  no : s.src = none → s.tl = Str.empty ∧ s.tn = false
theorem free_mid {s : Sett} (h : SettLow s) {c : Nat} (hc : c ≠ 45) (h1 : c ≠ 126) (h2 : c < 48 ∨ 57 < c) : Free c (midS s.src s.tn) := by
  cases e : s.src with
  | none =>
    intro hm
    have e : TL.tl (midS none s.tn) = [45] := rfl
    rw [e, List.mem_singleton] at hm
    exact hc hm
  | some n =>
    show Free c (markS s.tn ++ numC n)
    refine free_app ?_ (free_num h2 (h.n n e))
    cases s.tn with
    | false => intro hm; cases hm
    | true =>
      intro hm
      have e : TL.tl (markS true) = [126] := rfl
      rw [e, List.mem_singleton] at hm
      exact h1 hm
theorem sett_join (s : Sett) : settText s = Txt.join "." [s.hd, midS s.src s.tn, s.tl] := by
  rw [TL.join_eq]
  show settText s = s.hd ++ "." ++ (midS s.src s.tn ++ "." ++ s.tl)
  unfold settText
  simp only [app_assoc]
theorem sett_split {s : Sett} (h : SettLow s) : Txt.split (settText s) "." = [s.hd, midS s.src s.tn, s.tl] := by
  rw [sett_join]
  refine TL.split_join (s := 46) (S := []) rfl (by decide +kernel) (by simp) fun p hp => ?_
  simp only [List.mem_cons, List.not_mem_nil, or_false] at hp
  rcases hp with rfl | rfl | rfl
  · exact free_low h.hd (by omega)
  · exact free_mid h (by omega) (by omega) (by omega)
  · exact free_low h.tl (by omega)
theorem mid_len (s : Sett) : (midS s.src s.tn).length ≤ 2 := by
  cases s.src with
  | none => exact Nat.le_of_ble_eq_true rfl
  | some n =>
    show (markS s.tn ++ numC n).length ≤ 2
    rw [len_app]
    cases s.tn <;> exact Nat.le_of_ble_eq_true rfl
theorem sett_len {s : Sett} (h : SettLow s) : (settText s).length ≤ 2010 := by
  have h1 := h.z1
  have h2 := h.z2
  have h3 := mid_len s
  have zd : (Str.ofString ".").length = 1 := rfl
  unfold settText
  simp only [len_app, zd]
  omega
theorem made {H H4 : Hp} {dx x : Addr} {o o' : HO} (hx : H x = none) (hdx : H dx = none) (k : Kp [x] (upd (upd H dx o) x o') H4) : Same H H4 := fun a u e => by
  have n1 : a ≠ x := fun z => by rw [z, hx] at e; cases e
  have n2 : a ≠ dx := fun z => by rw [z, hdx] at e; cases e
  exact k a u (by simpa using n1) (by rw [upd_ne n1, upd_ne n2]; exact e)
theorem low_emp : Low Str.empty := fun c hc => by cases hc
theorem mid_ne {n : Nat} {tn : Bool} (hn : n < 10) : decide (midS (some n) tn = Str.ofString "-") = false := by
  refine decide_eq_false fun h => ?_
  have h2 := congrArg (fun z : Str => z.cps.toList) h
  cases tn with
  | true => exact absurd h2 (by show ([126, 48 + n] : List Nat) ≠ [45]; simp)
  | false =>
    have h3 : ([48 + n] : List Nat) = [45] := h2
    have := List.cons.inj h3
    omega
theorem mid_cut {n : Nat} {tn : Bool} (hn : n < 10) : decide (cutS (midS (some n) tn) none (some 1) = Str.ofString "~") = tn := by
  cases tn with
  | true => exact decide_eq_true rfl
  | false =>
    refine decide_eq_false fun h => ?_
    have h2 := congrArg (fun z : Str => z.cps.toList) h
    have h3 : ([48 + n] : List Nat) = [126] := h2
    have := List.cons.inj h3
    omega
theorem cut_all (n : Nat) : cutS (midS (some n) true) (some 1) none = numC n := rfl
theorem mid_plain (n : Nat) : midS (some n) false = numC n := by
  show (⟨#[] ++ #[48 + n]⟩ : Str) = _
  rfl
def sp_setting_in (K : PySem.W.Frag) : Sp := fun vs H Q _ => ∃ (S : List Addr) (s : Sett), vs = [.str (settText s)] ∧ SettLow s ∧ Dom S H ∧ ∀ H' r, Same H H' → oSett K (hid S H') r s → Q r H'
theorem sc_setting_in : FnScope ["text", "words", "head", "middle", "tail", "is_turned", "source"] ["text"] (defScope (top 32)) := ⟨rfl, rfl, rfl, by decide +kernel, rfl, by decide +kernel, by decide +kernel⟩
theorem ok_setting_in {P : Program} {w : World} {K : PySem.W.Frag} {mg : Str → Option Value} {base : Heap} (D : Def K mg "setting_in" (top 32) ["text"]) (T : Glo K mg) (g_is_text : GF P w K mg base 1 "is_text" (sp_is_text K)) (c_Setting2 : GC P w K mg base 3 "Setting" (cS K) (sp_Setting2 K)) (g_number_in : GF P w K mg base 1 "number_in" (sp_number_in K)) (c_Setting4 : GC P w K mg base 3 "Setting" (cS K) (sp_Setting_UinitU K))  : GF P w K mg base 5 "setting_in" (sp_setting_in K) := by
  have nd := sc_setting_in.nd
  refine D.go sc_setting_in (fun vs H Q E h => ?_) (fun f cdv A outer s0 H vs Q E hr h => ?_)
  · obtain ⟨S, s, rfl, hs, d, q⟩ := h; rfl
  obtain ⟨S, s, rfl, hs, d, q⟩ := h
  refine ⟨_, (pss_cons (ps_set (i := 1) nd rfl (by first | exact Or.inl rfl | exact Or.inr rfl) (pe_split (pv 0) pe_str))
  (pss_cons (ps_if (PW.pt (pw_or (pt_cmpR op_ne (pe_callB call_lenS (by rfl) T.b_len (by decide +kernel) (pa_cons (pv 1) pa_nil)) pe_int (nomark _)) (pw_or (pt_not (pt_val (pc_g g_is_text hr (pa_cons (pe_gl T.v_LOWER) (pa_cons (pe_ix ix_src (pv 1) pe_int (fun _ _ => rfl)) pa_nil))))) (pw_or1 (pt_not (pt_val (pc_g g_is_text hr (pa_cons (pe_gl T.v_LOWER) (pa_cons (pe_ix ix_src (pv 1) pe_int (fun _ _ => rfl)) pa_nil)))))))))
  (pss_one (ps_ret pe_non))
  pss_nil)
  (pss_cons (ps_asg (pv 1) (pg_lst (n := 3) rfl (pgs_cons (pg_name (i := 2) nd rfl (by first | exact Or.inl rfl | exact Or.inr rfl)) (pgs_cons (pg_name (i := 3) nd rfl (by first | exact Or.inl rfl | exact Or.inr rfl)) (pgs_cons (pg_name (i := 4) nd rfl (by first | exact Or.inl rfl | exact Or.inr rfl)) pgs_nil)))))
  (pss_cons (ps_if (pt_cmpR op_eq (pv 3) pe_str (nomark _))
  (pss_one (ps_ret (pe_ifExp (pt_cmpR op_eq (pv 4) pe_str (nomark _)) (pc_c c_Setting2 hr (pa_cons pe_non (pa_cons (pv 2) pa_nil))) pe_non)))
  pss_nil)
  (pss_cons (ps_set (i := 5) nd rfl (by first | exact Or.inl rfl | exact Or.inr rfl) (pe_cmpR op_eq (pe_slice sl_str (pv 3) po_none (po_some pe_int)) pe_str (nomark _)))
  (pss_cons (ps_set (i := 6) nd rfl (by first | exact Or.inl rfl | exact Or.inr rfl) (pc_g g_number_in hr (pa_cons (pe_ifExp (pt_val (pv 5)) (pe_slice sl_str (pv 3) (po_some pe_int) po_none) (pv 3)) pa_nil)))
  (pss_one (ps_ret (pe_ifExp (pt_cmpR op_isN (pv 6) pe_non (nomark _)) pe_non (pc_c c_Setting4 hr (pa_cons (pv 6) (pa_cons (pv 2) (pa_cons (pv 4) (pa_cons (pv 5) pa_nil)))))))))))))), ?_⟩
  clear nd hr
  have sz := sizeL
  have z1 := hs.z1
  have z2 := hs.z2
  have z3 := mid_len s
  walk_at "r"
  refine ⟨rfl, by have := sett_len hs; omega, ?_⟩
  rw [sett_split hs]
  intro p hp
  have s1 : Same H (upd H p (.lst ([s.hd, midS s.src s.tn, s.tl].map V.str))) := Same.upd hp
  have d1 := d.same s1
  have e1 : (upd H p (.lst ([s.hd, midS s.src s.tn, s.tl].map V.str))) p = some (.lst [.str s.hd, .str (midS s.src s.tn), .str s.tl]) := upd_same
  generalize upd H p (.lst ([s.hd, midS s.src s.tn, s.tl].map V.str)) = H1 at s1 d1 e1 ⊢
  walk_at "n"
  refine ⟨.lst p, rfl, _, sqL e1, trivial, rfl, ?_⟩
  refine ite_f rfl ?_
  refine ⟨.lst p, rfl, _, sqL e1, trivial, _, rfl, lowS, s.hd, rfl, low_of hs.hd, by omega, fun H2 s2 => ?_⟩
  walk_at "r"
  have e2 := s2 _ _ e1
  refine ⟨.lst p, rfl, _, sqL e2, trivial, _, rfl, lowS, s.tl, rfl, low_of hs.tl, by omega, fun H3 s3 => ?_⟩
  walk_at "r"
  walk_at "n"
  have e3 := s3 _ _ e2
  have s03 := (s1.trans s2).trans s3
  refine ⟨_, sqL e3, rfl, _, _, rfl, _, _, rfl, _, _, rfl, rfl, ?_⟩
  walk_at "n"
  cases es : s.src with
  | none =>
    refine ⟨rfl, ite_t (decide_eq_true rfl) ?_⟩
    obtain ⟨et, etn⟩ := hs.no es
    rw [et]
    refine ⟨rfl, ite_t (decide_eq_true rfl) ?_⟩
    intro x dx hx hdx ne
    refine ⟨x, dx, none, s.hd, Str.empty, false, rfl, upd_same, hs.hd, low_emp, by omega, by decide, fun _ => ⟨rfl, rfl⟩, fun H4 k4 e4 => ⟨rfl, ?_⟩⟩
    have s4 := s03.trans (made hx hdx k4)
    refine q _ _ s4 ⟨x, dx, rfl, ?_⟩
    rw [hid_at ((d.same s03).new hx), e4]
    unfold fsS
    rw [es, et, etn]
  | some n =>
    have hn := hs.n n es
    refine ⟨rfl, ite_f (mid_ne hn) ?_⟩
    have zm : (midS (some n) s.tn).length ≤ sizeLine := by rw [← es]; omega
    walk_at "n"
    refine ⟨zm, rfl, ?_⟩
    walk_at "n"
    rw [mid_cut hn]
    refine ite2' (fun e2 => ?_) (fun e2 => ?_)
    · refine ⟨zm, n, by rw [e2, cut_all], hn, fun H4 s4 => ?_⟩
      walk_at "n"
      refine ite_f (by simp) ?_
      rw [mid_cut hn]
      intro x dx hx hdx ne
      refine ⟨x, dx, some n, s.hd, s.tl, s.tn, rfl, upd_same, hs.hd, hs.tl, z1, z2, (fun z => nomatch z), fun H5 k5 e5 => ⟨rfl, ?_⟩⟩
      have s5 := (s03.trans s4).trans (made hx hdx k5)
      refine q _ _ s5 ⟨x, dx, rfl, ?_⟩
      rw [hid_at ((d.same (s03.trans s4)).new hx), e5]
      unfold fsS
      rw [es]
    · refine ⟨n, by rw [e2, mid_plain], hn, fun H4 s4 => ?_⟩
      walk_at "n"
      refine ite_f (by simp) ?_
      rw [mid_cut hn]
      intro x dx hx hdx ne
      refine ⟨x, dx, some n, s.hd, s.tl, s.tn, rfl, upd_same, hs.hd, hs.tl, z1, z2, (fun z => nomatch z), fun H5 k5 e5 => ⟨rfl, ?_⟩⟩
      have s5 := (s03.trans s4).trans (made hx hdx k5)
      refine q _ _ s5 ⟨x, dx, rfl, ?_⟩
      rw [hid_at ((d.same (s03.trans s4)).new hx), e5]
      unfold fsS
      rw [es]
end Gt

set_option Elab.async false
set_option linter.all false
set_option maxRecDepth 100000
set_option maxHeartbeats 2000000
namespace Gt
open PySem PySem.Spec PyProof.Rows L2 StX
local macro_rules | `(tactic| walk_at "r") => `(tactic| simp only [tRet, tRetN, tAndV, tOrV, tNotV, tAnd, tOr, tNot, tCB, tCons, tNil, tC, tVar, L2.start, tCl, tOp, tTest, tB, tIf, tIfS, seqE, tAsg, gName, gTup, gLst, gCons, gNil, tPar, tPar3, tTup, tLst, tFld, sFld, sFldAug, tMt, tPr, tMakeR, tMakeL, tCallV, tWith, tSl, tPart, tNoPart, tM1, tM0, tBM, tBM0, tStar, tRevS, tJs, fmtE, tDrop, tNext, tChain, tUn, tYes, gSub, gAttr, ClX.tCMeth, lcE_src, lcE_enum, lcE_rng, lc2E_src, forE_src, forE_enum, forE_rng, forE_zip, iZipS, cxOf, Cx.nox, Cx.blk,
  rI, rI0, rU, rEq, rNe, rAdd, rIsi, rIsiT, rAll, rAny, rEqD, rNeD, rSrc, rSlL, rSlT, rSlS, rCat, rCatT, rNewStrs, rAppend, rIn,
  List.map_cons, List.map_nil, List.length_cons, List.length_nil, List.replicate, List.append_nil, List.cons_append, List.nil_append, List.getElem?_cons_zero, List.getElem?_cons_succ, List.set_cons_zero, List.set_cons_succ, wipe,
  Option.some.injEq, List.cons.injEq, V.int.injEq, V.bl.injEq, V.str.injEq, V.ref.injEq, and_true, true_and, exists_eq_left', exists_eq_left, exists_eq, exists_eq', exists_and_left, Nat.sub_self, Nat.zero_add, Nat.reduceAdd, Nat.reduceSub, Bool.not_true, Bool.not_false, Bool.false_eq_true, ite_true, ite_false, if_true, if_false, and_assoc, Int.ofNat_inj])
local macro_rules | `(tactic| walk_at "n") => `(tactic| (refine later ?_; try walk_at "r"))
local macro_rules | `(tactic| walk_at "m") => `(tactic| (refine later ?_; try walk_at "r"; refine later ?_; try walk_at "r"))
def wordOf (x : Str) : Str := if x = Str.ofString "" then "-" else x
def sp_text_word (K : PySem.W.Frag) : Sp := fun vs H Q _ => ∃ x : Str, vs = [.str x] ∧ Q (.str (wordOf x)) H
theorem sc_text_word : FnScope ["text"] ["text"] (defScope (top 43)) := ⟨rfl, rfl, rfl, by decide +kernel, rfl, by decide +kernel, by decide +kernel⟩
theorem ok_text_word {P : Program} {w : World} {K : PySem.W.Frag} {mg : Str → Option Value} {base : Heap} (D : Def K mg "text_word" (top 43) ["text"]) (T : Glo K mg)   : GF P w K mg base 1 "text_word" (sp_text_word K) := by
  have nd := sc_text_word.nd
  refine D.go sc_text_word (fun vs H Q E h => ?_) (fun f cdv A outer s0 H vs Q E hr h => ?_)
  · obtain ⟨x, rfl, q⟩ := h; rfl
  obtain ⟨x, rfl, q⟩ := h
  refine ⟨_, (pss_one (ps_ret (pe_ifExp (pt_cmpR op_eq (pv 0) pe_str (nomark _)) pe_str (pv 0)))), ?_⟩
  clear nd hr
  walk_at "r"
  refine ⟨rfl, ?_⟩
  by_cases h : x = Str.ofString ""
  · rw [if_pos (decide_eq_true h)]
    unfold wordOf at q
    rw [if_pos h] at q
    exact q
  · rw [if_neg (by rw [decide_eq_false h]; decide)]
    unfold wordOf at q
    rw [if_neg h] at q
    exact q
def partText : Part → Str
  | .box n => numC n
  | .tur n => "~" ++ numC n
  | .told x => "=" ++ x
structure PartLow (p : Part) : Prop where
  n1 : ∀ n, p = .box n → n < 10
  n2 : ∀ n, p = .tur n → n < 10
  x : ∀ x, p = .told x → x ≠ Str.empty ∧ Low x ∧ x.length ≤ 1000
theorem kbt : decide (("box" : Str) = "told") = false := by decide +kernel
theorem kbu : decide (("box" : Str) = "turned") = false := by decide +kernel
theorem kut : decide (("turned" : Str) = "told") = false := by decide +kernel
def sp_part_text (K : PySem.W.Frag) : Sp := fun vs H Q _ => ∃ (v : V) (p : Part), vs = [v] ∧ rPart H v p ∧ PartLow p ∧ Q (.str (partText p)) H
theorem sc_part_text : FnScope ["part", "kind", "what"] ["part"] (defScope (top 44)) := ⟨rfl, rfl, rfl, by decide +kernel, rfl, by decide +kernel, by decide +kernel⟩
theorem ok_part_text {P : Program} {w : World} {K : PySem.W.Frag} {mg : Str → Option Value} {base : Heap} (D : Def K mg "part_text" (top 44) ["part"]) (T : Glo K mg)   : GF P w K mg base 1 "part_text" (sp_part_text K) := by
  have nd := sc_part_text.nd
  refine D.go sc_part_text (fun vs H Q E h => ?_) (fun f cdv A outer s0 H vs Q E hr h => ?_)
  · obtain ⟨v, p, rfl, ⟨a, rfl, ea⟩, hp, q⟩ := h; rfl
  obtain ⟨v, p, rfl, ⟨a, rfl, ea⟩, hp, q⟩ := h
  refine ⟨_, (pss_cons (ps_asg (pv 0) (pg_tup (n := 2) rfl (pgs_cons (pg_name (i := 1) nd rfl (by first | exact Or.inl rfl | exact Or.inr rfl)) (pgs_cons (pg_name (i := 2) nd rfl (by first | exact Or.inl rfl | exact Or.inr rfl)) pgs_nil))))
  (pss_cons (ps_if (pt_cmpR op_eq (pv 1) pe_str (nomark _))
  (pss_one (ps_ret (pe_joined (pj_cons pe_str (pj_cons (pe_fmt (pv 2)) pj_nil)))))
  pss_nil)
  (pss_one (ps_ret (pe_ifExp (pt_cmpR op_eq (pv 1) pe_str (nomark _)) (pe_joined (pj_cons pe_str (pj_cons (pe_fmt (pv 2)) pj_nil))) (pe_joined1 (pe_fmt (pv 2)))))))), ?_⟩
  clear nd hr
  have sz := sizeL
  walk_at "r"
  refine ⟨_, sqT ea, rfl, _, _, rfl, _, _, rfl, rfl, ?_⟩
  walk_at "n"
  cases p with
  | told x =>
    obtain ⟨h1, h2, h3⟩ := hp.x x rfl
    refine ⟨rfl, ite_t (decide_eq_true rfl) ?_⟩
    have z1 : (Str.ofString "=").length = 1 := rfl
    simp only [emp_app]
    refine ⟨by decide, fmt_str (by omega) ⟨x, rfl, ?_, q⟩⟩
    rw [len_app, z1]
    omega
  | box n =>
    refine ⟨rfl, ite_f kbt ?_⟩
    walk_at "n"
    refine ⟨rfl, ite_f kbu ?_⟩
    exact fmt_num (hp.n1 n rfl) q
  | tur n =>
    refine ⟨rfl, ite_f kut ?_⟩
    walk_at "n"
    refine ⟨rfl, ite_t (decide_eq_true rfl) ?_⟩
    simp only [emp_app]
    refine ⟨by decide, fmt_num (hp.n2 n rfl) ⟨_, rfl, by rw [len_app]; exact (by decide : 2 ≤ sizeLine), q⟩⟩
theorem take_all {α : Type} (xs : List α) (k : Nat) : (xs.drop (min k xs.length)).take (xs.length - min k xs.length) = xs.drop k := by
  have : xs.drop (min k xs.length) = xs.drop k := by
    by_cases h : k ≤ xs.length
    · rw [Nat.min_eq_left h]
    · rw [Nat.min_eq_right (by omega), List.drop_of_length_le (Nat.le_refl _), List.drop_of_length_le (by omega)]
  rw [this, List.take_of_length_le (by rw [List.length_drop]; omega)]
theorem cutV_drop (xs : List V) (k : Nat) : cutV xs (some (k : Int)) none = xs.drop k := by
  unfold cutV
  rw [HT.sIx_nat, HT.sIx_none, take_all]
theorem cutV_take (xs : List V) (k : Nat) : cutV xs none (some (k : Int)) = xs.take k := by
  unfold cutV
  rw [HT.sIx_nat, HT.sIx_none, List.drop_zero, Nat.sub_zero]
  by_cases h : k ≤ xs.length
  · rw [Nat.min_eq_left h]
  · rw [Nat.min_eq_right (by omega), List.take_of_length_le (Nat.le_refl _), List.take_of_length_le (by omega)]
theorem cutS_drop (z : Str) (k : Nat) : cutS z (some (k : Int)) none = ⟨(z.cps.toList.drop k).toArray⟩ := by
  unfold cutS
  rw [HT.sIx_nat, HT.sIx_none, show z.length = z.cps.toList.length from Array.length_toList.symm, take_all]
theorem cutS_take (z : Str) (k : Nat) : cutS z none (some (k : Int)) = ⟨(z.cps.toList.take k).toArray⟩ := by
  unfold cutS
  rw [HT.sIx_nat, HT.sIx_none, List.drop_zero, Nat.sub_zero, show z.length = z.cps.toList.length from Array.length_toList.symm]
  by_cases h : k ≤ z.cps.toList.length
  · rw [Nat.min_eq_left h]
  · rw [Nat.min_eq_right (by omega), List.take_of_length_le (Nat.le_refl _), List.take_of_length_le (by omega)]
theorem tl_cons (a : Nat) (x : Str) : ((⟨#[a]⟩ : Str) ++ x).cps.toList = a :: x.cps.toList := by
  show ((#[a] : Array Nat) ++ x.cps).toList = _
  simp
theorem cut1 (a : Nat) (x : Str) : cutS ((⟨#[a]⟩ : Str) ++ x) none (some 1) = ⟨#[a]⟩ := by
  have := cutS_take ((⟨#[a]⟩ : Str) ++ x) 1
  rw [tl_cons] at this
  exact this
theorem cut2 (a : Nat) (x : Str) : cutS ((⟨#[a]⟩ : Str) ++ x) (some 1) none = x := by
  have := cutS_drop ((⟨#[a]⟩ : Str) ++ x) 1
  rw [tl_cons] at this
  exact this
theorem s_eq : Str.ofString "=" = ⟨#[61]⟩ := rfl
theorem s_ti : Str.ofString "~" = ⟨#[126]⟩ := rfl
theorem str_ne {a b : Nat} (h : a ≠ b) : decide ((⟨#[a]⟩ : Str) = ⟨#[b]⟩) = false := decide_eq_false fun e => h (by
  have := congrArg (fun z : Str => z.cps.toList) e
  exact (List.cons.inj this).1)
def sp_part_in (K : PySem.W.Frag) : Sp := fun vs H Q _ => ∃ (S : List Addr) (p : Part), vs = [.str (partText p)] ∧ PartLow p ∧ Dom S H ∧ ∀ H' r, Same H H' → rPart (hid S H') r p → Q r H'
theorem sc_part_in : FnScope ["word", "number"] ["word"] (defScope (top 45)) := ⟨rfl, rfl, rfl, by decide +kernel, rfl, by decide +kernel, by decide +kernel⟩
theorem ok_part_in {P : Program} {w : World} {K : PySem.W.Frag} {mg : Str → Option Value} {base : Heap} (D : Def K mg "part_in" (top 45) ["word"]) (T : Glo K mg) (g_is_text : GF P w K mg base 1 "is_text" (sp_is_text K)) (g_number_in : GF P w K mg base 1 "number_in" (sp_number_in K))  : GF P w K mg base 2 "part_in" (sp_part_in K) := by
  have nd := sc_part_in.nd
  refine D.go sc_part_in (fun vs H Q E h => ?_) (fun f cdv A outer s0 H vs Q E hr h => ?_)
  · obtain ⟨S, p, rfl, hp, d, q⟩ := h; rfl
  obtain ⟨S, p, rfl, hp, d, q⟩ := h
  refine ⟨_, (pss_cons (ps_if (pt_cmpR op_eq (pe_slice sl_str (pv 0) po_none (po_some pe_int)) pe_str (nomark _))
  (pss_one (ps_ret (pe_ifExp (PW.pt (pw_and (pt_cmpR op_gt (pe_callB call_lenS (by rfl) T.b_len (by decide +kernel) (pa_cons (pv 0) pa_nil)) pe_int (nomark _)) (pw_and1 (pt_val (pc_g g_is_text hr (pa_cons (pe_gl T.v_LOWER) (pa_cons (pe_slice sl_str (pv 0) (po_some pe_int) po_none) pa_nil))))))) (pe_tup (pa_cons pe_str (pa_cons (pe_slice sl_str (pv 0) (po_some pe_int) po_none) pa_nil))) pe_non)))
  pss_nil)
  (pss_cons (ps_set (i := 1) nd rfl (by first | exact Or.inl rfl | exact Or.inr rfl) (pc_g g_number_in hr (pa_cons (pe_ifExp (pt_cmpR op_eq (pe_slice sl_str (pv 0) po_none (po_some pe_int)) pe_str (nomark _)) (pe_slice sl_str (pv 0) (po_some pe_int) po_none) (pv 0)) pa_nil)))
  (pss_cons (ps_if (pt_cmpR op_isN (pv 1) pe_non (nomark _))
  (pss_one (ps_ret pe_non))
  pss_nil)
  (pss_one (ps_ret (pe_tup (pa_cons (pe_ifExp (pt_cmpR op_eq (pe_slice sl_str (pv 0) po_none (po_some pe_int)) pe_str (nomark _)) pe_str pe_str) (pa_cons (pv 1) pa_nil)))))))), ?_⟩
  clear nd hr
  have sz := sizeL
  walk_at "r"
  have z1 : (Str.ofString "=").length = 1 := rfl
  cases p with
  | told x =>
    obtain ⟨h1, h2, h3⟩ := hp.x x rfl
    have zl : (partText (.told x)).length = 1 + x.length := by show (Str.ofString "=" ++ x).length = _; rw [len_app, z1]
    have c1 : cutS (partText (.told x)) none (some 1) = Str.ofString "=" := cut1 61 x
    have c2 : cutS (partText (.told x)) (some 1) none = x := cut2 61 x
    rw [c1, c2]
    have x1 : 1 ≤ x.length := by
      cases e : x.length with
      | zero => exact absurd (TL.ext_tl (by show x.cps.toList = []; exact List.eq_nil_of_length_eq_zero (by rw [Array.length_toList]; exact e))) h1
      | succ n => omega
    refine ⟨by omega, rfl, ite_t (decide_eq_true rfl) ?_⟩
    refine ⟨.txt _, rfl, _, rfl, show (partText (.told x)).length ≤ sizeLine by omega, ite_t (decide_eq_true (by rw [txt_len, zl]; omega)) ⟨by omega, lowS, x, rfl, low_of h2, by omega, fun H1 s1 => ?_⟩⟩
    walk_at "r"
    refine ⟨by omega, by decide, ?_⟩
    intro p hp'
    have s2 : Same H1 (upd H1 p (.tup [.str "told", .str x])) := Same.upd hp'
    refine q _ _ (s1.trans s2) ⟨p, rfl, ?_⟩
    rw [hid_at ((d.same s1).new hp'), upd_same] <;> rfl
  | box n =>
    have hn := hp.n1 n rfl
    have c1 : cutS (partText (.box n)) none (some 1) = ⟨#[48 + n]⟩ := rfl
    refine ⟨by show 1 ≤ sizeLine; decide, rfl, ?_⟩
    rw [c1, s_eq, str_ne (by omega)]
    walk_at "r"
    walk_at "n"
    refine ⟨by show 1 ≤ sizeLine; decide, rfl, ?_⟩
    rw [c1, s_ti, str_ne (by omega)]
    walk_at "r"
    refine ⟨n, rfl, hn, fun H1 s1 => ?_⟩
    walk_at "n"
    refine ite_f (by simp) ?_
    walk_at "n"
    refine ⟨by show 1 ≤ sizeLine; decide, rfl, ?_⟩
    rw [c1, str_ne (by omega)]
    walk_at "r"
    refine ⟨by decide, ?_⟩
    intro p hp'
    have s2 : Same H1 (upd H1 p (.tup [.str "box", .int (n : Nat)])) := Same.upd hp'
    refine q _ _ (s1.trans s2) ⟨p, rfl, ?_⟩
    rw [hid_at ((d.same s1).new hp'), upd_same] <;> rfl
  | tur n =>
    have hn := hp.n2 n rfl
    have c1 : cutS (partText (.tur n)) none (some 1) = ⟨#[126]⟩ := cut1 126 (numC n)
    have c2 : cutS (partText (.tur n)) (some 1) none = numC n := cut2 126 (numC n)
    have zl : (partText (.tur n)).length ≤ sizeLine := by show (Str.ofString "~" ++ numC n).length ≤ _; rw [len_app]; exact (by decide : 2 ≤ sizeLine)
    refine ⟨zl, rfl, ?_⟩
    rw [c1, s_eq, str_ne (by omega)]
    walk_at "r"
    walk_at "n"
    refine ⟨zl, rfl, ?_⟩
    rw [c1, s_ti]
    refine ite_t (decide_eq_true rfl) ⟨zl, n, by rw [c2], hn, fun H1 s1 => ?_⟩
    walk_at "n"
    refine ite_f (by simp) ?_
    walk_at "n"
    refine ⟨zl, rfl, ?_⟩
    rw [c1]
    refine ite_t (decide_eq_true rfl) ?_
    refine ⟨by decide, ?_⟩
    intro p hp'
    have s2 : Same H1 (upd H1 p (.tup [.str "turned", .int (n : Nat)])) := Same.upd hp'
    refine q _ _ (s1.trans s2) ⟨p, rfl, ?_⟩
    rw [hid_at ((d.same s1).new hp'), upd_same] <;> rfl
def sp_is_part (K : PySem.W.Frag) : Sp := fun vs H Q _ => ∃ (g : Str) (b : Nat) (v : V) (p : Part), vs = [.str g, .int b, v] ∧ rPart H v p ∧ PartOk g b p ∧ ∀ H', Same H H' → Q (.bl true) H'
theorem sc_is_part : FnScope ["signs", "boxes", "value"] ["signs", "boxes", "value"] (defScope (top 36)) := ⟨rfl, rfl, rfl, by decide +kernel, rfl, by decide +kernel, by decide +kernel⟩
theorem ok_is_part {P : Program} {w : World} {K : PySem.W.Frag} {mg : Str → Option Value} {base : Heap} (D : Def K mg "is_part" (top 36) ["signs", "boxes", "value"]) (T : Glo K mg) (g_is_text : GF P w K mg base 1 "is_text" (sp_is_text K)) (g_is_below : GF P w K mg base 3 "is_below" (sp_is_below K))  : GF P w K mg base 4 "is_part" (sp_is_part K) := by
  have nd := sc_is_part.nd
  refine D.go sc_is_part (fun vs H Q E h => ?_) (fun f cdv A outer s0 H vs Q E hr h => ?_)
  · obtain ⟨g, b, v, p, rfl, ⟨a, rfl, ea⟩, hp, q⟩ := h; rfl
  obtain ⟨g, b, v, p, rfl, ⟨a, rfl, ea⟩, hp, q⟩ := h
  refine ⟨_, (pss_cons (ps_if (PW.pt (pw_or (pt_not (pt_val (pe_callB call_isi (by rfl) T.b_isinstance (by decide +kernel) (pa_cons (pv 2) (pa_cons (pe_bltn (v := .ty "tuple") (by rfl) T.b_tuple (by decide +kernel) rfl) pa_nil))))) (pw_or (pt_cmpR op_ne (pe_callB call_lenS (by rfl) T.b_len (by decide +kernel) (pa_cons (pv 2) pa_nil)) pe_int (nomark _)) (pw_or1 (pt_not (pt_val (pe_callB call_isi (by rfl) T.b_isinstance (by decide +kernel) (pa_cons (pe_ix ix_src (pv 2) pe_int (fun _ _ => rfl)) (pa_cons (pe_bltn (v := .ty "str") (by rfl) T.b_str (by decide +kernel) rfl) pa_nil)))))))))
  (pss_one (ps_ret pe_bl))
  pss_nil)
  (pss_cons (ps_if (pt_cmpR op_eq (pe_ix ix_src (pv 2) pe_int (fun _ _ => rfl)) pe_str (nomark _))
  (pss_one (ps_ret (pe_and (pc_g g_is_text hr (pa_cons (pv 0) (pa_cons (pe_ix ix_src (pv 2) pe_int (fun _ _ => rfl)) pa_nil))) (pe_one (pe_cmpR op_ne (pe_ix ix_src (pv 2) pe_int (fun _ _ => rfl)) pe_str (nomark _))))))
  pss_nil)
  (pss_one (ps_ret (pe_and (pe_cmpR op_in_seq (pe_ix ix_src (pv 2) pe_int (fun _ _ => rfl)) (pe_gl T.v_KINDS) (by rfl)) (pe_one (pc_g g_is_below hr (pa_cons (pe_ix ix_src (pv 2) pe_int (fun _ _ => rfl)) (pa_cons (pv 1) pa_nil))))))))), ?_⟩
  clear nd hr
  have sz := sizeL
  walk_at "r"
  refine ⟨_, _, .ty _, .base (.tup ea), true, kit_ty (by decide +kernel), ?_⟩
  walk_at "r"
  refine ⟨.tup a, rfl, _, sqT ea, trivial, rfl, ?_⟩
  refine ite_f rfl ?_
  refine ⟨.tup a, rfl, _, sqT ea, trivial, _, rfl, ?_⟩
  refine ⟨_, _, .ty _, .base (.str _), true, kit_ty (by decide +kernel), ?_⟩
  walk_at "r"
  walk_at "n"
  refine ⟨.tup a, rfl, _, sqT ea, trivial, _, rfl, rfl, ?_⟩
  cases p with
  | told x =>
    obtain ⟨h1, h2, h3⟩ := hp
    refine ite_t (decide_eq_true rfl) ?_
    refine ⟨.tup a, rfl, _, sqT ea, trivial, _, rfl, g, x, rfl, h2, by omega, fun H1 s1 => ?_⟩
    walk_at "r"
    refine ⟨.tup a, rfl, _, sqT (s1 _ _ ea), trivial, _, rfl, rfl, ?_⟩
    have e0 : decide ((Part.told x).val = V.str (Str.ofString "")) = false := decide_eq_false (fun e => h1 (V.str.inj e))
    rw [e0]
    exact q _ s1
  | box n =>
    refine ite_f (by show decide (V.str "box" = V.str "told") = false; decide +kernel) ?_
    walk_at "n"
    refine ⟨.tup a, rfl, _, sqT ea, trivial, _, rfl, _, .inr (T.t_KINDS H), rfl, rfl, ite_t (by show inV (.str "box") [.str "box", .str "turned"] = true; decide +kernel) ?_⟩
    exact ⟨.tup a, rfl, _, sqT ea, trivial, _, rfl, n, b, rfl, hp, q _ (Same.refl _)⟩
  | tur n =>
    refine ite_f (by show decide (V.str "turned" = V.str "told") = false; decide +kernel) ?_
    walk_at "n"
    refine ⟨.tup a, rfl, _, sqT ea, trivial, _, rfl, _, .inr (T.t_KINDS H), rfl, rfl, ite_t (by show inV (.str "turned") [.str "box", .str "turned"] = true; decide +kernel) ?_⟩
    exact ⟨.tup a, rfl, _, sqT ea, trivial, _, rfl, n, b, rfl, hp, q _ (Same.refl _)⟩
def sp_is_way (K : PySem.W.Frag) : Sp := fun vs H Q _ => ∃ (g : Str) (m b : Nat) (v : V) (w : Way), vs = [.str g, .int (m : Nat), v] ∧ oWay K H v w ∧ WayOk g m b w ∧ b ≤ 1000 ∧ ∀ H', Same H H' → Q (.bl true) H'
theorem sc_is_way : FnScope ["signs", "many", "value", "one"] ["signs", "many", "value"] (defScope (top 37)) := ⟨rfl, rfl, rfl, by decide +kernel, rfl, by decide +kernel, by decide +kernel⟩
theorem ok_is_way {P : Program} {w : World} {K : PySem.W.Frag} {mg : Str → Option Value} {base : Heap} (D : Def K mg "is_way" (top 37) ["signs", "many", "value"]) (T : Glo K mg) (g_is_below : GF P w K mg base 3 "is_below" (sp_is_below K)) (g_is_sequence : GF P w K mg base 1 "is_sequence" (sp_is_sequence K)) (g_is_setting : GF P w K mg base 2 "is_setting" (sp_is_setting K))  : GF P w K mg base 4 "is_way" (sp_is_way K) := by
  have nd := sc_is_way.nd
  refine D.go sc_is_way (fun vs H Q E h => ?_) (fun f cdv A outer s0 H vs Q E hr h => ?_)
  · obtain ⟨g, m, b, v, w, rfl, ⟨a, c, ws, rfl, ea, ec, hw⟩, ok, zb, q⟩ := h; rfl
  obtain ⟨g, m, b, v, w, rfl, ⟨a, c, ws, rfl, ea, ec, hw⟩, ok, zb, q⟩ := h
  refine ⟨_, (pss_cons (ps_if (PW.pt (pw_or (pt_not (pt_val (pe_callB call_isi (by rfl) T.b_isinstance (by decide +kernel) (pa_cons (pv 2) (pa_cons (pe_bltn (v := .ty "tuple") (by rfl) T.b_tuple (by decide +kernel) rfl) pa_nil))))) (pw_or (pt_cmpR op_ne (pe_callB call_lenS (by rfl) T.b_len (by decide +kernel) (pa_cons (pv 2) pa_nil)) pe_int (nomark _)) (pw_or1 (pt_not (pt_val (pc_g g_is_below hr (pa_cons (pe_ix ix_src (pv 2) pe_int (fun _ _ => rfl)) (pa_cons (pv 1) pa_nil)))))))))
  (pss_one (ps_ret pe_bl))
  pss_nil)
  (pss_one (ps_ret (pe_and (pc_g g_is_sequence hr (pa_cons (pe_ix ix_src (pv 2) pe_int (fun _ _ => rfl)) pa_nil)) (pe_one (pe_callB (cr_all rfl) (by rfl) T.b_all (by decide +kernel) (pa_cons (pe_lc (own := [("one", 3)]) rfl nd (pi_src (pe_ix ix_src (pv 2) pe_int (fun _ _ => rfl))) (blkOk_by (own := [("one", 3)]) (N := ["signs", "many", "value", "one"]) (sc := defScope (top 37)) (by decide +kernel)) (fun _ _ _ _ _ => (pg_name (i := 3) nd rfl (by first | exact Or.inl rfl | exact Or.inr rfl))) (fun _ _ _ _ _ => pts_nil) (fun _ _ _ _ _ => (pc_g g_is_setting hr (pa_cons (pv 0) (pa_cons (pv 3) pa_nil))))) pa_nil))))))), ?_⟩
  clear nd hr
  have sz := sizeL
  have lw : ws.length = b := by rw [hw.len, ok.n]
  walk_at "r"
  refine ⟨_, _, .ty _, .base (.tup ea), true, kit_ty (by decide +kernel), ?_⟩
  walk_at "r"
  refine ⟨.tup a, rfl, _, sqT ea, trivial, rfl, ?_⟩
  refine ite_f rfl ?_
  refine ⟨.tup a, rfl, _, sqT ea, trivial, _, rfl, w.1, m, rfl, ok.m, ?_⟩
  walk_at "r"
  walk_at "n"
  refine ⟨.tup a, rfl, _, sqT ea, trivial, _, rfl, c, rfl, .inr ⟨_, ec⟩, fun H1 s1 => ?_⟩
  walk_at "r"
  refine ⟨.tup a, rfl, _, sqT (s1 _ _ ea), trivial, _, rfl, .tup c, rfl, _, sqT (s1 _ _ ec), allS (S := .tup c) (sqT (s1 _ _ ec)) (by omega) (fun i x H2 Z hx s2 hz => ?_) fun p bs H2 s2 hp hb => ⟨_, rfl, _, hp, by rw [hb]; exact q _ (s1.trans s2)⟩⟩
  walk_at "r"
  obtain ⟨s, hs, ⟨p, dx, rfl, ep⟩⟩ := hw.get hx
  have oks := ok.s s (List.mem_of_getElem? hs)
  have z1 := oks.hl
  have z2 := oks.tll
  exact ⟨g, _, s, rfl, ⟨p, dx, rfl, s2 _ _ (s1 _ _ ep)⟩, oks.hd, oks.tl, by omega, by omega, hz⟩
def sp_is_begin (K : PySem.W.Frag) : Sp := fun vs H Q _ => ∃ (g : Str) (m : Nat) (v : V) (s : Stand), vs = [.str g, .int m, v] ∧ rStand H v s ∧ s.1 < m ∧ 1 ≤ s.2.length ∧ s.2.length ≤ 1000 ∧ (∀ x ∈ s.2, Of g x ∧ x.length ≤ 100000) ∧ ∀ H', Same H H' → Q (.bl true) H'
theorem sc_is_begin : FnScope ["signs", "many", "value", "one"] ["signs", "many", "value"] (defScope (top 39)) := ⟨rfl, rfl, rfl, by decide +kernel, rfl, by decide +kernel, by decide +kernel⟩
theorem ok_is_begin {P : Program} {w : World} {K : PySem.W.Frag} {mg : Str → Option Value} {base : Heap} (D : Def K mg "is_begin" (top 39) ["signs", "many", "value"]) (T : Glo K mg) (g_is_below : GF P w K mg base 3 "is_below" (sp_is_below K)) (g_is_sequence : GF P w K mg base 1 "is_sequence" (sp_is_sequence K)) (g_is_text : GF P w K mg base 1 "is_text" (sp_is_text K))  : GF P w K mg base 4 "is_begin" (sp_is_begin K) := by
  have nd := sc_is_begin.nd
  refine D.go sc_is_begin (fun vs H Q E h => ?_) (fun f cdv A outer s0 H vs Q E hr h => ?_)
  · obtain ⟨g, m, v, s, rfl, ⟨a, c, rfl, ea, ec⟩, hm, h1, h2, ht, q⟩ := h; rfl
  obtain ⟨g, m, v, s, rfl, ⟨a, c, rfl, ea, ec⟩, hm, h1, h2, ht, q⟩ := h
  refine ⟨_, (pss_cons (ps_if (PW.pt (pw_or (pt_not (pt_val (pe_callB call_isi (by rfl) T.b_isinstance (by decide +kernel) (pa_cons (pv 2) (pa_cons (pe_bltn (v := .ty "tuple") (by rfl) T.b_tuple (by decide +kernel) rfl) pa_nil))))) (pw_or (pt_cmpR op_ne (pe_callB call_lenS (by rfl) T.b_len (by decide +kernel) (pa_cons (pv 2) pa_nil)) pe_int (nomark _)) (pw_or1 (pt_not (pt_val (pc_g g_is_below hr (pa_cons (pe_ix ix_src (pv 2) pe_int (fun _ _ => rfl)) (pa_cons (pv 1) pa_nil)))))))))
  (pss_one (ps_ret pe_bl))
  pss_nil)
  (pss_one (ps_ret (pe_and (pc_g g_is_sequence hr (pa_cons (pe_ix ix_src (pv 2) pe_int (fun _ _ => rfl)) pa_nil)) (pe_and (pe_cmpR op_gt (pe_callB call_lenS (by rfl) T.b_len (by decide +kernel) (pa_cons (pe_ix ix_src (pv 2) pe_int (fun _ _ => rfl)) pa_nil)) pe_int (nomark _)) (pe_one (pe_callB (cr_all rfl) (by rfl) T.b_all (by decide +kernel) (pa_cons (pe_lc (own := [("one", 3)]) rfl nd (pi_src (pe_ix ix_src (pv 2) pe_int (fun _ _ => rfl))) (blkOk_by (own := [("one", 3)]) (N := ["signs", "many", "value", "one"]) (sc := defScope (top 39)) (by decide +kernel)) (fun _ _ _ _ _ => (pg_name (i := 3) nd rfl (by first | exact Or.inl rfl | exact Or.inr rfl))) (fun _ _ _ _ _ => pts_nil) (fun _ _ _ _ _ => (pc_g g_is_text hr (pa_cons (pv 0) (pa_cons (pv 3) pa_nil))))) pa_nil)))))))), ?_⟩
  clear nd hr
  have sz := sizeL
  walk_at "r"
  refine ⟨_, _, .ty _, .base (.tup ea), true, kit_ty (by decide +kernel), ?_⟩
  walk_at "r"
  refine ⟨.tup a, rfl, _, sqT ea, trivial, rfl, ?_⟩
  refine ite_f rfl ?_
  refine ⟨.tup a, rfl, _, sqT ea, trivial, _, rfl, s.1, m, rfl, hm, ?_⟩
  walk_at "r"
  walk_at "n"
  refine ⟨.tup a, rfl, _, sqT ea, trivial, _, rfl, c, rfl, .inr ⟨_, ec⟩, fun H1 s1 => ?_⟩
  walk_at "r"
  have ea1 := s1 _ _ ea
  have ec1 := s1 _ _ ec
  refine ⟨.tup a, rfl, _, sqT ea1, trivial, _, rfl, .tup c, rfl, _, sqT ec1, trivial, ?_⟩
  refine ite_t (decide_eq_true (by rw [List.length_map]; omega)) ?_
  refine ⟨.tup a, rfl, _, sqT ea1, trivial, _, rfl, .tup c, rfl, _, sqT ec1, allS (S := .tup c) (sqT ec1) (by rw [List.length_map]; omega) (fun i x H2 Z hx s2 hz => ?_) fun p bs H2 s2 hp hb => ⟨_, rfl, _, hp, by rw [hb]; exact q _ (s1.trans s2)⟩⟩
  walk_at "r"
  rw [List.getElem?_map] at hx
  cases e : s.2[i]? with
  | none => rw [e] at hx; cases hx
  | some t =>
    rw [e] at hx
    cases hx
    obtain ⟨k1, k2⟩ := ht t (List.mem_of_getElem? e)
    exact ⟨g, t, rfl, k1, by omega, hz⟩
end Gt

set_option Elab.async false
set_option linter.all false
set_option maxRecDepth 100000
set_option maxHeartbeats 2000000
namespace Gt
open PySem PySem.Spec PyProof.Rows L2 StX
local macro_rules | `(tactic| walk_at "r") => `(tactic| simp only [tRet, tRetN, tAndV, tOrV, tNotV, tAnd, tOr, tNot, tCB, tCons, tNil, tC, tVar, L2.start, tCl, tOp, tTest, tB, tIf, tIfS, seqE, tAsg, gName, gTup, gLst, gCons, gNil, tPar, tPar3, tTup, tLst, tFld, sFld, sFldAug, tMt, tPr, tMakeR, tMakeL, tCallV, tWith, tSl, tPart, tNoPart, tM1, tM0, tBM, tBM0, tStar, tRevS, tJs, fmtE, tDrop, tNext, tChain, tUn, tYes, gSub, gAttr, ClX.tCMeth, lcE_src, lcE_enum, lcE_rng, lc2E_src, forE_src, forE_enum, forE_rng, forE_zip, iZipS, cxOf, Cx.nox, Cx.blk,
  rI, rI0, rU, rEq, rNe, rAdd, rIsi, rIsiT, rAll, rAny, rEqD, rNeD, rSrc, rSlL, rSlT, rSlS, rCat, rCatT, rNewStrs, rAppend, rIn,
  List.map_cons, List.map_nil, List.length_cons, List.length_nil, List.replicate, List.append_nil, List.cons_append, List.nil_append, List.getElem?_cons_zero, List.getElem?_cons_succ, List.set_cons_zero, List.set_cons_succ, wipe,
  Option.some.injEq, List.cons.injEq, V.int.injEq, V.bl.injEq, V.str.injEq, V.ref.injEq, and_true, true_and, exists_eq_left', exists_eq_left, exists_eq, exists_eq', exists_and_left, Nat.sub_self, Nat.zero_add, Nat.reduceAdd, Nat.reduceSub, Bool.not_true, Bool.not_false, Bool.false_eq_true, ite_true, ite_false, if_true, if_false, and_assoc, Int.ofNat_inj])
local macro_rules | `(tactic| walk_at "n") => `(tactic| (refine later ?_; try walk_at "r"))
local macro_rules | `(tactic| walk_at "m") => `(tactic| (refine later ?_; try walk_at "r"; refine later ?_; try walk_at "r"))
theorem allS2 {K : PySem.W.Frag} {S : Src} {xs : List V} {te : TE} {x0 x1 x2 : Option V} {Q : VK} {H1 : Hp} (h : S.is K H1 xs) (hn : xs.length ≤ 100)
    (rows : ∀ (i : Nat) x, xs[i]? = some x → ∃ a ys, x = .ref a ∧ (∀ H, Same H1 H → SqT K H a ys) ∧ ys.length ≤ 100 ∧ ∀ (j : Nat) y H Z, ys[j]? = some y → Same H1 H → (∀ H4, Same H H4 → Z (.bl true) H4) → te [x0, x1, x2, some x, some y] H Z)
    (done : ∀ (a : Addr) (bs : List Bool) H', Same H1 H' → SqL K H' a (bs.map V.bl) → bs.all id = true → Q (.ref a) H') : LcB2 (ItS K S) (gName 3) tYes (iSrc K (tVar 3)) (gName 4) tYes te [3, 4] [4] [x0, x1, x2, none, none] Q H1 := by
  intro D hD
  have sz := sizeL
  have w := walk_src (K := K) (S := S) (xs := xs)
  have up : ∀ {H : Hp} {u : HO}, Same H1 H → Same H1 (upd H D u) := fun {H u} s a o e => by
    have nd : a ≠ D := fun z => by rw [z, hD] at e; cases e
    rw [upd_ne nd]
    exact s a o e
  refine ⟨fun i m H => m = xs.length - i ∧ i ≤ xs.length ∧ Same H1 H ∧ ∃ acc, H D = some (.lst acc) ∧ acc.length ≤ 100 * i ∧ ∀ (k : Nat) v, acc[k]? = some v → v = .bl true, ⟨xs.length, by simp, Nat.zero_le _, Same.upd hD, [], upd_same, by simp, fun k v e => by simp at e⟩, ?_⟩
  rintro i m H ⟨rfl, hi, sm, acc, ea, la, ra⟩
  have hS := Src.same sm h
  by_cases hlt : i < xs.length
  · refine .inr ⟨w.goes i H hlt hS, fun H' => Same H1 H' ∧ ∃ acc, H' D = some (.lst acc) ∧ acc.length ≤ 100 * (i + 1) ∧ ∀ (k : Nat) v, acc[k]? = some v → v = .bl true, fun H' p' => ⟨xs.length - (i + 1), by omega, rfl, hlt, p'⟩, fun x H' y => ?_⟩
    obtain ⟨e, hx⟩ := w.yields i H x H' hlt hS y
    subst e
    obtain ⟨a, ys, rfl, hys, ly, el⟩ := rows i x hx
    refine ⟨rfl, ?_⟩
    refine ⟨_, rfl, .tup a, ys, rfl, hys _ sm, ?_⟩
    have w1 := walk_src (K := K) (S := .tup a) (xs := ys)
    refine ⟨fun j k H => k = ys.length - j ∧ j ≤ ys.length ∧ Same H1 H ∧ ∃ acc, H D = some (.lst acc) ∧ acc.length ≤ 100 * i + j ∧ ∀ (k : Nat) v, acc[k]? = some v → v = .bl true, ⟨ys.length, by simp, Nat.zero_le _, sm, acc, ea, by omega, ra⟩, ?_⟩
    rintro j k H2 ⟨rfl, hj, s2, acc2, ea2, la2, ra2⟩
    by_cases hlt2 : j < ys.length
    · refine .inr ⟨w1.goes j H2 hlt2 (hys _ s2), fun H' => Same H1 H' ∧ ∃ acc, H' D = some (.lst acc) ∧ acc.length ≤ 100 * i + (j + 1) ∧ ∀ (k : Nat) v, acc[k]? = some v → v = .bl true, fun H' p' => ⟨ys.length - (j + 1), by omega, rfl, hlt2, p'⟩, fun y H3 yy => ?_⟩
      obtain ⟨e, hy⟩ := w1.yields j H2 y H3 hlt2 (hys _ s2) yy
      subst e
      refine ⟨rfl, ?_⟩
      refine el j y _ _ hy s2 fun H4 s4 => ?_
      refine ⟨acc2, s4 _ _ ea2, by omega, up (s2.trans s4), acc2 ++ [.bl true], upd_same, by rw [List.length_append]; show acc2.length + 1 ≤ _; omega, fun k v e => ?_⟩
      by_cases hk : k < acc2.length
      · rw [List.getElem?_append_left hk] at e
        exact ra2 k v e
      · have := (List.getElem?_eq_some_iff.mp e).1
        rw [List.length_append] at this
        have : k < acc2.length + 1 := this
        rw [List.getElem?_append_right (by omega), show k - acc2.length = 0 by omega] at e
        cases e
        rfl
    · exact .inl ⟨by have e : j = ys.length := by omega
                     rw [e]; exact w1.stops H2 (hys _ s2), s2, acc2, ea2, by omega, ra2⟩
  · have e : i = xs.length := by omega
    subst e
    rw [bls_of ra] at ea
    exact .inl ⟨w.stops H hS, done D _ H sm (sqL ea) (all_rep _)⟩
def Seq2 (H : Hp) (S : Src) (xs : List V) : Prop := match S with
  | .lst a => H a = some (.lst xs)
  | .tup a => H a = some (.tup xs)
  | .txt _ => False
theorem Seq2.is {K : PySem.W.Frag} {H : Hp} {S : Src} {xs : List V} (h : Seq2 H S xs) : S.is K H xs := by
  cases S with
  | lst a => exact sqL h
  | tup a => exact sqT h
  | txt z => exact False.elim h
theorem Seq2.same {H H' : Hp} {S : Src} {xs : List V} (s : Same H H') (h : Seq2 H S xs) : Seq2 H' S xs := by
  cases S with
  | lst a => exact s _ _ h
  | tup a => exact s _ _ h
  | txt z => exact False.elim h
theorem Seq2.small {H : Hp} {S : Src} {xs : List V} (h : Seq2 H S xs) : S.small := by
  cases S with
  | lst a => trivial
  | tup a => trivial
  | txt z => exact False.elim h
theorem Seq2.ref {H : Hp} {S : Src} {xs : List V} (h : Seq2 H S xs) : ∃ a, S.vv = .ref a ∧ ((∃ xs, H a = some (.lst xs)) ∨ ∃ xs, H a = some (.tup xs)) := by
  cases S with
  | lst a => exact ⟨a, rfl, .inl ⟨_, h⟩⟩
  | tup a => exact ⟨a, rfl, .inr ⟨_, h⟩⟩
  | txt z => exact False.elim h
/-- the ways: rows of the ways of two letters -/
structure WaysOk (g : Str) (b : Nat) (r : List (List Way)) : Prop where
  l1 : 1 ≤ r.length
  l3 : r.length ≤ 3
  rows : ∀ row ∈ r, row.length = 2 ∧ ∀ w ∈ row, WayOk g r.length b w
def sp_are_ways (K : PySem.W.Frag) : Sp := fun vs H Q _ => ∃ (g l : Str) (S : Src) (xs : List V) (r : List (List Way)) (b : Nat), vs = [.str g, .str l, S.vv] ∧ Seq2 H S xs ∧ All2 (oRow K H) xs r ∧ WaysOk g b r ∧ b ≤ 1000 ∧ l.length = 2 ∧ ∀ H', Same H H' → Q (.bl true) H'
theorem sc_are_ways : FnScope ["signs", "letters", "value", "mode", "way"] ["signs", "letters", "value"] (defScope (top 38)) := ⟨rfl, rfl, rfl, by decide +kernel, rfl, by decide +kernel, by decide +kernel⟩
theorem ok_are_ways {P : Program} {w : World} {K : PySem.W.Frag} {mg : Str → Option Value} {base : Heap} (D : Def K mg "are_ways" (top 38) ["signs", "letters", "value"]) (T : Glo K mg) (g_is_sequence : GF P w K mg base 1 "is_sequence" (sp_is_sequence K)) (g_is_way : GF P w K mg base 4 "is_way" (sp_is_way K))  : GF P w K mg base 5 "are_ways" (sp_are_ways K) := by
  have nd := sc_are_ways.nd
  refine D.go sc_are_ways (fun vs H Q E h => ?_) (fun f cdv A outer s0 H vs Q E hr h => ?_)
  · obtain ⟨g, l, S, xs, r, b, rfl, hS, hr2, ok, zb, hl, q⟩ := h; rfl
  obtain ⟨g, l, S, xs, r, b, rfl, hS, hr2, ok, zb, hl, q⟩ := h
  refine ⟨_, (pss_cons (ps_if (PW.pt (pw_or (pt_not (pt_val (pc_g g_is_sequence hr (pa_cons (pv 2) pa_nil)))) (pw_or (pt_cmpR op_eq (pe_callB call_lenS (by rfl) T.b_len (by decide +kernel) (pa_cons (pv 2) pa_nil)) pe_int (nomark _)) (pw_or1 (pt_not (pt_val (pe_callB (cr_all rfl) (by rfl) T.b_all (by decide +kernel) (pa_cons (pe_lc (own := [("mode", 3)]) rfl nd (pi_src (pv 2)) (blkOk_by (own := [("mode", 3)]) (N := ["signs", "letters", "value", "mode", "way"]) (sc := defScope (top 38)) (by decide +kernel)) (fun _ _ _ _ _ => (pg_name (i := 3) nd rfl (by first | exact Or.inl rfl | exact Or.inr rfl))) (fun _ _ _ _ _ => pts_nil) (fun _ _ _ _ _ => (pc_g g_is_sequence hr (pa_cons (pv 3) pa_nil)))) pa_nil))))))))
  (pss_one (ps_ret pe_bl))
  pss_nil)
  (pss_cons (ps_if (pt_not (pt_val (pe_callB (cr_all rfl) (by rfl) T.b_all (by decide +kernel) (pa_cons (pe_lc (own := [("mode", 3)]) rfl nd (pi_src (pv 2)) (blkOk_by (own := [("mode", 3)]) (N := ["signs", "letters", "value", "mode", "way"]) (sc := defScope (top 38)) (by decide +kernel)) (fun _ _ _ _ _ => (pg_name (i := 3) nd rfl (by first | exact Or.inl rfl | exact Or.inr rfl))) (fun _ _ _ _ _ => pts_nil) (fun _ _ _ _ _ => (pe_cmpR op_eq (pe_callB (call_lenK (K := K) rfl) (by rfl) T.b_len (by decide +kernel) (pa_cons (pv 3) pa_nil)) (pe_callB (call_lenK (K := K) rfl) (by rfl) T.b_len (by decide +kernel) (pa_cons (pv 1) pa_nil)) (nomark _)))) pa_nil))))
  (pss_one (ps_ret pe_bl))
  pss_nil)
  (pss_one (ps_ret (pe_callB (cr_all rfl) (by rfl) T.b_all (by decide +kernel) (pa_cons (pe_lc2 (own := [("mode", 3), ("way", 4)]) (vs1 := [4]) rfl nd (pi_src (pv 2)) (blkOk_by (own := [("mode", 3), ("way", 4)]) (N := ["signs", "letters", "value", "mode", "way"]) (sc := defScope (top 38)) (by decide +kernel)) (by decide) (fun _ _ _ _ _ => (pg_name (i := 3) nd rfl (by first | exact Or.inl rfl | exact Or.inr rfl))) (fun _ _ _ _ _ => pts_nil) (fun _ _ _ _ _ => (pi_srcK (K := K) rfl (pv 3))) (fun _ _ _ _ _ => (pg_name (i := 4) nd rfl (by first | exact Or.inl rfl | exact Or.inr rfl))) (fun _ _ _ _ _ => pts_nil) (fun _ _ _ _ _ => (pc_g g_is_way hr (pa_cons (pv 0) (pa_cons (pe_callB (call_lenK (K := K) rfl) (by rfl) T.b_len (by decide +kernel) (pa_cons (pv 2) pa_nil)) (pa_cons (pv 4) pa_nil)))))) pa_nil)))))), ?_⟩
  clear nd hr
  have sz := sizeL
  have l1 := ok.l1
  have l3 := ok.l3
  have lx : xs.length = r.length := hr2.len
  walk_at "r"
  obtain ⟨a0, ev, hty⟩ := hS.ref
  refine ⟨a0, by rw [ev], hty, fun H1 s1 => ?_⟩
  walk_at "r"
  have hS1 := hS.same s1
  refine ⟨S, rfl, xs, hS1.is, hS1.small, rfl, ?_⟩
  refine ite_f (decide_eq_false (by omega)) ?_
  refine ⟨S, rfl, xs, hS1.is, allS hS1.is (by omega) (fun i x H2 Z hx s2 hz => ?_) fun p bs H2 s2 hp hb => ?_⟩
  · walk_at "r"
    obtain ⟨row, hrow, a, ys, rfl, ea, hys⟩ := hr2.get hx
    exact ⟨a, rfl, .inr ⟨_, s2 _ _ (s1 _ _ ea)⟩, hz⟩
  refine ⟨_, rfl, _, hp, ?_⟩
  rw [hb]
  walk_at "r"
  walk_at "n"
  have s02 := s1.trans s2
  have hS2 := hS.same s02
  refine ⟨S, rfl, xs, hS2.is, allS hS2.is (by omega) (fun i x H3 Z hx s3 hz => ?_) fun p bs H3 s3 hp hb => ?_⟩
  · walk_at "r"
    obtain ⟨row, hrow, a, ys, rfl, ea, hys⟩ := hr2.get hx
    have lr := (ok.rows row (List.mem_of_getElem? hrow)).1
    refine ⟨.tup a, rfl, ys, sqT (s3 _ _ (s02 _ _ ea)), trivial, .txt l, rfl, _, rfl, show l.length ≤ sizeLine by omega, rfl, ?_⟩
    rw [txt_len, decide_eq_true (by rw [hys.len, lr, hl])]
    exact hz _ (Same.refl _)
  refine ⟨_, rfl, _, hp, ?_⟩
  rw [hb]
  walk_at "r"
  walk_at "n"
  have s03 := s02.trans s3
  have hS3 := hS.same s03
  refine ⟨S, rfl, xs, hS3.is, allS2 hS3.is (by omega) (fun i x hx => ?_) fun p bs H4 s4 hp hb => ⟨_, rfl, _, hp, by rw [hb]; exact q _ (s03.trans s4)⟩⟩
  obtain ⟨row, hrow, a, ys, rfl, ea, hys⟩ := hr2.get hx
  obtain ⟨lr, okr⟩ := ok.rows row (List.mem_of_getElem? hrow)
  refine ⟨a, ys, rfl, fun H4 s4 => sqT (s4 _ _ (s03 _ _ ea)), by rw [hys.len, lr]; decide, fun j y H4 Z hy s4 hz => ?_⟩
  walk_at "r"
  have s04 := s03.trans s4
  obtain ⟨w', hw', ow⟩ := hys.get hy
  refine ⟨S, rfl, xs, (hS.same s04).is, (hS.same s04).small, g, r.length, b, y, w', by rw [lx], ow.up s04, okr w' (List.mem_of_getElem? hw'), zb, hz⟩
end Gt

set_option Elab.async false
set_option linter.all false
set_option maxRecDepth 100000
set_option maxHeartbeats 2000000
namespace Gt
open PySem PySem.Spec PyProof.Rows L2 StX
local macro_rules | `(tactic| walk_at "r") => `(tactic| simp only [tRet, tRetN, tAndV, tOrV, tNotV, tAnd, tOr, tNot, tCB, tCons, tNil, tC, tVar, L2.start, tCl, tOp, tTest, tB, tIf, tIfS, seqE, tAsg, gName, gTup, gLst, gCons, gNil, tPar, tPar3, tTup, tLst, tFld, sFld, sFldAug, tMt, tPr, tMakeR, tMakeL, tCallV, tWith, tSl, tPart, tNoPart, tM1, tM0, tBM, tBM0, tStar, tRevS, tJs, fmtE, tDrop, tNext, tChain, tUn, tYes, gSub, gAttr, ClX.tCMeth, lcE_src, lcE_enum, lcE_rng, lc2E_src, forE_src, forE_enum, forE_rng, forE_zip, iZipS, cxOf, Cx.nox, Cx.blk,
  rI, rI0, rU, rEq, rNe, rAdd, rIsi, rIsiT, rAll, rAny, rEqD, rNeD, rSrc, rSlL, rSlT, rSlS, rCat, rCatT, rNewStrs, rAppend, rIn,
  List.map_cons, List.map_nil, List.length_cons, List.length_nil, List.replicate, List.append_nil, List.cons_append, List.nil_append, List.getElem?_cons_zero, List.getElem?_cons_succ, List.set_cons_zero, List.set_cons_succ, wipe,
  Option.some.injEq, List.cons.injEq, V.int.injEq, V.bl.injEq, V.str.injEq, V.ref.injEq, and_true, true_and, exists_eq_left', exists_eq_left, exists_eq, exists_eq', exists_and_left, Nat.sub_self, Nat.zero_add, Nat.reduceAdd, Nat.reduceSub, Bool.not_true, Bool.not_false, Bool.false_eq_true, ite_true, ite_false, if_true, if_false, and_assoc, Int.ofNat_inj])
local macro_rules | `(tactic| walk_at "n") => `(tactic| (refine later ?_; try walk_at "r"))
local macro_rules | `(tactic| walk_at "m") => `(tactic| (refine later ?_; try walk_at "r"; refine later ?_; try walk_at "r"))
def sp_do_fit (K : PySem.W.Frag) : Sp := fun vs H Q _ => ∃ (g : Str) (b : Nat) (S : Src) (xs : List V) (r : List (List Way)), vs = [.int b, S.vv] ∧ Seq2 H S xs ∧ All2 (oRow K H) xs r ∧ WaysOk g b r ∧ b ≤ 1000 ∧ ∀ H', Same H H' → Q (.bl true) H'
theorem sc_do_fit : FnScope ["boxes", "ways", "mode", "later", "settings", "one"] ["boxes", "ways"] (defScope (top 40)) := ⟨rfl, rfl, rfl, by decide +kernel, rfl, by decide +kernel, by decide +kernel⟩
theorem ok_do_fit {P : Program} {w : World} {K : PySem.W.Frag} {mg : Str → Option Value} {base : Heap} (D : Def K mg "do_fit" (top 40) ["boxes", "ways"]) (T : Glo K mg)   : GF P w K mg base 1 "do_fit" (sp_do_fit K) := by
  have nd := sc_do_fit.nd
  refine D.go sc_do_fit (fun vs H Q E h => ?_) (fun f cdv A outer s0 H vs Q E hr h => ?_)
  · obtain ⟨g, b, S, xs, r, rfl, hS, hr2, ok, zb, q⟩ := h; rfl
  obtain ⟨g, b, S, xs, r, rfl, hS, hr2, ok, zb, q⟩ := h
  refine ⟨_, (pss_cons (ps_for PassesOwn.never rfl (pi_src (pv 1)) (pg_name (i := 2) nd rfl (by first | exact Or.inl rfl | exact Or.inr rfl))
  (pss_one (ps_for PassesOwn.never rfl (pi_src (pv 2)) (pg_tup (n := 2) rfl (pgs_cons (pg_name (i := 3) nd rfl (by first | exact Or.inl rfl | exact Or.inr rfl)) (pgs_cons (pg_name (i := 4) nd rfl (by first | exact Or.inl rfl | exact Or.inr rfl)) pgs_nil)))
  (pss_one (ps_if (PW.pt (pw_or (pt_cmpR op_ne (pe_callB call_lenS (by rfl) T.b_len (by decide +kernel) (pa_cons (pv 4) pa_nil)) (pv 0) (nomark _)) (pw_or1 (pt_val (pe_callB (cr_any rfl) (by rfl) T.b_any (by decide +kernel) (pa_cons (pe_lc (own := [("one", 5)]) rfl nd (pi_src (pv 4)) (blkOk_by (own := [("one", 5)]) (N := ["boxes", "ways", "mode", "later", "settings", "one"]) (sc := defScope (top 40)) (by decide +kernel)) (fun _ _ _ _ _ => (pg_name (i := 5) nd rfl (by first | exact Or.inl rfl | exact Or.inr rfl))) (fun _ _ _ _ _ => pts_nil) (fun _ _ _ _ _ => (pe_and (pe_cmpR op_notN (pe_fldK (K := K) rfl (pv 5) rfl) pe_non (nomark _)) (pe_one (pe_cmpR op_ge (pe_fldK (K := K) rfl (pv 5) rfl) (pv 0) (nomark _)))))) pa_nil))))))
  (pss_one (ps_ret pe_bl))
  pss_nil)))))
  (pss_one (ps_ret pe_bl))), ?_⟩
  clear nd hr
  have sz := sizeL
  walk_at "r"
  refine ⟨S, rfl, xs, hS.is, forB (walk_src (K := K) (S := S)) (fun i σ H' => Same H H' ∧ ∃ x y z, σ = [some (.int b), some S.vv, x, y, z, none]) ⟨Same.refl _, _, _, _, rfl⟩ (fun i σ H' _ p => (hS.same p.1).is) ?_ ?_⟩
  · rintro i x σ H1 H1' hi ⟨s1, x2, x3, x4, rfl⟩ ⟨e, hx⟩
    subst e
    obtain ⟨row, hrow, a, ys, rfl, ea, hys⟩ := hr2.get hx
    obtain ⟨lr, okr⟩ := ok.rows row (List.mem_of_getElem? hrow)
    walk_at "r"
    have ea1 := s1 _ _ ea
    refine ⟨.tup a, rfl, ys, sqT ea1, forB (walk_src (K := K) (S := .tup a)) (fun i σ H' => Same H H' ∧ ∃ y z, σ = [some (.int b), some S.vv, some (.ref a), y, z, none]) ⟨s1, _, _, rfl⟩ (fun i σ H' _ p => sqT (p.1 _ _ ea)) ?_ ?_⟩
    · rintro j y σ H2 H2' hj ⟨s2, y2, y3, rfl⟩ ⟨e, hy⟩
      subst e
      obtain ⟨w', hw', c, d, ws, rfl, ec, ed, hws⟩ := hys.get hy
      have okw := okr w' (List.mem_of_getElem? hw')
      walk_at "r"
      refine ⟨_, sqT (s2 _ _ ec), rfl, _, _, rfl, _, _, rfl, rfl, ?_⟩
      have ed2 := s2 _ _ ed
      refine ⟨.tup d, rfl, ws, sqT ed2, trivial, rfl, ?_⟩
      rw [decide_eq_true (show ws.length = b by rw [hws.len, okw.n])]
      walk_at "r"
      refine ⟨.tup d, rfl, ws, sqT ed2, anyS (S := .tup d) (sqT ed2) (by rw [hws.len, okw.n]; omega) (fun k z H3 Z hz s3 hZ => ?_) fun p bs H3 s3 hp hb => ?_⟩
      · obtain ⟨s, hs, p, dx, rfl, ep⟩ := hws.get hz
        walk_at "r"
        have ep3 := s3 _ _ (s2 _ _ ep)
        have oks := okw.s s (List.mem_of_getElem? hs)
        refine ⟨_, _, _, ep3, T.cS, T.nS _ (by decide), _, rfl, ?_⟩
        cases es : s.src with
        | none =>
          refine ite_f (by rw [vN_non'] <;> rfl) ?_
          exact hZ _ (Same.refl _)
        | some n =>
          refine ite_t (by rw [vN_non] <;> rfl) ?_
          refine ⟨_, _, _, ep3, T.cS, T.nS _ (by decide), _, rfl, (n : Int), by rw [es]; rfl, ?_⟩
          have := oks.src n es
          rw [decide_eq_false (by omega)]
          exact hZ _ (Same.refl _)
      · refine ⟨_, rfl, _, hp, ?_⟩
        rw [hb]
        walk_at "r"
        exact s2.trans s3
    · rintro σ H2 ⟨s2, y2, y3, rfl⟩
      exact ⟨s2, _, _, _, rfl⟩
  · rintro σ H1 ⟨s1, x2, x3, x4, rfl⟩
    exact q _ s1
def sp_are_ends (K : PySem.W.Frag) : Sp := fun vs H Q _ => ∃ (g : Str) (b : Nat) (S : Src) (xs : List V) (r : List (Option (List Part))), vs = [.str g, .int b, .int (r.length : Nat), S.vv] ∧ Seq2 H S xs ∧ All2 (oEnd H) xs r ∧ (∀ e ∈ r, EndOk g b e) ∧ r.length ≤ 1000 ∧ ∀ H', Same H H' → Q (.bl true) H'
theorem sc_are_ends : FnScope ["signs", "boxes", "many", "value", "row", "part"] ["signs", "boxes", "many", "value"] (defScope (top 41)) := ⟨rfl, rfl, rfl, by decide +kernel, rfl, by decide +kernel, by decide +kernel⟩
theorem ok_are_ends {P : Program} {w : World} {K : PySem.W.Frag} {mg : Str → Option Value} {base : Heap} (D : Def K mg "are_ends" (top 41) ["signs", "boxes", "many", "value"]) (T : Glo K mg) (g_is_sequence : GF P w K mg base 1 "is_sequence" (sp_is_sequence K)) (g_is_part : GF P w K mg base 4 "is_part" (sp_is_part K))  : GF P w K mg base 5 "are_ends" (sp_are_ends K) := by
  have nd := sc_are_ends.nd
  refine D.go sc_are_ends (fun vs H Q E h => ?_) (fun f cdv A outer s0 H vs Q E hr h => ?_)
  · obtain ⟨g, b, S, xs, r, rfl, hS, hr2, ok, zb, q⟩ := h; rfl
  obtain ⟨g, b, S, xs, r, rfl, hS, hr2, ok, zb, q⟩ := h
  refine ⟨_, (pss_cons (ps_if (PW.pt (pw_or (pt_not (pt_val (pc_g g_is_sequence hr (pa_cons (pv 3) pa_nil)))) (pw_or1 (pt_cmpR op_ne (pe_callB call_lenS (by rfl) T.b_len (by decide +kernel) (pa_cons (pv 3) pa_nil)) (pv 2) (nomark _)))))
  (pss_one (ps_ret pe_bl))
  pss_nil)
  (pss_cons (ps_for PassesOwn.never rfl (pi_src (pv 3)) (pg_name (i := 4) nd rfl (by first | exact Or.inl rfl | exact Or.inr rfl))
  (pss_one (ps_if (pt_cmpR op_notN (pv 4) pe_non (nomark _))
  (pss_one (ps_if (PW.pt (pw_or (pt_not (pt_val (pc_g g_is_sequence hr (pa_cons (pv 4) pa_nil)))) (pw_or1 (pt_not (pt_val (pe_callB (cr_all rfl) (by rfl) T.b_all (by decide +kernel) (pa_cons (pe_lc (own := [("part", 5)]) rfl nd (pi_src (pv 4)) (blkOk_by (own := [("part", 5)]) (N := ["signs", "boxes", "many", "value", "row", "part"]) (sc := defScope (top 41)) (by decide +kernel)) (fun _ _ _ _ _ => (pg_name (i := 5) nd rfl (by first | exact Or.inl rfl | exact Or.inr rfl))) (fun _ _ _ _ _ => pts_nil) (fun _ _ _ _ _ => (pc_g g_is_part hr (pa_cons (pv 0) (pa_cons (pv 1) (pa_cons (pv 5) pa_nil)))))) pa_nil)))))))
  (pss_one (ps_ret pe_bl))
  pss_nil))
  pss_nil)))
  (pss_one (ps_ret pe_bl)))), ?_⟩
  clear nd hr
  have sz := sizeL
  have lx := hr2.len
  walk_at "r"
  obtain ⟨a0, ev, hty⟩ := hS.ref
  refine ⟨a0, by rw [ev], hty, fun H1 s1 => ?_⟩
  walk_at "r"
  have hS1 := hS.same s1
  refine ⟨S, rfl, xs, hS1.is, hS1.small, rfl, ?_⟩
  rw [lx, decide_eq_true rfl]
  walk_at "r"
  walk_at "n"
  refine ⟨S, rfl, xs, hS1.is, forB (walk_src (K := K) (S := S)) (fun i σ H' => Same H H' ∧ ∃ x, σ = [some (.str g), some (.int b), some (.int (r.length : Nat)), some S.vv, x, none]) ⟨s1, _, rfl⟩ (fun i σ H' _ p => (hS.same p.1).is) ?_ ?_⟩
  · rintro i x σ H2 H2' hi ⟨s2, x2, rfl⟩ ⟨e, hx⟩
    subst e
    obtain ⟨row, hrow, hv⟩ := hr2.get hx
    have okr := ok row (List.mem_of_getElem? hrow)
    walk_at "r"
    cases row with
    | none =>
      have e : x = .non := hv
      subst e
      refine ite_f rfl ?_
      exact s2
    | some ps =>
      obtain ⟨a, ws, rfl, ea, hws⟩ := hv
      obtain ⟨l3, okp⟩ := okr ps rfl
      refine ite_t rfl ?_
      refine ⟨a, rfl, .inr ⟨_, s2 _ _ ea⟩, fun H3 s3 => ?_⟩
      walk_at "r"
      have s23 := s2.trans s3
      have ea3 := s23 _ _ ea
      refine ⟨.tup a, rfl, ws, sqT ea3, allS (S := .tup a) (sqT ea3) (by rw [hws.len]; omega) (fun k z H4 Z hz s4 hZ => ?_) fun p bs H4 s4 hp hb => ?_⟩
      · walk_at "r"
        obtain ⟨part, hpart, op⟩ := hws.get hz
        exact ⟨g, b, z, part, rfl, op.up (s23.trans s4), okp part (List.mem_of_getElem? hpart), hZ⟩
      · refine ⟨_, rfl, _, hp, ?_⟩
        rw [hb]
        exact s23.trans s4
  · rintro σ H2 ⟨s2, x2, rfl⟩
    walk_at "n"
    exact q _ s2
theorem low_xy : Low "xy" := fun c hc => by
  have e : (Str.ofString "xy").cps.toList = [120, 121] := by decide +kernel
  rw [e] at hc
  simp at hc
  omega
def sp_wrong_word (K : PySem.W.Frag) : Sp := fun vs H Q _ => ∃ (S S' : Src) (xs ys : List V) (p : Prg) (v : V), vs = [.str p.signs, .str p.letters, v, S.vv, S'.vv] ∧ Seq2 H S xs ∧ All2 (oRow K H) xs p.ways ∧ Seq2 H S' ys ∧ All2 (oEnd H) ys p.ends ∧ rStand H v (p.m0, p.t0) ∧ WF p ∧ ∀ H', Same H H' → Q .non H'
theorem sc_wrong_word : FnScope ["signs", "letters", "begin", "ways", "ends"] ["signs", "letters", "begin", "ways", "ends"] (defScope (top 42)) := ⟨rfl, rfl, rfl, by decide +kernel, rfl, by decide +kernel, by decide +kernel⟩
theorem ok_wrong_word {P : Program} {w : World} {K : PySem.W.Frag} {mg : Str → Option Value} {base : Heap} (D : Def K mg "wrong_word" (top 42) ["signs", "letters", "begin", "ways", "ends"]) (T : Glo K mg) (g_is_signs : GF P w K mg base 2 "is_signs" (sp_is_signs K)) (g_are_ways : GF P w K mg base 5 "are_ways" (sp_are_ways K)) (g_is_begin : GF P w K mg base 4 "is_begin" (sp_is_begin K)) (g_do_fit : GF P w K mg base 1 "do_fit" (sp_do_fit K)) (g_are_ends : GF P w K mg base 5 "are_ends" (sp_are_ends K))  : GF P w K mg base 6 "wrong_word" (sp_wrong_word K) := by
  have nd := sc_wrong_word.nd
  refine D.go sc_wrong_word (fun vs H Q E h => ?_) (fun f cdv A outer s0 H vs Q E hr h => ?_)
  · obtain ⟨S, S', xs, ys, p, v, rfl, hS, hw, hS', he, hv, wf, q⟩ := h; rfl
  obtain ⟨S, S', xs, ys, p, v, rfl, hS, hw, hS', he, hv, wf, q⟩ := h
  refine ⟨_, (pss_cons (ps_if (pt_not (pt_val (pc_g g_is_signs hr (pa_cons (pv 0) pa_nil))))
  (pss_one (ps_ret pe_str))
  pss_nil)
  (pss_cons (ps_if (pt_not (pt_val (pc_g g_is_signs hr (pa_cons (pv 1) pa_nil))))
  (pss_one (ps_ret pe_str))
  pss_nil)
  (pss_cons (ps_if (pt_not (pt_val (pc_g g_are_ways hr (pa_cons (pv 0) (pa_cons (pv 1) (pa_cons (pv 3) pa_nil))))))
  (pss_one (ps_ret pe_str))
  pss_nil)
  (pss_cons (ps_if (PW.pt (pw_or (pt_not (pt_val (pc_g g_is_begin hr (pa_cons (pv 0) (pa_cons (pe_callB call_lenS (by rfl) T.b_len (by decide +kernel) (pa_cons (pv 3) pa_nil)) (pa_cons (pv 2) pa_nil)))))) (pw_or1 (pt_not (pt_val (pc_g g_do_fit hr (pa_cons (pe_callB call_lenS (by rfl) T.b_len (by decide +kernel) (pa_cons (pe_ix ix_src (pv 2) pe_int (fun _ _ => rfl)) pa_nil)) (pa_cons (pv 3) pa_nil))))))))
  (pss_one (ps_ret pe_str))
  pss_nil)
  (pss_one (ps_ret (pe_ifExp (pt_val (pc_g g_are_ends hr (pa_cons (pv 0) (pa_cons (pe_callB call_lenS (by rfl) T.b_len (by decide +kernel) (pa_cons (pe_ix ix_src (pv 2) pe_int (fun _ _ => rfl)) pa_nil)) (pa_cons (pe_callB call_lenS (by rfl) T.b_len (by decide +kernel) (pa_cons (pv 3) pa_nil)) (pa_cons (pv 4) pa_nil)))))) pe_non pe_str))))))), ?_⟩
  clear nd hr
  have sz := sizeL
  obtain ⟨a, c, rfl, ea, ec⟩ := id hv
  have l1 := wf.w1
  have l3 := wf.w3
  have s1' := wf.s1
  have s3' := wf.s3
  have b1 := wf.b1
  have b2 := wf.b2
  have ll : p.letters.length = 2 := by rw [wf.let']; rfl
  have wok : WaysOk p.signs p.t0.length p.ways := ⟨wf.w1, wf.w3, wf.rows⟩
  walk_at "r"
  refine ⟨p.signs, rfl, wf.low, wf.nd, wf.s1, by omega, fun H1 s1 => ?_⟩
  walk_at "r"
  walk_at "n"
  refine ⟨p.letters, rfl, by rw [wf.let']; exact low_xy, by rw [wf.let']; decide +kernel, by omega, by omega, fun H2 s2 => ?_⟩
  walk_at "r"
  walk_at "n"
  have s02 := s1.trans s2
  refine ⟨p.signs, p.letters, S, xs, p.ways, p.t0.length, rfl, hS.same s02, hw.mono fun _ _ z => z.up s02, wok, by omega, ll, fun H3 s3 => ?_⟩
  walk_at "r"
  walk_at "n"
  have s03 := s02.trans s3
  have hS3 := hS.same s03
  refine ⟨S, rfl, xs, hS3.is, hS3.small, ?_⟩
  refine ⟨p.signs, p.ways.length, .ref a, (p.m0, p.t0), by rw [hw.len], hv.up s03, wf.m0, b1, Nat.le_trans b2 (by decide), fun x hx => ⟨(wf.t0 x hx).1, Nat.le_trans (wf.t0 x hx).2 (by decide)⟩, fun H4 s4 => ?_⟩
  have s04 := s03.trans s4
  walk_at "r"
  refine ⟨.tup a, rfl, _, sqT (s04 _ _ ea), trivial, _, rfl, .tup c, rfl, _, sqT (s04 _ _ ec), trivial, ?_⟩
  refine ⟨p.signs, p.t0.length, S, xs, p.ways, by rw [List.length_map], hS.same s04, hw.mono fun _ _ z => z.up s04, wok, by omega, fun H5 s5 => ?_⟩
  have s05 := s04.trans s5
  walk_at "r"
  walk_at "n"
  refine ⟨.tup a, rfl, _, sqT (s05 _ _ ea), trivial, _, rfl, .tup c, rfl, _, sqT (s05 _ _ ec), trivial, S, rfl, xs, (hS.same s05).is, (hS.same s05).small, ?_⟩
  refine ⟨p.signs, p.t0.length, S', ys, p.ends, by rw [List.length_map, hw.len, wf.el], hS'.same s05, he.mono fun _ _ z => z.up s05, wf.en, by rw [wf.el]; omega, fun H6 s6 => ?_⟩
  walk_at "r"
  exact q _ (s05.trans s6)
end Gt

set_option Elab.async false
set_option linter.all false
set_option maxRecDepth 100000
set_option maxHeartbeats 2000000
namespace Gt
open PySem PySem.Spec PyProof.Rows L2 StX
local macro_rules | `(tactic| walk_at "r") => `(tactic| simp only [tRet, tRetN, tAndV, tOrV, tNotV, tAnd, tOr, tNot, tCB, tCons, tNil, tC, tVar, L2.start, tCl, tOp, tTest, tB, tIf, tIfS, seqE, tAsg, gName, gTup, gLst, gCons, gNil, tPar, tPar3, tTup, tLst, tFld, sFld, sFldAug, tMt, tPr, tMakeR, tMakeL, tCallV, tWith, tSl, tPart, tNoPart, tM1, tM0, tBM, tBM0, tStar, tRevS, tJs, fmtE, tDrop, tNext, tChain, tUn, tYes, gSub, gAttr, ClX.tCMeth, lcE_src, lcE_enum, lcE_rng, lc2E_src, forE_src, forE_enum, forE_rng, forE_zip, iZipS, cxOf, Cx.nox, Cx.blk,
  rI, rI0, rU, rEq, rNe, rAdd, rIsi, rIsiT, rAll, rAny, rEqD, rNeD, rSrc, rSlL, rSlT, rSlS, rCat, rCatT, rNewStrs, rAppend, rIn,
  List.map_cons, List.map_nil, List.length_cons, List.length_nil, List.replicate, List.append_nil, List.cons_append, List.nil_append, List.getElem?_cons_zero, List.getElem?_cons_succ, List.set_cons_zero, List.set_cons_succ, wipe,
  Option.some.injEq, List.cons.injEq, V.int.injEq, V.bl.injEq, V.str.injEq, V.ref.injEq, and_true, true_and, exists_eq_left', exists_eq_left, exists_eq, exists_eq', exists_and_left, Nat.sub_self, Nat.zero_add, Nat.reduceAdd, Nat.reduceSub, Bool.not_true, Bool.not_false, Bool.false_eq_true, ite_true, ite_false, if_true, if_false, and_assoc, Int.ofNat_inj])
local macro_rules | `(tactic| walk_at "n") => `(tactic| (refine later ?_; try walk_at "r"))
local macro_rules | `(tactic| walk_at "m") => `(tactic| (refine later ?_; try walk_at "r"; refine later ?_; try walk_at "r"))
theorem newE {S : List Addr} {H : Hp} {p : Addr} (o : HO) (d : Dom S H) (h : H p = none) : ∃ H', upd H p o = H' ∧ Same H H' ∧ Dom S H' ∧ H' p = some o ∧ hid S H' p = some o :=
  ⟨_, rfl, Same.upd h, d.same (Same.upd h), upd_same, by rw [hid_at (d.new h)]; exact upd_same⟩
theorem setE {S : List Addr} {H0 H : Hp} {a C dx : Addr} {fs : List (Str × V)} (f : Str) (v : V) (fs' : List (Str × V)) (k : Kp [a] H0 H) (m : a ∈ S) (d : Dom S H) (e : putF f v fs = fs') :
    ∃ H', upd H a (.ins C dx (putF f v fs)) = H' ∧ Kp [a] H0 H' ∧ Dom S H' ∧ H' a = some (.ins C dx fs') ∧ Same (hid S H) (hid S H') :=
  have kp : Kp [a] H (upd H a (.ins C dx (putF f v fs))) := Kp.upd (by simp)
  ⟨_, rfl, k.trans kp, d.kp kp (fun z hz => by rw [List.mem_singleton.mp hz, upd_same]; exact fun q => by cases q), by rw [upd_same, e], hid_kp kp fun z hz => by rw [List.mem_singleton.mp hz]; exact m⟩
def sp_Program_UinitU (K : PySem.W.Frag) : Sp := fun vs H Q _ => ∃ (S0 : List Addr) (a dx : Addr) (S S' : Src) (xs ys : List V) (p : Prg) (v : V), vs = [.ref a, .str p.signs, .str p.letters, v, S.vv, S'.vv] ∧ H a = some (.ins (cP K) dx []) ∧ a ∈ S0 ∧ Dom S0 H ∧
  Seq2 (hid S0 H) S xs ∧ All2 (oRow K (hid S0 H)) xs p.ways ∧ Seq2 (hid S0 H) S' ys ∧ All2 (oEnd (hid S0 H)) ys p.ends ∧ rStand (hid S0 H) v (p.m0, p.t0) ∧ WF p ∧
  ∀ H' b c d, Kp [a] H H' → H' a = some (.ins (cP K) dx (fsP p b c d)) → rStand (hid S0 H') b (p.m0, p.t0) → oWays K (hid S0 H') c p.ways → oEnds (hid S0 H') d p.ends → Q .non H'
theorem sc_Program_UinitU : FnScope ["self", "signs", "letters", "begin", "ways", "ends", "word", "later", "settings", "mode", "row"] ["self", "signs", "letters", "begin", "ways", "ends"] (defScope (inClass (top 46) 0)) := ⟨rfl, rfl, rfl, by decide +kernel, rfl, by decide +kernel, by decide +kernel⟩
theorem ok_Program_UinitU {P : Program} {w : World} {K : PySem.W.Frag} {mg : Str → Option Value} {base : Heap} (D : Ini K mg "Program" (cls_Program K) "Program.__init__" (inClass (top 46) 0) ["self", "signs", "letters", "begin", "ways", "ends"] []) (T : Glo K mg) (g_wrong_word : GF P w K mg base 6 "wrong_word" (sp_wrong_word K))  : GC P w K mg base 7 "Program" (cls_Program K) (sp_Program_UinitU K) ∧ GC P w K mg base 7 "Program" (cls_Program K) (fun vs H Q E => sp_Program_UinitU K (vs ++ []) H Q E) := by
  have nd := sc_Program_UinitU.nd
  refine D.go sc_Program_UinitU (fun vs H Q E h => ?_) (fun f cdv A outer s0 H vs Q E hr h => ?_)
  · obtain ⟨S0, a, dx, S, S', xs, ys, p, v, rfl, ea, ma, d, hS, hw, hS', he, hv, wf, q⟩ := h; rfl
  obtain ⟨S0, a, dx, S, S', xs, ys, p, v, rfl, ea, ma, d, hS, hw, hS', he, hv, wf, q⟩ := h
  refine ⟨_, (pss_cons (ps_set (i := 6) nd rfl (by first | exact Or.inl rfl | exact Or.inr rfl) (pc_g g_wrong_word hr (pa_cons (pv 1) (pa_cons (pv 2) (pa_cons (pv 3) (pa_cons (pv 4) (pa_cons (pv 5) pa_nil)))))))
  (pss_cons (ps_if (pt_cmpR op_notN (pv 6) pe_non (nomark _))
  (pss_one ps_never)
  pss_nil)
  (pss_cons (ps_fld (pv 0) (pv 1) rfl)
  (pss_cons (ps_fld (pv 0) (pv 2) rfl)
  (pss_cons (ps_fld (pv 0) (pe_tup (pa_cons (pe_ix ix_src (pv 3) pe_int (fun _ _ => rfl)) (pa_cons (pe_callTy call_tuple_of (by rfl) T.b_tuple (by decide +kernel) (pa_cons (pe_ix ix_src (pv 3) pe_int (fun _ _ => rfl)) pa_nil)) pa_nil))) rfl)
  (pss_cons (ps_fld (pv 0) (pe_callTy call_tuple_of (by rfl) T.b_tuple (by decide +kernel) (pa_cons (pe_lc (own := [("mode", 9)]) rfl nd (pi_src (pv 4)) (blkOk_by (own := [("mode", 9)]) (N := ["self", "signs", "letters", "begin", "ways", "ends", "word", "later", "settings", "mode", "row"]) (sc := defScope (inClass (top 46) 0)) (by decide +kernel)) (fun _ _ _ _ _ => (pg_name (i := 9) nd rfl (by first | exact Or.inl rfl | exact Or.inr rfl))) (fun _ _ _ _ _ => pts_nil) (fun _ _ _ _ _ => (pe_callTy (call_tupleK (K := K) rfl) (by rfl) T.b_tuple (by decide +kernel) (pa_cons (pe_lc (own := [("later", 7), ("settings", 8)]) rfl nd (pi_srcK (K := K) rfl (pv 9)) (blkOk_by (own := [("later", 7), ("settings", 8)]) (by rfl)) (fun _ _ _ _ _ => (pg_tupK (K := K) (n := 2) rfl rfl (pgs_cons (pg_name (i := 7) nd rfl (by first | exact Or.inl rfl | exact Or.inr rfl)) (pgs_cons (pg_name (i := 8) nd rfl (by first | exact Or.inl rfl | exact Or.inr rfl)) pgs_nil)))) (fun _ _ _ _ _ => pts_nil) (fun _ _ _ _ _ => (pe_tup (pa_cons (pv 7) (pa_cons (pe_callTy (call_tupleK (K := K) rfl) (by rfl) T.b_tuple (by decide +kernel) (pa_cons (pv 8) pa_nil)) pa_nil))))) pa_nil)))) pa_nil)) rfl)
  (pss_cons (ps_fld (pv 0) (pe_callTy call_tuple_of (by rfl) T.b_tuple (by decide +kernel) (pa_cons (pe_lc (own := [("row", 10)]) rfl nd (pi_src (pv 5)) (blkOk_by (own := [("row", 10)]) (N := ["self", "signs", "letters", "begin", "ways", "ends", "word", "later", "settings", "mode", "row"]) (sc := defScope (inClass (top 46) 0)) (by decide +kernel)) (fun _ _ _ _ _ => (pg_name (i := 10) nd rfl (by first | exact Or.inl rfl | exact Or.inr rfl))) (fun _ _ _ _ _ => pts_nil) (fun _ _ _ _ _ => (pe_ifExp (pt_cmpR op_isN (pv 10) pe_non (nomark _)) pe_non (pe_callTy (call_tupleK (K := K) rfl) (by rfl) T.b_tuple (by decide +kernel) (pa_cons (pv 10) pa_nil))))) pa_nil)) rfl)
  (pss_cons (ps_fld (pv 0) (pe_callB call_lenS (by rfl) T.b_len (by decide +kernel) (pa_cons (pe_fld (pv 0) rfl) pa_nil)) rfl)
  (pss_one (ps_fld (pv 0) (pe_callB call_lenS (by rfl) T.b_len (by decide +kernel) (pa_cons (pe_ix ix_src (pe_fld (pv 0) rfl) pe_int (fun _ _ => rfl)) pa_nil)) rfl)))))))))), ?_⟩
  clear nd hr
  have sz := sizeL
  have m1 : ∀ b ∈ [a], b ∈ S0 := fun b hb => by rw [List.mem_singleton.mp hb]; exact ma
  have l3 := wf.w3
  have lx : xs.length = p.ways.length := hw.len
  have ly : ys.length = p.ends.length := he.len
  have el := wf.el
  obtain ⟨a1, a2, rfl, ea1, ea2⟩ := id hv
  walk_at "r"
  refine ⟨S, S', xs, ys, p, .ref a1, rfl, hS.same hid_le, hw.mono fun _ _ z => z.up hid_le, hS'.same hid_le, he.mono fun _ _ z => z.up hid_le, hv.up hid_le, wf, fun H1 s1 => ?_⟩
  walk_at "n"
  refine ite_f rfl ?_
  walk_at "n"
  have e1 := s1 _ _ ea
  have k1 : Kp [a] H H1 := Kp.of s1
  have d1 := d.same s1
  refine ⟨_, _, _, e1, T.cP, T.nP _ (by decide), Nat.le_of_ble_eq_true rfl, ?_⟩
  obtain ⟨H2, h, k2, d2, e2, g12⟩ := setE (C := cP K) (dx := dx) (fs := []) "signs" (.str p.signs) [("signs", .str p.signs)] k1 ma d1 rfl
  rw [h]
  clear h
  walk_at "n"
  refine ⟨_, _, _, e2, T.cP, T.nP _ (by decide), Nat.le_of_ble_eq_true rfl, ?_⟩
  obtain ⟨H3, h, k3, d3, e3, g23⟩ := setE (C := cP K) (dx := dx) (fs := [("signs", .str p.signs)]) "letters" (.str p.letters) [("signs", .str p.signs), ("letters", .str p.letters)] k2 ma d2 rfl
  rw [h]
  clear h
  have g3 := hid_kp k3 m1
  walk_at "n"
  refine ⟨.tup a1, rfl, _, hsqT (g3 _ _ ea1), trivial, _, rfl, .tup a1, rfl, _, hsqT (g3 _ _ ea1), trivial, _, rfl, a2, rfl, _, .inr ⟨hsqT (g3 _ _ ea2), ?_⟩⟩
  refine ⟨by decide, fun b nb => ?_⟩
  obtain ⟨H4, h, s4, d4, eb, hb⟩ := newE (.tup [.int (p.m0 : Nat), .ref a2]) d3 nb
  rw [h]
  clear h
  have k4 := k3.trans (Kp.of s4)
  refine ⟨_, _, _, s4 _ _ e3, T.cP, T.nP _ (by decide), Nat.le_of_ble_eq_true rfl, ?_⟩
  obtain ⟨H5, h, k5, d5, e5, g45⟩ := setE (C := cP K) (dx := dx) (fs := [("signs", .str p.signs), ("letters", .str p.letters)]) "begin" (.ref b) [("signs", .str p.signs), ("letters", .str p.letters), ("begin", .ref b)] k4 ma d4 rfl
  rw [h]
  clear h
  have hb5 : rStand (hid S0 H5) (.ref b) (p.m0, p.t0) := ⟨b, a2, rfl, g45 _ _ hb, hid_kp k5 m1 _ _ ea2⟩
  have g5 := hid_kp k5 m1
  walk_at "n"
  refine ⟨S, rfl, xs, (hS.same (g5.trans hid_le)).is, lcB0 (walk_src (K := K) (S := S)) S0 (fun i G v => ∀ row, p.ways[i]? = some row → oRow K G v row) d5 (by omega) (fun H6 s6 => ((hS.same (g5.trans hid_le)).same s6).is) (fun i G G' v s h row hrow => (h row hrow).up s) (fun S2 i x H6 H6' Z hi hs d6 sm s6 y hz => ?_) fun D ws H6 sm d6 nD _ eD hl hv => ?_⟩
  · obtain ⟨e, hx⟩ := y
    subst e
    obtain ⟨row, hrow, c, ys1, rfl, ec, hys1⟩ := hw.get hx
    have lr := (wf.rows row (List.mem_of_getElem? hrow)).1
    have sg := g5.trans sm
    walk_at "r"
    refine ⟨.tup c, rfl, ys1, hsqT (sg _ _ ec), lcB0 (walk_src (K := K) (S := .tup c)) S2 (fun j G v => ∀ w, row[j]? = some w → oWay K G v w) d6 (by rw [hys1.len, lr]; decide) (fun H7 s7 => sqT (s7 _ _ (hid_le _ _ (sg _ _ ec)))) (fun i G G' v s h w hw => (h w hw).up s) (fun S3 j y H7 H7' Z2 hj hs3 d7 sm7 s7 y2 hz2 => ?_) fun D2 ws2 H7 s7 d7 nD2 _ eD2 hl2 hv2 => ?_⟩
    · obtain ⟨e, hy⟩ := y2
      subst e
      obtain ⟨w', hw', c1, c2, ss, rfl, ec1, ec2, hss⟩ := hys1.get hy
      have sg7 := sg.trans sm7
      walk_at "r"
      refine ⟨_, hsqT (sg7 _ _ ec1), rfl, _, _, rfl, _, _, rfl, rfl, ?_⟩
      refine ⟨c2, rfl, _, .inr ⟨hsqT (sg7 _ _ ec2), by decide, fun t nt => ?_⟩⟩
      obtain ⟨H8, h, s8, d8, et, ht⟩ := newE (.tup [.int (w'.1 : Nat), .ref c2]) d7 nt
      rw [h]
      clear h
      refine hz2 _ _ s8 fun w hw => ?_
      rw [hw'] at hw
      cases hw
      exact ⟨t, c2, ss, rfl, ht, hid_same s8 _ _ (sg7 _ _ ec2), hss.mono fun _ _ z => z.up (sg7.trans (hid_same s8))⟩
    · refine ⟨D2, rfl, ws2, .inl ⟨sqL eD2, fun t nt => ?_⟩⟩
      obtain ⟨H8, h, s8, d8, et, ht⟩ := newE (.tup ws2) d7 nt
      rw [h]
      clear h
      refine hz _ _ (s7.trans s8) fun row' hrow' => ?_
      rw [hrow] at hrow'
      cases hrow'
      exact ⟨t, ws2, rfl, ht, all2_of (by rw [hl2, hys1.len]) fun i v w e1 e2 => (hv2 i v e1 w e2).up (hid_same s8)⟩
  refine ⟨D, rfl, ws, .inl ⟨sqL eD, fun c nc => ?_⟩⟩
  have k6 := k5.trans (Kp.of sm)
  obtain ⟨H7, h, s7, d7, ec, hc⟩ := newE (.tup ws) d6 nc
  rw [h]
  clear h
  have k7 := k6.trans (Kp.of s7)
  have hc7 : oWays K (hid S0 H7) (.ref c) p.ways := ⟨c, ws, rfl, hc, all2_of (by rw [hl, lx]) fun i v w e1 e2 => (hv i v e1 w e2).up (hid_same s7)⟩
  have hb7 := hb5.up ((hid_same sm).trans (hid_same s7))
  refine ⟨_, _, _, s7 _ _ (sm _ _ e5), T.cP, T.nP _ (by decide), Nat.le_of_ble_eq_true rfl, ?_⟩
  obtain ⟨H8, h, k8, d8, e8, g78⟩ := setE (C := cP K) (dx := dx) (fs := [("signs", .str p.signs), ("letters", .str p.letters), ("begin", .ref b)]) "ways" (.ref c) [("signs", .str p.signs), ("letters", .str p.letters), ("begin", .ref b), ("ways", .ref c)] k7 ma d7 rfl
  rw [h]
  clear h
  have hb8 := hb7.up g78
  have hc8 := hc7.up g78
  have g8 := hid_kp k8 m1
  walk_at "n"
  refine ⟨S', rfl, ys, (hS'.same (g8.trans hid_le)).is, lcB0 (walk_src (K := K) (S := S')) S0 (fun i G v => ∀ en, p.ends[i]? = some en → oEnd G v en) d8 (by omega) (fun H6 s6 => ((hS'.same (g8.trans hid_le)).same s6).is) (fun i G G' v s h row hrow => (h row hrow).up s) (fun S2 i x H9 H9' Z hi hs d9 sm9 s9 y hz => ?_) fun D ws H9 sm9 d9 nD _ eD hl hv => ?_⟩
  · obtain ⟨e, hx⟩ := y
    subst e
    obtain ⟨en, hen, hx2⟩ := he.get hx
    have sg := g8.trans sm9
    cases en with
    | none =>
      have e : x = .non := hx2
      subst e
      walk_at "r"
      refine ite_t rfl ?_
      refine hz _ _ (Same.refl _) fun en' hen' => ?_
      rw [hen] at hen'
      cases hen'
      rfl
    | some ps =>
      obtain ⟨t, ws, rfl, et, hps⟩ := hx2
      walk_at "r"
      refine ite_f rfl ?_
      refine ⟨ws, .inr ⟨hsqT (sg _ _ et), ?_⟩⟩
      refine hz _ _ (Same.refl _) fun en' hen' => ?_
      rw [hen] at hen'
      cases hen'
      exact ⟨t, ws, rfl, sg _ _ et, hps.mono fun _ _ z => z.up sg⟩
  refine ⟨D, rfl, ws, .inl ⟨sqL eD, fun e ne => ?_⟩⟩
  have k9 := k8.trans (Kp.of sm9)
  obtain ⟨H10, h, s10, d10, ee, heh⟩ := newE (.tup ws) d9 ne
  rw [h]
  clear h
  have k10 := k9.trans (Kp.of s10)
  have he10 : oEnds (hid S0 H10) (.ref e) p.ends := ⟨e, ws, rfl, heh, all2_of (by rw [hl, ly]) fun i v w e1 e2 => (hv i v e1 w e2).up (hid_same s10)⟩
  have s810 := (hid_same sm9 (S := S0)).trans (hid_same s10)
  have hb10 := hb8.up s810
  have hc10 := hc8.up s810
  refine ⟨_, _, _, s10 _ _ (sm9 _ _ e8), T.cP, T.nP _ (by decide), Nat.le_of_ble_eq_true rfl, ?_⟩
  obtain ⟨H11, h, k11, d11, e11, g11⟩ := setE (C := cP K) (dx := dx) (fs := [("signs", .str p.signs), ("letters", .str p.letters), ("begin", .ref b), ("ways", .ref c)]) "ends" (.ref e) [("signs", .str p.signs), ("letters", .str p.letters), ("begin", .ref b), ("ways", .ref c), ("ends", .ref e)] k10 ma d10 rfl
  rw [h]
  clear h
  have hb11 := hb10.up g11
  have hc11 := hc10.up g11
  have he11 := he10.up g11
  walk_at "n"
  refine ⟨_, _, _, e11, T.cP, T.nP _ (by decide), _, rfl, ?_⟩
  obtain ⟨c', cs, ec0, ec', hcs⟩ := id hc11
  cases ec0
  refine ⟨.tup c, rfl, cs, hsqT ec', trivial, ?_⟩
  refine ⟨_, _, _, e11, T.cP, T.nP _ (by decide), Nat.le_of_ble_eq_true rfl, ?_⟩
  obtain ⟨H12, h, k12, d12, e12, g12⟩ := setE (C := cP K) (dx := dx) (fs := [("signs", .str p.signs), ("letters", .str p.letters), ("begin", .ref b), ("ways", .ref c), ("ends", .ref e)]) "modes" (.int (cs.length : Nat)) [("signs", .str p.signs), ("letters", .str p.letters), ("begin", .ref b), ("ways", .ref c), ("ends", .ref e), ("modes", .int (cs.length : Nat))] k11 ma d11 rfl
  rw [h]
  clear h
  have hb12 := hb11.up g12
  walk_at "n"
  refine ⟨_, _, _, e12, T.cP, T.nP _ (by decide), _, rfl, ?_⟩
  obtain ⟨b', bs, eb0, eb', ebs⟩ := id hb12
  cases eb0
  refine ⟨.tup b, rfl, _, hsqT eb', trivial, _, rfl, .tup bs, rfl, _, hsqT ebs, trivial, ?_⟩
  refine ⟨_, _, _, e12, T.cP, T.nP _ (by decide), Nat.le_of_ble_eq_true rfl, ?_⟩
  obtain ⟨H13, h, k13, d13, e13, g13⟩ := setE (C := cP K) (dx := dx) (fs := [("signs", .str p.signs), ("letters", .str p.letters), ("begin", .ref b), ("ways", .ref c), ("ends", .ref e), ("modes", .int (cs.length : Nat))]) "boxes" (.int (((p.m0, p.t0).2.map V.str).length : Nat)) (fsP p (.ref b) (.ref c) (.ref e)) k12 ma d12 (by rw [List.length_map, hcs.len]; rfl)
  rw [h]
  clear h
  exact q _ _ _ _ k13 e13 (hb12.up g13) ((hc11.up g12).up g13) ((he11.up g12).up g13)
end Gt

set_option Elab.async false
set_option linter.all false
set_option maxRecDepth 100000
set_option maxHeartbeats 2000000
namespace Gt
open PySem PySem.Spec PyProof.Rows L2 StX
/-! ### the text of a program -/
def w0 (p : Prg) : List Str := ["program", "signs", p.signs, "letters", p.letters]
def wb (p : Prg) : List Str := "begin" :: numC p.m0 :: p.t0.map wordOf
def wway (m c : Nat) (w : Way) : List Str := "way" :: numC m :: ⟨#[c]⟩ :: numC w.1 :: w.2.map settText
def wend (m : Nat) (e : Option (List Part)) : List Str := "end" :: numC m :: match e with
  | none => ["none"]
  | some ps => ps.map partText
def Prg.way (p : Prg) (m k : Nat) : Way := (p.ways.getD m []).getD k (0, [])
def lineAt (p : Prg) (i : Nat) : List Str :=
  if i = 0 then w0 p else if i = 1 then wb p
  else if i < 2 + 2 * p.ways.length then wway ((i - 2) / 2) (120 + (i - 2) % 2) (p.way ((i - 2) / 2) ((i - 2) % 2))
  else wend (i - 2 - 2 * p.ways.length) (p.ends.getD (i - 2 - 2 * p.ways.length) none)
theorem lineAt_way {p : Prg} {m k : Nat} (hm : m < p.ways.length) (hk : k < 2) : lineAt p (2 + 2 * m + k) = wway m (120 + k) (p.way m k) := by
  unfold lineAt
  have e1 : (2 + 2 * m + k - 2) / 2 = m := by omega
  have e2 : (2 + 2 * m + k - 2) % 2 = k := by omega
  rw [if_neg (by omega), if_neg (by omega), if_pos (by omega), e1, e2]
theorem lineAt_end {p : Prg} (m : Nat) : lineAt p (2 + 2 * p.ways.length + m) = wend m (p.ends.getD m none) := by
  unfold lineAt
  have e1 : 2 + 2 * p.ways.length + m - 2 - 2 * p.ways.length = m := by omega
  rw [if_neg (by omega), if_neg (by omega), if_neg (by omega), e1]
def lineS (p : Prg) (i : Nat) : Str := Txt.join " " (lineAt p i)
def linesS (p : Prg) (k : Nat) : List Str := (List.range k).map (lineS p)
def Prg.n (p : Prg) : Nat := 2 + 3 * p.ways.length
def progText (p : Prg) : Str := Txt.join "\n" (linesS p p.n)
theorem linesS_succ (p : Prg) (k : Nat) : linesS p (k + 1) = linesS p k ++ [lineS p k] := by
  unfold linesS
  rw [List.range_succ, List.map_append]
  rfl
theorem linesS_len (p : Prg) (k : Nat) : (linesS p k).length = k := by
  unfold linesS
  simp
theorem linesS_at {p : Prg} {k i : Nat} (h : i < k) : (linesS p k)[i]? = some (lineS p i) := by
  unfold linesS
  simp [h]
/-! ### words -/
structure Ok1 (w : Str) : Prop where
  s : Free 32 w
  l : Free 10 w
  n : w.length ≤ 3000
structure OkL (ws : List Str) : Prop where
  n : ws.length ≤ 8
  ne : ws ≠ []
  w : ∀ x ∈ ws, Ok1 x
theorem ok_low {z : Str} (h : Low z) (n : z.length ≤ 3000) : Ok1 z := ⟨free_low h (by omega), free_low h (by omega), n⟩
theorem ok_num {n : Nat} (h : n < 10) : Ok1 (numC n) := ⟨free_num (by omega) h, free_num (by omega) h, (by decide : 1 ≤ 3000)⟩
theorem free_lit {c : Nat} {z : Str} (h : decide (c ∈ z.cps.toList) = false) : Free c z := of_decide_eq_false h
theorem ok_lit {z : Str} (h1 : decide (32 ∈ z.cps.toList) = false) (h2 : decide (10 ∈ z.cps.toList) = false) (n : z.length ≤ 3000) : Ok1 z := ⟨free_lit h1, free_lit h2, n⟩
theorem low_of_sub {g z : Str} (h : Low g) (o : Of g z) : Low z := fun c hc => h c (o c hc)
theorem sett_low {p : Prg} (wf : WF p) {s : Sett} (h : SettOk p.signs p.t0.length s) : SettLow s :=
  ⟨low_of_sub wf.low h.hd, low_of_sub wf.low h.tl, Nat.le_trans h.hl (by decide), Nat.le_trans h.tll (by decide), fun n e => by have := h.src n e; have := wf.b2; omega, h.non⟩
theorem part_low {p : Prg} (wf : WF p) {q : Part} (h : PartOk p.signs p.t0.length q) : PartLow q := by
  have b2 := wf.b2
  refine ⟨fun n e => ?_, fun n e => ?_, fun x e => ?_⟩
  · subst e
    have h : n < p.t0.length := h
    omega
  · subst e
    have h : n < p.t0.length := h
    omega
  · subst e
    obtain ⟨h1, h2, h3⟩ := h
    exact ⟨h1, low_of_sub wf.low h2, by omega⟩
theorem ok_sett {s : Sett} (h : SettLow s) : Ok1 (settText s) := by
  have f : ∀ c, c ≠ 46 → c ≠ 45 → c ≠ 126 → (c < 48 ∨ 57 < c) → (c < 97 ∨ 122 < c) → Free c (settText s) := fun c h1 h2 h3 h4 h5 => by
    have dot : Free c (Str.ofString ".") := fun hm => by
      have e : TL.tl (Str.ofString ".") = [46] := rfl
      rw [e, List.mem_singleton] at hm
      exact h1 hm
    unfold settText
    exact free_app (free_app (free_app (free_app (free_low h.hd h5) dot) (free_mid h h2 h3 h4)) dot) (free_low h.tl h5)
  exact ⟨f 32 (by decide) (by decide) (by decide) (by decide) (by decide), f 10 (by decide) (by decide) (by decide) (by decide) (by decide), Nat.le_trans (sett_len h) (by decide)⟩
theorem ok_part {q : Part} (h : PartLow q) : Ok1 (partText q) := by
  cases q with
  | box n => exact ok_num (h.n1 n rfl)
  | tur n =>
    have o := ok_num (h.n2 n rfl)
    exact ⟨free_app (free_lit (by decide)) o.s, free_app (free_lit (by decide)) o.l, by show (Str.ofString "~" ++ numC n).length ≤ _; rw [len_app]; exact (by decide : 2 ≤ 3000)⟩
  | told x =>
    obtain ⟨h1, h2, h3⟩ := h.x x rfl
    have o := ok_low h2 (by omega)
    have z1 : (Str.ofString "=").length = 1 := rfl
    exact ⟨free_app (free_lit (by decide)) o.s, free_app (free_lit (by decide)) o.l, by show (Str.ofString "=" ++ x).length ≤ _; rw [len_app]; omega⟩
theorem ok_word {g x : Str} (hg : Low g) (h : Of g x) (n : x.length ≤ 1000) : Ok1 (wordOf x) := by
  unfold wordOf
  by_cases e : x = Str.ofString ""
  · rw [if_pos e]
    exact ok_lit (by decide) (by decide) (by decide)
  · rw [if_neg e]
    exact ok_low (low_of_sub hg h) (by omega)
theorem way_ok {p : Prg} (wf : WF p) {m k : Nat} (hm : m < p.ways.length) (hk : k < 2) : WayOk p.signs p.ways.length p.t0.length (p.way m k) := by
  obtain ⟨row, w, _, _, _, h, e⟩ := way_at wf hm hk
  unfold Prg.way
  rw [e]
  exact h
theorem lineAt_ok {p : Prg} (wf : WF p) {i : Nat} (hi : i < p.n) : OkL (lineAt p i) := by
  have b2 := wf.b2
  have l3 := wf.w3
  have s3 := wf.s3
  have m0 := wf.m0
  unfold Prg.n at hi
  by_cases h0 : i = 0
  · subst h0
    refine ⟨by show 5 ≤ 8; decide, by show w0 p ≠ []; unfold w0; simp, fun x hx => ?_⟩
    have hx : x ∈ w0 p := hx
    unfold w0 at hx
    simp only [List.mem_cons, List.not_mem_nil, or_false] at hx
    rcases hx with rfl | rfl | rfl | rfl | rfl
    · exact ok_lit (by decide +kernel) (by decide +kernel) (by decide +kernel)
    · exact ok_lit (by decide +kernel) (by decide +kernel) (by decide +kernel)
    · exact ok_low wf.low (by omega)
    · exact ok_lit (by decide +kernel) (by decide +kernel) (by decide +kernel)
    · rw [wf.let']
      exact ok_lit (by decide +kernel) (by decide +kernel) (by decide +kernel)
  by_cases h1 : i = 1
  · subst h1
    refine ⟨by show (wb p).length ≤ 8; unfold wb; simp; omega, by show wb p ≠ []; unfold wb; simp, fun x hx => ?_⟩
    have hx : x ∈ wb p := hx
    unfold wb at hx
    simp only [List.mem_cons, List.mem_map] at hx
    rcases hx with rfl | rfl | ⟨t, ht, rfl⟩
    · exact ok_lit (by decide +kernel) (by decide +kernel) (by decide +kernel)
    · exact ok_num (by omega)
    · exact ok_word wf.low (wf.t0 t ht).1 (wf.t0 t ht).2
  by_cases h2 : i < 2 + 2 * p.ways.length
  · obtain ⟨m, k, hm, hk, e⟩ : ∃ m k, m < p.ways.length ∧ k < 2 ∧ i = 2 + 2 * m + k := ⟨(i - 2) / 2, (i - 2) % 2, by omega, by omega, by omega⟩
    subst e
    rw [lineAt_way hm hk]
    have ok := way_ok wf hm hk
    have okm := ok.m
    refine ⟨by unfold wway; simp [ok.n]; omega, by unfold wway; simp, fun x hx => ?_⟩
    unfold wway at hx
    simp only [List.mem_cons, List.mem_map] at hx
    rcases hx with rfl | rfl | rfl | rfl | ⟨t, ht, rfl⟩
    · exact ok_lit (by decide +kernel) (by decide +kernel) (by decide +kernel)
    · exact ok_num (by omega)
    · have hk' : k = 0 ∨ k = 1 := by omega
      rcases hk' with rfl | rfl
      · exact ok_lit (by decide +kernel) (by decide +kernel) (by decide +kernel)
      · exact ok_lit (by decide +kernel) (by decide +kernel) (by decide +kernel)
    · exact ok_num (by omega)
    · exact ok_sett (sett_low wf (ok.s t ht))
  · obtain ⟨m, hm, e⟩ : ∃ m, m < p.ways.length ∧ i = 2 + 2 * p.ways.length + m := ⟨i - 2 - 2 * p.ways.length, by omega, by omega⟩
    subst e
    rw [lineAt_end]
    have hm' : m < p.ends.length := by rw [wf.el]; exact hm
    have e1 : p.ends.getD m none = p.ends[m] := by simp [List.getD_eq_getElem?_getD, List.getElem?_eq_getElem hm']
    have ok := wf.en _ (List.getElem_mem hm')
    rw [e1]
    cases e2 : p.ends[m] with
    | none =>
      refine ⟨by show 3 ≤ 8; decide, by unfold wend; simp, fun x hx => ?_⟩
      unfold wend at hx
      simp only [List.mem_cons, List.not_mem_nil, or_false] at hx
      rcases hx with rfl | rfl | rfl
      · exact ok_lit (by decide +kernel) (by decide +kernel) (by decide +kernel)
      · exact ok_num (by omega)
      · exact ok_lit (by decide +kernel) (by decide +kernel) (by decide +kernel)
    | some ps =>
      obtain ⟨l, okp⟩ := ok ps e2
      refine ⟨by unfold wend; simp; omega, by unfold wend; simp, fun x hx => ?_⟩
      unfold wend at hx
      simp only [List.mem_cons, List.mem_map] at hx
      rcases hx with rfl | rfl | ⟨q, hq, rfl⟩
      · exact ok_lit (by decide +kernel) (by decide +kernel) (by decide +kernel)
      · exact ok_num (by omega)
      · exact ok_part (part_low wf (okp q hq))
/-! ### joined and split -/
theorem sum_le {xs : List Str} {b : Nat} (h : ∀ x ∈ xs, x.length ≤ b) : (xs.map (·.length)).sum ≤ xs.length * b := by
  induction xs with
  | nil => simp
  | cons x r ih =>
    have h1 := h x (by simp)
    have h2 := ih fun y hy => h y (by simp [hy])
    simp only [List.map_cons, List.sum_cons, List.length_cons, Nat.add_mul, Nat.one_mul]
    omega
theorem join_len_le (y : Str) : ∀ xs : List Str, (Txt.join y xs).length ≤ (xs.map (·.length)).sum + xs.length * y.length := by
  intro xs
  rw [TL.join_eq]
  induction xs with
  | nil => exact Nat.le_of_ble_eq_true rfl
  | cons x r ih =>
    cases r with
    | nil =>
      show x.length ≤ _
      simp
    | cons z r =>
      show (x ++ y ++ Str.join y (z :: r)).length ≤ _
      rw [len_app, len_app]
      simp only [List.map_cons, List.sum_cons, List.length_cons, Nat.add_mul, Nat.one_mul] at ih ⊢
      omega
theorem okl_sum {ws : List Str} (h : OkL ws) : (ws.map (·.length)).sum + ws.length * (Str.ofString " ").length ≤ 24008 := by
  have h1 := sum_le (b := 3000) fun x hx => (h.w x hx).n
  have h2 := h.n
  have z1 : (Str.ofString " ").length = 1 := rfl
  rw [z1]
  have : ws.length * 3000 ≤ 8 * 3000 := Nat.mul_le_mul_right _ h2
  omega
theorem line_len {p : Prg} (wf : WF p) {i : Nat} (hi : i < p.n) : (lineS p i).length ≤ 24008 := Nat.le_trans (join_len_le _ _) (okl_sum (lineAt_ok wf hi))
theorem line_split {p : Prg} (wf : WF p) {i : Nat} (hi : i < p.n) : Txt.split (lineS p i) " " = lineAt p i := by
  have ok := lineAt_ok wf hi
  exact TL.split_join (s := 32) (S := []) rfl (by decide +kernel) ok.ne fun w hw => (ok.w w hw).s
theorem free_join {c : Nat} {y : Str} (hy : Free c y) : ∀ {xs : List Str}, (∀ x ∈ xs, Free c x) → Free c (Txt.join y xs) := by
  intro xs
  rw [TL.join_eq]
  induction xs with
  | nil => intro _ h; cases h
  | cons x r ih =>
    intro h
    cases r with
    | nil => exact h x (by simp)
    | cons z r =>
      show Free c (x ++ y ++ Str.join y (z :: r))
      exact free_app (free_app (h x (by simp)) hy) (ih fun w hw => h w (by simp only [List.mem_cons] at hw ⊢; exact .inr hw))
theorem prog_n {p : Prg} (wf : WF p) : p.n ≤ 11 := by
  have := wf.w3
  unfold Prg.n
  omega
theorem text_split {p : Prg} (wf : WF p) : Txt.split (progText p) "\n" = linesS p p.n := by
  refine TL.split_join (s := 10) (S := []) rfl (by decide +kernel) (fun e => ?_) fun x hx => ?_
  · have := linesS_len p p.n
    rw [e] at this
    have h : 0 = 2 + 3 * p.ways.length := this
    omega
  · unfold linesS at hx
    obtain ⟨i, hi, rfl⟩ := List.mem_map.mp hx
    have ok := lineAt_ok wf (List.mem_range.mp hi)
    exact free_join (free_lit (by decide)) fun w hw => (ok.w w hw).l
theorem lines_sum {p : Prg} (wf : WF p) : ((linesS p p.n).map (·.length)).sum + (linesS p p.n).length * (Str.ofString "\n").length ≤ 300000 := by
  have h1 := sum_le (xs := linesS p p.n) (b := 24008) fun x hx => by
    unfold linesS at hx
    obtain ⟨i, hi, rfl⟩ := List.mem_map.mp hx
    exact line_len wf (List.mem_range.mp hi)
  have h2 := prog_n wf
  have z1 : (Str.ofString "\n").length = 1 := rfl
  rw [z1]
  rw [linesS_len] at h1 ⊢
  have : p.n * 24008 ≤ 11 * 24008 := Nat.mul_le_mul_right _ h2
  omega
theorem text_len {p : Prg} (wf : WF p) : (progText p).length ≤ 300000 := Nat.le_trans (join_len_le _ _) (lines_sum wf)
end Gt

set_option Elab.async false
set_option linter.all false
set_option maxRecDepth 100000
set_option maxHeartbeats 2000000
namespace Gt
open PySem PySem.Spec PyProof.Rows L2 StX
local macro_rules | `(tactic| walk_at "r") => `(tactic| simp only [tRet, tRetN, tAndV, tOrV, tNotV, tAnd, tOr, tNot, tCB, tCons, tNil, tC, tVar, L2.start, tCl, tOp, tTest, tB, tIf, tIfS, seqE, tAsg, gName, gTup, gLst, gCons, gNil, tPar, tPar3, tTup, tLst, tFld, sFld, sFldAug, tMt, tPr, tMakeR, tMakeL, tCallV, tWith, tSl, tPart, tNoPart, tM1, tM0, tBM, tBM0, tStar, tRevS, tJs, fmtE, tDrop, tNext, tChain, tUn, tYes, gSub, gAttr, ClX.tCMeth, lcE_src, lcE_enum, lcE_rng, lc2E_src, forE_src, forE_enum, forE_rng, forE_zip, iZipS, cxOf, Cx.nox, Cx.blk,
  rI, rI0, rU, rEq, rNe, rAdd, rIsi, rIsiT, rAll, rAny, rEqD, rNeD, rSrc, rSlL, rSlT, rSlS, rCat, rCatT, rNewStrs, rAppend, rIn,
  List.map_cons, List.map_nil, List.length_cons, List.length_nil, List.replicate, List.append_nil, List.cons_append, List.nil_append, List.getElem?_cons_zero, List.getElem?_cons_succ, List.set_cons_zero, List.set_cons_succ, wipe,
  Option.some.injEq, List.cons.injEq, V.int.injEq, V.bl.injEq, V.str.injEq, V.ref.injEq, and_true, true_and, exists_eq_left', exists_eq_left, exists_eq, exists_eq', exists_and_left, Nat.sub_self, Nat.zero_add, Nat.reduceAdd, Nat.reduceSub, Bool.not_true, Bool.not_false, Bool.false_eq_true, ite_true, ite_false, if_true, if_false, and_assoc, Int.ofNat_inj])
local macro_rules | `(tactic| walk_at "n") => `(tactic| (refine later ?_; try walk_at "r"))
local macro_rules | `(tactic| walk_at "m") => `(tactic| (refine later ?_; try walk_at "r"; refine later ?_; try walk_at "r"))
theorem strs_of {α : Type} {f : α → Str} {ws : List V} {xs : List α} (hl : ws.length = xs.length) (h : ∀ (i : Nat) v x, ws[i]? = some v → xs[i]? = some x → v = .str (f x)) : ws = (xs.map f).map V.str := by
  apply List.ext_getElem?
  intro i
  rw [List.getElem?_map, List.getElem?_map]
  cases e : ws[i]? with
  | none =>
    have hi : xs.length ≤ i := by rw [← hl]; simpa using e
    simp [hi]
  | some v =>
    have hi : i < xs.length := by rw [← hl]; exact (List.getElem?_eq_some_iff.mp e).1
    rw [h i v xs[i] e (List.getElem?_eq_getElem hi), List.getElem?_eq_getElem hi]
    rfl
theorem line0 (p : Prg) : lineS p 0 = "program signs " ++ p.signs ++ " letters " ++ p.letters := by
  show Txt.join " " (w0 p) = _
  rw [TL.join_eq]
  show (Str.ofString "program" ++ " " ++ (Str.ofString "signs" ++ " " ++ (p.signs ++ " " ++ (Str.ofString "letters" ++ " " ++ p.letters)))) = _
  have e1 : (Str.ofString "program signs ") = Str.ofString "program" ++ (Str.ofString " " ++ (Str.ofString "signs" ++ Str.ofString " ")) := by decide +kernel
  have e2 : (Str.ofString " letters ") = Str.ofString " " ++ (Str.ofString "letters" ++ Str.ofString " ") := by decide +kernel
  rw [e1, e2]
  simp only [app_assoc]
theorem line0' (p : Prg) : Str.empty ++ "program signs " ++ p.signs ++ " letters " ++ p.letters = lineS p 0 := by rw [emp_app, line0]
theorem lg10 {n : Nat} (h : n < 10) : ((n : Nat) : Int).natAbs.log2 < 1920 := by
  show n.log2 < 1920
  exact (by decide : ∀ n, n < 10 → Nat.log2 n < 1920) n h
theorem appE {p : Prg} {n : Nat} {l : Addr} {H0 H : Hp} (k : Kp [l] H0 H) : ∃ H', upd H l (.lst ((linesS p n).map V.str ++ [.str (lineS p n)])) = H' ∧ Kp [l] H0 H' ∧ H' l = some (.lst ((linesS p (n + 1)).map V.str)) :=
  ⟨_, rfl, k.trans (Kp.upd (by simp)), by rw [upd_same, linesS_succ, List.map_append]; rfl⟩
theorem same_hid {l : Addr} {H H' : Hp} (h : H l = none) (s : Kp [l] H H') : Same H (hid [l] H') := fun a o e => by
  have n : a ≠ l := fun z => by rw [z, h] at e; cases e
  rw [hid_at (by simpa using n)]
  exact s a o (by simpa using n) e
theorem same_kp {l : Addr} {H H' : Hp} (h : H l = none) (k : Kp [l] H H') : Same H H' := (same_hid h k).trans hid_le
theorem way_eq {p : Prg} {i j : Nat} {wr : List Way} {w : Way} (h1 : p.ways[i]? = some wr) (h2 : wr[j]? = some w) : p.way i j = w := by
  unfold Prg.way
  simp [List.getD_eq_getElem?_getD, h1, h2]
theorem xy_at {z : Str} (hz : z = "xy") {j : Nat} {v : V} (h : (z.cps.toList.map fun c => V.str ⟨#[c]⟩)[j]? = some v) : v = .str ⟨#[120 + j]⟩ := by
  subst hz
  have e : (Str.ofString "xy").cps.toList = [120, 121] := by decide +kernel
  rw [e] at h
  match j, h with
  | 0, h => cases h; rfl
  | 1, h => cases h; rfl
  | n + 2, h => simp at h
def sp_Program_UstrU (K : PySem.W.Frag) : Sp := fun vs H Q _ => ∃ (v : V) (p : Prg), vs = [v] ∧ oPrg K H v p ∧ WF p ∧ ∀ H', Same H H' → Q (.str (progText p)) H'
theorem sc_Program_UstrU : FnScope ["self", "lines", "text", "mode", "ways", "letter", "later", "settings", "one", "row", "parts", "part"] ["self"] (defScope (inClass (top 46) 5)) := ⟨rfl, rfl, rfl, by decide +kernel, rfl, by decide +kernel, by decide +kernel⟩
theorem ok_Program_UstrU {P : Program} {w : World} {K : PySem.W.Frag} {mg : Str → Option Value} {base : Heap} (D : Spc K (cls_Program K) "__str__" "Program.__str__" (inClass (top 46) 5) ["self"]) (T : Glo K mg) (g_text_word : GF P w K mg base 1 "text_word" (sp_text_word K)) (s_Setting : GS P w K mg base 1 (cls_Setting K) "__str__" (sp_Setting_UstrU K)) (g_part_text : GF P w K mg base 1 "part_text" (sp_part_text K))  : GS P w K mg base 4 (cls_Program K) "__str__" (sp_Program_UstrU K) := by
  have nd := sc_Program_UstrU.nd
  refine D.go sc_Program_UstrU (fun vs H Q E h => ?_) (fun f cdv A outer s0 H vs Q E hr h => ?_)
  · obtain ⟨v, p, rfl, ⟨a, dx, vb, vc, vd, rfl, op⟩, wf, q⟩ := h; rfl
  obtain ⟨v, p, rfl, ⟨a, dx, vb, vc, vd, rfl, op⟩, wf, q⟩ := h
  refine ⟨_, (pss_cons (ps_set (i := 1) nd rfl (by first | exact Or.inl rfl | exact Or.inr rfl) (pe_lst (pa_cons (pe_joined (pj_cons pe_str (pj_cons (pe_fmt (pe_fld (pv 0) rfl)) (pj_cons pe_str (pj_cons (pe_fmt (pe_fld (pv 0) rfl)) pj_nil))))) pa_nil)))
  (pss_cons (ps_expr (pe_bm PySem.F.plainAttrs_list PySem.F.slot_list_append PySem.F.type_list_append mt_append (pv 1) (pa_cons (pe_join pe_str (pe_lst (pa_cons pe_str (pa_cons (pe_callTy call_str_int (by rfl) T.b_str (by decide +kernel) (pa_cons (pe_ix ix_src (pe_fld (pv 0) rfl) pe_int (fun _ _ => rfl)) pa_nil)) (pa_star (pe_lc (own := [("text", 2)]) rfl nd (pi_src (pe_ix ix_src (pe_fld (pv 0) rfl) pe_int (fun _ _ => rfl))) (blkOk_by (own := [("text", 2)]) (N := ["self", "lines", "text", "mode", "ways", "letter", "later", "settings", "one", "row", "parts", "part"]) (sc := defScope (inClass (top 46) 5)) (by decide +kernel)) (fun _ _ _ _ _ => (pg_name (i := 2) nd rfl (by first | exact Or.inl rfl | exact Or.inr rfl))) (fun _ _ _ _ _ => pts_nil) (fun _ _ _ _ _ => (pc_g g_text_word hr (pa_cons (pv 2) pa_nil)))) pa_nil))))) pa_nil)))
  (pss_cons (ps_for PassesOwn.never rfl (pi_enumS (by rfl) T.b_enumerate (pa_cons (pe_fld (pv 0) rfl) pa_nil)) (pg_tup (n := 2) rfl (pgs_cons (pg_name (i := 3) nd rfl (by first | exact Or.inl rfl | exact Or.inr rfl)) (pgs_cons (pg_name (i := 4) nd rfl (by first | exact Or.inl rfl | exact Or.inr rfl)) pgs_nil)))
  (pss_one (ps_for PassesOwn.never rfl (pi_zipS (by rfl) T.b_zip (pa_cons (pe_fld (pv 0) rfl) (pa_cons (pv 4) pa_nil))) (pg_tup (n := 2) rfl (pgs_cons (pg_name (i := 5) nd rfl (by first | exact Or.inl rfl | exact Or.inr rfl)) (pgs_cons (pg_tup (n := 2) rfl (pgs_cons (pg_name (i := 6) nd rfl (by first | exact Or.inl rfl | exact Or.inr rfl)) (pgs_cons (pg_name (i := 7) nd rfl (by first | exact Or.inl rfl | exact Or.inr rfl)) pgs_nil))) pgs_nil)))
  (pss_one (ps_expr (pe_bm PySem.F.plainAttrs_list PySem.F.slot_list_append PySem.F.type_list_append mt_append (pv 1) (pa_cons (pe_join pe_str (pe_lst (pa_cons pe_str (pa_cons (pe_callTy call_str_int (by rfl) T.b_str (by decide +kernel) (pa_cons (pv 3) pa_nil)) (pa_cons (pv 5) (pa_cons (pe_callTy call_str_int (by rfl) T.b_str (by decide +kernel) (pa_cons (pv 6) pa_nil)) (pa_star (pe_lc (own := [("one", 8)]) rfl nd (pi_src (pv 7)) (blkOk_by (own := [("one", 8)]) (N := ["self", "lines", "text", "mode", "ways", "letter", "later", "settings", "one", "row", "parts", "part"]) (sc := defScope (inClass (top 46) 5)) (by decide +kernel)) (fun _ _ _ _ _ => (pg_name (i := 8) nd rfl (by first | exact Or.inl rfl | exact Or.inr rfl))) (fun _ _ _ _ _ => pts_nil) (fun _ _ _ _ _ => (pe_callTy (cr_strOwn s_Setting hr) (by rfl) T.b_str (by decide +kernel) (pa_cons (pv 8) pa_nil)))) pa_nil))))))) pa_nil)))))))
  (pss_cons (ps_for PassesOwn.never rfl (pi_enumS (by rfl) T.b_enumerate (pa_cons (pe_fld (pv 0) rfl) pa_nil)) (pg_tup (n := 2) rfl (pgs_cons (pg_name (i := 3) nd rfl (by first | exact Or.inl rfl | exact Or.inr rfl)) (pgs_cons (pg_name (i := 9) nd rfl (by first | exact Or.inl rfl | exact Or.inr rfl)) pgs_nil)))
  (pss_cons (ps_set (i := 10) nd rfl (by first | exact Or.inl rfl | exact Or.inr rfl) (pe_ifExp (pt_cmpR op_isN (pv 9) pe_non (nomark _)) (pe_lst (pa_cons pe_str pa_nil)) (pe_lc (own := [("part", 11)]) rfl nd (pi_src (pv 9)) (blkOk_by (own := [("part", 11)]) (N := ["self", "lines", "text", "mode", "ways", "letter", "later", "settings", "one", "row", "parts", "part"]) (sc := defScope (inClass (top 46) 5)) (by decide +kernel)) (fun _ _ _ _ _ => (pg_name (i := 11) nd rfl (by first | exact Or.inl rfl | exact Or.inr rfl))) (fun _ _ _ _ _ => pts_nil) (fun _ _ _ _ _ => (pc_g g_part_text hr (pa_cons (pv 11) pa_nil))))))
  (pss_one (ps_expr (pe_bm PySem.F.plainAttrs_list PySem.F.slot_list_append PySem.F.type_list_append mt_append (pv 1) (pa_cons (pe_join pe_str (pe_lst (pa_cons pe_str (pa_cons (pe_callTy call_str_int (by rfl) T.b_str (by decide +kernel) (pa_cons (pv 3) pa_nil)) (pa_star (pv 10) pa_nil))))) pa_nil))))))
  (pss_one (ps_ret (pe_join pe_str (pv 1)))))))), ?_⟩
  clear nd hr
  have sz := sizeL
  have ea := op.a
  have l3 := wf.w3
  have b2 := wf.b2
  have m0 := wf.m0
  have s3 := wf.s3
  have ll : p.letters.length = 2 := by rw [wf.let']; rfl
  have pn : p.n = 2 + 3 * p.ways.length := rfl
  have z14 : (Str.ofString "program signs ").length = 14 := rfl
  have z9 : (Str.ofString " letters ").length = 9 := rfl
  have z1 : (Str.ofString " ").length = 1 := rfl
  obtain ⟨b1, b2', rfl, eb1, eb2⟩ := op.b
  walk_at "r"
  refine ⟨by decide, _, _, _, ea, T.cP, T.nP _ (by decide), _, rfl, fmt_str (by omega) ⟨_, rfl, by simp only [emp_app, len_app]; omega, by simp only [emp_app, len_app]; omega, _, _, _, ea, T.cP, T.nP _ (by decide), _, rfl, fmt_str (by omega) ⟨_, rfl, by simp only [emp_app, len_app]; omega, by decide, fun l nl => ?_⟩⟩⟩
  rw [line0']
  have k1 : Kp [l] H (upd H l (.lst [.str (lineS p 0)])) := Kp.of (Same.upd nl)
  have e1 : (upd H l (.lst [.str (lineS p 0)])) l = some (.lst ((linesS p 1).map V.str)) := upd_same
  generalize upd H l (.lst [.str (lineS p 0)]) = H1 at k1 e1 ⊢
  have f1 := (same_hid nl k1).trans hid_le
  walk_at "n"
  refine ⟨.inl ⟨rfl, _, sqL e1⟩, ?_⟩
  refine ⟨_, _, _, f1 _ _ ea, T.cP, T.nP _ (by decide), _, rfl, .tup b1, rfl, _, sqT (f1 _ _ eb1), trivial, _, rfl, p.m0, rfl, lg10 (by omega), ?_⟩
  refine ⟨_, _, _, f1 _ _ ea, T.cP, T.nP _ (by decide), _, rfl, .tup b1, rfl, _, sqT (f1 _ _ eb1), trivial, _, rfl, .tup b2', rfl, _, sqT (f1 _ _ eb2), ?_⟩
  refine lcB0 (walk_src (K := K) (S := .tup b2')) [] (fun i G v => ∀ x, p.t0[i]? = some x → v = .str (wordOf x)) Dom.nil (by rw [List.length_map]; show p.t0.length < _; omega) (fun H6 s6 => sqT (s6 _ _ (f1 _ _ eb2))) (fun i G G' v s h => h) (fun S2 i x H2 H2' Z hi hs d2 sm s2 y hz => ?_) fun D ws H2 s2 d2 nD _ eD hl hv => ?_
  · obtain ⟨e, hx⟩ := y
    subst e
    rw [List.getElem?_map] at hx
    cases e : p.t0[i]? with
    | none => rw [e] at hx; cases hx
    | some t =>
      rw [e] at hx
      cases hx
      walk_at "r"
      refine ⟨t, rfl, hz _ _ (Same.refl _) fun x hx => ?_⟩
      rw [e] at hx
      cases hx
      rfl
  have ews := strs_of (f := wordOf) (xs := p.t0) (by rw [hl, List.length_map]) fun i v x e1 e2 => hv i v e1 x e2
  rw [ews] at eD
  refine ⟨D, rfl, _, .inr (sqL eD), by simp; omega, fun j nj => ?_⟩
  rw [List.append_nil]
  have ew : (V.str "begin" :: V.str (Str.ofString (toString ((p.m0 : Nat) : Int))) :: (p.t0.map wordOf).map V.str) = (wb p).map V.str := by rw [num_eq (by omega)]; rfl
  have s3' : Same H2 (upd H2 j (.lst (V.str "begin" :: V.str (Str.ofString (toString ((p.m0 : Nat) : Int))) :: (p.t0.map wordOf).map V.str))) := Same.upd nj
  refine ⟨wb p, .inl (sqL (by rw [upd_same, ew])), ?_, ?_⟩
  · have := okl_sum (lineAt_ok wf (i := 1) (by omega))
    exact Nat.le_trans this (by decide)
  have e3 := s3' _ _ (s2 _ _ e1)
  refine ⟨_, e3, by rw [List.length_map, linesS_len]; decide, ?_⟩
  obtain ⟨H4, h, k4, e4⟩ := appE (p := p) (n := 1) ((k1.trans (Kp.of s2)).trans (Kp.of s3'))
  rw [show Txt.join " " (wb p) = lineS p 1 from rfl, h]
  clear h
  have f4 := same_kp nl k4
  obtain ⟨c1, xs, ec0, ec1, hxs⟩ := op.c
  subst ec0
  walk_at "n"
  refine ⟨_, _, _, f4 _ _ ea, T.cP, T.nP _ (by decide), _, rfl, .tup c1, rfl, xs, sqT (f4 _ _ ec1), ?_⟩
  have lx := hxs.len
  refine forB walk_enumS (fun i σ H' => Kp [l] H H' ∧ H' l = some (.lst ((linesS p (2 + 2 * i)).map V.str)) ∧ ∃ x3 x4 x5 x6 x7 x9 x10, σ = [some (.ref a), some (.ref l), none, x3, x4, x5, x6, x7, none, x9, x10, none]) ⟨k4, e4, _, _, _, _, _, _, _, rfl⟩ (fun i σ H' _ pv => sqT (same_kp nl pv.1 _ _ ec1)) ?_ ?_
  · rintro i x σ H5 H5' hi ⟨k5, e5, x3, x4, x5, x6, x7, x9, x10, rfl⟩ ⟨t, y, row, rfl, nt, rfl, ey, hrow⟩
    cases ey
    have hi' : i < p.ways.length := by omega
    obtain ⟨wr, hwr, c2, ys, rfl, ec2, hys⟩ := hxs.get hrow
    have lr := (wf.rows wr (List.mem_of_getElem? hwr)).1
    have s5 : Same H5 (upd H5 t (.tup [.int (i : Nat), .ref c2])) := Same.upd nt
    have et : (upd H5 t (.tup [.int (i : Nat), .ref c2])) t = some (.tup [.int (i : Nat), .ref c2]) := upd_same
    generalize upd H5 t (.tup [.int (i : Nat), .ref c2]) = H6 at s5 et ⊢
    have k6 := k5.trans (Kp.of s5)
    have e6 := s5 _ _ e5
    have f6 := same_kp nl k6
    walk_at "r"
    refine ⟨_, sqT et, rfl, _, _, rfl, _, _, rfl, rfl, ?_⟩
    refine ⟨_, _, _, f6 _ _ ea, T.cP, T.nP _ (by decide), _, rfl, .txt p.letters, rfl, .tup c2, rfl, _, rfl, ys, sqT (f6 _ _ ec2), ?_⟩
    refine forB (walk_zipS (n := 2) (by rw [txt_len, ll]) (by rw [hys.len, lr])) (fun j σ H' => Kp [l] H H' ∧ H' l = some (.lst ((linesS p (2 + 2 * i + j)).map V.str)) ∧ ∃ x5 x6 x7, σ = [some (.ref a), some (.ref l), none, some (.int (i : Nat)), some (.ref c2), x5, x6, x7, none, x9, x10, none]) ⟨k6, e6, _, _, _, rfl⟩ (fun i σ H' _ pv => ⟨rfl, sqT (same_kp nl pv.1 _ _ ec2)⟩) ?_ ?_
    · rintro j y σ H7 H7' hj ⟨k7, e7, x5, x6, x7, rfl⟩ ⟨t2, lv, wv, rfl, nt2, rfl, hlv, hwv⟩
      have elv := xy_at wf.let' hlv
      subst elv
      obtain ⟨w', hw', c3, c4, ss, rfl, ec3, ec4, hss⟩ := hys.get hwv
      have okw := (wf.rows wr (List.mem_of_getElem? hwr)).2 w' (List.mem_of_getElem? hw')
      have okm := okw.m
      have ewy := way_eq hwr hw'
      have s7 : Same H7 (upd H7 t2 (.tup [.str ⟨#[120 + j]⟩, .ref c3])) := Same.upd nt2
      have et2 : (upd H7 t2 (.tup [.str ⟨#[120 + j]⟩, .ref c3])) t2 = some (.tup [.str ⟨#[120 + j]⟩, .ref c3]) := upd_same
      generalize upd H7 t2 (.tup [.str ⟨#[120 + j]⟩, .ref c3]) = H8 at s7 et2 ⊢
      have k8 := k7.trans (Kp.of s7)
      have e8 := s7 _ _ e7
      have f8 := same_kp nl k8
      walk_at "r"
      refine ⟨_, sqT et2, rfl, _, _, rfl, _, _, rfl, c3, rfl, _, sqT (f8 _ _ ec3), rfl, _, _, rfl, _, _, rfl, rfl, rfl, ?_⟩
      refine ⟨.inl ⟨rfl, _, sqL e8⟩, lg10 (by omega), w'.1, rfl, lg10 (by omega), .tup c4, rfl, ss, sqT (f8 _ _ ec4), ?_⟩
      refine lcB0 (walk_src (K := K) (S := .tup c4)) [] (fun i G v => ∀ x, w'.2[i]? = some x → v = .str (settText x)) Dom.nil (by rw [hss.len, okw.n]; omega) (fun H6 s6 => sqT (s6 _ _ (f8 _ _ ec4))) (fun i G G' v s h => h) (fun S2 k x H9 H9' Z hi hs d9 sm s9 y hz => ?_) fun D ws H9 s9 d9 nD _ eD hl hv => ?_
      · obtain ⟨e, hx⟩ := y
        subst e
        obtain ⟨s, hs', pa, pd, rfl, ep⟩ := hss.get hx
        walk_at "r"
        have ep9 := s9 _ _ (f8 _ _ ep)
        have low := sett_low wf (okw.s s (List.mem_of_getElem? hs'))
        refine ⟨_, _, ep9, .ref pa, s, rfl, ⟨pa, pd, rfl, ep9⟩, low.z1, low.z2, low.n, settText s, rfl, hz _ _ (Same.refl _) fun x hx => ?_⟩
        rw [hs'] at hx
        cases hx
        rfl
      have ews := strs_of (f := settText) (xs := w'.2) (by rw [hl, hss.len]) fun i v x e1 e2 => hv i v e1 x e2
      rw [ews] at eD
      refine ⟨D, rfl, _, .inr (sqL eD), by simp [okw.n]; omega, fun u nu => ?_⟩
      have ew : (V.str "way" :: V.str (Str.ofString (toString ((i : Nat) : Int))) :: V.str ⟨#[120 + j]⟩ :: V.str (Str.ofString (toString ((w'.1 : Nat) : Int))) :: (w'.2.map settText).map V.str) = (wway i (120 + j) w').map V.str := by rw [num_eq (by omega), num_eq (by omega)]; rfl
      have hj' : j < 2 := hj
      have ln : lineS p (2 + 2 * i + j) = Txt.join " " (wway i (120 + j) w') := by
        unfold lineS
        rw [lineAt_way hi' hj', ewy]
      have okl := lineAt_ok wf (i := 2 + 2 * i + j) (by omega)
      rw [lineAt_way hi' hj', ewy] at okl
      obtain ⟨H10, h, s10, d10, eu, hu⟩ := newE (S := []) (.lst (V.str "way" :: V.str (Str.ofString (toString ((i : Nat) : Int))) :: V.str ⟨#[120 + j]⟩ :: V.str (Str.ofString (toString ((w'.1 : Nat) : Int))) :: (w'.2.map settText).map V.str)) Dom.nil nu
      rw [h]
      clear h
      have e10 := s10 _ _ (s9 _ _ e8)
      refine ⟨wway i (120 + j) w', .inl (sqL (by rw [eu, ew])), Nat.le_trans (okl_sum okl) (by decide), _, e10, by rw [List.length_map, linesS_len]; omega, ?_⟩
      obtain ⟨H11, h, k11, e11⟩ := appE (p := p) (n := 2 + 2 * i + j) ((k8.trans (Kp.of s9)).trans (Kp.of s10))
      rw [← ln, h]
      exact ⟨k11, e11⟩
    · rintro σ H7 ⟨k7, e7, x5, x6, x7, rfl⟩
      exact ⟨k7, e7, _, _, _, _, _, _, _, rfl⟩
  · rintro σ H5 ⟨k5, e5, x3, x4, x5, x6, x7, x9, x10, rfl⟩
    have f5 := same_kp nl k5
    obtain ⟨d1, es, ed0, ed1, hes⟩ := op.d
    subst ed0
    have les : es.length = p.ways.length := by rw [hes.len, wf.el]
    rw [lx] at e5
    walk_at "n"
    walk_at "n"
    refine ⟨_, _, _, f5 _ _ ea, T.cP, T.nP _ (by decide), _, rfl, .tup d1, rfl, es, sqT (f5 _ _ ed1), ?_⟩
    refine forB walk_enumS (fun i σ H' => Kp [l] H H' ∧ H' l = some (.lst ((linesS p (2 + 2 * p.ways.length + i)).map V.str)) ∧ ∃ x3 x9 x10, σ = [some (.ref a), some (.ref l), none, x3, x4, x5, x6, x7, none, x9, x10, none]) ⟨k5, e5, _, _, _, rfl⟩ (fun i σ H' _ pv => sqT (same_kp nl pv.1 _ _ ed1)) ?_ ?_
    · rintro i x σ H6 H6' hi ⟨k6, e6, x3, x9, x10, rfl⟩ ⟨t, y, row, rfl, nt, rfl, ey, hrow⟩
      cases ey
      have hi' : i < p.ways.length := by omega
      obtain ⟨en, hen, hv⟩ := hes.get hrow
      have s6 : Same H6 (upd H6 t (.tup [.int (i : Nat), row])) := Same.upd nt
      have et : (upd H6 t (.tup [.int (i : Nat), row])) t = some (.tup [.int (i : Nat), row]) := upd_same
      generalize upd H6 t (.tup [.int (i : Nat), row]) = H7 at s6 et ⊢
      have k7 := k6.trans (Kp.of s6)
      have e7 := s6 _ _ e6
      have f7 := same_kp nl k7
      have een : p.ends.getD i none = en := by simp [List.getD_eq_getElem?_getD, hen]
      have ln : lineS p (2 + 2 * p.ways.length + i) = Txt.join " " (wend i en) := by
        unfold lineS
        rw [lineAt_end, een]
      have okl := lineAt_ok wf (i := 2 + 2 * p.ways.length + i) (by omega)
      rw [lineAt_end, een] at okl
      walk_at "r"
      refine ⟨_, sqT et, rfl, _, _, rfl, _, _, rfl, rfl, ?_⟩
      cases en with
      | none =>
        have e : row = .non := hv
        subst e
        refine ite_t rfl ?_
        refine ⟨by decide, fun u nu => ?_⟩
        obtain ⟨H8, h, s8, d8, eu, hu⟩ := newE (S := []) (.lst [.str "none"]) Dom.nil nu
        rw [h]
        clear h
        walk_at "n"
        refine ⟨.inl ⟨rfl, _, sqL (s8 _ _ e7)⟩, lg10 (by omega), _, .inr (sqL eu), by simp; omega, fun t3 nt3 => ?_⟩
        have ew : (V.str "end" :: V.str (Str.ofString (toString ((i : Nat) : Int))) :: ([Str.ofString "none"]).map V.str) = (Str.ofString "end" :: numC i :: [Str.ofString "none"]).map V.str := by rw [num_eq (by omega)]; rfl
        obtain ⟨H9, h, s9, d9, e3, hu3⟩ := newE (S := []) (.lst (V.str "end" :: V.str (Str.ofString (toString ((i : Nat) : Int))) :: ([Str.ofString "none"]).map V.str)) Dom.nil nt3
        have e9 := s9 _ _ (s8 _ _ e7)
        simp only [List.map_cons, List.map_nil, List.append_nil] at h e3 ew ⊢
        rw [h]
        clear h
        refine ⟨Str.ofString "end" :: numC i :: [Str.ofString "none"], .inl (sqL (by rw [e3]; simp only [List.map_cons, List.map_nil] at ew ⊢; rw [ew])), Nat.le_trans (okl_sum okl) (by decide), _, e9, by rw [List.length_map, linesS_len]; omega, ?_⟩
        obtain ⟨H10, h, k10, e10⟩ := appE (p := p) (n := 2 + 2 * p.ways.length + i) ((k7.trans (Kp.of s8)).trans (Kp.of s9))
        have ln' : lineS p (2 + 2 * p.ways.length + i) = Txt.join " " (Str.ofString "end" :: numC i :: [Str.ofString "none"]) := ln
        rw [← ln', h]
        exact ⟨k10, e10⟩
      | some ps =>
        obtain ⟨e1', ws, rfl, ee1, hps⟩ := hv
        obtain ⟨l3', okp⟩ := wf.en _ (List.mem_of_getElem? hen) ps rfl
        refine ite_f rfl ?_
        refine ⟨.tup e1', rfl, ws, sqT (f7 _ _ ee1), ?_⟩
        refine lcB0 (walk_src (K := K) (S := .tup e1')) [] (fun i G v => ∀ x, ps[i]? = some x → v = .str (partText x)) Dom.nil (by rw [hps.len]; omega) (fun H6 s6 => sqT (s6 _ _ (f7 _ _ ee1))) (fun i G G' v s h => h) (fun S2 k x H9 H9' Z hi hs d9 sm s9 y hz => ?_) fun D ws' H8 s8 d8 nD _ eD hl hv => ?_
        · obtain ⟨e, hx⟩ := y
          subst e
          obtain ⟨part, hpart, op'⟩ := hps.get hx
          walk_at "r"
          refine ⟨x, part, rfl, op'.up (f7.trans s9), part_low wf (okp part (List.mem_of_getElem? hpart)), hz _ _ (Same.refl _) fun x hx => ?_⟩
          rw [hpart] at hx
          cases hx
          rfl
        have ews := strs_of (f := partText) (xs := ps) (by rw [hl, hps.len]) fun i v x e1 e2 => hv i v e1 x e2
        rw [ews] at eD
        walk_at "n"
        refine ⟨.inl ⟨rfl, _, sqL (s8 _ _ e7)⟩, lg10 (by omega), _, .inr (sqL eD), by simp; omega, fun t3 nt3 => ?_⟩
        have ew : (V.str "end" :: V.str (Str.ofString (toString ((i : Nat) : Int))) :: (ps.map partText).map V.str) = (Str.ofString "end" :: numC i :: ps.map partText).map V.str := by rw [num_eq (by omega)]; rfl
        obtain ⟨H9, h, s9, d9, e3, hu3⟩ := newE (S := []) (.lst (V.str "end" :: V.str (Str.ofString (toString ((i : Nat) : Int))) :: (ps.map partText).map V.str)) Dom.nil nt3
        have e9 := s9 _ _ (s8 _ _ e7)
        simp only [List.map_cons, List.map_nil, List.append_nil] at h e3 ew ⊢
        rw [h]
        clear h
        refine ⟨Str.ofString "end" :: numC i :: ps.map partText, .inl (sqL (by rw [e3]; simp only [List.map_cons, List.map_nil] at ew ⊢; rw [ew])), Nat.le_trans (okl_sum okl) (by decide), _, e9, by rw [List.length_map, linesS_len]; omega, ?_⟩
        obtain ⟨H10, h, k10, e10⟩ := appE (p := p) (n := 2 + 2 * p.ways.length + i) ((k7.trans (Kp.of s8)).trans (Kp.of s9))
        have ln' : lineS p (2 + 2 * p.ways.length + i) = Txt.join " " (Str.ofString "end" :: numC i :: ps.map partText) := ln
        rw [← ln', h]
        exact ⟨k10, e10⟩
    · rintro σ H6 ⟨k6, e6, x3, x9, x10, rfl⟩
      rw [les] at e6
      walk_at "n"
      walk_at "n"
      have en : 2 + 2 * p.ways.length + p.ways.length = p.n := by omega
      rw [en] at e6
      exact ⟨linesS p p.n, .inl (sqL e6), Nat.le_trans (lines_sum wf) (by decide), q _ (same_kp nl k6)⟩
end Gt

set_option Elab.async false
set_option linter.all false
set_option maxRecDepth 100000
set_option maxHeartbeats 2000000
namespace Gt
open PySem PySem.Spec PyProof.Rows L2 StX
local macro_rules | `(tactic| walk_at "r") => `(tactic| simp only [tRet, tRetN, tAndV, tOrV, tNotV, tAnd, tOr, tNot, tCB, tCons, tNil, tC, tVar, L2.start, tCl, tOp, tTest, tB, tIf, tIfS, seqE, tAsg, gName, gTup, gLst, gCons, gNil, tPar, tPar3, tTup, tLst, tFld, sFld, sFldAug, tMt, tPr, tMakeR, tMakeL, tCallV, tWith, tSl, tPart, tNoPart, tM1, tM0, tBM, tBM0, tStar, tRevS, tJs, fmtE, tDrop, tNext, tChain, tUn, tYes, gSub, gAttr, ClX.tCMeth, lcE_src, lcE_enum, lcE_rng, lc2E_src, forE_src, forE_enum, forE_rng, forE_zip, iZipS, cxOf, Cx.nox, Cx.blk,
  rI, rI0, rU, rEq, rNe, rAdd, rIsi, rIsiT, rAll, rAny, rEqD, rNeD, rSrc, rSlL, rSlT, rSlS, rCat, rCatT, rNewStrs, rAppend, rIn,
  List.map_cons, List.map_nil, List.length_cons, List.length_nil, List.replicate, List.append_nil, List.cons_append, List.nil_append, List.getElem?_cons_zero, List.getElem?_cons_succ, List.set_cons_zero, List.set_cons_succ, wipe,
  Option.some.injEq, List.cons.injEq, V.int.injEq, V.bl.injEq, V.str.injEq, V.ref.injEq, and_true, true_and, exists_eq_left', exists_eq_left, exists_eq, exists_eq', exists_and_left, Nat.sub_self, Nat.zero_add, Nat.reduceAdd, Nat.reduceSub, Bool.not_true, Bool.not_false, Bool.false_eq_true, ite_true, ite_false, if_true, if_false, and_assoc, Int.ofNat_inj])
local macro_rules | `(tactic| walk_at "n") => `(tactic| (refine later ?_; try walk_at "r"))
local macro_rules | `(tactic| walk_at "m") => `(tactic| (refine later ?_; try walk_at "r"; refine later ?_; try walk_at "r"))
/-! ### lists of texts, compared -/
theorem dps {K : PySem.W.Frag} {H : Hp} : ∀ as : List Str, DpAll K H (as.map V.str) (as.map PyData.str)
  | [] => .nil
  | a :: r => .cons (.str a) (dps r)
theorem eqv_strs : ∀ as bs : List Str, PyData.eqvAll (as.map PyData.str) (bs.map PyData.str) = decide (as = bs)
  | [], [] => rfl
  | [], _ :: _ => rfl
  | _ :: _, [] => rfl
  | a :: r, b :: t => by
    show (PyData.eqv (.str a) (.str b) && PyData.eqvAll (r.map PyData.str) (t.map PyData.str)) = _
    rw [eqv_strs r t]
    have e : PyData.eqv (.str a) (.str b) = (a == b) := by simp [PyData.eqv]
    rw [e]
    by_cases h : a = b
    · subst h
      simp
    · simp [h]
def Uni (a : Str) : Prop := ∀ c ∈ a.cps.toList, c < 1114112
theorem shaped_str1 {a : Str} (h : Uni a) : PyData.canLay0 (.str a) = true := by
  simp only [PyData.canLay0, PyData.strOk]
  rw [Array.all_eq_true]
  intro i hi
  exact decide_eq_true (h _ (by rw [← Array.getElem_toList]; exact List.getElem_mem _))
theorem shaped_strs {as : List Str} (h : ∀ a ∈ as, Uni a) : SeqAt.shaped (.list (as.map PyData.str)) = true := by
  have h1 : PyData.canLayAll0 (as.map PyData.str) = true := by
    induction as with
    | nil => rfl
    | cons a r ih =>
      show (PyData.canLay0 (.str a) && PyData.canLayAll0 (r.map PyData.str)) = true
      rw [ih fun x hx => h x (by simp [hx]), shaped_str1 (h a (by simp))] <;> rfl
  have h2 : PyData.depthAll (as.map PyData.str) = 0 := by
    clear h h1
    induction as with
    | nil => rfl
    | cons a r ih =>
      show max (PyData.depth (.str a)) (PyData.depthAll (r.map PyData.str)) = 0
      rw [ih]
      simp [PyData.depth]
  unfold SeqAt.shaped
  simp only [PyData.canLay0, PyData.depth, h1, h2]
  decide
theorem uni_low {z : Str} (h : Low z) : Uni z := fun c hc => by have := h c hc; omega
theorem uni_num {n : Nat} (h : n < 10) : Uni (numC n) := fun c hc => by
  have e : (numC n).cps.toList = [48 + n] := rfl
  rw [e, List.mem_singleton] at hc
  omega
theorem uni_app {a b : Str} (h1 : Uni a) (h2 : Uni b) : Uni (a ++ b) := fun c hc => by
  have e : (a ++ b).cps.toList = a.cps.toList ++ b.cps.toList := by
    show (a.cps ++ b.cps).toList = _
    rw [Array.toList_append]
  rw [e] at hc
  exact (List.mem_append.mp hc).elim (h1 c) (h2 c)
theorem uni_lit {a : Str} (h : (a.cps.toList.all fun c => decide (c < 1114112)) = true) : Uni a := fun c hc => of_decide_eq_true (List.all_eq_true.mp h c hc)
theorem uni_part {q : Part} (h : PartLow q) : Uni (partText q) := by
  cases q with
  | box n => exact uni_num (h.n1 n rfl)
  | tur n => exact uni_app (uni_lit (by decide +kernel)) (uni_num (h.n2 n rfl))
  | told x => exact uni_app (uni_lit (by decide +kernel)) (uni_low (h.x x rfl).2.1)
theorem eqvL (as bs : List Str) : PyData.eqv (.list (as.map PyData.str)) (.list (bs.map PyData.str)) = decide (as = bs) := eqv_strs as bs
theorem at0 {α : Type} {a : α} {xs : List α} : atI (a :: xs) 0 = some a := atI_nat (j := 0) rfl
theorem at1 {α : Type} {a b : α} {xs : List α} : atI (a :: b :: xs) 1 = some b := atI_nat (j := 1) rfl
theorem at2 {α : Type} {a b c : α} {xs : List α} : atI (a :: b :: c :: xs) 2 = some c := atI_nat (j := 2) rfl
theorem at3 {α : Type} {a b c d : α} {xs : List α} : atI (a :: b :: c :: d :: xs) 3 = some d := atI_nat (j := 3) rfl
/-! ### the reader -/
def fsR (l : V) (i : Nat) (sg lt : Str) (bg ws es : V) : List (Str × V) := [("lines", l), ("line_at", .int (i : Nat)), ("signs", .str sg), ("letters", .str lt), ("begin", bg), ("ways", ws), ("ends", es)]
structure RdS (K : PySem.W.Frag) (H : Hp) (a dx l wa ea : Addr) (p : Prg) (i : Nat) (sg lt : Str) (bg : V) (ws es : List V) : Prop where
  fa : H a = some (.ins (cR K) dx (fsR (.ref l) i sg lt bg (.ref wa) (.ref ea)))
  fl : H l = some (.lst ((linesS p p.n).map V.str))
  fw : H wa = some (.lst ws)
  fe : H ea = some (.lst es)
  n1 : l ≠ wa
  n2 : l ≠ ea
  n3 : wa ≠ ea
theorem RdS.same {K : PySem.W.Frag} {H H' : Hp} {a dx l wa ea : Addr} {p : Prg} {i : Nat} {sg lt : Str} {bg : V} {ws es : List V} (r : RdS K H a dx l wa ea p i sg lt bg ws es) (s : Same H H') : RdS K H' a dx l wa ea p i sg lt bg ws es := ⟨s _ _ r.fa, s _ _ r.fl, s _ _ r.fw, s _ _ r.fe, r.n1, r.n2, r.n3⟩
def sp_Reader_UinitU (K : PySem.W.Frag) : Sp := fun vs H Q _ => ∃ (a dx l : Addr), vs = [.ref a, .ref l] ∧ H a = some (.ins (cR K) dx []) ∧ ∀ H' bg wa ea, Kp [a] H H' → H' a = some (.ins (cR K) dx (fsR (.ref l) 0 "" "" bg (.ref wa) (.ref ea))) → H wa = none → H ea = none → wa ≠ ea → wa ≠ a → ea ≠ a → H' wa = some (.lst []) → H' ea = some (.lst []) → Q .non H'
theorem sc_Reader_UinitU : FnScope ["self", "lines"] ["self", "lines"] (defScope (inClass (top 47) 0)) := ⟨rfl, rfl, rfl, by decide +kernel, rfl, by decide +kernel, by decide +kernel⟩
theorem ok_Reader_UinitU {P : Program} {w : World} {K : PySem.W.Frag} {mg : Str → Option Value} {base : Heap} (D : Ini K mg "Reader" (cls_Reader K) "Reader.__init__" (inClass (top 47) 0) ["self", "lines"] []) (T : Glo K mg)   : GC P w K mg base 1 "Reader" (cls_Reader K) (sp_Reader_UinitU K) ∧ GC P w K mg base 1 "Reader" (cls_Reader K) (fun vs H Q E => sp_Reader_UinitU K (vs ++ []) H Q E) := by
  have nd := sc_Reader_UinitU.nd
  refine D.go sc_Reader_UinitU (fun vs H Q E h => ?_) (fun f cdv A outer s0 H vs Q E hr h => ?_)
  · obtain ⟨a, dx, l, rfl, ea, q⟩ := h; rfl
  obtain ⟨a, dx, l, rfl, ea, q⟩ := h
  refine ⟨_, (pss_cons (ps_fld (pv 0) (pv 1) rfl)
  (pss_cons (ps_fld (pv 0) pe_int rfl)
  (pss_cons (ps_fld (pv 0) pe_str rfl)
  (pss_cons (ps_fld (pv 0) pe_str rfl)
  (pss_cons (ps_fld (pv 0) (pe_tup (pa_cons pe_int (pa_cons (pe_tup pa_nil) pa_nil))) rfl)
  (pss_cons (ps_fld (pv 0) (pe_lst pa_nil) rfl)
  (pss_one (ps_fld (pv 0) (pe_lst pa_nil) rfl)))))))), ?_⟩
  clear nd hr
  walk_at "r"
  have ma : a ∈ [a] := by simp
  have d : Dom [a] H := .cons ea Dom.nil
  refine ⟨_, _, _, ea, T.cR, T.nR _ (by decide), Nat.le_of_ble_eq_true rfl, ?_⟩
  obtain ⟨H1, h, k1, d1, e1, _⟩ := setE (C := cR K) (dx := dx) (fs := []) "lines" (.ref l) [("lines", .ref l)] (Kp.refl (M := [a]) (H := H)) ma d rfl
  rw [h]; clear h
  walk_at "n"
  refine ⟨_, _, _, e1, T.cR, T.nR _ (by decide), Nat.le_of_ble_eq_true rfl, ?_⟩
  obtain ⟨H2, h, k2, d2, e2, _⟩ := setE (C := cR K) (dx := dx) (fs := [("lines", .ref l)]) "line_at" (.int 0) [("lines", .ref l), ("line_at", .int 0)] k1 ma d1 rfl
  rw [h]; clear h
  walk_at "n"
  refine ⟨_, _, _, e2, T.cR, T.nR _ (by decide), Nat.le_of_ble_eq_true rfl, ?_⟩
  obtain ⟨H3, h, k3, d3, e3, _⟩ := setE (C := cR K) (dx := dx) (fs := [("lines", .ref l), ("line_at", .int 0)]) "signs" (.str "") [("lines", .ref l), ("line_at", .int 0), ("signs", .str "")] k2 ma d2 rfl
  rw [h]; clear h
  walk_at "n"
  refine ⟨_, _, _, e3, T.cR, T.nR _ (by decide), Nat.le_of_ble_eq_true rfl, ?_⟩
  obtain ⟨H4, h, k4, d4, e4, _⟩ := setE (C := cR K) (dx := dx) (fs := [("lines", .ref l), ("line_at", .int 0), ("signs", .str "")]) "letters" (.str "") [("lines", .ref l), ("line_at", .int 0), ("signs", .str ""), ("letters", .str "")] k3 ma d3 rfl
  rw [h]; clear h
  walk_at "n"
  refine ⟨by decide, fun t nt => ⟨by decide, fun b nb => ?_⟩⟩
  obtain ⟨H5, h, s5, d5, _, _⟩ := newE (S := [a]) (.tup []) d4 nt
  rw [h] at nb ⊢; clear h
  obtain ⟨H6, h, s6, d6, _, _⟩ := newE (S := [a]) (.tup [.int 0, .ref t]) d5 nb
  rw [h]; clear h
  refine ⟨_, _, _, s6 _ _ (s5 _ _ e4), T.cR, T.nR _ (by decide), Nat.le_of_ble_eq_true rfl, ?_⟩
  obtain ⟨H7, h, k7, d7, e7, _⟩ := setE (C := cR K) (dx := dx) (fs := [("lines", .ref l), ("line_at", .int 0), ("signs", .str ""), ("letters", .str "")]) "begin" (.ref b) [("lines", .ref l), ("line_at", .int 0), ("signs", .str ""), ("letters", .str ""), ("begin", .ref b)] ((k4.trans (Kp.of s5)).trans (Kp.of s6)) ma d6 rfl
  rw [h]; clear h
  walk_at "n"
  refine ⟨by decide, fun wa nw => ?_⟩
  obtain ⟨H8, h, s8, d8, ew, _⟩ := newE (S := [a]) (.lst []) d7 nw
  rw [h]; clear h
  have na : wa ≠ a := fun z => d7 a ma (by rw [← z]; exact nw)
  refine ⟨_, _, _, s8 _ _ e7, T.cR, T.nR _ (by decide), Nat.le_of_ble_eq_true rfl, ?_⟩
  obtain ⟨H9, h, k9, d9, e9, g9⟩ := setE (C := cR K) (dx := dx) (fs := [("lines", .ref l), ("line_at", .int 0), ("signs", .str ""), ("letters", .str ""), ("begin", .ref b)]) "ways" (.ref wa) [("lines", .ref l), ("line_at", .int 0), ("signs", .str ""), ("letters", .str ""), ("begin", .ref b), ("ways", .ref wa)] (k7.trans (Kp.of s8)) ma d8 rfl
  have ew9 : H9 wa = some (.lst []) := by rw [← h, upd_ne na]; exact ew
  rw [h]; clear h
  walk_at "n"
  refine ⟨by decide, fun va nv => ?_⟩
  obtain ⟨H10, h, s10, d10, ev, _⟩ := newE (S := [a]) (.lst []) d9 nv
  rw [h]; clear h
  have nb : va ≠ a := fun z => d9 a ma (by rw [← z]; exact nv)
  refine ⟨_, _, _, s10 _ _ e9, T.cR, T.nR _ (by decide), Nat.le_of_ble_eq_true rfl, ?_⟩
  obtain ⟨H11, h, k11, d11, e11, g11⟩ := setE (C := cR K) (dx := dx) (fs := [("lines", .ref l), ("line_at", .int 0), ("signs", .str ""), ("letters", .str ""), ("begin", .ref b), ("ways", .ref wa)]) "ends" (.ref va) (fsR (.ref l) 0 "" "" (.ref b) (.ref wa) (.ref va)) (k9.trans (Kp.of s10)) ma d10 rfl
  have ew11 : H11 wa = some (.lst []) := by rw [← h, upd_ne na]; exact s10 _ _ ew9
  have ev11 : H11 va = some (.lst []) := by rw [← h, upd_ne nb]; exact ev
  rw [h]; clear h
  have free : ∀ {M : Hp} {z : Addr}, Kp [a] H M → M z = none → z ≠ a → H z = none := fun {M z} k e n => by
    cases q : H z with
    | none => rfl
    | some o => rw [k z o (by simpa using n) q] at e; cases e
  exact q _ _ _ _ k11 e11 (free k7 nw na) (free k9 nv nb) (fun z => by rw [z, nv] at ew9; cases ew9) na nb ew11 ev11
def sp_Reader_need (K : PySem.W.Frag) : Sp := fun vs H Q _ => ∃ v : V, vs = [v, .bl true] ∧ Q .non H
theorem sc_Reader_need : FnScope ["self", "is_fit"] ["self", "is_fit"] (defScope (inClass (top 47) 1)) := ⟨rfl, rfl, rfl, by decide +kernel, rfl, by decide +kernel, by decide +kernel⟩
theorem ok_Reader_need {P : Program} {w : World} {K : PySem.W.Frag} {mg : Str → Option Value} {base : Heap} (D : Mth K (cls_Reader K) "need" "Reader.need" (inClass (top 47) 1) ["self", "is_fit"]) (T : Glo K mg)   : GM P w K mg base 1 (cls_Reader K) "need" (sp_Reader_need K) := by
  have nd := sc_Reader_need.nd
  refine D.go sc_Reader_need (fun vs H Q E h => ?_) (fun f cdv A outer s0 H vs Q E hr h => ?_)
  · obtain ⟨v, rfl, q⟩ := h; rfl
  obtain ⟨v, rfl, q⟩ := h
  refine ⟨_, (pss_one (ps_if (pt_not (pt_val (pv 1)))
  (pss_one ps_never)
  pss_nil)), ?_⟩
  clear nd hr
  walk_at "r"
  exact q
def sp_Reader_words (K : PySem.W.Frag) : Sp := fun vs H Q _ => ∃ (a dx l wa ea : Addr) (p : Prg) (i : Nat) (sg lt : Str) (bg : V) (ws es : List V), vs = [.ref a] ∧ RdS K H a dx l wa ea p i sg lt bg ws es ∧ WF p ∧ i < p.n ∧ ∀ H' w, Same H H' → H w = none → H' w = some (.lst ((lineAt p i).map V.str)) → Q (.ref w) H'
theorem sc_Reader_words : FnScope ["self"] ["self"] (defScope (inClass (top 47) 2)) := ⟨rfl, rfl, rfl, by decide +kernel, rfl, by decide +kernel, by decide +kernel⟩
theorem ok_Reader_words {P : Program} {w : World} {K : PySem.W.Frag} {mg : Str → Option Value} {base : Heap} (D : Mth K (cls_Reader K) "words" "Reader.words" (inClass (top 47) 2) ["self"]) (T : Glo K mg) (m_need : GM P w K mg base 1 (cls_Reader K) "need" (sp_Reader_need K))  : GM P w K mg base 2 (cls_Reader K) "words" (sp_Reader_words K) := by
  have nd := sc_Reader_words.nd
  refine D.go sc_Reader_words (fun vs H Q E h => ?_) (fun f cdv A outer s0 H vs Q E hr h => ?_)
  · obtain ⟨a, dx, l, wa, ea, p, i, sg, lt, bg, ws, es, rfl, r, wf, hi, q⟩ := h; rfl
  obtain ⟨a, dx, l, wa, ea, p, i, sg, lt, bg, ws, es, rfl, r, wf, hi, q⟩ := h
  refine ⟨_, (pss_cons (ps_expr (pc_m m_need T.cR hr (pv 0) (pa_cons (pe_cmpR op_lt (pe_fld (pv 0) rfl) (pe_callB call_lenS (by rfl) T.b_len (by decide +kernel) (pa_cons (pe_fld (pv 0) rfl) pa_nil)) (nomark _)) pa_nil)))
  (pss_one (ps_ret (pe_split (pe_ix ix_src (pe_fld (pv 0) rfl) (pe_fld (pv 0) rfl) (fun _ _ => rfl)) pe_str)))), ?_⟩
  clear nd hr
  have sz := sizeL
  walk_at "r"
  have ll := linesS_len p p.n
  have lm : ((linesS p p.n).map V.str).length = p.n := by rw [List.length_map, ll]
  refine ⟨_, _, r.fa, rfl, _, _, _, r.fa, T.cR, T.nR _ (by decide), _, rfl, _, _, _, r.fa, T.cR, T.nR _ (by decide), _, rfl, .lst l, rfl, _, sqL r.fl, trivial, i, rfl, ?_⟩
  rw [lm, decide_eq_true (by omega)]
  refine ⟨.ref a, rfl, ?_⟩
  walk_at "n"
  refine ⟨_, _, _, r.fa, T.cR, T.nR _ (by decide), _, rfl, _, _, _, r.fa, T.cR, T.nR _ (by decide), _, rfl, .lst l, rfl, _, (i : Int), rfl, sqL r.fl, trivial, .str (lineS p i), ?_, ⟨_, rfl⟩, lineS p i, rfl, rfl, ?_, ?_⟩
  · exact atI_nat (by rw [List.getElem?_map, linesS_at hi]; rfl)
  · have zl := line_len wf hi
    omega
  rw [line_split wf hi]
  intro w nw
  exact q _ _ (Same.upd nw) nw upd_same
def sp_Reader_first_line (K : PySem.W.Frag) : Sp := fun vs H Q _ => ∃ (a dx l wa ea : Addr) (p : Prg) (sg lt : Str) (bg : V) (ws es : List V), vs = [.ref a] ∧ RdS K H a dx l wa ea p 0 sg lt bg ws es ∧ WF p ∧ ∀ H', Kp [a] H H' → H' a = some (.ins (cR K) dx (fsR (.ref l) 1 p.signs p.letters bg (.ref wa) (.ref ea))) → Q .non H'
theorem sc_Reader_first_line : FnScope ["self", "words", "word"] ["self"] (defScope (inClass (top 47) 4)) := ⟨rfl, rfl, rfl, by decide +kernel, rfl, by decide +kernel, by decide +kernel⟩
theorem ok_Reader_first_line {P : Program} {w : World} {K : PySem.W.Frag} {mg : Str → Option Value} {base : Heap} (D : Mth K (cls_Reader K) "first_line" "Reader.first_line" (inClass (top 47) 4) ["self"]) (T : Glo K mg) (m_words : GM P w K mg base 2 (cls_Reader K) "words" (sp_Reader_words K)) (m_need : GM P w K mg base 1 (cls_Reader K) "need" (sp_Reader_need K)) (g_is_text : GF P w K mg base 1 "is_text" (sp_is_text K))  : GM P w K mg base 3 (cls_Reader K) "first_line" (sp_Reader_first_line K) := by
  have nd := sc_Reader_first_line.nd
  refine D.go sc_Reader_first_line (fun vs H Q E h => ?_) (fun f cdv A outer s0 H vs Q E hr h => ?_)
  · obtain ⟨a, dx, l, wa, ea, p, sg, lt, bg, ws, es, rfl, r, wf, q⟩ := h; rfl
  obtain ⟨a, dx, l, wa, ea, p, sg, lt, bg, ws, es, rfl, r, wf, q⟩ := h
  refine ⟨_, (pss_cons (ps_set (i := 1) nd rfl (by first | exact Or.inl rfl | exact Or.inr rfl) (pc_m0 m_words T.cR hr (pv 0)))
  (pss_cons (ps_expr (pc_m m_need T.cR hr (pv 0) (pa_cons (pe_and (pe_cmpR op_eq (pe_callB call_lenS (by rfl) T.b_len (by decide +kernel) (pa_cons (pv 1) pa_nil)) pe_int (nomark _)) (pe_one (pe_cmpR (op_eqD hr.units) (pe_lst (pa_cons (pe_ix ix_src (pv 1) pe_int (fun _ _ => rfl)) (pa_cons (pe_ix ix_src (pv 1) pe_int (fun _ _ => rfl)) (pa_cons (pe_ix ix_src (pv 1) pe_int (fun _ _ => rfl)) pa_nil)))) (pe_lst (pa_cons pe_str (pa_cons pe_str (pa_cons pe_str pa_nil)))) (nomark _)))) pa_nil)))
  (pss_cons (ps_expr (pc_m m_need T.cR hr (pv 0) (pa_cons (pe_callB (cr_all rfl) (by rfl) T.b_all (by decide +kernel) (pa_cons (pe_lc (own := [("word", 2)]) rfl nd (pi_src (pe_tup (pa_cons (pe_ix ix_src (pv 1) pe_int (fun _ _ => rfl)) (pa_cons (pe_ix ix_src (pv 1) pe_int (fun _ _ => rfl)) pa_nil)))) (blkOk_by (own := [("word", 2)]) (N := ["self", "words", "word"]) (sc := defScope (inClass (top 47) 4)) (by decide +kernel)) (fun _ _ _ _ _ => (pg_name (i := 2) nd rfl (by first | exact Or.inl rfl | exact Or.inr rfl))) (fun _ _ _ _ _ => pts_nil) (fun _ _ _ _ _ => (pe_and (pe_cmpR op_ne (pv 2) pe_str (nomark _)) (pe_one (pc_g g_is_text hr (pa_cons (pe_gl T.v_LOWER) (pa_cons (pv 2) pa_nil))))))) pa_nil)) pa_nil)))
  (pss_cons (ps_asg (pe_tup (pa_cons (pe_ix ix_src (pv 1) pe_int (fun _ _ => rfl)) (pa_cons (pe_ix ix_src (pv 1) pe_int (fun _ _ => rfl)) pa_nil))) (pg_tup (n := 2) rfl (pgs_cons (pg_attr (pv 0)) (pgs_cons (pg_attr (pv 0)) pgs_nil))))
  (pss_one (ps_fldaug (pv 0) pe_int in_add)))))), ?_⟩
  clear nd hr
  have sz := sizeL
  have pn : p.n = 2 + 3 * p.ways.length := rfl
  have s1 := wf.s1
  have s3 := wf.s3
  walk_at "r"
  refine ⟨_, _, r.fa, rfl, ?_⟩
  refine ⟨a, dx, l, wa, ea, p, 0, sg, lt, bg, ws, es, rfl, r, wf, by omega, fun H1 w s1' nw ew => ?_⟩
  have ew : H1 w = some (.lst [.str "program", .str "signs", .str p.signs, .str "letters", .str p.letters]) := ew
  have r1 := r.same s1'
  walk_at "n"
  refine ⟨_, _, r1.fa, rfl, .lst w, rfl, _, sqL ew, trivial, rfl, ?_⟩
  refine ite_t rfl ?_
  refine ⟨.lst w, rfl, _, sqL ew, trivial, _, rfl, .lst w, rfl, _, sqL ew, trivial, _, rfl, .lst w, rfl, _, sqL ew, trivial, _, rfl, by decide, fun u nu => ⟨by decide, fun v nv => ?_⟩⟩
  obtain ⟨H2, h, s2, _, eu, _⟩ := newE (S := []) (.lst [.str "program", .str "signs", .str "letters"]) Dom.nil nu
  rw [h] at nv ⊢; clear h
  obtain ⟨H3, h, s3', _, ev, _⟩ := newE (S := []) (.lst [.str "program", .str "signs", .str "letters"]) Dom.nil nv
  rw [h]; clear h
  have ul : ∀ a ∈ ([Str.ofString "program", Str.ofString "signs", Str.ofString "letters"] : List Str), Uni a := fun a ha => by
    simp only [List.mem_cons, List.not_mem_nil, or_false] at ha
    rcases ha with rfl | rfl | rfl <;> exact uni_lit (by decide +kernel)
  refine ⟨_, .lst (sqL (s3' _ _ eu)) (dps [Str.ofString "program", Str.ofString "signs", Str.ofString "letters"]), _, .lst (sqL ev) (dps [Str.ofString "program", Str.ofString "signs", Str.ofString "letters"]), shaped_strs ul, shaped_strs ul, ?_⟩
  rw [eqvL, decide_eq_true rfl]
  refine ⟨.ref a, rfl, ?_⟩
  have r3 := (r1.same s2).same s3'
  have ew3 := s3' _ _ (s2 _ _ ew)
  walk_at "n"
  refine ⟨_, _, r3.fa, rfl, .lst w, rfl, _, sqL ew3, trivial, _, rfl, .lst w, rfl, _, sqL ew3, trivial, _, rfl, by decide, fun t nt => ?_⟩
  obtain ⟨H4, h, s4, _, et, _⟩ := newE (S := []) (.tup [.str p.signs, .str p.letters]) Dom.nil nt
  rw [h]; clear h
  refine ⟨.tup t, rfl, _, sqT et, allS (S := .tup t) (sqT et) (by show 2 < sizeLine; decide) (fun i x H5 Z hx s5 hz => ?_) fun b bs H5 s5 hb1 hb2 => ?_⟩
  · obtain ⟨z, rfl, hz1, hz2, hz3⟩ : ∃ z : Str, x = .str z ∧ Low z ∧ z ≠ Str.ofString "" ∧ z.length ≤ 1000 := by
      have ls : p.signs ≠ Str.ofString "" := fun e => by
        have h0 : p.signs.length = 0 := by rw [e]; rfl
        omega
      match i, hx with
      | 0, hx => cases hx; exact ⟨_, rfl, wf.low, ls, by omega⟩
      | 1, hx => cases hx; exact ⟨_, rfl, by rw [wf.let']; exact low_xy, by rw [wf.let']; decide +kernel, by rw [wf.let']; decide +kernel⟩
      | n + 2, hx => simp at hx
    walk_at "r"
    refine ⟨rfl, ite_t (by rw [decide_eq_false hz2]; rfl) ?_⟩
    exact ⟨lowS, z, rfl, low_of hz1, by omega, hz⟩
  refine ⟨_, rfl, _, hb1, ?_⟩
  rw [hb2]
  refine ⟨.ref a, rfl, ?_⟩
  have r5 := (r3.same s4).same s5
  have ew5 := s5 _ _ (s4 _ _ ew3)
  have k5 : Kp [a] H H5 := Kp.of (((((s1'.trans s2).trans s3').trans s4)).trans s5)
  have ma : a ∈ [a] := by simp
  have d5 : Dom [a] H5 := .cons r5.fa Dom.nil
  walk_at "n"
  refine ⟨.lst w, rfl, _, sqL ew5, trivial, _, rfl, .lst w, rfl, _, sqL ew5, trivial, _, rfl, by decide, fun u' nu' => ?_⟩
  obtain ⟨H6, h, s6, d6, eu6, _⟩ := newE (S := [a]) (.tup [.str p.signs, .str p.letters]) d5 nu'
  rw [h]; clear h
  refine ⟨_, sqT eu6, rfl, _, _, rfl, ?_⟩
  refine ⟨_, _, _, s6 _ _ r5.fa, T.cR, T.nR _ (by decide), Nat.le_of_ble_eq_true rfl, _, _, rfl, ?_⟩
  obtain ⟨H7, h, k7, d7, e7, _⟩ := setE (C := cR K) (dx := dx) (fs := fsR (.ref l) 0 sg lt bg (.ref wa) (.ref ea)) "signs" (.str p.signs) (fsR (.ref l) 0 p.signs lt bg (.ref wa) (.ref ea)) (k5.trans (Kp.of s6)) ma d6 rfl
  rw [h]; clear h
  refine ⟨_, _, _, e7, T.cR, T.nR _ (by decide), Nat.le_of_ble_eq_true rfl, rfl, ?_⟩
  obtain ⟨H8, h, k8, d8, e8, _⟩ := setE (C := cR K) (dx := dx) (fs := fsR (.ref l) 0 p.signs lt bg (.ref wa) (.ref ea)) "letters" (.str p.letters) (fsR (.ref l) 0 p.signs p.letters bg (.ref wa) (.ref ea)) k7 ma d7 rfl
  rw [h]; clear h
  walk_at "n"
  refine ⟨_, _, _, e8, T.cR, T.nR _ (by decide), _, rfl, 0, rfl, _, _, e8, Nat.le_of_ble_eq_true rfl, ?_⟩
  obtain ⟨H9, h, k9, d9, e9, _⟩ := setE (C := cR K) (dx := dx) (fs := fsR (.ref l) 0 p.signs p.letters bg (.ref wa) (.ref ea)) "line_at" (.int (0 + 1)) (fsR (.ref l) 1 p.signs p.letters bg (.ref wa) (.ref ea)) k8 ma d8 rfl
  rw [h]; clear h
  exact q _ k9 e9
def sp_Reader_begin_line (K : PySem.W.Frag) : Sp := fun vs H Q _ => ∃ (S0 : List Addr) (a dx l wa ea : Addr) (p : Prg) (sg lt : Str) (bg : V) (ws es : List V), vs = [.ref a] ∧ RdS K H a dx l wa ea p 1 sg lt bg ws es ∧ WF p ∧ a ∈ S0 ∧ Dom S0 H ∧ ∀ H' b, Kp [a] H H' → H' a = some (.ins (cR K) dx (fsR (.ref l) 2 sg lt b (.ref wa) (.ref ea))) → rStand (hid S0 H') b (p.m0, p.t0) → Q .non H'
theorem sc_Reader_begin_line : FnScope ["self", "words", "word"] ["self"] (defScope (inClass (top 47) 5)) := ⟨rfl, rfl, rfl, by decide +kernel, rfl, by decide +kernel, by decide +kernel⟩
theorem ok_Reader_begin_line {P : Program} {w : World} {K : PySem.W.Frag} {mg : Str → Option Value} {base : Heap} (D : Mth K (cls_Reader K) "begin_line" "Reader.begin_line" (inClass (top 47) 5) ["self"]) (T : Glo K mg) (m_words : GM P w K mg base 2 (cls_Reader K) "words" (sp_Reader_words K)) (m_need : GM P w K mg base 1 (cls_Reader K) "need" (sp_Reader_need K)) (g_number_in : GF P w K mg base 1 "number_in" (sp_number_in K)) (g_is_text : GF P w K mg base 1 "is_text" (sp_is_text K))  : GM P w K mg base 3 (cls_Reader K) "begin_line" (sp_Reader_begin_line K) := by
  have nd := sc_Reader_begin_line.nd
  refine D.go sc_Reader_begin_line (fun vs H Q E h => ?_) (fun f cdv A outer s0 H vs Q E hr h => ?_)
  · obtain ⟨S0, a, dx, l, wa, ea, p, sg, lt, bg, ws, es, rfl, r, wf, ma, d, q⟩ := h; rfl
  obtain ⟨S0, a, dx, l, wa, ea, p, sg, lt, bg, ws, es, rfl, r, wf, ma, d, q⟩ := h
  refine ⟨_, (pss_cons (ps_set (i := 1) nd rfl (by first | exact Or.inl rfl | exact Or.inr rfl) (pc_m0 m_words T.cR hr (pv 0)))
  (pss_cons (ps_expr (pc_m m_need T.cR hr (pv 0) (pa_cons (pe_and (pe_cmpR op_gt (pe_callB call_lenS (by rfl) T.b_len (by decide +kernel) (pa_cons (pv 1) pa_nil)) pe_int (nomark _)) (pe_and (pe_cmpR op_eq (pe_ix ix_src (pv 1) pe_int (fun _ _ => rfl)) pe_str (nomark _)) (pe_one (pe_cmpR op_notN (pc_g g_number_in hr (pa_cons (pe_ix ix_src (pv 1) pe_int (fun _ _ => rfl)) pa_nil)) pe_non (nomark _))))) pa_nil)))
  (pss_cons (ps_expr (pc_m m_need T.cR hr (pv 0) (pa_cons (pe_callB (cr_all rfl) (by rfl) T.b_all (by decide +kernel) (pa_cons (pe_lc (own := [("word", 2)]) rfl nd (pi_src (pe_slice sl_list (pv 1) (po_some pe_int) po_none)) (blkOk_by (own := [("word", 2)]) (N := ["self", "words", "word"]) (sc := defScope (inClass (top 47) 5)) (by decide +kernel)) (fun _ _ _ _ _ => (pg_name (i := 2) nd rfl (by first | exact Or.inl rfl | exact Or.inr rfl))) (fun _ _ _ _ _ => pts_nil) (fun _ _ _ _ _ => (pe_or (pe_cmpR op_eq (pv 2) pe_str (nomark _)) (pe_one (pe_and (pe_cmpR op_ne (pv 2) pe_str (nomark _)) (pe_one (pc_g g_is_text hr (pa_cons (pe_gl T.v_LOWER) (pa_cons (pv 2) pa_nil))))))))) pa_nil)) pa_nil)))
  (pss_cons (ps_fld (pv 0) (pe_tup (pa_cons (pc_g g_number_in hr (pa_cons (pe_ix ix_src (pv 1) pe_int (fun _ _ => rfl)) pa_nil)) (pa_cons (pe_callTy call_tuple_of (by rfl) T.b_tuple (by decide +kernel) (pa_cons (pe_lc (own := [("word", 2)]) rfl nd (pi_src (pe_slice sl_list (pv 1) (po_some pe_int) po_none)) (blkOk_by (own := [("word", 2)]) (N := ["self", "words", "word"]) (sc := defScope (inClass (top 47) 5)) (by decide +kernel)) (fun _ _ _ _ _ => (pg_name (i := 2) nd rfl (by first | exact Or.inl rfl | exact Or.inr rfl))) (fun _ _ _ _ _ => pts_nil) (fun _ _ _ _ _ => (pe_ifExp (pt_cmpR op_eq (pv 2) pe_str (nomark _)) pe_str (pv 2)))) pa_nil)) pa_nil))) rfl)
  (pss_one (ps_fldaug (pv 0) pe_int in_add)))))), ?_⟩
  clear nd hr
  have sz := sizeL
  have pn : p.n = 2 + 3 * p.ways.length := rfl
  have b1 := wf.b1
  have b2 := wf.b2
  have l3 := wf.w3
  have m0 := wf.m0
  walk_at "r"
  refine ⟨_, _, r.fa, rfl, ?_⟩
  refine ⟨a, dx, l, wa, ea, p, 1, sg, lt, bg, ws, es, rfl, r, wf, by omega, fun H1 w s1' nw ew => ?_⟩
  have ew : H1 w = some (.lst (.str "begin" :: .str (numC p.m0) :: (p.t0.map wordOf).map V.str)) := ew
  have r1 := r.same s1'
  walk_at "n"
  refine ⟨_, _, r1.fa, rfl, .lst w, rfl, _, sqL ew, trivial, ?_⟩
  refine ite_t (decide_eq_true (by simp only [List.length_cons, List.length_map]; omega)) ?_
  refine ⟨.lst w, rfl, _, sqL ew, trivial, _, at0, rfl, ite_t (decide_eq_true rfl) ?_⟩
  refine ⟨.lst w, rfl, _, sqL ew, trivial, _, at1, p.m0, rfl, by omega, fun H2 s2 => ?_⟩
  refine ⟨.ref a, by rw [show (!decide (V.int ((p.m0 : Nat) : Int) = V.non)) = true from rfl], ?_⟩
  have ew2 := s2 _ _ ew
  have r2 := r1.same s2
  have cut : cutV (V.str "begin" :: V.str (numC p.m0) :: (p.t0.map wordOf).map V.str) (some 2) none = (p.t0.map wordOf).map V.str := cutV_drop _ 2
  walk_at "n"
  refine ⟨_, _, r2.fa, rfl, _, sqL ew2, fun u nu => ?_⟩
  rw [cut]
  obtain ⟨H3, h, s3, _, eu, _⟩ := newE (S := []) (.lst ((p.t0.map wordOf).map V.str)) Dom.nil nu
  rw [h]; clear h
  refine ⟨.lst u, rfl, _, sqL eu, allS (S := .lst u) (sqL eu) (by simp only [List.length_map]; omega) (fun i x H5 Z hx s5 hz => ?_) fun b bs H5 s5 hb1 hb2 => ?_⟩
  · rw [List.getElem?_map, List.getElem?_map] at hx
    cases e : p.t0[i]? with
    | none => rw [e] at hx; cases hx
    | some t =>
      rw [e] at hx
      cases hx
      obtain ⟨o, n⟩ := wf.t0 t (List.mem_of_getElem? e)
      walk_at "r"
      by_cases h : t = Str.ofString ""
      · refine ⟨rfl, ite_t (decide_eq_true (by unfold wordOf; rw [if_pos h])) ?_⟩
        exact hz _ (Same.refl _)
      · have ewo : wordOf t = t := by unfold wordOf; rw [if_neg h]
        rw [ewo]
        refine ⟨rfl, ?_⟩
        have lt := low_of_sub wf.low o
        by_cases h2 : t = Str.ofString "-"
        · exact ite_t (decide_eq_true h2) (hz _ (Same.refl _))
        · refine ite_f (decide_eq_false h2) ⟨rfl, ite_t (by rw [decide_eq_false h]; rfl) ⟨lowS, t, rfl, low_of lt, by omega, hz⟩⟩
  refine ⟨_, rfl, _, hb1, ?_⟩
  rw [hb2]
  refine ⟨.ref a, rfl, ?_⟩
  have ew5 := s5 _ _ (s3 _ _ ew2)
  have r5 := (r2.same s3).same s5
  have s05 := ((s1'.trans s2).trans s3).trans s5
  have d5 := d.same s05
  walk_at "n"
  refine ⟨.lst w, rfl, _, sqL ew5, trivial, _, at1, p.m0, rfl, by omega, fun H6 s6 => ?_⟩
  refine ⟨_, sqL (s6 _ _ ew5), fun v nv => ?_⟩
  rw [cut]
  obtain ⟨H7, h, s7, d7, ev, _⟩ := newE (S := S0) (.lst ((p.t0.map wordOf).map V.str)) (d5.same s6) nv
  rw [h]; clear h
  refine ⟨.lst v, rfl, _, sqL ev, lcB0 (walk_src (K := K) (S := .lst v)) [] (fun i G x => ∀ t, p.t0[i]? = some t → x = .str (id t)) Dom.nil (by simp only [List.length_map]; omega) (fun H6 s6 => sqL (s6 _ _ ev)) (fun i G G' v s h => h) (fun S2 k x H9 H9' Z hi hs d9 sm s9 y hz => ?_) fun D ws' H8 s8 d8 nD _ eD hl hv => ?_⟩
  · obtain ⟨e, hx⟩ := y
    subst e
    rw [List.getElem?_map, List.getElem?_map] at hx
    cases e : p.t0[k]? with
    | none => rw [e] at hx; cases hx
    | some t =>
      rw [e] at hx
      cases hx
      obtain ⟨o, n⟩ := wf.t0 t (List.mem_of_getElem? e)
      have lt := low_of_sub wf.low o
      have fin : ∀ x, x = t → (∀ t', some t = some t' → V.str x = V.str (id t')) := fun x e t' e' => by cases e'; rw [e]; rfl
      walk_at "r"
      refine ⟨rfl, ?_⟩
      by_cases h : t = Str.ofString ""
      · refine ite_t (decide_eq_true (by unfold wordOf; rw [if_pos h])) ?_
        exact hz _ _ (Same.refl _) fun t' e' => by rw [e] at e'; cases e'; rw [h]; rfl
      · have ewo : wordOf t = t := by unfold wordOf; rw [if_neg h]
        have h2 : t ≠ Str.ofString "-" := fun h2 => by
          have := lt 45 (by rw [h2]; decide +kernel)
          omega
        rw [ewo]
        refine ite_f (decide_eq_false h2) ?_
        exact hz _ _ (Same.refl _) fun t' e' => by rw [e] at e'; cases e'; rfl
  have ews := strs_of (f := id) (xs := p.t0) (by rw [hl]; simp only [List.length_map]) fun i v x e1 e2 => hv i v e1 x e2
  rw [ews, List.map_id] at eD
  have d8' := d7.same s8
  refine ⟨D, rfl, _, .inl ⟨sqL eD, fun t1 nt1 => ?_⟩⟩
  obtain ⟨H9, h, s9, d9, et1, ht1⟩ := newE (S := S0) (.tup (p.t0.map V.str)) d8' nt1
  rw [h]; clear h
  refine ⟨by decide, fun t2 nt2 => ?_⟩
  obtain ⟨H10, h, s10, d10, et2, ht2⟩ := newE (S := S0) (.tup [.int (p.m0 : Nat), .ref t1]) d9 nt2
  rw [h]; clear h
  have s510 := (((s6.trans s7).trans s8).trans s9).trans s10
  have r10 := r5.same s510
  refine ⟨_, _, _, r10.fa, T.cR, T.nR _ (by decide), Nat.le_of_ble_eq_true rfl, ?_⟩
  obtain ⟨H11, h, k11, d11, e11, g11⟩ := setE (C := cR K) (dx := dx) (fs := fsR (.ref l) 1 sg lt bg (.ref wa) (.ref ea)) "begin" (.ref t2) (fsR (.ref l) 1 sg lt (.ref t2) (.ref wa) (.ref ea)) (Kp.of (M := [a]) (s05.trans s510)) ma d10 rfl
  rw [h]; clear h
  walk_at "n"
  refine ⟨_, _, _, e11, T.cR, T.nR _ (by decide), _, rfl, (1 : Int), rfl, _, _, e11, Nat.le_of_ble_eq_true rfl, ?_⟩
  obtain ⟨H12, h, k12, d12, e12, g12⟩ := setE (C := cR K) (dx := dx) (fs := fsR (.ref l) 1 sg lt (.ref t2) (.ref wa) (.ref ea)) "line_at" (.int (1 + 1)) (fsR (.ref l) 2 sg lt (.ref t2) (.ref wa) (.ref ea)) k11 ma d11 rfl
  rw [h]; clear h
  exact q _ _ k12 e12 ⟨t2, t1, rfl, g12 _ _ (g11 _ _ ht2), g12 _ _ (g11 _ _ (hid_same s10 _ _ ht1))⟩
end Gt

set_option Elab.async false
set_option linter.all false
set_option maxRecDepth 100000
set_option maxHeartbeats 2000000
namespace Gt
open PySem PySem.Spec PyProof.Rows L2 StX
local macro_rules | `(tactic| walk_at "r") => `(tactic| simp only [tRet, tRetN, tAndV, tOrV, tNotV, tAnd, tOr, tNot, tCB, tCons, tNil, tC, tVar, L2.start, tCl, tOp, tTest, tB, tIf, tIfS, seqE, tAsg, gName, gTup, gLst, gCons, gNil, tPar, tPar3, tTup, tLst, tFld, sFld, sFldAug, tMt, tPr, tMakeR, tMakeL, tCallV, tWith, tSl, tPart, tNoPart, tM1, tM0, tBM, tBM0, tStar, tRevS, tJs, fmtE, tDrop, tNext, tChain, tUn, tYes, gSub, gAttr, ClX.tCMeth, lcE_src, lcE_enum, lcE_rng, lc2E_src, forE_src, forE_enum, forE_rng, forE_zip, iZipS, cxOf, Cx.nox, Cx.blk,
  rI, rI0, rU, rEq, rNe, rAdd, rIsi, rIsiT, rAll, rAny, rEqD, rNeD, rSrc, rSlL, rSlT, rSlS, rCat, rCatT, rNewStrs, rAppend, rIn,
  List.map_cons, List.map_nil, List.length_cons, List.length_nil, List.replicate, List.append_nil, List.cons_append, List.nil_append, List.getElem?_cons_zero, List.getElem?_cons_succ, List.set_cons_zero, List.set_cons_succ, wipe,
  Option.some.injEq, List.cons.injEq, V.int.injEq, V.bl.injEq, V.str.injEq, V.ref.injEq, and_true, true_and, exists_eq_left', exists_eq_left, exists_eq, exists_eq', exists_and_left, Nat.sub_self, Nat.zero_add, Nat.reduceAdd, Nat.reduceSub, Bool.not_true, Bool.not_false, Bool.false_eq_true, ite_true, ite_false, if_true, if_false, and_assoc, Int.ofNat_inj])
local macro_rules | `(tactic| walk_at "n") => `(tactic| (refine later ?_; try walk_at "r"))
local macro_rules | `(tactic| walk_at "m") => `(tactic| (refine later ?_; try walk_at "r"; refine later ?_; try walk_at "r"))
theorem RdS.na {K : PySem.W.Frag} {H : Hp} {a dx l wa ea : Addr} {p : Prg} {i : Nat} {sg lt : Str} {bg : V} {ws es : List V} (r : RdS K H a dx l wa ea p i sg lt bg ws es) : l ≠ a ∧ wa ≠ a ∧ ea ≠ a := by
  refine ⟨fun z => ?_, fun z => ?_, fun z => ?_⟩
  · have h1 := r.fl; have h2 := r.fa; rw [z, h2] at h1; cases h1
  · have h1 := r.fw; have h2 := r.fa; rw [z, h2] at h1; cases h1
  · have h1 := r.fe; have h2 := r.fa; rw [z, h2] at h1; cases h1
/-- the reader's own fields changed -/
theorem RdS.own {K : PySem.W.Frag} {H H' : Hp} {a dx l wa ea : Addr} {p : Prg} {i j : Nat} {sg lt sg' lt' : Str} {bg bg' : V} {ws es : List V} (r : RdS K H a dx l wa ea p i sg lt bg ws es) (k : Kp [a] H H')
    (e : H' a = some (.ins (cR K) dx (fsR (.ref l) j sg' lt' bg' (.ref wa) (.ref ea)))) : RdS K H' a dx l wa ea p j sg' lt' bg' ws es := by
  obtain ⟨n1, n2, n3⟩ := r.na
  exact ⟨e, k _ _ (by simpa using n1) r.fl, k _ _ (by simpa using n2) r.fw, k _ _ (by simpa using n3) r.fe, r.n1, r.n2, r.n3⟩
def sp_Reader_one_mode (K : PySem.W.Frag) : Sp := fun vs H Q _ => ∃ (S0 : List Addr) (a dx l wa ea : Addr) (p : Prg) (m : Nat) (sg : Str) (bg : V) (ws es : List V), vs = [.ref a] ∧ RdS K H a dx l wa ea p (2 + 2 * m) sg p.letters bg ws es ∧ WF p ∧ m < p.ways.length ∧ ws.length = m ∧ a ∈ S0 ∧ wa ∈ S0 ∧ Dom S0 H ∧
  ∀ H' v, Kp [a, wa] H H' → H' a = some (.ins (cR K) dx (fsR (.ref l) (2 + 2 * (m + 1)) sg p.letters bg (.ref wa) (.ref ea))) → H' wa = some (.lst (ws ++ [v])) → (∀ row, p.ways[m]? = some row → oRow K (hid S0 H') v row) → Q .non H'
theorem sc_Reader_one_mode : FnScope ["self", "found", "letter", "words", "settings", "word", "one"] ["self"] (defScope (inClass (top 47) 6)) := ⟨rfl, rfl, rfl, by decide +kernel, rfl, by decide +kernel, by decide +kernel⟩
theorem ok_Reader_one_mode {P : Program} {w : World} {K : PySem.W.Frag} {mg : Str → Option Value} {base : Heap} (D : Mth K (cls_Reader K) "one_mode" "Reader.one_mode" (inClass (top 47) 6) ["self"]) (T : Glo K mg) (m_words : GM P w K mg base 2 (cls_Reader K) "words" (sp_Reader_words K)) (m_need : GM P w K mg base 1 (cls_Reader K) "need" (sp_Reader_need K)) (g_setting_in : GF P w K mg base 5 "setting_in" (sp_setting_in K)) (g_number_in : GF P w K mg base 1 "number_in" (sp_number_in K))  : GM P w K mg base 6 (cls_Reader K) "one_mode" (sp_Reader_one_mode K) := by
  have nd := sc_Reader_one_mode.nd
  refine D.go sc_Reader_one_mode (fun vs H Q E h => ?_) (fun f cdv A outer s0 H vs Q E hr h => ?_)
  · obtain ⟨S0, a, dx, l, wa, ea, p, m, sg, bg, ws, es, rfl, r, wf, hm, lw, ma, mw, d, q⟩ := h; rfl
  obtain ⟨S0, a, dx, l, wa, ea, p, m, sg, bg, ws, es, rfl, r, wf, hm, lw, ma, mw, d, q⟩ := h
  refine ⟨_, (pss_cons (ps_set (i := 1) nd rfl (by first | exact Or.inl rfl | exact Or.inr rfl) (pe_lst pa_nil))
  (pss_cons (ps_for PassesOwn.never rfl (pi_src (pe_fld (pv 0) rfl)) (pg_name (i := 2) nd rfl (by first | exact Or.inl rfl | exact Or.inr rfl))
  (pss_cons (ps_set (i := 3) nd rfl (by first | exact Or.inl rfl | exact Or.inr rfl) (pc_m0 m_words T.cR hr (pv 0)))
  (pss_cons (ps_expr (pc_m m_need T.cR hr (pv 0) (pa_cons (pe_and (pe_cmpR op_gt (pe_callB call_lenS (by rfl) T.b_len (by decide +kernel) (pa_cons (pv 3) pa_nil)) pe_int (nomark _)) (pe_one (pe_cmpR (op_eqD hr.units) (pe_slice sl_list (pv 3) po_none (po_some pe_int)) (pe_lst (pa_cons pe_str (pa_cons (pe_callTy call_str_int (by rfl) T.b_str (by decide +kernel) (pa_cons (pe_callB call_lenS (by rfl) T.b_len (by decide +kernel) (pa_cons (pe_fld (pv 0) rfl) pa_nil)) pa_nil)) (pa_cons (pv 2) pa_nil)))) (nomark _)))) pa_nil)))
  (pss_cons (ps_setLc (i := 4) (own := [("word", 5)]) rfl nd rfl rfl (sw_true rfl rfl rfl (by decide +kernel)) (pi_src (pe_slice sl_list (pv 3) (po_some pe_int) po_none)) (blkOk_by (own := [("word", 5)]) (N := ["self", "found", "letter", "words", "settings", "word", "one"]) (sc := defScope (inClass (top 47) 6)) (by decide +kernel)) (fun _ _ _ _ _ => (pg_name (i := 5) nd rfl (by first | exact Or.inl rfl | exact Or.inr rfl))) (fun _ _ _ _ _ => pts_nil) (fun _ _ _ _ _ => (pc_g g_setting_in hr (pa_cons (pv 5) pa_nil))))
  (pss_cons (ps_expr (pc_m m_need T.cR hr (pv 0) (pa_cons (pe_and (pe_cmpR op_notN (pc_g g_number_in hr (pa_cons (pe_ix ix_src (pv 3) pe_int (fun _ _ => rfl)) pa_nil)) pe_non (nomark _)) (pe_one (pe_not (pe_callB (cr_any rfl) (by rfl) T.b_any (by decide +kernel) (pa_cons (pe_lc (own := [("one", 6)]) rfl nd (pi_src (pv 4)) (blkOk_by (own := [("one", 6)]) (N := ["self", "found", "letter", "words", "settings", "word", "one"]) (sc := defScope (inClass (top 47) 6)) (by decide +kernel)) (fun _ _ _ _ _ => (pg_name (i := 6) nd rfl (by first | exact Or.inl rfl | exact Or.inr rfl))) (fun _ _ _ _ _ => pts_nil) (fun _ _ _ _ _ => (pe_cmpR op_isN (pv 6) pe_non (nomark _)))) pa_nil))))) pa_nil)))
  (pss_cons (ps_expr (pe_bm PySem.F.plainAttrs_list PySem.F.slot_list_append PySem.F.type_list_append mt_append (pv 1) (pa_cons (pe_tup (pa_cons (pc_g g_number_in hr (pa_cons (pe_ix ix_src (pv 3) pe_int (fun _ _ => rfl)) pa_nil)) (pa_cons (pe_callTy call_tuple_of (by rfl) T.b_tuple (by decide +kernel) (pa_cons (pv 4) pa_nil)) pa_nil))) pa_nil)))
  (pss_one (ps_fldaug (pv 0) pe_int in_add))))))))
  (pss_one (ps_expr (pe_bm PySem.F.plainAttrs_list PySem.F.slot_list_append PySem.F.type_list_append mt_append (pe_fld (pv 0) rfl) (pa_cons (pe_callTy call_tuple_of (by rfl) T.b_tuple (by decide +kernel) (pa_cons (pv 1) pa_nil)) pa_nil)))))), ?_⟩
  clear nd hr
  have sz := sizeL
  have pn : p.n = 2 + 3 * p.ways.length := rfl
  have l3 := wf.w3
  have b2 := wf.b2
  have ll : p.letters.length = 2 := by rw [wf.let']; rfl
  walk_at "r"
  refine ⟨by decide, fun fd nf => ?_⟩
  obtain ⟨H1, h, s1, d1, ef1, _⟩ := newE (S := S0) (.lst []) d nf
  rw [h]; clear h
  have nfa : fd ≠ a := fun z => by rw [z, r.fa] at nf; cases nf
  have r1 := r.same s1
  walk_at "n"
  refine ⟨_, _, _, r1.fa, T.cR, T.nR _ (by decide), _, rfl, .txt p.letters, rfl, _, rfl, ?_⟩
  refine forB (walk_src (K := K) (S := .txt p.letters)) (fun k σ H' => Kp [a] H H' ∧ Dom (fd :: S0) H' ∧ H' a = some (.ins (cR K) dx (fsR (.ref l) (2 + 2 * m + k) sg p.letters bg (.ref wa) (.ref ea))) ∧ (∃ fs, H' fd = some (.lst fs) ∧ fs.length = k ∧ ∀ (j : Nat) v, fs[j]? = some v → oWay K (hid (fd :: S0) H') v (p.way m j)) ∧ ∃ x2 x3 x4, σ = [some (.ref a), some (.ref fd), x2, x3, x4, none, none])
    ⟨Kp.of s1, .cons ef1 d1, r1.fa, ⟨[], ef1, rfl, fun j v e => by simp at e⟩, _, _, _, rfl⟩ (fun i σ H' _ pv => rfl) ?_ ?_
  · rintro k x σ H2 H2' hk ⟨k2, d2, ea2, ⟨fs, ef2, lf, hf⟩, x2, x3, x4, rfl⟩ ⟨e, hx⟩
    subst e
    have ex := xy_at wf.let' hx
    subst ex
    have hk' : k < 2 := by rw [txt_len, ll] at hk; exact hk
    have hi : 2 + 2 * m + k < p.n := by omega
    have r2 := r.own k2 ea2
    have okw := way_ok wf hm hk'
    have okm := okw.m
    walk_at "r"
    refine ⟨_, _, ea2, rfl, ?_⟩
    refine ⟨a, dx, l, wa, ea, p, 2 + 2 * m + k, sg, p.letters, bg, ws, es, rfl, r2, wf, hi, fun H3 w s3 nw ew => ?_⟩
    rw [lineAt_way hm hk'] at ew
    have ew : H3 w = some (.lst (.str "way" :: .str (numC m) :: .str ⟨#[120 + k]⟩ :: .str (numC (p.way m k).1) :: ((p.way m k).2.map settText).map V.str)) := ew
    have r3 := r2.same s3
    walk_at "n"
    refine ⟨_, _, r3.fa, rfl, .lst w, rfl, _, sqL ew, trivial, ?_⟩
    refine ite_t (decide_eq_true (by have := wf.b1; simp only [List.length_cons, List.length_map, okw.n]; omega)) ?_
    have cut : cutV (V.str "way" :: V.str (numC m) :: V.str ⟨#[120 + k]⟩ :: V.str (numC (p.way m k).1) :: ((p.way m k).2.map settText).map V.str) none (some 3) = ([Str.ofString "way", numC m, ⟨#[120 + k]⟩] : List Str).map V.str := cutV_take _ 3
    have cut4 : cutV (V.str "way" :: V.str (numC m) :: V.str ⟨#[120 + k]⟩ :: V.str (numC (p.way m k).1) :: ((p.way m k).2.map settText).map V.str) (some 4) none = ((p.way m k).2.map settText).map V.str := cutV_drop _ 4
    refine ⟨_, sqL ew, fun u nu => ?_⟩
    rw [cut]
    obtain ⟨H4, h, s4, _, eu, _⟩ := newE (S := []) (.lst (([Str.ofString "way", numC m, ⟨#[120 + k]⟩] : List Str).map V.str)) Dom.nil nu
    rw [h]; clear h
    have r4 := r3.same s4
    refine ⟨_, _, _, r4.fa, T.cR, T.nR _ (by decide), _, rfl, .lst wa, rfl, _, sqL r4.fw, trivial, by rw [lw]; exact lg10 (by omega), by decide, fun v nv => ?_⟩
    rw [lw, num_eq (show m < 10 by omega)]
    obtain ⟨H5, h, s5, _, ev, _⟩ := newE (S := []) (.lst (([Str.ofString "way", numC m, ⟨#[120 + k]⟩] : List Str).map V.str)) Dom.nil nv
    simp only [List.map_cons, List.map_nil] at h
    rw [h]; clear h
    have ul : ∀ a ∈ ([Str.ofString "way", numC m, ⟨#[120 + k]⟩] : List Str), Uni a := fun a ha => by
      simp only [List.mem_cons, List.not_mem_nil, or_false] at ha
      rcases ha with rfl | rfl | rfl
      · exact uni_lit (by decide +kernel)
      · exact uni_num (by omega)
      · intro c hc
        have e : ((⟨#[120 + k]⟩ : Str)).cps.toList = [120 + k] := rfl
        rw [e, List.mem_singleton] at hc
        omega
    refine ⟨_, .lst (sqL (s5 _ _ eu)) (dps _), _, .lst (sqL ev) (dps _), shaped_strs ul, shaped_strs ul, ?_⟩
    rw [eqvL, decide_eq_true rfl]
    refine ⟨.ref a, rfl, ?_⟩
    have s35 := s4.trans s5
    have r5 := r3.same s35
    have ew5 := s35 _ _ ew
    walk_at "n"
    refine ⟨_, sqL ew5, fun y ny => ?_⟩
    rw [cut4]
    have d5 : Dom (fd :: S0) H5 := (d2.same s3).same s35
    obtain ⟨H6, h, s6, d6, ey, _⟩ := newE (S := fd :: S0) (.lst (((p.way m k).2.map settText).map V.str)) d5 ny
    rw [h]; clear h
    refine ⟨.lst y, rfl, _, sqL ey, lcB0 (walk_src (K := K) (S := .lst y)) (fd :: S0) (fun j G v => ∀ s, (p.way m k).2[j]? = some s → oSett K G v s) d6 (by simp only [List.length_map, okw.n]; omega) (fun H7 s7 => sqL (s7 _ _ ey)) (fun i G G' v s h t ht => (h t ht).up s) (fun S2 j x H7 H7' Z hj hs d7 sm7 s7 y2 hz => ?_) fun D ws' H7 s7 d7 nD _ eD hl hv => ?_⟩
    · obtain ⟨e, hx⟩ := y2
      subst e
      rw [List.getElem?_map, List.getElem?_map] at hx
      cases e : (p.way m k).2[j]? with
      | none => rw [e] at hx; cases hx
      | some s =>
        rw [e] at hx
        cases hx
        have low := sett_low wf (okw.s s (List.mem_of_getElem? e))
        walk_at "r"
        refine ⟨S2, s, rfl, low, d7, fun H8 r s8 o => hz _ _ s8 fun t ht => ?_⟩
        rw [e] at ht
        cases ht
        exact o
    have hD : All2 (oSett K (hid (fd :: S0) H7)) ws' (p.way m k).2 := all2_of (by rw [hl]; simp only [List.length_map]) fun i v s e1 e2 => hv i v e1 s e2
    have s57 := s6.trans s7
    have r7 := r5.same s57
    have ew7 := s57 _ _ ew5
    walk_at "n"
    refine ⟨_, _, r7.fa, rfl, .lst w, rfl, _, sqL ew7, trivial, _, at3, (p.way m k).1, rfl, by omega, fun H8 s8 => ?_⟩
    refine ite_t rfl ?_
    refine ⟨.lst D, rfl, _, sqL (s8 _ _ eD), anyS (S := .lst D) (sqL (s8 _ _ eD)) (by rw [hl]; simp only [List.length_map, okw.n]; omega) (fun i x H9 Z hx s9 hz => ?_) fun b bs H9 s9 hb1 hb2 => ?_⟩
    · obtain ⟨s, _, pa, pd, rfl, _⟩ := hD.get hx
      walk_at "r"
      exact hz _ (Same.refl _)
    refine ⟨_, rfl, _, hb1, ?_⟩
    rw [hb2]
    refine ⟨.ref a, rfl, ?_⟩
    have s79 := s8.trans s9
    have r9 := r7.same s79
    have ew9 := s79 _ _ ew7
    have d9 := d7.same s79
    have s29 : Same H2' H9 := ((s3.trans s35).trans s57).trans s79
    have ef9 := s29 _ _ ef2
    walk_at "n"
    refine ⟨.inl ⟨rfl, _, sqL ef9⟩, .lst w, rfl, _, sqL ew9, trivial, _, at3, (p.way m k).1, rfl, by omega, fun H10 s10 => ?_⟩
    refine ⟨_, .inl ⟨sqL (s10 _ _ (s79 _ _ eD)), fun t1 nt1 => ?_⟩⟩
    obtain ⟨H11, h, s11, d11, et1, ht1⟩ := newE (S := fd :: S0) (.tup ws') (d9.same s10) nt1
    rw [h]; clear h
    refine ⟨by decide, fun t2 nt2 => ?_⟩
    obtain ⟨H12, h, s12, d12, et2, ht2⟩ := newE (S := fd :: S0) (.tup [.int ((p.way m k).1 : Nat), .ref t1]) d11 nt2
    rw [h]; clear h
    have s912 := (s10.trans s11).trans s12
    have ef12 := s912 _ _ ef9
    refine ⟨fs, ef12, by omega, ?_⟩
    have r12 := r9.same s912
    have kf : Kp [fd] H12 (upd H12 fd (.lst (fs ++ [.ref t2]))) := Kp.upd (by simp)
    have ef13 : (upd H12 fd (.lst (fs ++ [.ref t2]))) fd = some (.lst (fs ++ [.ref t2])) := upd_same
    have ea13 : (upd H12 fd (.lst (fs ++ [.ref t2]))) a = _ := kf _ _ (by simpa using fun z => nfa z.symm) r12.fa
    have d13 : Dom (fd :: S0) (upd H12 fd (.lst (fs ++ [.ref t2]))) := d12.kp kf (fun z hz => by rw [List.mem_singleton.mp hz, upd_same]; exact fun q => by cases q)
    have g13 := hid_kp (S := fd :: S0) kf (by simp)
    generalize upd H12 fd (.lst (fs ++ [.ref t2])) = H13 at kf ef13 ea13 d13 g13 ⊢
    walk_at "n"
    refine ⟨_, _, _, ea13, T.cR, T.nR _ (by decide), _, rfl, ((2 + 2 * m + k : Nat) : Int), rfl, _, _, ea13, Nat.le_of_ble_eq_true rfl, ?_⟩
    have ka : Kp [a] H13 (upd H13 a (.ins (cR K) dx (putF "line_at" (.int (((2 + 2 * m + k : Nat) : Int) + 1)) (fsR (.ref l) (2 + 2 * m + k) sg p.letters bg (.ref wa) (.ref ea))))) := Kp.upd (by simp)
    have ea14 : (upd H13 a (.ins (cR K) dx (putF "line_at" (.int (((2 + 2 * m + k : Nat) : Int) + 1)) (fsR (.ref l) (2 + 2 * m + k) sg p.letters bg (.ref wa) (.ref ea))))) a = some (.ins (cR K) dx (fsR (.ref l) (2 + 2 * m + (k + 1)) sg p.letters bg (.ref wa) (.ref ea))) := by
      rw [upd_same]; rfl
    have d14 : Dom (fd :: S0) (upd H13 a (.ins (cR K) dx (putF "line_at" (.int (((2 + 2 * m + k : Nat) : Int) + 1)) (fsR (.ref l) (2 + 2 * m + k) sg p.letters bg (.ref wa) (.ref ea))))) := d13.kp ka (fun z hz => by rw [List.mem_singleton.mp hz, upd_same]; exact fun q => by cases q)
    have g14 := hid_kp (S := fd :: S0) ka (fun z hz => by rw [List.mem_singleton.mp hz]; exact List.mem_cons_of_mem _ ma)
    have ef14 := ka _ _ (by simpa using nfa) ef13
    generalize upd H13 a (.ins (cR K) dx (putF "line_at" (.int (((2 + 2 * m + k : Nat) : Int) + 1)) (fsR (.ref l) (2 + 2 * m + k) sg p.letters bg (.ref wa) (.ref ea)))) = H14 at ka ea14 d14 g14 ef14 ⊢
    have s212 := s29.trans s912
    have g214 : Same (hid (fd :: S0) H2') (hid (fd :: S0) H14) := ((hid_same s212).trans g13).trans g14
    refine ⟨fun z o nz e => ?_, d14, ea14, fs ++ [.ref t2], ef14, by simp [lf], fun j v e => ?_⟩
    · have nzf : z ≠ fd := fun q => by rw [q, nf] at e; cases e
      exact ka _ _ nz (kf _ _ (by simpa using nzf) (s212 _ _ (k2 _ _ nz e)))
    · by_cases hj : j < fs.length
      · rw [List.getElem?_append_left hj] at e
        exact (hf j v e).up g214
      · have hj2 : j = k := by
          have := (List.getElem?_eq_some_iff.mp e).1
          rw [List.length_append] at this
          have : j < fs.length + 1 := this
          omega
        subst hj2
        rw [List.getElem?_append_right (by omega), lf, Nat.sub_self] at e
        cases e
        exact ⟨t2, t1, ws', rfl, g14 _ _ (g13 _ _ ht2), g14 _ _ (g13 _ _ (hid_same s12 _ _ ht1)), hD.mono fun _ _ o => o.up (((hid_same (s79.trans s912)).trans g13).trans g14)⟩
  · rintro σ H2 ⟨k2, d2, ea2, ⟨fs, ef2, lf, hf⟩, x2, x3, x4, rfl⟩
    have lf : fs.length = 2 := by rw [lf, txt_len, ll]
    have ea2 : H2 a = some (.ins (cR K) dx (fsR (.ref l) (2 + 2 * (m + 1)) sg p.letters bg (.ref wa) (.ref ea))) := by
      rw [ea2, txt_len, ll, show 2 + 2 * m + 2 = 2 + 2 * (m + 1) by omega]
    have r2 := r.own k2 ea2
    obtain ⟨na1, na2, na3⟩ := r.na
    walk_at "n"
    walk_at "n"
    refine ⟨_, _, _, ea2, T.cR, T.nR _ (by decide), _, rfl, .inl ⟨rfl, _, sqL r2.fw⟩, ?_⟩
    refine ⟨_, .inl ⟨sqL ef2, fun t nt => ?_⟩⟩
    obtain ⟨H3, h, s3, d3, et, ht⟩ := newE (S := fd :: S0) (.tup fs) d2 nt
    rw [h]; clear h
    have r3 := r2.same s3
    refine ⟨wa, rfl, ws, r3.fw, by omega, ?_⟩
    have kw : Kp [wa] H3 (upd H3 wa (.lst (ws ++ [.ref t]))) := Kp.upd (by simp)
    have ew : (upd H3 wa (.lst (ws ++ [.ref t]))) wa = some (.lst (ws ++ [.ref t])) := upd_same
    have ea4 := kw _ _ (by simpa using fun z => na2 z.symm) r3.fa
    have g4 := hid_kp (S := S0) kw (fun z hz => by rw [List.mem_singleton.mp hz]; exact mw)
    generalize upd H3 wa (.lst (ws ++ [.ref t])) = H4 at kw ew ea4 g4 ⊢
    have gg : Same (hid (fd :: S0) H2) (hid S0 H4) := (hid_mono fun z hz => List.mem_cons_of_mem _ hz).trans ((hid_same s3).trans g4)
    refine q _ _ (fun z o nz e => ?_) ea4 ew fun row hrow => ?_
    · simp only [List.mem_cons, List.not_mem_nil, or_false, not_or] at nz
      exact kw _ _ (by simpa using nz.2) (s3 _ _ (k2 _ _ (by simpa using nz.1) e))
    · obtain ⟨lr, okr⟩ := wf.rows row (List.mem_of_getElem? hrow)
      have dn : t ∉ S0 := fun q => d2 t (List.mem_cons_of_mem _ q) nt
      have ht' : hid S0 H4 t = some (.tup fs) := g4 _ _ (by rw [hid_at dn]; exact et)
      refine ⟨t, fs, rfl, ht', all2_of (by rw [lf, lr]) fun i v w e1 e2 => ?_⟩
      have o := (hf i v e1).up gg
      rw [way_eq hrow e2] at o
      exact o
theorem GF.or {P : Program} {w : World} {K : PySem.W.Frag} {mg : Str → Option Value} {base : Heap} {k : Nat} {x : Str} {sp sp' : Sp} (a : GF P w K mg base k x sp) (b : GF P w K mg base k x sp') : GF P w K mg base k x (fun vs H Q E => sp vs H Q E ∨ sp' vs H Q E) := by
  obtain ⟨f, F, m, kp⟩ := a.ex
  obtain ⟨f', F', m', _⟩ := b.ex
  rw [m] at m'
  cases m'
  exact ⟨f, fun A o s H us vs Q E hr e0 r h => h.elim (F A o s H us vs Q E hr e0 r) (F' A o s H us vs Q E hr e0 r), m, kp⟩
def sp_number_in2 (K : PySem.W.Frag) : Sp := fun vs H Q _ => vs = [.str "none"] ∧ ∀ H', Same H H' → Q .non H'
theorem sc_number_in2 : FnScope ["word", "sign"] ["word"] (defScope (top 29)) := ⟨rfl, rfl, rfl, by decide +kernel, rfl, by decide +kernel, by decide +kernel⟩
theorem ok_number_in2 {P : Program} {w : World} {K : PySem.W.Frag} {mg : Str → Option Value} {base : Heap} (D : Def K mg "number_in" (top 29) ["word"]) (T : Glo K mg)   : GF P w K mg base 1 "number_in" (sp_number_in2 K) := by
  have nd := sc_number_in2.nd
  refine D.go sc_number_in2 (fun vs H Q E h => ?_) (fun f cdv A outer s0 H vs Q E hr h => ?_)
  · obtain ⟨rfl, q⟩ := h; rfl
  obtain ⟨rfl, q⟩ := h
  refine ⟨_, (pss_cons (ps_if (PW.pt (pw_or (pt_not (pt_chain op_le op_le pe_int (pe_callB call_lenS (by rfl) T.b_len (by decide +kernel) (pa_cons (pv 0) pa_nil)) pe_int)) (pw_or1 (pt_not (pt_val (pe_callB (cr_all rfl) (by rfl) T.b_all (by decide +kernel) (pa_cons (pe_lc (own := [("sign", 1)]) rfl nd (pi_src (pv 0)) (blkOk_by (own := [("sign", 1)]) (N := ["word", "sign"]) (sc := defScope (top 29)) (by decide +kernel)) (fun _ _ _ _ _ => (pg_name (i := 1) nd rfl (by first | exact Or.inl rfl | exact Or.inr rfl))) (fun _ _ _ _ _ => pts_nil) (fun _ _ _ _ _ => (pe_cmpR op_in_sign (pv 1) (pe_gl T.v_DIGITS) (by rfl)))) pa_nil)))))))
  (pss_one (ps_ret pe_non))
  pss_nil)
  (pss_one (ps_ret (pe_ifExp (PW.pt (pw_and (pt_cmpR op_eq (pe_ix ix_src (pv 0) pe_int (fun _ _ => rfl)) pe_str (nomark _)) (pw_and1 (pt_cmpR op_ne (pv 0) pe_str (nomark _))))) pe_non (pe_callTy call_int_str (by rfl) T.b_int (by decide +kernel) (pa_cons (pv 0) pa_nil)))))), ?_⟩
  clear nd hr
  walk_at "r"
  refine ⟨.txt "none", rfl, _, rfl, by show (Str.ofString "none").length ≤ sizeLine; decide, ?_⟩
  rw [txt_len, show (Str.ofString "none").length = 4 from rfl]
  rw [if_pos (by decide), if_pos (by decide)]
  exact q _ (Same.refl _)
def sp_part_in2 (K : PySem.W.Frag) : Sp := fun vs H Q _ => vs = [.str "none"] ∧ ∀ H', Same H H' → Q .non H'
theorem sc_part_in2 : FnScope ["word", "number"] ["word"] (defScope (top 45)) := ⟨rfl, rfl, rfl, by decide +kernel, rfl, by decide +kernel, by decide +kernel⟩
theorem ok_part_in2 {P : Program} {w : World} {K : PySem.W.Frag} {mg : Str → Option Value} {base : Heap} (D : Def K mg "part_in" (top 45) ["word"]) (T : Glo K mg) (g_is_text : GF P w K mg base 1 "is_text" (sp_is_text K)) (g_number_in : GF P w K mg base 1 "number_in" (sp_number_in2 K))  : GF P w K mg base 2 "part_in" (sp_part_in2 K) := by
  have nd := sc_part_in2.nd
  refine D.go sc_part_in2 (fun vs H Q E h => ?_) (fun f cdv A outer s0 H vs Q E hr h => ?_)
  · obtain ⟨rfl, q⟩ := h; rfl
  obtain ⟨rfl, q⟩ := h
  refine ⟨_, (pss_cons (ps_if (pt_cmpR op_eq (pe_slice sl_str (pv 0) po_none (po_some pe_int)) pe_str (nomark _))
  (pss_one (ps_ret (pe_ifExp (PW.pt (pw_and (pt_cmpR op_gt (pe_callB call_lenS (by rfl) T.b_len (by decide +kernel) (pa_cons (pv 0) pa_nil)) pe_int (nomark _)) (pw_and1 (pt_val (pc_g g_is_text hr (pa_cons (pe_gl T.v_LOWER) (pa_cons (pe_slice sl_str (pv 0) (po_some pe_int) po_none) pa_nil))))))) (pe_tup (pa_cons pe_str (pa_cons (pe_slice sl_str (pv 0) (po_some pe_int) po_none) pa_nil))) pe_non)))
  pss_nil)
  (pss_cons (ps_set (i := 1) nd rfl (by first | exact Or.inl rfl | exact Or.inr rfl) (pc_g g_number_in hr (pa_cons (pe_ifExp (pt_cmpR op_eq (pe_slice sl_str (pv 0) po_none (po_some pe_int)) pe_str (nomark _)) (pe_slice sl_str (pv 0) (po_some pe_int) po_none) (pv 0)) pa_nil)))
  (pss_cons (ps_if (pt_cmpR op_isN (pv 1) pe_non (nomark _))
  (pss_one (ps_ret pe_non))
  pss_nil)
  (pss_one (ps_ret (pe_tup (pa_cons (pe_ifExp (pt_cmpR op_eq (pe_slice sl_str (pv 0) po_none (po_some pe_int)) pe_str (nomark _)) pe_str pe_str) (pa_cons (pv 1) pa_nil)))))))), ?_⟩
  clear nd hr
  have c1 : cutS (Str.ofString "none") none (some 1) = ⟨#[110]⟩ := by decide +kernel
  walk_at "r"
  refine ⟨by decide, rfl, ?_⟩
  rw [c1, s_eq, str_ne (by omega)]
  walk_at "r"
  walk_at "n"
  refine ⟨by decide, rfl, ?_⟩
  rw [c1, s_ti, str_ne (by omega)]
  walk_at "r"
  refine ⟨rfl, fun H1 s1 => ?_⟩
  walk_at "n"
  exact q _ s1
def sp_part_in3 (K : PySem.W.Frag) : Sp := fun vs H Q E => sp_part_in K vs H Q E ∨ sp_part_in2 K vs H Q E
def sp_Reader_end_line (K : PySem.W.Frag) : Sp := fun vs H Q _ => ∃ (S0 : List Addr) (a dx l wa ea : Addr) (p : Prg) (m : Nat) (sg lt : Str) (bg : V) (ws es : List V), vs = [.ref a, .int (m : Nat)] ∧ RdS K H a dx l wa ea p (2 + 2 * p.ways.length + m) sg lt bg ws es ∧ WF p ∧ m < p.ways.length ∧ es.length = m ∧ a ∈ S0 ∧ ea ∈ S0 ∧ Dom S0 H ∧
  ∀ H' v, Kp [a, ea] H H' → H' a = some (.ins (cR K) dx (fsR (.ref l) (2 + 2 * p.ways.length + (m + 1)) sg lt bg (.ref wa) (.ref ea))) → H' ea = some (.lst (es ++ [v])) → (∀ e, p.ends[m]? = some e → oEnd (hid S0 H') v e) → Q .non H'
theorem sc_Reader_end_line : FnScope ["self", "mode", "words", "parts", "word", "is_none", "part"] ["self", "mode"] (defScope (inClass (top 47) 7)) := ⟨rfl, rfl, rfl, by decide +kernel, rfl, by decide +kernel, by decide +kernel⟩
theorem ok_Reader_end_line {P : Program} {w : World} {K : PySem.W.Frag} {mg : Str → Option Value} {base : Heap} (D : Mth K (cls_Reader K) "end_line" "Reader.end_line" (inClass (top 47) 7) ["self", "mode"]) (T : Glo K mg) (m_words : GM P w K mg base 2 (cls_Reader K) "words" (sp_Reader_words K)) (m_need : GM P w K mg base 1 (cls_Reader K) "need" (sp_Reader_need K)) (g_part_in : GF P w K mg base 2 "part_in" (sp_part_in3 K))  : GM P w K mg base 3 (cls_Reader K) "end_line" (sp_Reader_end_line K) := by
  have nd := sc_Reader_end_line.nd
  refine D.go sc_Reader_end_line (fun vs H Q E h => ?_) (fun f cdv A outer s0 H vs Q E hr h => ?_)
  · obtain ⟨S0, a, dx, l, wa, ea, p, m, sg, lt, bg, ws, es, rfl, r, wf, hm, le, ma, me, d, q⟩ := h; rfl
  obtain ⟨S0, a, dx, l, wa, ea, p, m, sg, lt, bg, ws, es, rfl, r, wf, hm, le, ma, me, d, q⟩ := h
  refine ⟨_, (pss_cons (ps_set (i := 2) nd rfl (by first | exact Or.inl rfl | exact Or.inr rfl) (pc_m0 m_words T.cR hr (pv 0)))
  (pss_cons (ps_expr (pc_m m_need T.cR hr (pv 0) (pa_cons (pe_cmpR (op_eqD hr.units) (pe_slice sl_list (pv 2) po_none (po_some pe_int)) (pe_lst (pa_cons pe_str (pa_cons (pe_callTy call_str_int (by rfl) T.b_str (by decide +kernel) (pa_cons (pv 1) pa_nil)) pa_nil))) (nomark _)) pa_nil)))
  (pss_cons (ps_setLc (i := 3) (own := [("word", 4)]) rfl nd rfl rfl (sw_true rfl rfl rfl (by decide +kernel)) (pi_src (pe_slice sl_list (pv 2) (po_some pe_int) po_none)) (blkOk_by (own := [("word", 4)]) (N := ["self", "mode", "words", "parts", "word", "is_none", "part"]) (sc := defScope (inClass (top 47) 7)) (by decide +kernel)) (fun _ _ _ _ _ => (pg_name (i := 4) nd rfl (by first | exact Or.inl rfl | exact Or.inr rfl))) (fun _ _ _ _ _ => pts_nil) (fun _ _ _ _ _ => (pc_g g_part_in hr (pa_cons (pv 4) pa_nil))))
  (pss_cons (ps_set (i := 5) nd rfl (by first | exact Or.inl rfl | exact Or.inr rfl) (pe_cmpR (op_eqD hr.units) (pe_slice sl_list (pv 2) (po_some pe_int) po_none) (pe_lst (pa_cons pe_str pa_nil)) (nomark _)))
  (pss_cons (ps_expr (pc_m m_need T.cR hr (pv 0) (pa_cons (pe_or (pv 5) (pe_one (pe_not (pe_callB (cr_any rfl) (by rfl) T.b_any (by decide +kernel) (pa_cons (pe_lc (own := [("part", 6)]) rfl nd (pi_src (pv 3)) (blkOk_by (own := [("part", 6)]) (N := ["self", "mode", "words", "parts", "word", "is_none", "part"]) (sc := defScope (inClass (top 47) 7)) (by decide +kernel)) (fun _ _ _ _ _ => (pg_name (i := 6) nd rfl (by first | exact Or.inl rfl | exact Or.inr rfl))) (fun _ _ _ _ _ => pts_nil) (fun _ _ _ _ _ => (pe_cmpR op_isN (pv 6) pe_non (nomark _)))) pa_nil))))) pa_nil)))
  (pss_cons (ps_expr (pe_bm PySem.F.plainAttrs_list PySem.F.slot_list_append PySem.F.type_list_append mt_append (pe_fld (pv 0) rfl) (pa_cons (pe_ifExp (pt_val (pv 5)) pe_non (pe_callTy call_tuple_of (by rfl) T.b_tuple (by decide +kernel) (pa_cons (pv 3) pa_nil))) pa_nil)))
  (pss_one (ps_fldaug (pv 0) pe_int in_add)))))))), ?_⟩
  clear nd hr
  have sz := sizeL
  have pn : p.n = 2 + 3 * p.ways.length := rfl
  have l3 := wf.w3
  have hm' : m < p.ends.length := by rw [wf.el]; exact hm
  obtain ⟨en, hen⟩ : ∃ en, p.ends[m]? = some en := ⟨_, List.getElem?_eq_getElem hm'⟩
  have een : p.ends.getD m none = en := by simp [List.getD_eq_getElem?_getD, hen]
  have oken := wf.en _ (List.mem_of_getElem? hen)
  walk_at "r"
  refine ⟨_, _, r.fa, rfl, ?_⟩
  refine ⟨a, dx, l, wa, ea, p, _, sg, lt, bg, ws, es, rfl, r, wf, by omega, fun H1 w s1 nw ew => ?_⟩
  rw [lineAt_end, een] at ew
  have r1 := r.same s1
  walk_at "n"
  refine ⟨_, _, r1.fa, rfl, _, sqL ew, fun u nu => ?_⟩
  have cut : cutV ((wend m en).map V.str) none (some 2) = ([Str.ofString "end", numC m] : List Str).map V.str := cutV_take _ 2
  have cut2 : cutV ((wend m en).map V.str) (some 2) none = (match en with | none => [Str.ofString "none"] | some ps => ps.map partText).map V.str := cutV_drop _ 2
  rw [cut]
  obtain ⟨H2, h, s2, _, eu, _⟩ := newE (S := []) (.lst (([Str.ofString "end", numC m] : List Str).map V.str)) Dom.nil nu
  rw [h]; clear h
  refine ⟨lg10 (by omega), by decide, fun v nv => ?_⟩
  rw [num_eq (show m < 10 by omega)]
  obtain ⟨H3, h, s3, _, ev, _⟩ := newE (S := []) (.lst (([Str.ofString "end", numC m] : List Str).map V.str)) Dom.nil nv
  simp only [List.map_cons, List.map_nil] at h
  rw [h]; clear h
  have ul : ∀ a ∈ ([Str.ofString "end", numC m] : List Str), Uni a := fun a ha => by
    simp only [List.mem_cons, List.not_mem_nil, or_false] at ha
    rcases ha with rfl | rfl
    · exact uni_lit (by decide +kernel)
    · exact uni_num (by omega)
  refine ⟨_, .lst (sqL (s3 _ _ eu)) (dps _), _, .lst (sqL ev) (dps _), shaped_strs ul, shaped_strs ul, ?_⟩
  rw [eqvL, decide_eq_true rfl]
  refine ⟨.ref a, rfl, ?_⟩
  have s13 := s2.trans s3
  have r3 := r1.same s13
  have ew3 := s13 _ _ ew
  have d3 : Dom S0 H3 := (d.same s1).same s13
  walk_at "n"
  refine ⟨_, sqL ew3, fun y ny => ?_⟩
  rw [cut2]
  cases en with
  | none =>
    obtain ⟨H4, h, s4, d4, ey, _⟩ := newE (S := S0) (.lst (([Str.ofString "none"] : List Str).map V.str)) d3 ny
    rw [h]; clear h
    refine ⟨.lst y, rfl, _, sqL ey, lcB0 (walk_src (K := K) (S := .lst y)) S0 (fun j G v => v = .non) d4 (by show 1 < sizeLine; decide) (fun H7 s7 => sqL (s7 _ _ ey)) (fun i G G' v s h => h) (fun S2 j x H7 H7' Z hj hs d7 sm7 s7 y2 hz => ?_) fun D ws' H7 s7 d7 nD _ eD hl hv => ?_⟩
    · obtain ⟨e, hx⟩ := y2
      subst e
      have hj : j < 1 := hj
      have hj : j = 0 := by omega
      subst hj
      cases hx
      walk_at "r"
      exact .inr ⟨rfl, fun H8 s8 => hz _ _ s8 rfl⟩
    have ew7 := s7 _ _ (s4 _ _ ew3)
    have r7 := (r3.same s4).same s7
    walk_at "n"
    refine ⟨_, sqL ew7, fun u2 nu2 => ?_⟩
    rw [cut2]
    obtain ⟨H8, h, s8, d8, eu8, _⟩ := newE (S := S0) (.lst (([Str.ofString "none"] : List Str).map V.str)) d7 nu2
    rw [h]; clear h
    refine ⟨by decide, fun v2 nv2 => ?_⟩
    obtain ⟨H9, h, s9, d9, ev9, _⟩ := newE (S := S0) (.lst (([Str.ofString "none"] : List Str).map V.str)) d8 nv2
    simp only [List.map_cons, List.map_nil] at h
    rw [h]; clear h
    have ul2 : ∀ a ∈ ([Str.ofString "none"] : List Str), Uni a := fun a ha => by rw [List.mem_singleton.mp ha]; exact uni_lit (by decide +kernel)
    refine ⟨_, .lst (sqL (s9 _ _ eu8)) (dps _), _, .lst (sqL ev9) (dps _), shaped_strs ul2, shaped_strs ul2, ?_⟩
    rw [eqvL, decide_eq_true rfl]
    have r9 := (r7.same s8).same s9
    walk_at "n"
    refine ⟨_, _, r9.fa, rfl, ?_⟩
    refine ⟨.ref a, rfl, ?_⟩
    have s1F : Same H1 H9 := ((((s13.trans s4).trans s7).trans s8).trans s9)
    have rF := r9
    have dF := d9
    obtain ⟨na1, na2, na3⟩ := rF.na
    walk_at "n"
    refine ⟨_, _, _, rF.fa, T.cR, T.nR _ (by decide), _, rfl, .inl ⟨rfl, _, sqL rF.fe⟩, ?_⟩
    refine ⟨ea, rfl, es, rF.fe, by omega, ?_⟩
    have keF : Kp [ea] H9 (upd H9 ea (.lst (es ++ [.non]))) := Kp.upd (by simp)
    have eeF : (upd H9 ea (.lst (es ++ [.non]))) ea = some (.lst (es ++ [.non])) := upd_same
    have eaF := keF _ _ (by simpa using fun z => na3 z.symm) rF.fa
    have dG : Dom S0 (upd H9 ea (.lst (es ++ [.non]))) := dF.kp keF (fun z hz => by rw [List.mem_singleton.mp hz, upd_same]; exact fun q => by cases q)
    have gF := hid_kp (S := S0) keF (fun z hz => by rw [List.mem_singleton.mp hz]; exact me)
    generalize upd H9 ea (.lst (es ++ [.non])) = HG at keF eeF eaF dG gF ⊢
    walk_at "n"
    refine ⟨_, _, _, eaF, T.cR, T.nR _ (by decide), _, rfl, ((2 + 2 * p.ways.length + m : Nat) : Int), rfl, _, _, eaF, Nat.le_of_ble_eq_true rfl, ?_⟩
    obtain ⟨HI, h, kI, dI, eI, gI⟩ := setE (C := cR K) (dx := dx) (fs := fsR (.ref l) (2 + 2 * p.ways.length + m) sg lt bg (.ref wa) (.ref ea)) "line_at" (.int (((2 + 2 * p.ways.length + m : Nat) : Int) + 1)) (fsR (.ref l) (2 + 2 * p.ways.length + (m + 1)) sg lt bg (.ref wa) (.ref ea)) (Kp.refl (M := [a]) (H := HG)) ma dG rfl
    have eeI : HI ea = some (.lst (es ++ [.non])) := kI _ _ (by simpa using na3) eeF
    rw [h]; clear h
    refine q _ _ (fun z o nz e => ?_) eI eeI fun e he => ?_
    · simp only [List.mem_cons, List.not_mem_nil, or_false, not_or] at nz
      exact kI _ _ (by simpa using nz.1) (keF _ _ (by simpa using nz.2) (s1F _ _ (s1 _ _ e)))
    · rw [hen] at he
      cases he
      rfl
  | some ps =>
    obtain ⟨lps, okp⟩ := oken ps rfl
    obtain ⟨H4, h, s4, d4, ey, _⟩ := newE (S := S0) (.lst ((ps.map partText).map V.str)) d3 ny
    rw [h]; clear h
    refine ⟨.lst y, rfl, _, sqL ey, lcB0 (walk_src (K := K) (S := .lst y)) S0 (fun j G v => ∀ s, ps[j]? = some s → rPart G v s) d4 (by simp only [List.length_map]; omega) (fun H7 s7 => sqL (s7 _ _ ey)) (fun i G G' v s h t ht => (h t ht).up s) (fun S2 j x H7 H7' Z hj hs d7 sm7 s7 y2 hz => ?_) fun D ws' H7 s7 d7 nD _ eD hl hv => ?_⟩
    · obtain ⟨e, hx⟩ := y2
      subst e
      rw [List.getElem?_map, List.getElem?_map] at hx
      cases e : ps[j]? with
      | none => rw [e] at hx; cases hx
      | some s =>
        rw [e] at hx
        cases hx
        walk_at "r"
        refine .inl ⟨S2, s, rfl, part_low wf (okp s (List.mem_of_getElem? e)), d7, fun H8 r s8 o => hz _ _ s8 fun t ht => ?_⟩
        rw [e] at ht
        cases ht
        exact o
    have hD : All2 (rPart (hid S0 H7)) ws' ps := all2_of (by rw [hl]; simp only [List.length_map]) fun i v s e1 e2 => hv i v e1 s e2
    have ew7 := s7 _ _ (s4 _ _ ew3)
    have r7 := (r3.same s4).same s7
    walk_at "n"
    refine ⟨_, sqL ew7, fun u2 nu2 => ?_⟩
    rw [cut2]
    obtain ⟨H8, h, s8, d8, eu8, _⟩ := newE (S := S0) (.lst ((ps.map partText).map V.str)) d7 nu2
    rw [h]; clear h
    refine ⟨by decide, fun v2 nv2 => ?_⟩
    obtain ⟨H9, h, s9, d9, ev9, _⟩ := newE (S := S0) (.lst (([Str.ofString "none"] : List Str).map V.str)) d8 nv2
    simp only [List.map_cons, List.map_nil] at h
    rw [h]; clear h
    have ul2 : ∀ a ∈ ([Str.ofString "none"] : List Str), Uni a := fun a ha => by rw [List.mem_singleton.mp ha]; exact uni_lit (by decide +kernel)
    have ul3 : ∀ a ∈ ps.map partText, Uni a := fun a ha => by
      obtain ⟨s, hs, rfl⟩ := List.mem_map.mp ha
      exact uni_part (part_low wf (okp s hs))
    have nn : ps.map partText ≠ [Str.ofString "none"] := fun e => by
      cases ps with
      | nil => cases e
      | cons s r =>
        have e1 : partText s = Str.ofString "none" := (List.cons.inj e).1
        have lowp := part_low wf (okp s (by simp))
        have e2 := congrArg (fun z : Str => z.cps.toList.head?) e1
        have e3 : (Str.ofString "none").cps.toList.head? = some 110 := by decide +kernel
        cases s with
        | box n =>
          have h1 : some (48 + n) = some 110 := e2.trans e3
          have := lowp.n1 n rfl
          simp at h1
          omega
        | tur n =>
          have h0 : (partText (.tur n)).cps.toList.head? = some 126 := by
            show ((⟨#[126]⟩ : Str) ++ numC n).cps.toList.head? = _
            rw [tl_cons]; rfl
          have h1 := (h0.symm.trans e2).trans e3
          simp at h1
        | told x =>
          have h0 : (partText (.told x)).cps.toList.head? = some 61 := by
            show ((⟨#[61]⟩ : Str) ++ x).cps.toList.head? = _
            rw [tl_cons]; rfl
          have h1 := (h0.symm.trans e2).trans e3
          simp at h1
    refine ⟨_, .lst (sqL (s9 _ _ eu8)) (dps _), _, .lst (sqL ev9) (dps _), shaped_strs ul3, shaped_strs ul2, ?_⟩
    rw [eqvL, decide_eq_false nn]
    have r9 := (r7.same s8).same s9
    walk_at "n"
    refine ⟨_, _, r9.fa, rfl, ?_⟩
    have eD9 := s9 _ _ (s8 _ _ eD)
    refine ⟨.lst D, rfl, _, sqL eD9, anyS (S := .lst D) (sqL eD9) (by rw [hl]; simp only [List.length_map]; omega) (fun i x H10 Z hx s10 hz => ?_) fun b bs H10 s10 hb1 hb2 => ?_⟩
    · obtain ⟨s, _, pa, rfl, _⟩ := hD.get hx
      walk_at "r"
      exact hz _ (Same.refl _)
    refine ⟨_, rfl, _, hb1, ?_⟩
    rw [hb2]
    refine ⟨.ref a, rfl, ?_⟩
    have r10 := r9.same s10
    have eD10 := s10 _ _ eD9
    walk_at "n"
    refine ⟨_, _, _, r10.fa, T.cR, T.nR _ (by decide), _, rfl, .inl ⟨rfl, _, sqL r10.fe⟩, ?_⟩
    refine ⟨_, .inl ⟨sqL eD10, fun t nt => ?_⟩⟩
    obtain ⟨H11, h, s11, d11, et, ht⟩ := newE (S := S0) (.tup ws') (((d7.same s8).same s9).same s10) nt
    rw [h]; clear h
    have s1F : Same H1 H11 := (((((s13.trans s4).trans s7).trans s8).trans s9).trans s10).trans s11
    have rF := r10.same s11
    have dF := d11
    obtain ⟨na1, na2, na3⟩ := rF.na
    refine ⟨ea, rfl, es, rF.fe, by omega, ?_⟩
    have keF : Kp [ea] H11 (upd H11 ea (.lst (es ++ [.ref t]))) := Kp.upd (by simp)
    have eeF : (upd H11 ea (.lst (es ++ [.ref t]))) ea = some (.lst (es ++ [.ref t])) := upd_same
    have eaF := keF _ _ (by simpa using fun z => na3 z.symm) rF.fa
    have dG : Dom S0 (upd H11 ea (.lst (es ++ [.ref t]))) := dF.kp keF (fun z hz => by rw [List.mem_singleton.mp hz, upd_same]; exact fun q => by cases q)
    have gF := hid_kp (S := S0) keF (fun z hz => by rw [List.mem_singleton.mp hz]; exact me)
    generalize upd H11 ea (.lst (es ++ [.ref t])) = HG at keF eeF eaF dG gF ⊢
    walk_at "n"
    refine ⟨_, _, _, eaF, T.cR, T.nR _ (by decide), _, rfl, ((2 + 2 * p.ways.length + m : Nat) : Int), rfl, _, _, eaF, Nat.le_of_ble_eq_true rfl, ?_⟩
    obtain ⟨HI, h, kI, dI, eI, gI⟩ := setE (C := cR K) (dx := dx) (fs := fsR (.ref l) (2 + 2 * p.ways.length + m) sg lt bg (.ref wa) (.ref ea)) "line_at" (.int (((2 + 2 * p.ways.length + m : Nat) : Int) + 1)) (fsR (.ref l) (2 + 2 * p.ways.length + (m + 1)) sg lt bg (.ref wa) (.ref ea)) (Kp.refl (M := [a]) (H := HG)) ma dG rfl
    have eeI : HI ea = some (.lst (es ++ [.ref t])) := kI _ _ (by simpa using na3) eeF
    rw [h]; clear h
    refine q _ _ (fun z o nz e => ?_) eI eeI fun e he => ?_
    · simp only [List.mem_cons, List.not_mem_nil, or_false, not_or] at nz
      exact kI _ _ (by simpa using nz.1) (keF _ _ (by simpa using nz.2) (s1F _ _ (s1 _ _ e)))
    · rw [hen] at he
      cases he
      exact ⟨t, ws', rfl, gI _ _ (gF _ _ ht), hD.mono fun _ _ o => o.up (((((hid_same s8).trans (hid_same s9)).trans (hid_same s10)).trans (hid_same s11)).trans (gF.trans gI))⟩
end Gt

set_option Elab.async false
set_option linter.all false
set_option maxRecDepth 100000
set_option maxHeartbeats 2000000
namespace Gt
open PySem PySem.Spec PyProof.Rows L2 StX
local macro_rules | `(tactic| walk_at "r") => `(tactic| simp only [tRet, tRetN, tAndV, tOrV, tNotV, tAnd, tOr, tNot, tCB, tCons, tNil, tC, tVar, L2.start, tCl, tOp, tTest, tB, tIf, tIfS, seqE, tAsg, gName, gTup, gLst, gCons, gNil, tPar, tPar3, tTup, tLst, tFld, sFld, sFldAug, tMt, tPr, tMakeR, tMakeL, tCallV, tWith, tSl, tPart, tNoPart, tM1, tM0, tBM, tBM0, tStar, tRevS, tJs, fmtE, tDrop, tNext, tChain, tUn, tYes, gSub, gAttr, ClX.tCMeth, lcE_src, lcE_enum, lcE_rng, lc2E_src, forE_src, forE_enum, forE_rng, forE_zip, iZipS, cxOf, Cx.nox, Cx.blk,
  rI, rI0, rU, rEq, rNe, rAdd, rIsi, rIsiT, rAll, rAny, rEqD, rNeD, rSrc, rSlL, rSlT, rSlS, rCat, rCatT, rNewStrs, rAppend, rIn,
  List.map_cons, List.map_nil, List.length_cons, List.length_nil, List.replicate, List.append_nil, List.cons_append, List.nil_append, List.getElem?_cons_zero, List.getElem?_cons_succ, List.set_cons_zero, List.set_cons_succ, wipe,
  Option.some.injEq, List.cons.injEq, V.int.injEq, V.bl.injEq, V.str.injEq, V.ref.injEq, and_true, true_and, exists_eq_left', exists_eq_left, exists_eq, exists_eq', exists_and_left, Nat.sub_self, Nat.zero_add, Nat.reduceAdd, Nat.reduceSub, Bool.not_true, Bool.not_false, Bool.false_eq_true, ite_true, ite_false, if_true, if_false, and_assoc, Int.ofNat_inj])
local macro_rules | `(tactic| walk_at "n") => `(tactic| (refine later ?_; try walk_at "r"))
local macro_rules | `(tactic| walk_at "m") => `(tactic| (refine later ?_; try walk_at "r"; refine later ?_; try walk_at "r"))
theorem RdS.kpw {K : PySem.W.Frag} {H H' : Hp} {a dx l wa ea : Addr} {p : Prg} {i j : Nat} {sg lt sg' lt' : Str} {bg bg' : V} {ws es ws' : List V} (r : RdS K H a dx l wa ea p i sg lt bg ws es) (k : Kp [a, wa] H H')
    (e : H' a = some (.ins (cR K) dx (fsR (.ref l) j sg' lt' bg' (.ref wa) (.ref ea)))) (ew : H' wa = some (.lst ws')) : RdS K H' a dx l wa ea p j sg' lt' bg' ws' es := by
  obtain ⟨n1, n2, n3⟩ := r.na
  exact ⟨e, k _ _ (by simp only [List.mem_cons, List.not_mem_nil, or_false, not_or]; exact ⟨n1, r.n1⟩) r.fl, ew, k _ _ (by simp only [List.mem_cons, List.not_mem_nil, or_false, not_or]; exact ⟨n3, fun z => r.n3 z.symm⟩) r.fe, r.n1, r.n2, r.n3⟩
theorem RdS.kpe {K : PySem.W.Frag} {H H' : Hp} {a dx l wa ea : Addr} {p : Prg} {i j : Nat} {sg lt sg' lt' : Str} {bg bg' : V} {ws es es' : List V} (r : RdS K H a dx l wa ea p i sg lt bg ws es) (k : Kp [a, ea] H H')
    (e : H' a = some (.ins (cR K) dx (fsR (.ref l) j sg' lt' bg' (.ref wa) (.ref ea)))) (ew : H' ea = some (.lst es')) : RdS K H' a dx l wa ea p j sg' lt' bg' ws es' := by
  obtain ⟨n1, n2, n3⟩ := r.na
  exact ⟨e, k _ _ (by simp only [List.mem_cons, List.not_mem_nil, or_false, not_or]; exact ⟨n1, r.n2⟩) r.fl, k _ _ (by simp only [List.mem_cons, List.not_mem_nil, or_false, not_or]; exact ⟨n2, r.n3⟩) r.fw, ew, r.n1, r.n2, r.n3⟩
def sp_Reader_all_lines (K : PySem.W.Frag) : Sp := fun vs H Q _ => ∃ (S0 : List Addr) (a dx l wa ea : Addr) (p : Prg) (sg lt : Str) (bg : V), vs = [.ref a] ∧ RdS K H a dx l wa ea p 0 sg lt bg [] [] ∧ WF p ∧ a ∈ S0 ∧ wa ∈ S0 ∧ ea ∈ S0 ∧ Dom S0 H ∧
  ∀ H' b ws es, Kp [a, wa, ea] H H' → RdS K H' a dx l wa ea p p.n p.signs p.letters b ws es → rStand (hid S0 H') b (p.m0, p.t0) → All2 (oRow K (hid S0 H')) ws p.ways → All2 (oEnd (hid S0 H')) es p.ends → Q .non H'
theorem sc_Reader_all_lines : FnScope ["self", "mode"] ["self"] (defScope (inClass (top 47) 3)) := ⟨rfl, rfl, rfl, by decide +kernel, rfl, by decide +kernel, by decide +kernel⟩
theorem ok_Reader_all_lines {P : Program} {w : World} {K : PySem.W.Frag} {mg : Str → Option Value} {base : Heap} (D : Mth K (cls_Reader K) "all_lines" "Reader.all_lines" (inClass (top 47) 3) ["self"]) (T : Glo K mg) (m_first_line : GM P w K mg base 3 (cls_Reader K) "first_line" (sp_Reader_first_line K)) (m_begin_line : GM P w K mg base 3 (cls_Reader K) "begin_line" (sp_Reader_begin_line K)) (m_one_mode : GM P w K mg base 6 (cls_Reader K) "one_mode" (sp_Reader_one_mode K)) (m_end_line : GM P w K mg base 3 (cls_Reader K) "end_line" (sp_Reader_end_line K)) (m_need : GM P w K mg base 1 (cls_Reader K) "need" (sp_Reader_need K))  : GM P w K mg base 7 (cls_Reader K) "all_lines" (sp_Reader_all_lines K) := by
  have nd := sc_Reader_all_lines.nd
  refine D.go sc_Reader_all_lines (fun vs H Q E h => ?_) (fun f cdv A outer s0 H vs Q E hr h => ?_)
  · obtain ⟨S0, a, dx, l, wa, ea, p, sg, lt, bg, rfl, r, wf, ma, mw, me, d, q⟩ := h; rfl
  obtain ⟨S0, a, dx, l, wa, ea, p, sg, lt, bg, rfl, r, wf, ma, mw, me, d, q⟩ := h
  refine ⟨_, (pss_cons (ps_expr (pc_m0 m_first_line T.cR hr (pv 0)))
  (pss_cons (ps_expr (pc_m0 m_begin_line T.cR hr (pv 0)))
  (pss_cons (ps_expr (pc_m0 m_one_mode T.cR hr (pv 0)))
  (pss_cons (ps_while PassesOwn.never (PW.pt (pw_and (pt_cmpR op_lt (pe_fld (pv 0) rfl) (pe_callB call_lenS (by rfl) T.b_len (by decide +kernel) (pa_cons (pe_fld (pv 0) rfl) pa_nil)) (nomark _)) (pw_and1 (pt_cmpR op_eq (pe_ix ix_src (pe_split (pe_ix ix_src (pe_fld (pv 0) rfl) (pe_fld (pv 0) rfl) (fun _ _ => rfl)) pe_str) pe_int (fun _ _ => rfl)) pe_str (nomark _)))))
  (pss_one (ps_expr (pc_m0 m_one_mode T.cR hr (pv 0)))))
  (pss_cons (ps_for PassesOwn.never rfl (pi_range1 (by rfl) T.b_range (pa_cons (pe_callB call_lenS (by rfl) T.b_len (by decide +kernel) (pa_cons (pe_fld (pv 0) rfl) pa_nil)) pa_nil)) (pg_name (i := 1) nd rfl (by first | exact Or.inl rfl | exact Or.inr rfl))
  (pss_one (ps_expr (pc_m m_end_line T.cR hr (pv 0) (pa_cons (pv 1) pa_nil)))))
  (pss_one (ps_expr (pc_m m_need T.cR hr (pv 0) (pa_cons (pe_cmpR op_eq (pe_fld (pv 0) rfl) (pe_callB call_lenS (by rfl) T.b_len (by decide +kernel) (pa_cons (pe_fld (pv 0) rfl) pa_nil)) (nomark _)) pa_nil))))))))), ?_⟩
  clear nd hr
  have sz := sizeL
  have pn : p.n = 2 + 3 * p.ways.length := rfl
  have l1 := wf.w1
  have l3 := wf.w3
  have ma1 : ∀ z ∈ [a], z ∈ S0 := fun z hz => by rw [List.mem_singleton.mp hz]; exact ma
  have ma2 : ∀ z ∈ [a, wa], z ∈ S0 := fun z hz => by
    simp only [List.mem_cons, List.not_mem_nil, or_false] at hz
    rcases hz with rfl | rfl
    · exact ma
    · exact mw
  have ma3 : ∀ z ∈ [a, ea], z ∈ S0 := fun z hz => by
    simp only [List.mem_cons, List.not_mem_nil, or_false] at hz
    rcases hz with rfl | rfl
    · exact ma
    · exact me
  walk_at "r"
  refine ⟨_, _, r.fa, rfl, ?_⟩
  refine ⟨a, dx, l, wa, ea, p, sg, lt, bg, [], [], rfl, r, wf, fun H1 k1 e1 => ?_⟩
  have r1 := r.own k1 e1
  have d1 : Dom S0 H1 := d.kp k1 fun z hz => by rw [List.mem_singleton.mp hz, e1]; exact fun q => by cases q
  walk_at "n"
  refine ⟨_, _, r1.fa, rfl, ?_⟩
  refine ⟨S0, a, dx, l, wa, ea, p, p.signs, p.letters, bg, [], [], rfl, r1, wf, ma, d1, fun H2 b k2 e2 hb => ?_⟩
  have r2 := r1.own k2 e2
  have d2 : Dom S0 H2 := d1.kp k2 fun z hz => by rw [List.mem_singleton.mp hz, e2]; exact fun q => by cases q
  walk_at "n"
  refine ⟨_, _, r2.fa, rfl, ?_⟩
  refine ⟨S0, a, dx, l, wa, ea, p, 0, p.signs, b, [], [], rfl, r2, wf, by omega, rfl, ma, mw, d2, fun H3 v k3 e3 ew3 hv => ?_⟩
  have r3 := r2.kpw k3 e3 ew3
  have dk : ∀ {H H' : Hp} {ws : List V} {fs}, Dom S0 H → Kp [a, wa] H H' → H' a = some (.ins (cR K) dx fs) → H' wa = some (.lst ws) → Dom S0 H' := fun d k ea ew => d.kp k fun z hz => by
    simp only [List.mem_cons, List.not_mem_nil, or_false] at hz
    rcases hz with rfl | rfl
    · rw [ea]; exact fun q => by cases q
    · rw [ew]; exact fun q => by cases q
  have d3 := dk d2 k3 e3 ew3
  refine later ?_
  have hd2 : hid S0 H2 = hid S0 H2 := rfl
  refine ⟨fun n σ H' => ∃ mm ws, n = p.ways.length - mm ∧ mm ≤ p.ways.length ∧ Kp [a, wa] H2 H' ∧ Dom S0 H' ∧ RdS K H' a dx l wa ea p (2 + 2 * mm) p.signs p.letters b ws [] ∧ ws.length = mm ∧ (∀ (j : Nat) v row, ws[j]? = some v → p.ways[j]? = some row → oRow K (hid S0 H') v row) ∧ σ = [some (.ref a), none], ⟨_, 1, [v], rfl, l1, k3, d3, r3, rfl, fun j u row e1 e2 => ?_, rfl⟩, ?_⟩
  · match j, e1 with
    | 0, e1 => cases e1; exact hv row e2
    | n + 1, e1 => simp at e1
  rintro n σ H4 ⟨mm, ws, rfl, hmm, k4, d4, r4, lw, hws, rfl⟩
  have lm : ((linesS p p.n).map V.str).length = p.n := by rw [List.length_map, linesS_len]
  have hi : 2 + 2 * mm < p.n := by omega
  walk_at "r"
  refine ⟨_, _, _, r4.fa, T.cR, T.nR _ (by decide), _, rfl, _, _, _, r4.fa, T.cR, T.nR _ (by decide), _, rfl, .lst l, rfl, _, sqL r4.fl, trivial, ((2 + 2 * mm : Nat) : Int), rfl, ?_⟩
  rw [lm, decide_eq_true (by omega)]
  walk_at "r"
  refine ⟨_, _, _, r4.fa, T.cR, T.nR _ (by decide), _, rfl, _, _, _, r4.fa, T.cR, T.nR _ (by decide), _, rfl, .lst l, rfl, _, ((2 + 2 * mm : Nat) : Int), rfl, sqL r4.fl, trivial, .str (lineS p (2 + 2 * mm)), atI_nat (by rw [List.getElem?_map, linesS_at hi]; rfl), ⟨_, rfl⟩, lineS p (2 + 2 * mm), rfl, rfl, by have := line_len wf hi; omega, ?_⟩
  rw [line_split wf hi]
  intro t nt
  obtain ⟨H5, h, s5, d5, et, _⟩ := newE (S := S0) (.lst ((lineAt p (2 + 2 * mm)).map V.str)) d4 nt
  rw [h]; clear h
  have r5 := r4.same s5
  have k5 := k4.trans (Kp.of s5)
  by_cases hm : mm < p.ways.length
  · have hla := lineAt_way (k := 0) hm (by decide)
    have et : H5 t = some (.lst (.str "way" :: .str (numC mm) :: .str ⟨#[120 + 0]⟩ :: .str (numC (p.way mm 0).1) :: ((p.way mm 0).2.map settText).map V.str)) := by
      rw [et]
      have : lineAt p (2 + 2 * mm) = _ := hla
      rw [this]
      rfl
    refine ⟨.lst t, rfl, _, sqL et, trivial, _, at0, rfl, ite_t (decide_eq_true rfl) ?_⟩
    refine ⟨fun σ' H' => σ' = [some (.ref a), none] ∧ ∃ ws', Kp [a, wa] H2 H' ∧ Dom S0 H' ∧ RdS K H' a dx l wa ea p (2 + 2 * (mm + 1)) p.signs p.letters b ws' [] ∧ ws'.length = mm + 1 ∧ ∀ (j : Nat) v row, ws'[j]? = some v → p.ways[j]? = some row → oRow K (hid S0 H') v row,
      fun σ' H' ⟨eσ, ws', q1, q2, q3, q4, q5⟩ => ⟨p.ways.length - (mm + 1), by omega, mm + 1, rfl, by omega, q1, q2, ws', q3, q4, q5, eσ⟩, _, _, r5.fa, rfl, ?_⟩
    refine ⟨S0, a, dx, l, wa, ea, p, mm, p.signs, b, ws, [], rfl, r5, wf, hm, lw, ma, mw, d5, fun H6 v6 k6 e6 ew6 hv6 => ?_⟩
    have g56 := hid_kp k6 ma2
    refine ⟨rfl, ws ++ [v6], k5.trans k6, dk d5 k6 e6 ew6, r5.kpw k6 e6 ew6, by simp [lw], fun j u row e1 e2 => ?_⟩
    by_cases hj : j < ws.length
    · rw [List.getElem?_append_left hj] at e1
      exact (hws j u row e1 e2).up ((hid_same s5).trans g56)
    · have hj2 : j = mm := by
        have := (List.getElem?_eq_some_iff.mp e1).1
        rw [List.length_append] at this
        have : j < ws.length + 1 := this
        omega
      subst hj2
      rw [List.getElem?_append_right (by omega), lw, Nat.sub_self] at e1
      cases e1
      exact hv6 row e2
  · have em : mm = p.ways.length := by omega
    subst em
    have et : H5 t = some (.lst (.str "end" :: .str (numC 0) :: (match p.ends.getD 0 none with | none => [Str.ofString "none"] | some ps => ps.map partText).map V.str)) := by
      rw [et]
      have : lineAt p (2 + 2 * p.ways.length) = _ := lineAt_end (p := p) 0
      rw [this]
      rfl
    refine ⟨.lst t, rfl, _, sqL et, trivial, _, at0, rfl, ite_f (decide_eq_false (by decide +kernel)) ?_⟩
    have hws5 : All2 (oRow K (hid S0 H5)) ws p.ways := all2_of lw fun i v x e1 e2 => (hws i v x e1 e2).up (hid_same s5)
    walk_at "n"
    refine ⟨_, _, _, r5.fa, T.cR, T.nR _ (by decide), _, rfl, .lst wa, rfl, ws, sqL r5.fw, trivial, by omega, by omega, ?_⟩
    rw [lw]
    have k25 : Kp [a, wa, ea] H H5 := ((k1.mono (by simp)).trans (k2.mono (by simp))).trans (k5.mono fun z hz => by
      simp only [List.mem_cons, List.not_mem_nil, or_false] at hz ⊢
      rcases hz with rfl | rfl
      · exact .inl rfl
      · exact .inr (.inl rfl))
    have hb5 : rStand (hid S0 H5) b (p.m0, p.t0) := hb.up (hid_kp k5 ma2)
    refine forB (walk_range (lo := 0) (n := p.ways.length)) (fun i σ H' => Kp [a, wa, ea] H H' ∧ Dom S0 H' ∧ Same (hid S0 H5) (hid S0 H') ∧ (∃ es, RdS K H' a dx l wa ea p (2 + 2 * p.ways.length + i) p.signs p.letters b ws es ∧ es.length = i ∧ ∀ (j : Nat) v e, es[j]? = some v → p.ends[j]? = some e → oEnd (hid S0 H') v e) ∧ ∃ x1, σ = [some (.ref a), x1])
      ⟨k25, d5, Same.refl _, ⟨[], r5, rfl, fun j v e h => by simp at h⟩, _, rfl⟩ (fun _ _ _ _ _ => trivial) ?_ ?_
    · rintro i x σ H6 H6' hi' ⟨k6, d6, g6, ⟨es, r6, les, hes⟩, x1, rfl⟩ ⟨e, ex⟩
      subst e
      have ex : x = .int ((i : Nat) : Int) := by rw [ex]; show V.int (0 + (i : Int)) = _; rw [Int.zero_add]
      subst ex
      walk_at "r"
      refine ⟨_, _, r6.fa, rfl, ?_⟩
      refine ⟨S0, a, dx, l, wa, ea, p, i, p.signs, p.letters, b, ws, es, rfl, r6, wf, hi', les, ma, me, d6, fun H7 v7 k7 e7 ee7 hv7 => ?_⟩
      have g67 := hid_kp k7 ma3
      have d7 : Dom S0 H7 := d6.kp k7 fun z hz => by
        simp only [List.mem_cons, List.not_mem_nil, or_false] at hz
        rcases hz with rfl | rfl
        · rw [e7]; exact fun q => by cases q
        · rw [ee7]; exact fun q => by cases q
      refine ⟨k6.trans (k7.mono fun z hz => ?_), d7, g6.trans g67, es ++ [v7], r6.kpe k7 e7 ee7, by simp [les], fun j u e e1 e2 => ?_⟩
      · simp only [List.mem_cons, List.not_mem_nil, or_false] at hz ⊢
        rcases hz with rfl | rfl
        · exact .inl rfl
        · exact .inr (.inr rfl)
      · by_cases hj : j < es.length
        · rw [List.getElem?_append_left hj] at e1
          exact (hes j u e e1 e2).up g67
        · have hj2 : j = i := by
            have := (List.getElem?_eq_some_iff.mp e1).1
            rw [List.length_append] at this
            have : j < es.length + 1 := this
            omega
          subst hj2
          rw [List.getElem?_append_right (by omega), les, Nat.sub_self] at e1
          cases e1
          exact hv7 e e2
    · rintro σ H6 ⟨k6, d6, g6, ⟨es, r6, les, hes⟩, x1, rfl⟩
      walk_at "n"
      have en : 2 + 2 * p.ways.length + p.ways.length = p.n := by omega
      rw [en] at r6
      walk_at "n"
      refine ⟨_, _, r6.fa, rfl, _, _, _, r6.fa, T.cR, T.nR _ (by decide), _, rfl, _, _, _, r6.fa, T.cR, T.nR _ (by decide), _, rfl, .lst l, rfl, _, sqL r6.fl, trivial, rfl, ?_⟩
      rw [lm]
      refine ⟨.ref a, by rw [decide_eq_true rfl], ?_⟩
      exact q _ _ _ _ k6 r6 (hb5.up g6) (hws5.mono fun _ _ z => z.up g6) (all2_of (by rw [les, wf.el]) fun i v e e1 e2 => hes i v e e1 e2)
def sp_Program_read (K : PySem.W.Frag) : Sp := fun vs H Q _ => ∃ (S0 : List Addr) (p : Prg), vs = [.ref (cP K), .str (progText p)] ∧ WF p ∧ Dom S0 H ∧ ∀ H' r, Same H H' → oPrg K (hid S0 H') r p → Q r H'
theorem sc_Program_read : FnScope ["cls", "text", "reader"] ["cls", "text"] (defScope (inClass (top 46) 1)) := ⟨rfl, rfl, rfl, by decide +kernel, rfl, by decide +kernel, by decide +kernel⟩
theorem ok_Program_read {P : Program} {w : World} {K : PySem.W.Frag} {mg : Str → Option Value} {base : Heap} {gR : Addr} (D : Adr K gR "read" "Program.read" (inClass (top 46) 1) ["cls", "text"]) (T : Glo K mg) (c_Reader : GC P w K mg base 1 "Reader" (cls_Reader K) (sp_Reader_UinitU K)) (m_all_lines : GM P w K mg base 7 (cls_Reader K) "all_lines" (sp_Reader_all_lines K)) (c_Program : GC P w K mg base 7 "Program" (cls_Program K) (sp_Program_UinitU K))  : FnR P w K mg base CX0 9 gR (sp_Program_read K) ∧ PySem.W.keepIn K (.ref gR) = true := by
  have nd := sc_Program_read.nd
  refine D.go sc_Program_read (fun vs H Q E h => ?_) (fun f cdv A outer s0 H vs Q E hr h => ?_)
  · obtain ⟨S0, p, rfl, wf, d, q⟩ := h; rfl
  obtain ⟨S0, p, rfl, wf, d, q⟩ := h
  refine ⟨_, (pss_cons (ps_set (i := 2) nd rfl (by first | exact Or.inl rfl | exact Or.inr rfl) (pc_c c_Reader hr (pa_cons (pe_split (pv 1) pe_str) pa_nil)))
  (pss_cons (ps_expr (pc_m0 m_all_lines T.cR hr (pv 2)))
  (pss_one (ps_ret (pc_cl (i := 0) c_Program hr (pa_cons (pe_fld (pv 2) rfl) (pa_cons (pe_fld (pv 2) rfl) (pa_cons (pe_fld (pv 2) rfl) (pa_cons (pe_fld (pv 2) rfl) (pa_cons (pe_fld (pv 2) rfl) pa_nil))))) rfl (.inl rfl)))))), ?_⟩
  clear nd hr
  have sz := sizeL
  have pn : p.n = 2 + 3 * p.ways.length := rfl
  have pl := text_len wf
  walk_at "r"
  refine ⟨rfl, by omega, ?_⟩
  rw [text_split wf]
  intro l nl
  obtain ⟨H1, h, s1, d1, el, _⟩ := newE (S := S0) (.lst ((linesS p p.n).map V.str)) d nl
  rw [h]; clear h
  intro a dx na nd ne
  refine ⟨a, dx, l, rfl, upd_same, fun H2 bg wa ea k2 e2 nw nea n1 n2 n3 ew ee => ?_⟩
  have s2 := made na nd k2
  have k2' : ∀ z o, z ≠ a → z ≠ dx → H1 z = some o → H2 z = some o := fun z o h1 _ e => s2 z o e
  have nw1 : H1 wa = none := by
    cases q : H1 wa with
    | none => rfl
    | some o =>
      have n4 : wa ≠ dx := fun z => by rw [z, nd] at q; cases q
      rw [upd_ne n2, upd_ne n4, q] at nw
      cases nw
  have ne1 : H1 ea = none := by
    cases q : H1 ea with
    | none => rfl
    | some o =>
      have n4 : ea ≠ dx := fun z => by rw [z, nd] at q; cases q
      rw [upd_ne n3, upd_ne n4, q] at nea
      cases nea
  have el2 := s2 _ _ el
  have r2 : RdS K H2 a dx l wa ea p 0 "" "" bg [] [] := ⟨e2, el2, ew, ee, fun z => (by rw [z, nw1] at el; cases el), fun z => (by rw [z, ne1] at el; cases el), n1⟩
  have d2 : Dom (a :: wa :: ea :: S0) H2 := .cons e2 (.cons ew (.cons ee (d1.same s2)))
  refine ⟨rfl, ?_⟩
  walk_at "n"
  refine ⟨_, _, e2, rfl, ?_⟩
  refine ⟨a :: wa :: ea :: S0, a, dx, l, wa, ea, p, "", "", bg, rfl, r2, wf, by simp, by simp, by simp, d2, fun H3 b ws es k3 r3 hb hws hes => ?_⟩
  have s13 : Same H1 H3 := fun z o e => k3 z o (by
    simp only [List.mem_cons, List.not_mem_nil, or_false, not_or]
    exact ⟨fun q => (by rw [q, na] at e; cases e), fun q => (by rw [q, nw1] at e; cases e), fun q => (by rw [q, ne1] at e; cases e)⟩) (s2 _ _ e)
  have d3 := d1.same s13
  have m3 : Same (hid (a :: wa :: ea :: S0) H3) (hid S0 H3) := hid_mono fun z hz => by simp [hz]
  walk_at "n"
  refine ⟨_, _, _, r3.fa, T.cR, T.nR _ (by decide), _, rfl, _, _, _, r3.fa, T.cR, T.nR _ (by decide), _, rfl, _, _, _, r3.fa, T.cR, T.nR _ (by decide), _, rfl, _, _, _, r3.fa, T.cR, T.nR _ (by decide), _, rfl, _, _, _, r3.fa, T.cR, T.nR _ (by decide), _, rfl, ?_⟩
  intro x dx2 nx nd2 ne2
  have kx : Kp [] H3 (upd (upd H3 dx2 (.own x)) x (.ins (cP K) dx2 [])) := fun z o _ e => by
    have h1 : z ≠ x := fun q => by rw [q, nx] at e; cases e
    have h2 : z ≠ dx2 := fun q => by rw [q, nd2] at e; cases e
    rw [upd_ne h1, upd_ne h2]
    exact e
  have ex : (upd (upd H3 dx2 (.own x)) x (.ins (cP K) dx2 [])) x = some (.ins (cP K) dx2 []) := upd_same
  have g4 := same_cons (S := S0) nx (M := []) (by simp) kx
  have gm := m3.trans g4
  have d4 : Dom (x :: S0) (upd (upd H3 dx2 (.own x)) x (.ins (cP K) dx2 [])) := .cons ex (d3.kp kx (by simp))
  have ws0 : wa ∉ S0 := fun q => d1 wa q nw1
  have es0 : ea ∉ S0 := fun q => d1 ea q ne1
  refine ⟨x :: S0, x, dx2, .lst wa, .lst ea, ws, es, p, b, rfl, ex, by simp, d4, g4 _ _ (by rw [hid_at ws0]; exact r3.fw), hws.mono fun _ _ z => z.up gm, g4 _ _ (by rw [hid_at es0]; exact r3.fe), hes.mono fun _ _ z => z.up gm, hb.up gm, wf, fun H5 b5 c5 d5 k5 e5 hb5 hc5 hd5 => ⟨rfl, ?_⟩⟩
  have s5 := (s1.trans s13).trans (made nx nd2 k5)
  have mm : Same (hid (x :: S0) H5) (hid S0 H5) := hid_mono fun z hz => by simp [hz]
  refine q _ _ s5 ⟨x, dx2, b5, c5, d5, rfl, ?_, hb5.up mm, hc5.up mm, hd5.up mm⟩
  rw [hid_at (d3.new nx)]
  exact e5
def sp_Program_UeqU (K : PySem.W.Frag) : Sp := fun vs H Q _ => ∃ (v w : V) (p : Prg), vs = [v, w] ∧ oPrg K H v p ∧ oPrg K H w p ∧ WF p ∧ ∀ H', Same H H' → Q (.bl true) H'
theorem sc_Program_UeqU : FnScope ["self", "other"] ["self", "other"] (defScope (inClass (top 46) 4)) := ⟨rfl, rfl, rfl, by decide +kernel, rfl, by decide +kernel, by decide +kernel⟩
theorem ok_Program_UeqU {P : Program} {w : World} {K : PySem.W.Frag} {mg : Str → Option Value} {base : Heap} (D : Spc K (cls_Program K) "__eq__" "Program.__eq__" (inClass (top 46) 4) ["self", "other"]) (T : Glo K mg) (s_Program : GS P w K mg base 4 (cls_Program K) "__str__" (sp_Program_UstrU K))  : GS P w K mg base 7 (cls_Program K) "__eq__" (sp_Program_UeqU K) := by
  have nd := sc_Program_UeqU.nd
  refine D.go sc_Program_UeqU (fun vs H Q E h => ?_) (fun f cdv A outer s0 H vs Q E hr h => ?_)
  · obtain ⟨v, w, p, rfl, ⟨a, dx, b1, c1, d1, rfl, o1⟩, ⟨a', dx', b2, c2, d2, rfl, o2⟩, wf, q⟩ := h; rfl
  obtain ⟨v, w, p, rfl, ⟨a, dx, b1, c1, d1, rfl, o1⟩, ⟨a', dx', b2, c2, d2, rfl, o2⟩, wf, q⟩ := h
  refine ⟨_, (pss_one (ps_ret (pe_and (pe_callB call_isi (by rfl) T.b_isinstance (by decide +kernel) (pa_cons (pv 1) (pa_cons (pe_gl T.v_Program) pa_nil))) (pe_one (pe_cmpR op_eq (pe_callTy (cr_strOwn s_Program hr) (by rfl) T.b_str (by decide +kernel) (pa_cons (pv 0) pa_nil)) (pe_callTy (cr_strOwn s_Program hr) (by rfl) T.b_str (by decide +kernel) (pa_cons (pv 1) pa_nil)) (nomark _)))))), ?_⟩
  clear nd hr
  walk_at "r"
  refine ⟨_, _, .own _, T.iP o2.a, true, T.kP, ?_⟩
  walk_at "r"
  refine ⟨_, _, o1.a, .ref a, p, rfl, ⟨a, dx, b1, c1, d1, rfl, o1⟩, wf, fun H1 s1 => ⟨_, rfl, _, _, s1 _ _ o2.a, ?_⟩⟩
  refine ⟨.ref a', p, rfl, ⟨a', dx', b2, c2, d2, rfl, o2.up s1⟩, wf, fun H2 s2 => ⟨_, rfl, rfl, ?_⟩⟩
  rw [decide_eq_true rfl]
  exact q _ (s1.trans s2)
end Gt

set_option Elab.async false
set_option linter.all false
set_option maxRecDepth 100000
set_option maxHeartbeats 2000000
namespace Gt
open PySem PySem.Spec PyProof.Rows L2 StX
local macro_rules | `(tactic| walk_at "r") => `(tactic| simp only [tRet, tRetN, tAndV, tOrV, tNotV, tAnd, tOr, tNot, tCB, tCons, tNil, tC, tVar, L2.start, tCl, tOp, tTest, tB, tIf, tIfS, seqE, tAsg, gName, gTup, gLst, gCons, gNil, tPar, tPar3, tTup, tLst, tFld, sFld, sFldAug, tMt, tPr, tMakeR, tMakeL, tCallV, tWith, tSl, tPart, tNoPart, tM1, tM0, tBM, tBM0, tStar, tRevS, tJs, fmtE, tDrop, tNext, tChain, tUn, tYes, gSub, gAttr, ClX.tCMeth, lcE_src, lcE_enum, lcE_rng, lc2E_src, forE_src, forE_enum, forE_rng, forE_zip, iZipS, cxOf, Cx.nox, Cx.blk,
  rI, rI0, rU, rEq, rNe, rAdd, rIsi, rIsiT, rAll, rAny, rEqD, rNeD, rSrc, rSlL, rSlT, rSlS, rCat, rCatT, rNewStrs, rAppend, rIn,
  List.map_cons, List.map_nil, List.length_cons, List.length_nil, List.replicate, List.append_nil, List.cons_append, List.nil_append, List.getElem?_cons_zero, List.getElem?_cons_succ, List.set_cons_zero, List.set_cons_succ, wipe,
  Option.some.injEq, List.cons.injEq, V.int.injEq, V.bl.injEq, V.str.injEq, V.ref.injEq, and_true, true_and, exists_eq_left', exists_eq_left, exists_eq, exists_eq', exists_and_left, Nat.sub_self, Nat.zero_add, Nat.reduceAdd, Nat.reduceSub, Bool.not_true, Bool.not_false, Bool.false_eq_true, ite_true, ite_false, if_true, if_false, and_assoc, Int.ofNat_inj])
local macro_rules | `(tactic| walk_at "n") => `(tactic| (refine later ?_; try walk_at "r"))
local macro_rules | `(tactic| walk_at "m") => `(tactic| (refine later ?_; try walk_at "r"; refine later ?_; try walk_at "r"))
/-- a text of the two letters -/
def tOf (ks : List Nat) : Str := ⟨(ks.map (120 + ·)).toArray⟩
theorem tOf_len (ks : List Nat) : (tOf ks).length = ks.length := by
  show ((ks.map (120 + ·)).toArray).size = _
  simp
theorem tOf_tl (ks : List Nat) : (tOf ks).cps.toList = ks.map (120 + ·) := rfl
theorem tOf_app (ks : List Nat) (k : Nat) : tOf ks ++ (⟨#[120 + k]⟩ : Str) = tOf (ks ++ [k]) := by
  apply TL.ext_tl
  rw [TL.tl_append]
  show ks.map (120 + ·) ++ [120 + k] = (ks ++ [k]).map (120 + ·)
  simp
theorem tOf_of {ks : List Nat} (h : ∀ k ∈ ks, k < 2) : Of "xy" (tOf ks) := fun c hc => by
  rw [tOf_tl] at hc
  obtain ⟨k, hk, rfl⟩ := List.mem_map.mp hc
  have e : (Str.ofString "xy").cps.toList = [120, 121] := by decide +kernel
  rw [e]
  have := h k hk
  have : k = 0 ∨ k = 1 := by omega
  rcases this with rfl | rfl <;> simp
theorem tOf_at {ks : List Nat} {i : Nat} {v : V} (h : ((tOf ks).cps.toList.map fun c => V.str ⟨#[c]⟩)[i]? = some v) : ∃ k, ks[i]? = some k ∧ v = .str ⟨#[120 + k]⟩ := by
  obtain ⟨c, hc, rfl⟩ := at_sign h
  rw [tOf_tl, List.getElem?_map] at hc
  cases e : ks[i]? with
  | none => rw [e] at hc; cases hc
  | some k => rw [e] at hc; cases hc; exact ⟨k, rfl, rfl⟩
def sp_need_input (K : PySem.W.Frag) : Sp := fun vs H Q _ => ∃ l t : Str, vs = [.str l, .str t] ∧ Of l t ∧ ∀ H', Same H H' → Q .non H'
theorem sc_need_input : FnScope ["letters", "text", "at", "letter"] ["letters", "text"] (defScope (top 10)) := ⟨rfl, rfl, rfl, by decide +kernel, rfl, by decide +kernel, by decide +kernel⟩
theorem ok_need_input {P : Program} {w : World} {K : PySem.W.Frag} {mg : Str → Option Value} {base : Heap} (D : Def K mg "need_input" (top 10) ["letters", "text"]) (T : Glo K mg)   : GF P w K mg base 1 "need_input" (sp_need_input K) := by
  have nd := sc_need_input.nd
  refine D.go sc_need_input (fun vs H Q E h => ?_) (fun f cdv A outer s0 H vs Q E hr h => ?_)
  · obtain ⟨l, t, rfl, ho, q⟩ := h; rfl
  obtain ⟨l, t, rfl, ho, q⟩ := h
  refine ⟨_, (pss_cons (ps_if (pt_not (pt_val (pe_callB call_isi (by rfl) T.b_isinstance (by decide +kernel) (pa_cons (pv 1) (pa_cons (pe_bltn (v := .ty "str") (by rfl) T.b_str (by decide +kernel) rfl) pa_nil)))))
  (pss_one ps_never)
  pss_nil)
  (pss_one (ps_for PassesOwn.never rfl (pi_enumS (by rfl) T.b_enumerate (pa_cons (pv 1) pa_nil)) (pg_tup (n := 2) rfl (pgs_cons (pg_name (i := 2) nd rfl (by first | exact Or.inl rfl | exact Or.inr rfl)) (pgs_cons (pg_name (i := 3) nd rfl (by first | exact Or.inl rfl | exact Or.inr rfl)) pgs_nil)))
  (pss_one (ps_if (pt_cmpR op_notIn_sign (pv 3) (pv 0) (by rfl))
  (pss_one ps_never)
  pss_nil))))), ?_⟩
  clear nd hr
  walk_at "r"
  refine ⟨_, _, .ty _, .base (.str _), true, kit_ty (by decide +kernel), ?_⟩
  walk_at "r"
  walk_at "n"
  refine ⟨.txt t, rfl, _, rfl, forB walk_enumS (fun i σ H' => Same H H' ∧ ∃ x y, σ = [some (.str l), some (.str t), x, y]) ⟨Same.refl _, _, _, rfl⟩ (fun i σ H' _ p => rfl) ?_ ?_⟩
  · rintro i x σ H1 H1' hi ⟨s1, x2, x3, rfl⟩ ⟨u, y, z, rfl, nu, rfl, ey, hz⟩
    cases ey
    obtain ⟨c, hc, rfl⟩ := at_sign hz
    have s2 : Same H1 (upd H1 u (.tup [.int (i : Nat), .str ⟨#[c]⟩])) := Same.upd nu
    walk_at "r"
    refine ⟨_, sqT upd_same, rfl, _, _, rfl, _, _, rfl, rfl, c, rfl, ?_⟩
    rw [decide_eq_true (ho c (List.mem_of_getElem? hc))]
    exact ite_f rfl (s1.trans s2)
  · rintro σ H1 ⟨s1, x2, x3, rfl⟩
    exact q _ s1
theorem occ_xy0 : Builtin.Str.occurrences "xy" (⟨#[120]⟩ : Str) 0 (Str.ofString "xy").length 1 = [0] := by decide +kernel
theorem occ_xy1 : Builtin.Str.occurrences "xy" (⟨#[121]⟩ : Str) 0 (Str.ofString "xy").length 1 = [1] := by decide +kernel
def sp_led (K : PySem.W.Frag) : Sp := fun vs H Q _ => ∃ (S : List Addr) (v sv : V) (p : Prg) (now : Stand) (k L : Nat), vs = [v, sv, .str ⟨#[120 + k]⟩] ∧ oPrg K (hid S H) v p ∧ rStand (hid S H) sv now ∧ WF p ∧ StandOk p.signs p.ways.length p.t0.length L now ∧ L ≤ 90000 ∧ k < 2 ∧ Dom S H ∧
  ∀ H' r, Same H H' → rStand (hid S H') r (p.led now k) → Q r H'
theorem sc_led : FnScope ["program", "standing", "letter", "mode", "texts", "later", "settings", "found", "setting"] ["program", "standing", "letter"] (defScope (top 11)) := ⟨rfl, rfl, rfl, by decide +kernel, rfl, by decide +kernel, by decide +kernel⟩
theorem ok_led {P : Program} {w : World} {K : PySem.W.Frag} {mg : Str → Option Value} {base : Heap} (D : Def K mg "led" (top 11) ["program", "standing", "letter"]) (T : Glo K mg) (m_over : GM P w K mg base 1 (cls_Setting K) "over" (sp_Setting_over K))  : GF P w K mg base 2 "led" (sp_led K) := by
  have nd := sc_led.nd
  refine D.go sc_led (fun vs H Q E h => ?_) (fun f cdv A outer s0 H vs Q E hr h => ?_)
  · obtain ⟨S, v, sv, p, now, k, L, rfl, ⟨a, dx, vb, vc, vd, rfl, op⟩, ⟨b, c, rfl, eb, ec⟩, wf, ok, hL, hk, d, q⟩ := h; rfl
  obtain ⟨S, v, sv, p, now, k, L, rfl, ⟨a, dx, vb, vc, vd, rfl, op⟩, ⟨b, c, rfl, eb, ec⟩, wf, ok, hL, hk, d, q⟩ := h
  refine ⟨_, (pss_cons (ps_asg (pv 1) (pg_tup (n := 2) rfl (pgs_cons (pg_name (i := 3) nd rfl (by first | exact Or.inl rfl | exact Or.inr rfl)) (pgs_cons (pg_name (i := 4) nd rfl (by first | exact Or.inl rfl | exact Or.inr rfl)) pgs_nil))))
  (pss_cons (ps_asg (pe_ix ix_src (pe_ix ix_src (pe_fld (pv 0) rfl) (pv 3) (fun _ _ => rfl)) (pe_m1 PySem.F.slot_str_index PySem.F.type_str_index mt_sindex (pe_fld (pv 0) rfl) (pv 2)) (fun _ _ => rfl)) (pg_tup (n := 2) rfl (pgs_cons (pg_name (i := 5) nd rfl (by first | exact Or.inl rfl | exact Or.inr rfl)) (pgs_cons (pg_name (i := 6) nd rfl (by first | exact Or.inl rfl | exact Or.inr rfl)) pgs_nil))))
  (pss_cons (ps_set (i := 7) nd rfl (by first | exact Or.inl rfl | exact Or.inr rfl) (pe_lst pa_nil))
  (pss_cons (ps_for PassesOwn.never rfl (pi_src (pv 6)) (pg_name (i := 8) nd rfl (by first | exact Or.inl rfl | exact Or.inr rfl))
  (pss_one (ps_expr (pe_bm PySem.F.plainAttrs_list PySem.F.slot_list_append PySem.F.type_list_append mt_append (pv 7) (pa_cons (pc_m m_over T.cS hr (pv 8) (pa_cons (pe_ifExp (pt_cmpR op_isN (pe_fld (pv 8) rfl) pe_non (nomark _)) pe_str (pe_ix ix_src (pv 4) (pe_fld (pv 8) rfl) (fun _ _ => rfl))) pa_nil)) pa_nil)))))
  (pss_one (ps_ret (pe_tup (pa_cons (pv 5) (pa_cons (pe_callTy call_tuple_of (by rfl) T.b_tuple (by decide +kernel) (pa_cons (pv 7) pa_nil)) pa_nil))))))))), ?_⟩
  clear nd hr
  have sz := sizeL
  obtain ⟨cw, xs, rfl, ecw, hxs⟩ := id op.c
  obtain ⟨row, w, hrow, hw, lr, okw, ew⟩ := way_at wf ok.m hk
  obtain ⟨rv, hrv, rc, rs, rfl, erc, hrs⟩ := hxs.at hrow
  obtain ⟨wv, hwv, w1, w2, ss, rfl, ew1, ew2, hss⟩ := hrs.at hw
  have b2 := wf.b2
  walk_at "r"
  refine ⟨_, hsqT eb, rfl, _, _, rfl, _, _, rfl, rfl, ?_⟩
  walk_at "n"
  have ea := hid_le _ _ op.a
  refine ⟨_, _, _, ea, T.cP, T.nP _ (by decide), _, rfl, .tup cw, rfl, _, hsqT ecw, trivial, _, atI_nat hrv, ?_⟩
  refine ⟨_, _, _, ea, T.cP, T.nP _ (by decide), _, rfl, ⟨_, rfl⟩, p.letters, rfl, k, [], ?_, .tup rc, rfl, _, hsqT erc, trivial, _, atI_nat hwv, ?_⟩
  · rw [wf.let']
    have : k = 0 ∨ k = 1 := by omega
    rcases this with rfl | rfl
    · exact occ_xy0
    · exact occ_xy1
  refine ⟨_, rfl, _, hsqT ew1, rfl, _, _, rfl, _, _, rfl, rfl, ?_⟩
  walk_at "n"
  refine ⟨by decide, fun fd nf => ?_⟩
  obtain ⟨H1, h, s1, d1, ef, _⟩ := newE (S := S) (.lst []) d nf
  rw [h]; clear h
  walk_at "n"
  have g1 := hid_same s1 (S := S)
  refine ⟨.tup w2, rfl, ss, hsqT (g1 _ _ ew2), forB (walk_src (K := K) (S := .tup w2)) (fun i σ H' => Kp [fd] H H' ∧ H' fd = some (.lst (((w.2.take i).map fun s => s.over now.2).map V.str)) ∧ ∃ x, σ = [some (.ref a), some (.ref b), some (.str ⟨#[120 + k]⟩), some (.int (now.1 : Nat)), some (.ref c), some (.int (w.1 : Nat)), some (.ref w2), some (.ref fd), x]) ⟨Kp.of s1, ef, _, rfl⟩ (fun i σ H' _ pv => sqT (same_kp nf pv.1 _ _ (hid_le _ _ ew2))) ?_ ?_⟩
  · rintro i x σ H2 H2' hi ⟨k2, e2, x8, rfl⟩ ⟨e, hx⟩
    subst e
    have f2 := same_kp nf k2
    obtain ⟨s, hs, pa, pd, rfl, ep⟩ := hss.get hx
    have oks := okw.s s (List.mem_of_getElem? hs)
    have ep2 := f2 _ _ (hid_le _ _ ep)
    have z1 := oks.hl
    have z2 := oks.tll
    have lt : (w.2.take i).length = i := by rw [List.length_take, Nat.min_eq_left]; have := (List.getElem?_eq_some_iff.mp hs).1; omega
    have app : ∃ x_1, H2' fd = some (.lst x_1) ∧ x_1.length < sizeLine ∧ Kp [fd] H (upd H2' fd (.lst (x_1 ++ [.str (s.over now.2)]))) ∧ upd H2' fd (.lst (x_1 ++ [.str (s.over now.2)])) fd = some (.lst (((w.2.take (i + 1)).map fun s => s.over now.2).map V.str)) :=
      ⟨_, e2, by simp only [List.length_map, lt]; have := okw.n; have : i < ss.length := hi; rw [hss.len] at this; omega, k2.trans (Kp.upd (by simp)), by rw [upd_same, List.take_succ, hs]; simp⟩
    walk_at "r"
    refine ⟨.inl ⟨rfl, _, sqL e2⟩, _, _, ep2, rfl, _, _, _, ep2, T.cS, T.nS _ (by decide), _, rfl, ?_⟩
    cases es : s.src with
    | none =>
      refine ite_t vN_non' ?_
      refine ⟨.ref pa, s, "", rfl, ⟨pa, pd, rfl, ep2⟩, by omega, by omega, by decide, ?_⟩
      have eo : overS s.src s.hd s.tl s.tn "" = s.over now.2 := by unfold overS Sett.over; rw [es]
      rw [eo]
      exact app
    | some n =>
      refine ite_f vN_non ?_
      have hn : n < now.2.length := by rw [ok.n]; exact oks.src n es
      have ht := ok.t _ (List.getElem_mem hn)
      have eg : now.2.getD n Str.empty = now.2[n] := by simp [List.getD_eq_getElem?_getD, List.getElem?_eq_getElem hn]
      refine ⟨_, _, _, ep2, T.cS, T.nS _ (by decide), _, rfl, .tup c, rfl, _, (n : Int), by rw [es]; rfl, sqT (f2 _ _ (hid_le _ _ ec)), trivial, .str (now.2.getD n Str.empty), atI_nat (by rw [List.getElem?_map, List.getElem?_eq_getElem hn, eg]; rfl), ?_⟩
      refine ⟨.ref pa, s, _, rfl, ⟨pa, pd, rfl, ep2⟩, by omega, by omega, by rw [eg]; omega, ?_⟩
      have eo : overS s.src s.hd s.tl s.tn (now.2.getD n Str.empty) = s.over now.2 := by unfold overS Sett.over; rw [es]
      rw [eo]
      exact app
  · rintro σ H2 ⟨k2, e2, x8, rfl⟩
    rw [List.take_of_length_le (by rw [hss.len]; exact Nat.le_refl _)] at e2
    have s2 := same_kp nf k2
    have d2 := d.same s2
    walk_at "n"
    walk_at "n"
    refine ⟨_, .inl ⟨sqL e2, fun t nt => ?_⟩⟩
    obtain ⟨H3, h, s3, d3, et, ht⟩ := newE (S := S) (.tup ((w.2.map fun s => s.over now.2).map V.str)) d2 nt
    rw [h]; clear h
    refine ⟨by decide, fun u nu => ?_⟩
    obtain ⟨H4, h, s4, d4, eu, hu⟩ := newE (S := S) (.tup [.int (w.1 : Nat), .ref t]) d3 nu
    rw [h]; clear h
    refine q _ _ ((s2.trans s3).trans s4) ⟨u, t, rfl, ?_, ?_⟩
    · rw [hu]
      unfold Prg.led
      rw [ew]
    · rw [hid_same s4 _ _ ht]
      unfold Prg.led
      rw [ew]
theorem stood_snoc (p : Prg) (ks : List Nat) (k : Nat) : p.stood (ks ++ [k]) = p.led (p.stood ks) k := by
  unfold Prg.stood
  rw [List.foldl_append]
  rfl
theorem stood_ok {p : Prg} (wf : WF p) {L0 : Nat} (h0 : ∀ x ∈ p.t0, x.length ≤ L0) : ∀ ks : List Nat, (∀ k ∈ ks, k < 2) → StandOk p.signs p.ways.length p.t0.length (L0 + 4 * ks.length) (p.stood ks) := by
  intro ks
  suffices h : ∀ (ks : List Nat) (now : Stand) (L : Nat), (∀ k ∈ ks, k < 2) → StandOk p.signs p.ways.length p.t0.length L now → StandOk p.signs p.ways.length p.t0.length (L + 4 * ks.length) (ks.foldl p.led now) from
    fun hk => h ks _ L0 hk ⟨wf.m0, rfl, fun x hx => ⟨(wf.t0 x hx).1, h0 x hx⟩⟩
  intro ks
  induction ks with
  | nil => intro now L _ h; exact h
  | cons k r ih =>
    intro now L hk h
    have h2 := ih (p.led now k) (L + 4) (fun z hz => hk z (by simp [hz])) (led_ok wf h (hk k (by simp)))
    have e : L + 4 + 4 * r.length = L + 4 * (k :: r).length := by rw [List.length_cons]; omega
    rw [e] at h2
    exact h2
def sp_stand (K : PySem.W.Frag) : Sp := fun vs H Q _ => ∃ (S : List Addr) (v : V) (p : Prg) (ks : List Nat), vs = [v, .str (tOf ks)] ∧ oPrg K (hid S H) v p ∧ WF p ∧ (∀ k ∈ ks, k < 2) ∧ ks.length ≤ 1000 ∧ Dom S H ∧ ∀ H' r, Same H H' → rStand (hid S H') r (p.stood ks) → Q r H'
theorem sc_stand : FnScope ["program", "text", "found", "letter"] ["program", "text"] (defScope (top 12)) := ⟨rfl, rfl, rfl, by decide +kernel, rfl, by decide +kernel, by decide +kernel⟩
theorem ok_stand {P : Program} {w : World} {K : PySem.W.Frag} {mg : Str → Option Value} {base : Heap} (D : Def K mg "stand" (top 12) ["program", "text"]) (T : Glo K mg) (g_need_input : GF P w K mg base 1 "need_input" (sp_need_input K)) (g_led : GF P w K mg base 2 "led" (sp_led K))  : GF P w K mg base 3 "stand" (sp_stand K) := by
  have nd := sc_stand.nd
  refine D.go sc_stand (fun vs H Q E h => ?_) (fun f cdv A outer s0 H vs Q E hr h => ?_)
  · obtain ⟨S, v, p, ks, rfl, ⟨a, dx, vb, vc, vd, rfl, op⟩, wf, hks, lks, d, q⟩ := h; rfl
  obtain ⟨S, v, p, ks, rfl, ⟨a, dx, vb, vc, vd, rfl, op⟩, wf, hks, lks, d, q⟩ := h
  refine ⟨_, (pss_cons (ps_expr (pc_g g_need_input hr (pa_cons (pe_fld (pv 0) rfl) (pa_cons (pv 1) pa_nil))))
  (pss_cons (ps_set (i := 2) nd rfl (by first | exact Or.inl rfl | exact Or.inr rfl) (pe_fld (pv 0) rfl))
  (pss_cons (ps_for PassesOwn.never rfl (pi_src (pv 1)) (pg_name (i := 3) nd rfl (by first | exact Or.inl rfl | exact Or.inr rfl))
  (pss_one (ps_set (i := 2) nd rfl (by first | exact Or.inl rfl | exact Or.inr rfl) (pc_g g_led hr (pa_cons (pv 0) (pa_cons (pv 2) (pa_cons (pv 3) pa_nil)))))))
  (pss_one (ps_ret (pv 2)))))), ?_⟩
  clear nd hr
  have sz := sizeL
  have ea := hid_le _ _ op.a
  walk_at "r"
  refine ⟨_, _, _, ea, T.cP, T.nP _ (by decide), _, rfl, p.letters, _, rfl, by rw [wf.let']; exact tOf_of hks, fun H1 s1 => ?_⟩
  walk_at "n"
  refine ⟨_, _, _, s1 _ _ ea, T.cP, T.nP _ (by decide), _, rfl, ?_⟩
  walk_at "n"
  refine ⟨.txt (tOf ks), rfl, _, rfl, forB (walk_src (K := K) (S := .txt (tOf ks))) (fun i σ H' => Same H H' ∧ ∃ r x, rStand (hid S H') r (p.stood (ks.take i)) ∧ σ = [some (.ref a), some (.str (tOf ks)), some r, x]) ⟨s1, vb, _, op.b.up (hid_same s1), rfl⟩ (fun i σ H' _ pv => rfl) ?_ ?_⟩
  · rintro i x σ H2 H2' hi ⟨s2, r, x3, hr', rfl⟩ ⟨e, hx⟩
    subst e
    obtain ⟨k, hk, rfl⟩ := tOf_at hx
    have hk2 := hks k (List.mem_of_getElem? hk)
    walk_at "r"
    have ok := stood_ok wf (L0 := 1000) (fun x hx => (wf.t0 x hx).2) (ks.take i) (fun k hk => hks k (List.mem_of_mem_take hk))
    have li : (ks.take i).length ≤ 1000 := by rw [List.length_take]; omega
    refine ⟨S, .ref a, r, p, _, k, _, rfl, ⟨a, dx, vb, vc, vd, rfl, op.up (hid_same s2)⟩, hr', wf, ok, by omega, hk2, d.same s2, fun H3 r3 s3 h3 => ⟨s2.trans s3, r3, ?_⟩⟩
    rw [List.take_succ, hk]
    show _ ∧ _
    rw [show (ks.take i ++ (some k).toList) = ks.take i ++ [k] from rfl, stood_snoc]
    exact ⟨h3, rfl⟩
  · rintro σ H2 ⟨s2, r, x3, hr', rfl⟩
    rw [List.take_of_length_le (by rw [txt_len, tOf_len]; exact Nat.le_refl _)] at hr'
    walk_at "m"
    exact q _ _ s2 hr'
theorem part_text_len {g : Str} {b L : Nat} {ts : List Str} {q : Part} (h : PartOk g b q) (hn : ts.length = b) (ht : ∀ x ∈ ts, x.length ≤ L) : (q.text ts).length ≤ L + 2 := by
  have at_ : ∀ n, n < b → (ts.getD n Str.empty).length ≤ L := fun n hb => getD_ok (P := fun x => x.length ≤ L) ht (by rw [hn]; exact hb)
  cases q with
  | box n => exact Nat.le_trans (at_ n h) (by omega)
  | tur n =>
    show (revS _).length ≤ _
    rw [revS_len]
    exact Nat.le_trans (at_ n h) (by omega)
  | told x => exact Nat.le_trans h.2.2 (by omega)
theorem row_join (ts : List Str) : ∀ ps : List Part, Txt.join "" (ps.map (Part.text ts)) = rowText ts ps := by
  intro ps
  rw [TL.join_eq]
  have e0 : ∀ x : Str, x ++ (Str.ofString "") = x := fun x => by
    show (⟨x.cps ++ #[]⟩ : Str) = x
    rw [Array.append_empty]
  induction ps with
  | nil => rfl
  | cons q r ih =>
    cases r with
    | nil =>
      show q.text ts = q.text ts ++ Str.empty
      exact (e0 _).symm
    | cons z r =>
      show q.text ts ++ "" ++ Str.join "" ((z :: r).map (Part.text ts)) = q.text ts ++ rowText ts (z :: r)
      rw [ih, e0]
def sp_row_text (K : PySem.W.Frag) : Sp := fun vs H Q _ => ∃ (a b : Addr) (ws : List V) (ps : List Part) (ts : List Str) (g : Str), vs = [.ref a, .ref b] ∧ H a = some (.tup ws) ∧ All2 (rPart H) ws ps ∧ H b = some (.tup (ts.map V.str)) ∧ (∀ q ∈ ps, PartOk g ts.length q) ∧ ps.length ≤ 3 ∧ (∀ x ∈ ts, x.length ≤ 100000) ∧ ∀ H', Same H H' → Q (.str (rowText ts ps)) H'
theorem sc_row_text : FnScope ["row", "texts", "found", "sort", "what"] ["row", "texts"] (defScope (top 13)) := ⟨rfl, rfl, rfl, by decide +kernel, rfl, by decide +kernel, by decide +kernel⟩
theorem ok_row_text {P : Program} {w : World} {K : PySem.W.Frag} {mg : Str → Option Value} {base : Heap} (D : Def K mg "row_text" (top 13) ["row", "texts"]) (T : Glo K mg)   : GF P w K mg base 1 "row_text" (sp_row_text K) := by
  have nd := sc_row_text.nd
  refine D.go sc_row_text (fun vs H Q E h => ?_) (fun f cdv A outer s0 H vs Q E hr h => ?_)
  · obtain ⟨a, b, ws, ps, ts, g, rfl, ea, hws, eb, ok, lp, ht, q⟩ := h; rfl
  obtain ⟨a, b, ws, ps, ts, g, rfl, ea, hws, eb, ok, lp, ht, q⟩ := h
  refine ⟨_, (pss_cons (ps_set (i := 2) nd rfl (by first | exact Or.inl rfl | exact Or.inr rfl) (pe_lst pa_nil))
  (pss_cons (ps_for PassesOwn.never rfl (pi_src (pv 0)) (pg_tup (n := 2) rfl (pgs_cons (pg_name (i := 3) nd rfl (by first | exact Or.inl rfl | exact Or.inr rfl)) (pgs_cons (pg_name (i := 4) nd rfl (by first | exact Or.inl rfl | exact Or.inr rfl)) pgs_nil)))
  (pss_one (ps_if (pt_cmpR op_eq (pv 3) pe_str (nomark _))
  (pss_one (ps_expr (pe_bm PySem.F.plainAttrs_list PySem.F.slot_list_append PySem.F.type_list_append mt_append (pv 2) (pa_cons (pv 4) pa_nil))))
  (pss_one (ps_expr (pe_bm PySem.F.plainAttrs_list PySem.F.slot_list_append PySem.F.type_list_append mt_append (pv 2) (pa_cons (pe_ifExp (pt_cmpR op_eq (pv 3) pe_str (nomark _)) (pe_ix ix_src (pv 1) (pv 4) (fun _ _ => rfl)) (pe_revS (pe_ix ix_src (pv 1) (pv 4) (fun _ _ => rfl)) (pe_un un_neg pe_int))) pa_nil)))))))
  (pss_one (ps_ret (pe_join pe_str (pv 2)))))), ?_⟩
  clear nd hr
  have sz := sizeL
  walk_at "r"
  refine ⟨by decide, fun fd nf => ?_⟩
  obtain ⟨H1, h, s1, d1, ef, _⟩ := newE (S := []) (.lst []) Dom.nil nf
  rw [h]; clear h
  walk_at "m"
  refine ⟨.tup a, rfl, ws, sqT (s1 _ _ ea), forB (walk_src (K := K) (S := .tup a)) (fun i σ H' => Kp [fd] H H' ∧ H' fd = some (.lst (((ps.take i).map (Part.text ts)).map V.str)) ∧ ∃ x y, σ = [some (.ref a), some (.ref b), some (.ref fd), x, y]) ⟨Kp.of s1, ef, _, _, rfl⟩ (fun i σ H' _ pv => sqT (same_kp nf pv.1 _ _ ea)) ?_ ?_⟩
  · rintro i x σ H2 H2' hi ⟨k2, e2, x3, x4, rfl⟩ ⟨e, hx⟩
    subst e
    have f2 := same_kp nf k2
    obtain ⟨part, hpart, pa, rfl, ep⟩ := hws.get hx
    have okp := ok part (List.mem_of_getElem? hpart)
    have hlt : i < ps.length := (List.getElem?_eq_some_iff.mp hpart).1
    have eb2 := f2 _ _ eb
    have app : ∃ x_1, H2' fd = some (.lst x_1) ∧ x_1.length < sizeLine ∧ Kp [fd] H (upd H2' fd (.lst (x_1 ++ [.str (part.text ts)]))) ∧ upd H2' fd (.lst (x_1 ++ [.str (part.text ts)])) fd = some (.lst (((ps.take (i + 1)).map (Part.text ts)).map V.str)) :=
      ⟨_, e2, by simp only [List.length_map, List.length_take]; omega, k2.trans (Kp.upd (by simp)), by rw [upd_same, List.take_succ, hpart]; simp⟩
    walk_at "r"
    refine ⟨_, sqT (f2 _ _ ep), rfl, _, _, rfl, _, _, rfl, rfl, ?_⟩
    have at_ : ∀ n, n < ts.length → atI (ts.map V.str) (n : Int) = some (V.str (ts.getD n Str.empty)) := fun n hn => atI_nat (by rw [List.getElem?_map, List.getElem?_eq_getElem hn]; simp [List.getD_eq_getElem?_getD, List.getElem?_eq_getElem hn])
    cases part with
    | told x =>
      refine ⟨rfl, ite_t (decide_eq_true rfl) ?_⟩
      refine ⟨.inl ⟨rfl, _, sqL e2⟩, ?_⟩
      exact app
    | box n =>
      refine ⟨rfl, ite_f kbt ?_⟩
      refine ⟨.inl ⟨rfl, _, sqL e2⟩, rfl, ite_t (decide_eq_true rfl) ⟨.tup b, rfl, _, (n : Int), rfl, sqT eb2, trivial, _, at_ n okp, ?_⟩⟩
      exact app
    | tur n =>
      refine ⟨rfl, ite_f kut ?_⟩
      have kub : decide (("turned" : Str) = "box") = false := by decide +kernel
      refine ⟨.inl ⟨rfl, _, sqL e2⟩, rfl, ite_f kub ⟨.tup b, rfl, _, (n : Int), rfl, sqT eb2, trivial, _, at_ n okp, _, rfl, ?_, ?_⟩⟩
      · have := getD_ok (P := fun x => x.length ≤ 100000) ht okp
        omega
      · exact app
  · rintro σ H2 ⟨k2, e2, x3, x4, rfl⟩
    have f2 := same_kp nf k2
    have lw : ws.length = ps.length := hws.len
    rw [lw, List.take_of_length_le (Nat.le_refl _)] at e2
    walk_at "m"
    refine ⟨ps.map (Part.text ts), .inl (sqL e2), ?_, ?_⟩
    · have h1 := sum_le (xs := ps.map (Part.text ts)) (b := 100002) fun x hx => by
        obtain ⟨q, hq, rfl⟩ := List.mem_map.mp hx
        exact part_text_len (ok q hq) rfl ht
      have z0 : (Str.ofString "").length = 0 := rfl
      rw [z0]
      rw [List.length_map] at h1 ⊢
      have : ps.length * 100002 ≤ 3 * 100002 := Nat.mul_le_mul_right _ lp
      omega
    · rw [row_join]
      exact q _ f2
end Gt

set_option Elab.async false
set_option linter.all false
set_option maxRecDepth 100000
set_option maxHeartbeats 2000000
namespace Gt
open PySem PySem.Spec PyProof.Rows L2 StX
local macro_rules | `(tactic| walk_at "r") => `(tactic| simp only [tRet, tRetN, tAndV, tOrV, tNotV, tAnd, tOr, tNot, tCB, tCons, tNil, tC, tVar, L2.start, tCl, tOp, tTest, tB, tIf, tIfS, seqE, tAsg, gName, gTup, gLst, gCons, gNil, tPar, tPar3, tTup, tLst, tFld, sFld, sFldAug, tMt, tPr, tMakeR, tMakeL, tCallV, tWith, tSl, tPart, tNoPart, tM1, tM0, tBM, tBM0, tStar, tRevS, tJs, fmtE, tDrop, tNext, tChain, tUn, tYes, gSub, gAttr, ClX.tCMeth, lcE_src, lcE_enum, lcE_rng, lc2E_src, forE_src, forE_enum, forE_rng, forE_zip, iZipS, cxOf, Cx.nox, Cx.blk,
  rI, rI0, rU, rEq, rNe, rAdd, rIsi, rIsiT, rAll, rAny, rEqD, rNeD, rSrc, rSlL, rSlT, rSlS, rCat, rCatT, rNewStrs, rAppend, rIn,
  List.map_cons, List.map_nil, List.length_cons, List.length_nil, List.replicate, List.append_nil, List.cons_append, List.nil_append, List.getElem?_cons_zero, List.getElem?_cons_succ, List.set_cons_zero, List.set_cons_succ, wipe,
  Option.some.injEq, List.cons.injEq, V.int.injEq, V.bl.injEq, V.str.injEq, V.ref.injEq, and_true, true_and, exists_eq_left', exists_eq_left, exists_eq, exists_eq', exists_and_left, Nat.sub_self, Nat.zero_add, Nat.reduceAdd, Nat.reduceSub, Bool.not_true, Bool.not_false, Bool.false_eq_true, ite_true, ite_false, if_true, if_false, and_assoc, Int.ofNat_inj])
local macro_rules | `(tactic| walk_at "n") => `(tactic| (refine later ?_; try walk_at "r"))
local macro_rules | `(tactic| walk_at "m") => `(tactic| (refine later ?_; try walk_at "r"; refine later ?_; try walk_at "r"))
def vO : Option Str → V
  | none => .non
  | some x => .str x
def sp_written_at (K : PySem.W.Frag) : Sp := fun vs H Q _ => ∃ (v sv : V) (p : Prg) (now : Stand) (L : Nat), vs = [v, sv] ∧ oPrg K H v p ∧ rStand H sv now ∧ WF p ∧ StandOk p.signs p.ways.length p.t0.length L now ∧ L ≤ 90000 ∧ ∀ H', Same H H' → Q (vO (p.shown now)) H'
theorem sc_written_at : FnScope ["program", "standing", "row"] ["program", "standing"] (defScope (top 14)) := ⟨rfl, rfl, rfl, by decide +kernel, rfl, by decide +kernel, by decide +kernel⟩
theorem ok_written_at {P : Program} {w : World} {K : PySem.W.Frag} {mg : Str → Option Value} {base : Heap} (D : Def K mg "written_at" (top 14) ["program", "standing"]) (T : Glo K mg) (g_row_text : GF P w K mg base 1 "row_text" (sp_row_text K))  : GF P w K mg base 2 "written_at" (sp_written_at K) := by
  have nd := sc_written_at.nd
  refine D.go sc_written_at (fun vs H Q E h => ?_) (fun f cdv A outer s0 H vs Q E hr h => ?_)
  · obtain ⟨v, sv, p, now, L, rfl, ⟨a, dx, vb, vc, vd, rfl, op⟩, ⟨b, c, rfl, eb, ec⟩, wf, ok, hL, q⟩ := h; rfl
  obtain ⟨v, sv, p, now, L, rfl, ⟨a, dx, vb, vc, vd, rfl, op⟩, ⟨b, c, rfl, eb, ec⟩, wf, ok, hL, q⟩ := h
  refine ⟨_, (pss_cons (ps_set (i := 2) nd rfl (by first | exact Or.inl rfl | exact Or.inr rfl) (pe_ix ix_src (pe_fld (pv 0) rfl) (pe_ix ix_src (pv 1) pe_int (fun _ _ => rfl)) (fun _ _ => rfl)))
  (pss_one (ps_ret (pe_ifExp (pt_cmpR op_isN (pv 2) pe_non (nomark _)) pe_non (pc_g g_row_text hr (pa_cons (pv 2) (pa_cons (pe_ix ix_src (pv 1) pe_int (fun _ _ => rfl)) pa_nil))))))), ?_⟩
  clear nd hr
  have sz := sizeL
  obtain ⟨ce, xs, rfl, ece, hxs⟩ := id op.d
  have hm : now.1 < p.ends.length := by rw [wf.el]; exact ok.m
  have hen := List.getElem?_eq_getElem hm
  obtain ⟨ev, hev, he⟩ := hxs.at hen
  have okn := wf.en _ (List.getElem_mem hm)
  have esh : p.shown now = (p.ends[now.1]).map fun r => rowText now.2 r := by unfold Prg.shown; simp [List.getD_eq_getElem?_getD, hen]
  rw [esh] at q
  walk_at "r"
  refine ⟨_, _, _, op.a, T.cP, T.nP _ (by decide), _, rfl, .tup b, rfl, _, sqT eb, trivial, _, at0, .tup ce, rfl, _, (now.1 : Int), rfl, sqT ece, trivial, ev, atI_nat hev, ?_⟩
  walk_at "n"
  cases e : p.ends[now.1] with
  | none =>
    rw [e] at he q
    have e2 : ev = .non := he
    subst e2
    refine ite_t rfl ?_
    exact q _ (Same.refl _)
  | some ps =>
    rw [e] at he q
    obtain ⟨pa, ws, rfl, epa, hws⟩ := he
    obtain ⟨lp, okp⟩ := okn ps e
    refine ite_f rfl ?_
    refine ⟨.tup b, rfl, _, sqT eb, trivial, _, at1, ?_⟩
    exact ⟨pa, c, ws, ps, now.2, p.signs, rfl, epa, hws, ec, fun z hz => by rw [ok.n]; exact okp z hz, lp, fun x hx => Nat.le_trans (ok.t x hx).2 (by omega), q⟩
def sp_write (K : PySem.W.Frag) : Sp := fun vs H Q _ => ∃ (v : V) (p : Prg) (ks : List Nat), vs = [v, .str (tOf ks)] ∧ oPrg K H v p ∧ WF p ∧ (∀ k ∈ ks, k < 2) ∧ ks.length ≤ 1000 ∧ ∀ H', Same H H' → Q (vO (p.shown (p.stood ks))) H'
theorem sc_write : FnScope ["program", "text"] ["program", "text"] (defScope (top 15)) := ⟨rfl, rfl, rfl, by decide +kernel, rfl, by decide +kernel, by decide +kernel⟩
theorem ok_write {P : Program} {w : World} {K : PySem.W.Frag} {mg : Str → Option Value} {base : Heap} (D : Def K mg "write" (top 15) ["program", "text"]) (T : Glo K mg) (g_written_at : GF P w K mg base 2 "written_at" (sp_written_at K)) (g_stand : GF P w K mg base 3 "stand" (sp_stand K))  : GF P w K mg base 4 "write" (sp_write K) := by
  have nd := sc_write.nd
  refine D.go sc_write (fun vs H Q E h => ?_) (fun f cdv A outer s0 H vs Q E hr h => ?_)
  · obtain ⟨v, p, ks, rfl, op, wf, hks, lks, q⟩ := h; rfl
  obtain ⟨v, p, ks, rfl, op, wf, hks, lks, q⟩ := h
  refine ⟨_, (pss_one (ps_ret (pc_g g_written_at hr (pa_cons (pv 0) (pa_cons (pc_g g_stand hr (pa_cons (pv 0) (pa_cons (pv 1) pa_nil))) pa_nil))))), ?_⟩
  clear nd hr
  have hid0 : hid [] H = H := by funext a; exact hid_at (by simp)
  walk_at "r"
  refine ⟨[], v, p, ks, rfl, by rw [hid0]; exact op, wf, hks, lks, Dom.nil, fun H1 r s1 hr1 => ?_⟩
  have ok := stood_ok wf (L0 := 1000) (fun x hx => (wf.t0 x hx).2) ks hks
  exact ⟨v, r, p, _, _, rfl, op.up s1, hr1.up hid_le, wf, ok, by omega, fun H2 s2 => q _ (s1.trans s2)⟩
def sp_unlike_word (K : PySem.W.Frag) : Sp := fun vs H Q _ => ∃ (v w : V) (p r : Prg), vs = [v, w] ∧ oPrg K H v p ∧ oPrg K H w r ∧ Kin p r ∧ Q .non H
theorem sc_unlike_word : FnScope ["p", "q"] ["p", "q"] (defScope (top 18)) := ⟨rfl, rfl, rfl, by decide +kernel, rfl, by decide +kernel, by decide +kernel⟩
theorem ok_unlike_word {P : Program} {w : World} {K : PySem.W.Frag} {mg : Str → Option Value} {base : Heap} (D : Def K mg "unlike_word" (top 18) ["p", "q"]) (T : Glo K mg)   : GF P w K mg base 1 "unlike_word" (sp_unlike_word K) := by
  have nd := sc_unlike_word.nd
  refine D.go sc_unlike_word (fun vs H Q E h => ?_) (fun f cdv A outer s0 H vs Q E hr h => ?_)
  · obtain ⟨v, w, p, r, rfl, ⟨a, dx, b1, c1, d1, rfl, o1⟩, ⟨a', dx', b2, c2, d2, rfl, o2⟩, kin, q⟩ := h; rfl
  obtain ⟨v, w, p, r, rfl, ⟨a, dx, b1, c1, d1, rfl, o1⟩, ⟨a', dx', b2, c2, d2, rfl, o2⟩, kin, q⟩ := h
  refine ⟨_, (pss_cons (ps_if (pt_cmpR op_ne (pe_fld (pv 0) rfl) (pe_fld (pv 1) rfl) (nomark _))
  (pss_one (ps_ret pe_str))
  pss_nil)
  (pss_cons (ps_if (pt_cmpR op_ne (pe_fld (pv 0) rfl) (pe_fld (pv 1) rfl) (nomark _))
  (pss_one (ps_ret pe_str))
  pss_nil)
  (pss_cons (ps_if (pt_cmpR op_ne (pe_fld (pv 0) rfl) (pe_fld (pv 1) rfl) (nomark _))
  (pss_one (ps_ret pe_str))
  pss_nil)
  (pss_one (ps_ret (pe_ifExp (pt_cmpR op_eq (pe_fld (pv 0) rfl) (pe_fld (pv 1) rfl) (nomark _)) pe_non pe_str)))))), ?_⟩
  clear nd hr
  walk_at "r"
  refine ⟨_, _, _, o1.a, T.cP, T.nP _ (by decide), _, rfl, _, _, _, o2.a, T.cP, T.nP _ (by decide), _, rfl, rfl, ?_⟩
  refine ite_f (by rw [kin.s, decide_eq_true rfl]; rfl) ?_
  walk_at "n"
  refine ⟨_, _, _, o1.a, T.cP, T.nP _ (by decide), _, rfl, _, _, _, o2.a, T.cP, T.nP _ (by decide), _, rfl, rfl, ?_⟩
  refine ite_f (by rw [kin.l, decide_eq_true rfl]; rfl) ?_
  walk_at "n"
  refine ⟨_, _, _, o1.a, T.cP, T.nP _ (by decide), _, rfl, _, _, _, o2.a, T.cP, T.nP _ (by decide), _, rfl, rfl, ?_⟩
  refine ite_f (by rw [kin.m, decide_eq_true rfl]; rfl) ?_
  walk_at "n"
  refine ⟨_, _, _, o1.a, T.cP, T.nP _ (by decide), _, rfl, _, _, _, o2.a, T.cP, T.nP _ (by decide), _, rfl, rfl, ?_⟩
  refine ite_t (by rw [kin.b, decide_eq_true rfl]) ?_
  exact q
/-- the program that begins where this one stands behind some letters -/
def Prg.behind (p : Prg) (ks : List Nat) : Prg := { p with m0 := (p.stood ks).1, t0 := (p.stood ks).2 }
theorem behind_wf {p : Prg} (wf : WF p) (h0 : ∀ x ∈ p.t0, x.length ≤ 100) {ks : List Nat} (hk : ∀ k ∈ ks, k < 2) (lk : ks.length ≤ 200) : WF (p.behind ks) := by
  have ok := stood_ok wf h0 ks hk
  have en : (p.behind ks).t0.length = p.t0.length := ok.n
  exact ⟨wf.low, wf.nd, wf.s1, wf.s3, wf.let', by rw [en]; exact wf.b1, by rw [en]; exact wf.b2, fun x hx => ⟨(ok.t x hx).1, Nat.le_trans (ok.t x hx).2 (by omega)⟩, wf.w1, wf.w3, ok.m, fun row h => ⟨(wf.rows row h).1, fun w hw => by rw [en]; exact (wf.rows row h).2 w hw⟩, wf.el, fun e h => by rw [en]; exact wf.en e h⟩
def sp_behind (K : PySem.W.Frag) : Sp := fun vs H Q _ => ∃ (S : List Addr) (v : V) (p : Prg) (ks : List Nat), vs = [v, .str (tOf ks)] ∧ oPrg K (hid S H) v p ∧ WF p ∧ (∀ x ∈ p.t0, x.length ≤ 100) ∧ (∀ k ∈ ks, k < 2) ∧ ks.length ≤ 200 ∧ Dom S H ∧ ∀ H' r, Same H H' → oPrg K (hid S H') r (p.behind ks) → Q r H'
theorem sc_behind : FnScope ["program", "text"] ["program", "text"] (defScope (top 49)) := ⟨rfl, rfl, rfl, by decide +kernel, rfl, by decide +kernel, by decide +kernel⟩
theorem ok_behind {P : Program} {w : World} {K : PySem.W.Frag} {mg : Str → Option Value} {base : Heap} (D : Def K mg "behind" (top 49) ["program", "text"]) (T : Glo K mg) (c_Program : GC P w K mg base 7 "Program" (cls_Program K) (sp_Program_UinitU K)) (g_stand : GF P w K mg base 3 "stand" (sp_stand K))  : GF P w K mg base 9 "behind" (sp_behind K) := by
  have nd := sc_behind.nd
  refine D.go sc_behind (fun vs H Q E h => ?_) (fun f cdv A outer s0 H vs Q E hr h => ?_)
  · obtain ⟨S, v, p, ks, rfl, ⟨a, dx, vb, vc, vd, rfl, op⟩, wf, h0, hks, lks, d, q⟩ := h; rfl
  obtain ⟨S, v, p, ks, rfl, ⟨a, dx, vb, vc, vd, rfl, op⟩, wf, h0, hks, lks, d, q⟩ := h
  refine ⟨_, (pss_one (ps_ret (pc_c c_Program hr (pa_cons (pe_fld (pv 0) rfl) (pa_cons (pe_fld (pv 0) rfl) (pa_cons (pc_g g_stand hr (pa_cons (pv 0) (pa_cons (pv 1) pa_nil))) (pa_cons (pe_fld (pv 0) rfl) (pa_cons (pe_fld (pv 0) rfl) pa_nil)))))))), ?_⟩
  clear nd hr
  have ea := hid_le _ _ op.a
  walk_at "r"
  refine ⟨_, _, _, ea, T.cP, T.nP _ (by decide), _, rfl, _, _, _, ea, T.cP, T.nP _ (by decide), _, rfl, ?_⟩
  refine ⟨S, .ref a, p, ks, rfl, ⟨a, dx, vb, vc, vd, rfl, op⟩, wf, hks, by omega, d, fun H1 r s1 hr1 => ?_⟩
  have ea1 := s1 _ _ ea
  have op1 := op.up (hid_same (S := S) s1)
  have d1 := d.same s1
  refine ⟨_, _, _, ea1, T.cP, T.nP _ (by decide), _, rfl, _, _, _, ea1, T.cP, T.nP _ (by decide), _, rfl, ?_⟩
  intro x dx2 nx nd2 ne2
  have kx : Kp [] H1 (upd (upd H1 dx2 (.own x)) x (.ins (cP K) dx2 [])) := fun z o _ e => by
    have h1 : z ≠ x := fun q => by rw [q, nx] at e; cases e
    have h2 : z ≠ dx2 := fun q => by rw [q, nd2] at e; cases e
    rw [upd_ne h1, upd_ne h2]
    exact e
  have ex : (upd (upd H1 dx2 (.own x)) x (.ins (cP K) dx2 [])) x = some (.ins (cP K) dx2 []) := upd_same
  have g4 := same_cons (S := S) nx (M := []) (by simp) kx
  have d4 : Dom (x :: S) (upd (upd H1 dx2 (.own x)) x (.ins (cP K) dx2 [])) := .cons ex (d1.kp kx (by simp))
  obtain ⟨cw, ws, rfl, ecw, hws⟩ := id op1.c
  obtain ⟨ce, es, rfl, ece, hes⟩ := id op1.d
  refine ⟨x :: S, x, dx2, .tup cw, .tup ce, ws, es, p.behind ks, r, rfl, ex, by simp, d4, g4 _ _ ecw, hws.mono fun _ _ z => z.up g4, g4 _ _ ece, hes.mono fun _ _ z => z.up g4, hr1.up g4, behind_wf wf h0 hks lks, fun H5 b5 c5 d5 k5 e5 hb5 hc5 hd5 => ⟨rfl, ?_⟩⟩
  have s5 := s1.trans (made nx nd2 k5)
  have mm : Same (hid (x :: S) H5) (hid S H5) := hid_mono fun z hz => by simp [hz]
  refine q _ _ s5 ⟨x, dx2, b5, c5, d5, rfl, ?_, hb5.up mm, hc5.up mm, hd5.up mm⟩
  rw [hid_at (d1.new nx)]
  exact e5
end Gt

set_option Elab.async false
set_option linter.all false
set_option maxRecDepth 100000
set_option maxHeartbeats 2000000
namespace Gt
open PySem PySem.Spec PyProof.Rows L2 StX
local macro_rules | `(tactic| walk_at "r") => `(tactic| simp only [tRet, tRetN, tAndV, tOrV, tNotV, tAnd, tOr, tNot, tCB, tCons, tNil, tC, tVar, L2.start, tCl, tOp, tTest, tB, tIf, tIfS, seqE, tAsg, gName, gTup, gLst, gCons, gNil, tPar, tPar3, tTup, tLst, tFld, sFld, sFldAug, tMt, tPr, tMakeR, tMakeL, tCallV, tWith, tSl, tPart, tNoPart, tM1, tM0, tBM, tBM0, tStar, tRevS, tJs, fmtE, tDrop, tNext, tChain, tUn, tYes, gSub, gAttr, ClX.tCMeth, lcE_src, lcE_enum, lcE_rng, lc2E_src, forE_src, forE_enum, forE_rng, forE_zip, iZipS, cxOf, Cx.nox, Cx.blk,
  rI, rI0, rU, rEq, rNe, rAdd, rIsi, rIsiT, rAll, rAny, rEqD, rNeD, rSrc, rSlL, rSlT, rSlS, rCat, rCatT, rNewStrs, rAppend, rIn,
  List.map_cons, List.map_nil, List.length_cons, List.length_nil, List.replicate, List.append_nil, List.cons_append, List.nil_append, List.getElem?_cons_zero, List.getElem?_cons_succ, List.set_cons_zero, List.set_cons_succ, wipe,
  Option.some.injEq, List.cons.injEq, V.int.injEq, V.bl.injEq, V.str.injEq, V.ref.injEq, and_true, true_and, exists_eq_left', exists_eq_left, exists_eq, exists_eq', exists_and_left, Nat.sub_self, Nat.zero_add, Nat.reduceAdd, Nat.reduceSub, Bool.not_true, Bool.not_false, Bool.false_eq_true, ite_true, ite_false, if_true, if_false, and_assoc, Int.ofNat_inj])
local macro_rules | `(tactic| walk_at "n") => `(tactic| (refine later ?_; try walk_at "r"))
local macro_rules | `(tactic| walk_at "m") => `(tactic| (refine later ?_; try walk_at "r"; refine later ?_; try walk_at "r"))
/-! ### live readers -/
structure Ent where
  p : Prg
  st : Stand
  hd : List Nat
structure EntOk (L : Nat) (e : Ent) : Prop where
  wf : WF e.p
  st : StandOk e.p.signs e.p.ways.length e.p.t0.length L e.st
  hd : ∀ k ∈ e.hd, k < 2
def rEnt (K : PySem.W.Frag) (G : Hp) (v : V) (e : Ent) : Prop := ∃ a pv sv, v = .ref a ∧ G a = some (.tup [pv, sv, .str (tOf e.hd)]) ∧ oPrg K G pv e.p ∧ rStand G sv e.st
theorem rEnt.up {K : PySem.W.Frag} {G G' : Hp} (h : Same G G') {v : V} {e : Ent} (r : rEnt K G v e) : rEnt K G' v e := let ⟨a, pv, sv, e, q1, q2, q3⟩ := r; ⟨a, pv, sv, e, h _ _ q1, q2.up h, q3.up h⟩
structure Lv (K : PySem.W.Frag) (S : List Addr) (H : Hp) (y dx t : Addr) (es : List V) (past : List Ent) : Prop where
  y : H y = some (.ins (cL K) dx [("past", .ref t)])
  t : hid S H t = some (.tup es)
  es : All2 (rEnt K (hid S H)) es past
def LvAt (K : PySem.W.Frag) (S : List Addr) (H : Hp) (y : Addr) (past : List Ent) : Prop := ∃ dx t es, Lv K S H y dx t es past
theorem Lv.same {K : PySem.W.Frag} {S : List Addr} {H H' : Hp} {y dx t : Addr} {es : List V} {past : List Ent} (l : Lv K S H y dx t es past) (s : Same H H') : Lv K S H' y dx t es past := ⟨s _ _ l.y, hid_same s _ _ l.t, l.es.mono fun _ _ z => z.up (hid_same s)⟩
theorem LvAt.same {K : PySem.W.Frag} {S : List Addr} {H H' : Hp} {y : Addr} {past : List Ent} (l : LvAt K S H y past) (s : Same H H') : LvAt K S H' y past := let ⟨dx, t, es, l⟩ := l; ⟨dx, t, es, l.same s⟩
/-- the last of the past -/
theorem Lv.last {K : PySem.W.Frag} {S : List Addr} {H : Hp} {y dx t : Addr} {es : List V} {ps : List Ent} {e : Ent} (l : Lv K S H y dx t es (ps ++ [e])) : ∃ fs v, es = fs ++ [v] ∧ rEnt K (hid S H) v e ∧ All2 (rEnt K (hid S H)) fs ps := by
  have key : ∀ {es : List V} {ps : List Ent}, All2 (rEnt K (hid S H)) es (ps ++ [e]) → ∃ fs v, es = fs ++ [v] ∧ rEnt K (hid S H) v e ∧ All2 (rEnt K (hid S H)) fs ps := by
    intro es ps
    induction ps generalizing es with
    | nil =>
      intro h
      cases h with
      | cons r t => cases t; exact ⟨[], _, rfl, r, .nil⟩
    | cons q r ih =>
      intro h
      cases h with
      | cons a t =>
        obtain ⟨fs, v, rfl, h1, h2⟩ := ih t
        exact ⟨_ :: fs, v, rfl, h1, .cons a h2⟩
  exact key l.es
def sp_Live_UinitU (K : PySem.W.Frag) : Sp := fun vs H Q _ => ∃ (S : List Addr) (y dx : Addr) (gv : V) (p : Prg), vs = [.ref y, gv] ∧ H y = some (.ins (cL K) dx []) ∧ y ∈ S ∧ Dom S H ∧ oPrg K (hid S H) gv p ∧ WF p ∧ ∀ H', Kp [y] H H' → LvAt K S H' y [⟨p, (p.m0, p.t0), []⟩] → Q .non H'
theorem sc_Live_UinitU : FnScope ["self", "program"] ["self", "program"] (defScope (inClass (top 19) 0)) := ⟨rfl, rfl, rfl, by decide +kernel, rfl, by decide +kernel, by decide +kernel⟩
theorem ok_Live_UinitU {P : Program} {w : World} {K : PySem.W.Frag} {mg : Str → Option Value} {base : Heap} (D : Ini K mg "Live" (cls_Live K) "Live.__init__" (inClass (top 19) 0) ["self", "program"] []) (T : Glo K mg) (g_stand : GF P w K mg base 3 "stand" (sp_stand K))  : GC P w K mg base 4 "Live" (cls_Live K) (sp_Live_UinitU K) ∧ GC P w K mg base 4 "Live" (cls_Live K) (fun vs H Q E => sp_Live_UinitU K (vs ++ []) H Q E) := by
  have nd := sc_Live_UinitU.nd
  refine D.go sc_Live_UinitU (fun vs H Q E h => ?_) (fun f cdv A outer s0 H vs Q E hr h => ?_)
  · obtain ⟨S, y, dx, gv, p, rfl, ey, my, d, op, wf, q⟩ := h; rfl
  obtain ⟨S, y, dx, gv, p, rfl, ey, my, d, op, wf, q⟩ := h
  refine ⟨_, (pss_one (ps_fld (pv 0) (pe_tup (pa_cons (pe_tup (pa_cons (pv 1) (pa_cons (pc_g g_stand hr (pa_cons (pv 1) (pa_cons pe_str pa_nil))) (pa_cons pe_str pa_nil)))) pa_nil)) rfl)), ?_⟩
  clear nd hr
  walk_at "r"
  refine ⟨S, gv, p, [], rfl, op, wf, fun k h => (by cases h), by decide, d, fun H1 r s1 hr1 => ?_⟩
  have d1 := d.same s1
  refine ⟨by decide, fun u nu => ?_⟩
  obtain ⟨H2, h, s2, d2, eu, hu⟩ := newE (S := S) (.tup [gv, r, .str ""]) d1 nu
  rw [h]; clear h
  refine ⟨by decide, fun t nt => ?_⟩
  obtain ⟨H3, h, s3, d3, et, ht⟩ := newE (S := S) (.tup [.ref u]) d2 nt
  rw [h]; clear h
  have s13 := (s1.trans s2).trans s3
  refine ⟨_, _, _, s13 _ _ ey, T.cL, T.nL _ (by decide), Nat.le_of_ble_eq_true rfl, ?_⟩
  obtain ⟨H4, h, k4, d4, e4, g4⟩ := setE (C := cL K) (dx := dx) (fs := []) "past" (.ref t) [("past", .ref t)] (Kp.of (M := [y]) s13) my d3 rfl
  rw [h]; clear h
  refine q _ k4 ⟨dx, t, [.ref u], e4, g4 _ _ ht, .cons ⟨u, gv, r, rfl, g4 _ _ (hid_same s3 _ _ hu), op.up ((hid_same s13).trans g4), hr1.up ((hid_same (s2.trans s3)).trans g4)⟩ .nil⟩
theorem at_last {α : Type} {xs : List α} {v : α} : atI (xs ++ [v]) (-1) = some v := atI_last xs v
def sp_Live_program (K : PySem.W.Frag) : Sp := fun vs H Q _ => ∃ (S : List Addr) (y : Addr) (ps : List Ent) (e : Ent), vs = [.ref y] ∧ LvAt K S H y (ps ++ [e]) ∧ ∀ pv, oPrg K (hid S H) pv e.p → Q pv H
theorem sc_Live_program : FnScope ["self"] ["self"] (defScope (inClass (top 19) 1)) := ⟨rfl, rfl, rfl, by decide +kernel, rfl, by decide +kernel, by decide +kernel⟩
theorem ok_Live_program {P : Program} {w : World} {K : PySem.W.Frag} {mg : Str → Option Value} {base : Heap} (D : Prp K (cls_Live K) "program" "Live.program" (inClass (top 19) 1) ["self"]) (T : Glo K mg)   : GP P w K mg base 1 (cls_Live K) "program" (sp_Live_program K) := by
  have nd := sc_Live_program.nd
  refine D.go sc_Live_program (fun vs H Q E h => ?_) (fun f cdv A outer s0 H vs Q E hr h => ?_)
  · obtain ⟨S, y, ps, e, rfl, ⟨dx, t, es, l⟩, q⟩ := h; rfl
  obtain ⟨S, y, ps, e, rfl, ⟨dx, t, es, l⟩, q⟩ := h
  refine ⟨_, (pss_one (ps_ret (pe_ix ix_src (pe_ix ix_src (pe_fld (pv 0) rfl) (pe_un un_neg pe_int) (fun _ _ => rfl)) pe_int (fun _ _ => rfl)))), ?_⟩
  clear nd hr
  obtain ⟨fs, v, rfl, ⟨a, pv, sv, rfl, ea, op, hs⟩, _⟩ := l.last
  walk_at "r"
  refine ⟨_, _, _, l.y, T.cL, T.nL _ (by decide), _, rfl, .tup t, rfl, _, hsqT l.t, trivial, .ref a, at_last, .tup a, rfl, _, hsqT ea, trivial, pv, at0, q pv op⟩
def sp_Live_spot (K : PySem.W.Frag) : Sp := fun vs H Q _ => ∃ (S : List Addr) (y : Addr) (ps : List Ent) (e : Ent), vs = [.ref y] ∧ LvAt K S H y (ps ++ [e]) ∧ Q (.int (e.st.1 : Nat)) H
theorem sc_Live_spot : FnScope ["self"] ["self"] (defScope (inClass (top 19) 2)) := ⟨rfl, rfl, rfl, by decide +kernel, rfl, by decide +kernel, by decide +kernel⟩
theorem ok_Live_spot {P : Program} {w : World} {K : PySem.W.Frag} {mg : Str → Option Value} {base : Heap} (D : Prp K (cls_Live K) "spot" "Live.spot" (inClass (top 19) 2) ["self"]) (T : Glo K mg)   : GP P w K mg base 1 (cls_Live K) "spot" (sp_Live_spot K) := by
  have nd := sc_Live_spot.nd
  refine D.go sc_Live_spot (fun vs H Q E h => ?_) (fun f cdv A outer s0 H vs Q E hr h => ?_)
  · obtain ⟨S, y, ps, e, rfl, ⟨dx, t, es, l⟩, q⟩ := h; rfl
  obtain ⟨S, y, ps, e, rfl, ⟨dx, t, es, l⟩, q⟩ := h
  refine ⟨_, (pss_one (ps_ret (pe_ix ix_src (pe_ix ix_src (pe_ix ix_src (pe_fld (pv 0) rfl) (pe_un un_neg pe_int) (fun _ _ => rfl)) pe_int (fun _ _ => rfl)) pe_int (fun _ _ => rfl)))), ?_⟩
  clear nd hr
  obtain ⟨fs, v, rfl, ⟨a, pv, sv, rfl, ea, op, b, c, rfl, eb, ec⟩, _⟩ := l.last
  walk_at "r"
  exact ⟨_, _, _, l.y, T.cL, T.nL _ (by decide), _, rfl, .tup t, rfl, _, hsqT l.t, trivial, .ref a, at_last, .tup a, rfl, _, hsqT ea, trivial, _, at1, .tup b, rfl, _, hsqT eb, trivial, _, at0, q⟩
def sp_Live_texts (K : PySem.W.Frag) : Sp := fun vs H Q _ => ∃ (S : List Addr) (y : Addr) (ps : List Ent) (e : Ent), vs = [.ref y] ∧ LvAt K S H y (ps ++ [e]) ∧ ∀ c, hid S H c = some (.tup (e.st.2.map V.str)) → Q (.ref c) H
theorem sc_Live_texts : FnScope ["self"] ["self"] (defScope (inClass (top 19) 3)) := ⟨rfl, rfl, rfl, by decide +kernel, rfl, by decide +kernel, by decide +kernel⟩
theorem ok_Live_texts {P : Program} {w : World} {K : PySem.W.Frag} {mg : Str → Option Value} {base : Heap} (D : Prp K (cls_Live K) "texts" "Live.texts" (inClass (top 19) 3) ["self"]) (T : Glo K mg)   : GP P w K mg base 1 (cls_Live K) "texts" (sp_Live_texts K) := by
  have nd := sc_Live_texts.nd
  refine D.go sc_Live_texts (fun vs H Q E h => ?_) (fun f cdv A outer s0 H vs Q E hr h => ?_)
  · obtain ⟨S, y, ps, e, rfl, ⟨dx, t, es, l⟩, q⟩ := h; rfl
  obtain ⟨S, y, ps, e, rfl, ⟨dx, t, es, l⟩, q⟩ := h
  refine ⟨_, (pss_one (ps_ret (pe_ix ix_src (pe_ix ix_src (pe_ix ix_src (pe_fld (pv 0) rfl) (pe_un un_neg pe_int) (fun _ _ => rfl)) pe_int (fun _ _ => rfl)) pe_int (fun _ _ => rfl)))), ?_⟩
  clear nd hr
  obtain ⟨fs, v, rfl, ⟨a, pv, sv, rfl, ea, op, b, c, rfl, eb, ec⟩, _⟩ := l.last
  walk_at "r"
  exact ⟨_, _, _, l.y, T.cL, T.nL _ (by decide), _, rfl, .tup t, rfl, _, hsqT l.t, trivial, .ref a, at_last, .tup a, rfl, _, hsqT ea, trivial, _, at1, .tup b, rfl, _, hsqT eb, trivial, _, at1, q c ec⟩
def sp_Live_heard (K : PySem.W.Frag) : Sp := fun vs H Q _ => ∃ (S : List Addr) (y : Addr) (ps : List Ent) (e : Ent), vs = [.ref y] ∧ LvAt K S H y (ps ++ [e]) ∧ Q (.str (tOf e.hd)) H
theorem sc_Live_heard : FnScope ["self"] ["self"] (defScope (inClass (top 19) 4)) := ⟨rfl, rfl, rfl, by decide +kernel, rfl, by decide +kernel, by decide +kernel⟩
theorem ok_Live_heard {P : Program} {w : World} {K : PySem.W.Frag} {mg : Str → Option Value} {base : Heap} (D : Prp K (cls_Live K) "heard" "Live.heard" (inClass (top 19) 4) ["self"]) (T : Glo K mg)   : GP P w K mg base 1 (cls_Live K) "heard" (sp_Live_heard K) := by
  have nd := sc_Live_heard.nd
  refine D.go sc_Live_heard (fun vs H Q E h => ?_) (fun f cdv A outer s0 H vs Q E hr h => ?_)
  · obtain ⟨S, y, ps, e, rfl, ⟨dx, t, es, l⟩, q⟩ := h; rfl
  obtain ⟨S, y, ps, e, rfl, ⟨dx, t, es, l⟩, q⟩ := h
  refine ⟨_, (pss_one (ps_ret (pe_ix ix_src (pe_ix ix_src (pe_fld (pv 0) rfl) (pe_un un_neg pe_int) (fun _ _ => rfl)) pe_int (fun _ _ => rfl)))), ?_⟩
  clear nd hr
  obtain ⟨fs, v, rfl, ⟨a, pv, sv, rfl, ea, op, hs⟩, _⟩ := l.last
  walk_at "r"
  exact ⟨_, _, _, l.y, T.cL, T.nL _ (by decide), _, rfl, .tup t, rfl, _, hsqT l.t, trivial, .ref a, at_last, .tup a, rfl, _, hsqT ea, trivial, _, at2, q⟩
def sp_Live_shown (K : PySem.W.Frag) : Sp := fun vs H Q _ => ∃ (S : List Addr) (y : Addr) (ps : List Ent) (e : Ent) (L : Nat), vs = [.ref y] ∧ LvAt K S H y (ps ++ [e]) ∧ EntOk L e ∧ L ≤ 90000 ∧ ∀ H', Same H H' → Q (vO (e.p.shown e.st)) H'
theorem sc_Live_shown : FnScope ["self"] ["self"] (defScope (inClass (top 19) 5)) := ⟨rfl, rfl, rfl, by decide +kernel, rfl, by decide +kernel, by decide +kernel⟩
theorem ok_Live_shown {P : Program} {w : World} {K : PySem.W.Frag} {mg : Str → Option Value} {base : Heap} (D : Prp K (cls_Live K) "shown" "Live.shown" (inClass (top 19) 5) ["self"]) (T : Glo K mg) (g_written_at : GF P w K mg base 2 "written_at" (sp_written_at K)) (p_program : GP P w K mg base 1 (cls_Live K) "program" (sp_Live_program K))  : GP P w K mg base 3 (cls_Live K) "shown" (sp_Live_shown K) := by
  have nd := sc_Live_shown.nd
  refine D.go sc_Live_shown (fun vs H Q E h => ?_) (fun f cdv A outer s0 H vs Q E hr h => ?_)
  · obtain ⟨S, y, ps, e, L, rfl, ⟨dx, t, es, l⟩, ok, hL, q⟩ := h; rfl
  obtain ⟨S, y, ps, e, L, rfl, ⟨dx, t, es, l⟩, ok, hL, q⟩ := h
  refine ⟨_, (pss_one (ps_ret (pc_g g_written_at hr (pa_cons (pc_p p_program T.cL hr (pv 0)) (pa_cons (pe_ix ix_src (pe_ix ix_src (pe_fld (pv 0) rfl) (pe_un un_neg pe_int) (fun _ _ => rfl)) pe_int (fun _ _ => rfl)) pa_nil))))), ?_⟩
  clear nd hr
  have l0 : LvAt K S H y (ps ++ [e]) := ⟨dx, t, es, l⟩
  obtain ⟨fs, v, rfl, ⟨a, pv, sv, rfl, ea, op, hs⟩, _⟩ := l.last
  walk_at "r"
  refine ⟨_, _, l.y, ?_⟩
  refine ⟨S, y, ps, e, rfl, l0, fun pv' op' => ?_⟩
  refine ⟨_, _, _, l.y, T.cL, T.nL _ (by decide), _, rfl, .tup t, rfl, _, hsqT l.t, trivial, .ref a, at_last, .tup a, rfl, _, hsqT ea, trivial, sv, at1, ?_⟩
  exact ⟨pv', sv, e.p, e.st, L, rfl, op'.up hid_le, hs.up hid_le, ok.wf, ok.st, hL, q⟩
def sp_Live_is_letter (K : PySem.W.Frag) : Sp := fun vs H Q _ => ∃ (S : List Addr) (y : Addr) (ps : List Ent) (e : Ent) (k : Nat), vs = [.ref y, .str ⟨#[120 + k]⟩] ∧ LvAt K S H y (ps ++ [e]) ∧ WF e.p ∧ k < 2 ∧ Q (.bl true) H
theorem sc_Live_is_letter : FnScope ["self", "value"] ["self", "value"] (defScope (inClass (top 19) 6)) := ⟨rfl, rfl, rfl, by decide +kernel, rfl, by decide +kernel, by decide +kernel⟩
theorem ok_Live_is_letter {P : Program} {w : World} {K : PySem.W.Frag} {mg : Str → Option Value} {base : Heap} (D : Mth K (cls_Live K) "is_letter" "Live.is_letter" (inClass (top 19) 6) ["self", "value"]) (T : Glo K mg) (p_program : GP P w K mg base 1 (cls_Live K) "program" (sp_Live_program K))  : GM P w K mg base 3 (cls_Live K) "is_letter" (sp_Live_is_letter K) := by
  have nd := sc_Live_is_letter.nd
  refine D.go sc_Live_is_letter (fun vs H Q E h => ?_) (fun f cdv A outer s0 H vs Q E hr h => ?_)
  · obtain ⟨S, y, ps, e, k, rfl, l, wf, hk, q⟩ := h; rfl
  obtain ⟨S, y, ps, e, k, rfl, l, wf, hk, q⟩ := h
  refine ⟨_, (pss_one (ps_ret (pe_and (pe_callB call_isi (by rfl) T.b_isinstance (by decide +kernel) (pa_cons (pv 1) (pa_cons (pe_bltn (v := .ty "str") (by rfl) T.b_str (by decide +kernel) rfl) pa_nil))) (pe_and (pe_cmpR op_eq (pe_callB call_lenS (by rfl) T.b_len (by decide +kernel) (pa_cons (pv 1) pa_nil)) pe_int (nomark _)) (pe_one (pe_cmpR op_in_sign (pv 1) (pe_fld (pc_p p_program T.cL hr (pv 0)) rfl) (by rfl))))))), ?_⟩
  clear nd hr
  obtain ⟨dx, t, es, l1⟩ := id l
  walk_at "r"
  refine ⟨_, _, .ty _, .base (.str _), true, kit_ty (by decide +kernel), ?_⟩
  walk_at "r"
  refine ⟨.txt ⟨#[120 + k]⟩, rfl, _, rfl, by show 1 ≤ sizeLine; decide, rfl, ?_⟩
  refine ite_t rfl ?_
  refine ⟨_, _, l1.y, ?_⟩
  refine ⟨S, y, ps, e, rfl, l, fun pv op => ?_⟩
  obtain ⟨a, dx', b, c, d, rfl, o⟩ := op
  walk_at "r"
  refine ⟨_, _, _, hid_le _ _ o.a, T.cP, T.nP _ (by decide), _, rfl, 120 + k, rfl, e.p.letters, rfl, ?_⟩
  have hm : 120 + k ∈ e.p.letters.cps.toList := by
    rw [wf.let']
    have e : (Str.ofString "xy").cps.toList = [120, 121] := by decide +kernel
    rw [e]
    have : k = 0 ∨ k = 1 := by omega
    rcases this with rfl | rfl <;> simp
  rw [decide_eq_true hm]
  exact q
theorem fold_ok {p : Prg} (wf : WF p) : ∀ (ks : List Nat) (now : Stand) (L : Nat), (∀ k ∈ ks, k < 2) → StandOk p.signs p.ways.length p.t0.length L now → StandOk p.signs p.ways.length p.t0.length (L + 4 * ks.length) (ks.foldl p.led now) := by
  intro ks
  induction ks with
  | nil => intro now L _ h; exact h
  | cons k r ih =>
    intro now L hk h
    have h2 := ih (p.led now k) (L + 4) (fun z hz => hk z (by simp [hz])) (led_ok wf h (hk k (by simp)))
    have e : L + 4 + 4 * r.length = L + 4 * (k :: r).length := by rw [List.length_cons]; omega
    rw [e] at h2
    exact h2
theorem same_hid2 {S : List Addr} {l : Addr} {H H' : Hp} (h : H l = none) (s : Kp [l] H H') : Same (hid S H) (hid (l :: S) H') := fun a o e => by
  have e1 := hid_le _ _ e
  have n : a ≠ l := fun z => by rw [z, h] at e1; cases e1
  rw [hid_at (fun z => (List.mem_cons.mp z).elim n (hid_in e))]
  exact s a o (by simpa using n) e1
def sp_Live_go_on (K : PySem.W.Frag) : Sp := fun vs H Q _ => ∃ (S : List Addr) (y : Addr) (ps : List Ent) (e : Ent) (L : Nat) (ks : List Nat), vs = [.ref y, .str (tOf ks)] ∧ LvAt K S H y (ps ++ [e]) ∧ EntOk L e ∧ L + 4 * ks.length ≤ 90000 ∧ e.hd.length ≤ 1000 ∧ ks.length ≤ 1000 ∧ (∀ k ∈ ks, k < 2) ∧ ps.length ≤ 1000 ∧ y ∈ S ∧ Dom S H ∧
  ∀ H' c fs, Kp [y] H H' → LvAt K S H' y (ps ++ [e] ++ [⟨e.p, ks.foldl e.p.led e.st, e.hd ++ ks⟩]) → hid S H' c = some (.tup fs) → fs.length = ks.length → (∀ j, j < ks.length → fs[j]? = some (vO (e.p.shown ((ks.take (j + 1)).foldl e.p.led e.st)))) → Q (.ref c) H'
theorem sc_Live_go_on : FnScope ["self", "letters", "program", "standing", "text", "found", "letter"] ["self", "letters"] (defScope (inClass (top 19) 8)) := ⟨rfl, rfl, rfl, by decide +kernel, rfl, by decide +kernel, by decide +kernel⟩
theorem ok_Live_go_on {P : Program} {w : World} {K : PySem.W.Frag} {mg : Str → Option Value} {base : Heap} (D : Mth K (cls_Live K) "go_on" "Live.go_on" (inClass (top 19) 8) ["self", "letters"]) (T : Glo K mg) (g_led : GF P w K mg base 2 "led" (sp_led K)) (g_written_at : GF P w K mg base 2 "written_at" (sp_written_at K))  : GM P w K mg base 3 (cls_Live K) "go_on" (sp_Live_go_on K) := by
  have nd := sc_Live_go_on.nd
  refine D.go sc_Live_go_on (fun vs H Q E h => ?_) (fun f cdv A outer s0 H vs Q E hr h => ?_)
  · obtain ⟨S, y, ps, e, L, ks, rfl, ⟨dx, t, es, l⟩, ok, hL, lh, lk, hks, lp, my, d, q⟩ := h; rfl
  obtain ⟨S, y, ps, e, L, ks, rfl, ⟨dx, t, es, l⟩, ok, hL, lh, lk, hks, lp, my, d, q⟩ := h
  refine ⟨_, (pss_cons (ps_asg (pe_ix ix_src (pe_fld (pv 0) rfl) (pe_un un_neg pe_int) (fun _ _ => rfl)) (pg_tup (n := 3) rfl (pgs_cons (pg_name (i := 2) nd rfl (by first | exact Or.inl rfl | exact Or.inr rfl)) (pgs_cons (pg_name (i := 3) nd rfl (by first | exact Or.inl rfl | exact Or.inr rfl)) (pgs_cons (pg_name (i := 4) nd rfl (by first | exact Or.inl rfl | exact Or.inr rfl)) pgs_nil)))))
  (pss_cons (ps_set (i := 5) nd rfl (by first | exact Or.inl rfl | exact Or.inr rfl) (pe_lst pa_nil))
  (pss_cons (ps_for PassesOwn.never rfl (pi_src (pv 1)) (pg_name (i := 6) nd rfl (by first | exact Or.inl rfl | exact Or.inr rfl))
  (pss_cons (ps_set (i := 3) nd rfl (by first | exact Or.inl rfl | exact Or.inr rfl) (pc_g g_led hr (pa_cons (pv 2) (pa_cons (pv 3) (pa_cons (pv 6) pa_nil)))))
  (pss_one (ps_expr (pe_bm PySem.F.plainAttrs_list PySem.F.slot_list_append PySem.F.type_list_append mt_append (pv 5) (pa_cons (pc_g g_written_at hr (pa_cons (pv 2) (pa_cons (pv 3) pa_nil))) pa_nil))))))
  (pss_cons (ps_fld (pv 0) (pe_tup (pa_star (pe_fld (pv 0) rfl) (pa_cons (pe_tup (pa_cons (pv 2) (pa_cons (pv 3) (pa_cons (pe_op op_add_str (pv 4) (pv 1)) pa_nil)))) pa_nil))) rfl)
  (pss_one (ps_ret (pe_callTy call_tuple_of (by rfl) T.b_tuple (by decide +kernel) (pa_cons (pv 5) pa_nil)))))))), ?_⟩
  clear nd hr
  have sz := sizeL
  obtain ⟨gs, ev, rfl, ⟨a, gv, sv, rfl, ea, op, hs⟩, hgs⟩ := l.last
  have lg : gs.length = ps.length := hgs.len
  walk_at "r"
  refine ⟨_, _, _, l.y, T.cL, T.nL _ (by decide), _, rfl, .tup t, rfl, _, hsqT l.t, trivial, .ref a, at_last, _, rfl, _, hsqT ea, rfl, _, _, rfl, _, _, rfl, _, _, rfl, rfl, ?_⟩
  walk_at "m"
  refine ⟨by decide, fun fd nf => ?_⟩
  obtain ⟨H1, h, s1, d1, ef, _⟩ := newE (S := S) (.lst []) d nf
  rw [h]; clear h
  walk_at "m"
  have ny : y ≠ fd := fun z => by have := l.y; rw [z, nf] at this; cases this
  refine ⟨.txt (tOf ks), rfl, _, rfl, forB (walk_src (K := K) (S := .txt (tOf ks))) (fun i σ H' => Kp [fd] H H' ∧ Dom (fd :: S) H' ∧ (∃ fs, H' fd = some (.lst fs) ∧ fs.length = i ∧ ∀ j, j < i → fs[j]? = some (vO (e.p.shown ((ks.take (j + 1)).foldl e.p.led e.st)))) ∧ ∃ r x, rStand (hid (fd :: S) H') r ((ks.take i).foldl e.p.led e.st) ∧ σ = [some (.ref y), some (.str (tOf ks)), some gv, some r, some (.str (tOf e.hd)), some (.ref fd), x])
    ⟨Kp.of s1, .cons ef d1, ⟨[], ef, rfl, fun j h => by omega⟩, sv, _, hs.up (same_hid2 nf (Kp.of s1)), rfl⟩ (fun i σ H' _ pv => rfl) ?_ ?_⟩
  · rintro i x σ H2 H2' hi ⟨k2, d2, ⟨fs, ef2, lf, hf⟩, r, x6, hr', rfl⟩ ⟨ee, hx⟩
    subst ee
    obtain ⟨k, hk, rfl⟩ := tOf_at hx
    have hk2 := hks k (List.mem_of_getElem? hk)
    have hi' : i < ks.length := (List.getElem?_eq_some_iff.mp hk).1
    have li : (ks.take i).length = i := by rw [List.length_take]; omega
    have oki := fold_ok ok.wf (ks.take i) e.st L (fun k hk => hks k (List.mem_of_mem_take hk)) ok.st
    rw [li] at oki
    walk_at "r"
    refine ⟨fd :: S, gv, r, e.p, _, k, _, rfl, op.up (same_hid2 nf k2), hr', ok.wf, oki, by omega, hk2, d2, fun H3 r3 s3 h3 => ?_⟩
    have etk : (ks.take (i + 1)).foldl e.p.led e.st = e.p.led ((ks.take i).foldl e.p.led e.st) k := by
      rw [List.take_succ, hk, List.foldl_append]
      rfl
    rw [← etk] at h3
    walk_at "n"
    have ok2 := fold_ok ok.wf (ks.take (i + 1)) e.st L (fun k hk => hks k (List.mem_of_mem_take hk)) ok.st
    have li2 : (ks.take (i + 1)).length ≤ ks.length := by rw [List.length_take]; omega
    have ef3 := s3 _ _ ef2
    refine ⟨.inl ⟨rfl, _, sqL ef3⟩, gv, r3, e.p, _, _, rfl, (op.up (same_hid2 nf (k2.trans (Kp.of s3)))).up hid_le, h3.up hid_le, ok.wf, ok2, by omega, fun H4 s4 => ?_⟩
    have ef4 := s4 _ _ ef3
    refine ⟨fs, ef4, by omega, ?_⟩
    have kf : Kp [fd] H4 (upd H4 fd (.lst (fs ++ [vO (e.p.shown ((ks.take (i + 1)).foldl e.p.led e.st))]))) := Kp.upd (by simp)
    refine ⟨((k2.trans (Kp.of s3)).trans (Kp.of s4)).trans kf, ((d2.same s3).same s4).kp kf (fun z hz => by rw [List.mem_singleton.mp hz, upd_same]; exact fun q => by cases q), ⟨fs ++ [vO (e.p.shown ((ks.take (i + 1)).foldl e.p.led e.st))], upd_same, by simp [lf], fun j hj => ?_⟩, r3, h3.up ((hid_same s4).trans (hid_kp kf (by simp))), ?_⟩
    · by_cases hj2 : j < i
      · rw [List.getElem?_append_left (by omega)]
        exact hf j hj2
      · have : j = i := by omega
        subst this
        rw [List.getElem?_append_right (by omega), lf, Nat.sub_self]
        rfl
    · rfl
  · rintro σ H2 ⟨k2, d2, ⟨fs, ef2, lf, hf⟩, r, x6, hr', rfl⟩
    have lks : (tOf ks).length = ks.length := tOf_len ks
    have lhd : (tOf e.hd).length = e.hd.length := tOf_len e.hd
    have etk : ks.take ((tOf ks).cps.toList.map fun c => V.str ⟨#[c]⟩).length = ks := by rw [txt_len, lks]; exact List.take_of_length_le (Nat.le_refl _)
    rw [etk] at hr'
    rw [txt_len, lks] at lf hf
    have s2 := same_kp nf k2
    have l2 := l.same s2
    have d2' : Dom S H2 := fun z hz => d2 z (List.mem_cons_of_mem _ hz)
    have hr2 : rStand (hid S H2) r (ks.foldl e.p.led e.st) := hr'.up (hid_mono fun z hz => List.mem_cons_of_mem _ hz)
    walk_at "m"
    refine ⟨_, _, _, l2.y, T.cL, T.nL _ (by decide), _, rfl, t, rfl, _, .inl (hsqT l2.t), by omega, by decide, fun u nu => ?_⟩
    have etx : tOf e.hd ++ tOf ks = tOf (e.hd ++ ks) := by
      apply TL.ext_tl
      rw [TL.tl_append]
      show e.hd.map (120 + ·) ++ ks.map (120 + ·) = (e.hd ++ ks).map (120 + ·)
      rw [List.map_append]
    rw [etx]
    obtain ⟨H3, h, s3, d3, eu, hu⟩ := newE (S := S) (.tup [gv, r, .str (tOf (e.hd ++ ks))]) d2' nu
    rw [h]; clear h
    refine ⟨by simp only [List.length_append, List.length_cons, List.length_nil]; omega, fun v nv => ?_⟩
    obtain ⟨H4, h, s4, d4, ev, hv⟩ := newE (S := S) (.tup (gs ++ [.ref a] ++ [.ref u])) d3 nv
    rw [h]; clear h
    have s34 := s3.trans s4
    have l4 := l2.same s34
    refine ⟨_, _, _, l4.y, T.cL, T.nL _ (by decide), Nat.le_of_ble_eq_true rfl, ?_⟩
    obtain ⟨H5, h, k5, d5, e5, g5⟩ := setE (C := cL K) (dx := dx) (fs := [("past", .ref t)]) "past" (.ref v) [("past", .ref v)] (Kp.of (M := [y]) (s2.trans s34)) my d4 rfl
    have ef5 : H5 fd = some (.lst fs) := by rw [← h, upd_ne (fun z => ny z.symm)]; exact s34 _ _ ef2
    rw [h]; clear h
    walk_at "m"
    refine ⟨_, .inl ⟨sqL ef5, fun c nc => ?_⟩⟩
    obtain ⟨H6, h, s6, d6, ec, hc⟩ := newE (S := S) (.tup fs) d5 nc
    rw [h]; clear h
    have g46 : Same (hid S H4) (hid S H6) := g5.trans (hid_same s6)
    have g06 : Same (hid S H) (hid S H6) := (hid_same (s2.trans s34)).trans g46
    refine q _ _ _ (k5.trans (Kp.of s6)) ⟨dx, v, _, ⟨s6 _ _ e5, g46 _ _ hv, ?_⟩⟩ hc lf hf
    refine All2.app (All2.app (hgs.mono fun _ _ z => z.up g06) (.cons ⟨a, gv, sv, rfl, g06 _ _ ea, op.up g06, hs.up g06⟩ .nil)) (.cons ⟨u, gv, r, rfl, g46 _ _ (hid_same s4 _ _ hu), op.up g06, hr2.up ((hid_same s34).trans g46)⟩ .nil)
def sp_Live_take (K : PySem.W.Frag) : Sp := fun vs H Q _ => ∃ (S : List Addr) (y : Addr) (ps : List Ent) (e : Ent) (L k : Nat), vs = [.ref y, .str ⟨#[120 + k]⟩] ∧ LvAt K S H y (ps ++ [e]) ∧ EntOk L e ∧ L + 4 ≤ 90000 ∧ e.hd.length ≤ 900 ∧ k < 2 ∧ ps.length ≤ 1000 ∧ y ∈ S ∧ Dom S H ∧
  ∀ H', Kp [y] H H' → LvAt K S H' y (ps ++ [e] ++ [⟨e.p, e.p.led e.st k, e.hd ++ [k]⟩]) → Q (vO (e.p.shown (e.p.led e.st k))) H'
theorem sc_Live_take : FnScope ["self", "letter"] ["self", "letter"] (defScope (inClass (top 19) 7)) := ⟨rfl, rfl, rfl, by decide +kernel, rfl, by decide +kernel, by decide +kernel⟩
theorem ok_Live_take {P : Program} {w : World} {K : PySem.W.Frag} {mg : Str → Option Value} {base : Heap} (D : Mth K (cls_Live K) "take" "Live.take" (inClass (top 19) 7) ["self", "letter"]) (T : Glo K mg) (m_is_letter : GM P w K mg base 3 (cls_Live K) "is_letter" (sp_Live_is_letter K)) (m_go_on : GM P w K mg base 3 (cls_Live K) "go_on" (sp_Live_go_on K)) (p_shown : GP P w K mg base 3 (cls_Live K) "shown" (sp_Live_shown K))  : GM P w K mg base 5 (cls_Live K) "take" (sp_Live_take K) := by
  have nd := sc_Live_take.nd
  refine D.go sc_Live_take (fun vs H Q E h => ?_) (fun f cdv A outer s0 H vs Q E hr h => ?_)
  · obtain ⟨S, y, ps, e, L, k, rfl, l, ok, hL, lh, hk, lp, my, d, q⟩ := h; rfl
  obtain ⟨S, y, ps, e, L, k, rfl, l, ok, hL, lh, hk, lp, my, d, q⟩ := h
  refine ⟨_, (pss_cons (ps_if (pt_not (pt_val (pc_m m_is_letter T.cL hr (pv 0) (pa_cons (pv 1) pa_nil))))
  (pss_one ps_never)
  pss_nil)
  (pss_cons (ps_expr (pc_m m_go_on T.cL hr (pv 0) (pa_cons (pv 1) pa_nil)))
  (pss_one (ps_ret (pc_p p_shown T.cL hr (pv 0)))))), ?_⟩
  clear nd hr
  obtain ⟨dx, t, es, l1⟩ := id l
  walk_at "r"
  refine ⟨_, _, l1.y, rfl, ?_⟩
  refine ⟨S, y, ps, e, k, rfl, l, ok.wf, hk, ?_⟩
  walk_at "r"
  walk_at "n"
  refine ⟨_, _, l1.y, rfl, ?_⟩
  refine ⟨S, y, ps, e, L, [k], rfl, l, ok, by simpa using hL, by omega, by simp, by simpa using hk, lp, my, d, fun H1 c fs k1 l1' hc lf hf => ?_⟩
  obtain ⟨dx', t', es', l2⟩ := id l1'
  have ok2 : EntOk (L + 4) ⟨e.p, e.p.led e.st k, e.hd ++ [k]⟩ := ⟨ok.wf, led_ok ok.wf ok.st hk, fun z hz => by
    rcases List.mem_append.mp hz with h | h
    · exact ok.hd z h
    · rw [List.mem_singleton.mp h]; exact hk⟩
  walk_at "m"
  refine ⟨_, _, l2.y, ?_⟩
  exact ⟨S, y, ps ++ [e], _, L + 4, rfl, l1', ok2, hL, fun H2 s2 => q _ (k1.trans (Kp.of s2)) (l1'.same s2)⟩
def sp_Live_several (K : PySem.W.Frag) : Sp := fun vs H Q _ => ∃ (S : List Addr) (y : Addr) (ps : List Ent) (e : Ent) (L : Nat) (ks : List Nat), vs = [.ref y, .str (tOf ks)] ∧ LvAt K S H y (ps ++ [e]) ∧ EntOk L e ∧ L + 4 * ks.length ≤ 90000 ∧ e.hd.length ≤ 1000 ∧ ks.length ≤ 1000 ∧ (∀ k ∈ ks, k < 2) ∧ ps.length ≤ 1000 ∧ y ∈ S ∧ Dom S H ∧
  ∀ H' c fs, Kp [y] H H' → hid S H' c = some (.tup fs) → fs.length = ks.length → (∀ j, j < ks.length → fs[j]? = some (vO (e.p.shown ((ks.take (j + 1)).foldl e.p.led e.st)))) → Q (.ref c) H'
theorem sc_Live_several : FnScope ["self", "letters", "at", "letter"] ["self", "letters"] (defScope (inClass (top 19) 9)) := ⟨rfl, rfl, rfl, by decide +kernel, rfl, by decide +kernel, by decide +kernel⟩
theorem ok_Live_several {P : Program} {w : World} {K : PySem.W.Frag} {mg : Str → Option Value} {base : Heap} (D : Mth K (cls_Live K) "several" "Live.several" (inClass (top 19) 9) ["self", "letters"]) (T : Glo K mg) (m_is_letter : GM P w K mg base 3 (cls_Live K) "is_letter" (sp_Live_is_letter K)) (m_go_on : GM P w K mg base 3 (cls_Live K) "go_on" (sp_Live_go_on K))  : GM P w K mg base 4 (cls_Live K) "several" (sp_Live_several K) := by
  have nd := sc_Live_several.nd
  refine D.go sc_Live_several (fun vs H Q E h => ?_) (fun f cdv A outer s0 H vs Q E hr h => ?_)
  · obtain ⟨S, y, ps, e, L, ks, rfl, l, ok, hL, lh, lk, hks, lp, my, d, q⟩ := h; rfl
  obtain ⟨S, y, ps, e, L, ks, rfl, l, ok, hL, lh, lk, hks, lp, my, d, q⟩ := h
  refine ⟨_, (pss_cons (ps_if (pt_not (pt_val (pe_callB call_isi (by rfl) T.b_isinstance (by decide +kernel) (pa_cons (pv 1) (pa_cons (pe_bltn (v := .ty "str") (by rfl) T.b_str (by decide +kernel) rfl) pa_nil)))))
  (pss_one ps_never)
  pss_nil)
  (pss_cons (ps_for PassesOwn.never rfl (pi_enumS (by rfl) T.b_enumerate (pa_cons (pv 1) pa_nil)) (pg_tup (n := 2) rfl (pgs_cons (pg_name (i := 2) nd rfl (by first | exact Or.inl rfl | exact Or.inr rfl)) (pgs_cons (pg_name (i := 3) nd rfl (by first | exact Or.inl rfl | exact Or.inr rfl)) pgs_nil)))
  (pss_one (ps_if (pt_not (pt_val (pc_m m_is_letter T.cL hr (pv 0) (pa_cons (pv 3) pa_nil))))
  (pss_one ps_never)
  pss_nil)))
  (pss_one (ps_ret (pc_m m_go_on T.cL hr (pv 0) (pa_cons (pv 1) pa_nil)))))), ?_⟩
  clear nd hr
  obtain ⟨dx, t, es, l1⟩ := id l
  walk_at "r"
  refine ⟨_, _, .ty _, .base (.str _), true, kit_ty (by decide +kernel), ?_⟩
  walk_at "r"
  walk_at "m"
  refine ⟨.txt (tOf ks), rfl, _, rfl, forB walk_enumS (fun i σ H' => Same H H' ∧ ∃ x z, σ = [some (.ref y), some (.str (tOf ks)), x, z]) ⟨Same.refl _, _, _, rfl⟩ (fun i σ H' _ p => rfl) ?_ ?_⟩
  · rintro i x σ H1 H1' hi ⟨s1, x2, x3, rfl⟩ ⟨u, z, z', rfl, nu, rfl, ez, hz⟩
    cases ez
    obtain ⟨k, hk, rfl⟩ := tOf_at hz
    have hk2 := hks k (List.mem_of_getElem? hk)
    have s2 : Same H1 (upd H1 u (.tup [.int (i : Nat), .str ⟨#[120 + k]⟩])) := Same.upd nu
    have s02 := s1.trans s2
    walk_at "r"
    refine ⟨_, sqT upd_same, rfl, _, _, rfl, _, _, rfl, rfl, ?_⟩
    refine ⟨_, _, s02 _ _ l1.y, rfl, ?_⟩
    refine ⟨S, y, ps, e, k, rfl, l.same s02, ok.wf, hk2, ?_⟩
    walk_at "r"
    exact s02
  · rintro σ H1 ⟨s1, x2, x3, rfl⟩
    walk_at "m"
    refine ⟨_, _, s1 _ _ l1.y, rfl, ?_⟩
    exact ⟨S, y, ps, e, L, ks, rfl, l.same s1, ok, hL, lh, lk, hks, lp, my, d.same s1, fun H2 c fs k2 _ hc lf hf => q _ _ _ ((Kp.of s1).trans k2) hc lf hf⟩
def sp_Live_change (K : PySem.W.Frag) : Sp := fun vs H Q _ => ∃ (S : List Addr) (y : Addr) (ps : List Ent) (e : Ent) (gv : V) (r : Prg), vs = [.ref y, gv] ∧ LvAt K S H y (ps ++ [e]) ∧ oPrg K (hid S H) gv r ∧ Kin e.p r ∧ ps.length ≤ 1000 ∧ y ∈ S ∧ Dom S H ∧
  ∀ H', Kp [y] H H' → LvAt K S H' y (ps ++ [e] ++ [⟨r, e.st, e.hd⟩]) → Q .non H'
theorem sc_Live_change : FnScope ["self", "program", "word"] ["self", "program"] (defScope (inClass (top 19) 10)) := ⟨rfl, rfl, rfl, by decide +kernel, rfl, by decide +kernel, by decide +kernel⟩
theorem ok_Live_change {P : Program} {w : World} {K : PySem.W.Frag} {mg : Str → Option Value} {base : Heap} (D : Mth K (cls_Live K) "change" "Live.change" (inClass (top 19) 10) ["self", "program"]) (T : Glo K mg) (g_unlike_word : GF P w K mg base 1 "unlike_word" (sp_unlike_word K)) (p_program : GP P w K mg base 1 (cls_Live K) "program" (sp_Live_program K))  : GM P w K mg base 3 (cls_Live K) "change" (sp_Live_change K) := by
  have nd := sc_Live_change.nd
  refine D.go sc_Live_change (fun vs H Q E h => ?_) (fun f cdv A outer s0 H vs Q E hr h => ?_)
  · obtain ⟨S, y, ps, e, gv, r, rfl, l, or', kin, lp, my, d, q⟩ := h; rfl
  obtain ⟨S, y, ps, e, gv, r, rfl, l, or', kin, lp, my, d, q⟩ := h
  refine ⟨_, (pss_cons (ps_set (i := 2) nd rfl (by first | exact Or.inl rfl | exact Or.inr rfl) (pc_g g_unlike_word hr (pa_cons (pc_p p_program T.cL hr (pv 0)) (pa_cons (pv 1) pa_nil))))
  (pss_cons (ps_if (pt_cmpR op_notN (pv 2) pe_non (nomark _))
  (pss_one ps_never)
  pss_nil)
  (pss_one (ps_fld (pv 0) (pe_tup (pa_star (pe_fld (pv 0) rfl) (pa_cons (pe_tup (pa_cons (pv 1) (pa_star (pe_slice sl_tup (pe_ix ix_src (pe_fld (pv 0) rfl) (pe_un un_neg pe_int) (fun _ _ => rfl)) (po_some pe_int) po_none) pa_nil))) pa_nil))) rfl)))), ?_⟩
  clear nd hr
  have sz := sizeL
  obtain ⟨dx, t, es, l1⟩ := id l
  obtain ⟨gs, ev, rfl, ⟨a, gv2, sv, rfl, ea, op, hs⟩, hgs⟩ := l1.last
  have lg : gs.length = ps.length := hgs.len
  walk_at "r"
  refine ⟨_, _, l1.y, ?_⟩
  refine ⟨S, y, ps, e, rfl, l, fun pv' op' => ?_⟩
  refine ⟨pv', gv, e.p, r, rfl, op'.up hid_le, or'.up hid_le, kin, ?_⟩
  walk_at "n"
  refine ite_f rfl ?_
  walk_at "n"
  refine ⟨_, _, _, l1.y, T.cL, T.nL _ (by decide), _, rfl, t, rfl, _, .inl (hsqT l1.t), ?_⟩
  refine ⟨_, _, _, l1.y, T.cL, T.nL _ (by decide), _, rfl, .tup t, rfl, _, hsqT l1.t, trivial, .ref a, at_last, a, rfl, _, hsqT ea, (by show ¬ ((1 : Nat) = 0 ∧ (3 : Nat) = 3); decide), fun u nu => ?_⟩
  rw [show cutV [gv2, sv, V.str (tOf e.hd)] (some 1) none = [sv, .str (tOf e.hd)] from cutV_drop _ 1]
  obtain ⟨H1, h, s1, d1, eu, hu⟩ := newE (S := S) (.tup [sv, .str (tOf e.hd)]) d nu
  rw [h]; clear h
  refine ⟨_, .inl (sqT eu), (by show 3 ≤ sizeLine; decide), fun v nv => ?_⟩
  obtain ⟨H2, h, s2, d2, ev, hv⟩ := newE (S := S) (.tup [gv, sv, .str (tOf e.hd)]) d1 nv
  rw [h]; clear h
  refine ⟨by simp only [List.length_append, List.length_cons, List.length_nil]; omega, fun w nw => ?_⟩
  obtain ⟨H3, h, s3, d3, ew, hw⟩ := newE (S := S) (.tup (gs ++ [.ref a] ++ [.ref v])) d2 nw
  rw [h]; clear h
  have s03 := (s1.trans s2).trans s3
  have l3 := l1.same s03
  refine ⟨_, _, _, l3.y, T.cL, T.nL _ (by decide), Nat.le_of_ble_eq_true rfl, ?_⟩
  obtain ⟨H4, h, k4, d4, e4, g4⟩ := setE (C := cL K) (dx := dx) (fs := [("past", .ref t)]) "past" (.ref w) [("past", .ref w)] (Kp.of (M := [y]) s03) my d3 rfl
  rw [h]; clear h
  have g04 : Same (hid S H) (hid S H4) := (hid_same s03).trans g4
  refine q _ k4 ⟨dx, w, _, e4, g4 _ _ hw, ?_⟩
  exact All2.app (All2.app (hgs.mono fun _ _ z => z.up g04) (.cons ⟨a, gv2, sv, rfl, g04 _ _ ea, op.up g04, hs.up g04⟩ .nil)) (.cons ⟨v, gv, sv, rfl, g4 _ _ (hid_same s3 _ _ hv), or'.up g04, hs.up g04⟩ .nil)
def sp_Live_undo (K : PySem.W.Frag) : Sp := fun vs H Q _ => ∃ (S : List Addr) (y : Addr) (ps : List Ent) (e : Ent), vs = [.ref y] ∧ LvAt K S H y (ps ++ [e]) ∧ y ∈ S ∧ Dom S H ∧ ((ps = [] ∧ Q (.bl false) H) ∨ (ps ≠ [] ∧ ∀ H', Kp [y] H H' → LvAt K S H' y ps → Q (.bl true) H'))
theorem sc_Live_undo : FnScope ["self"] ["self"] (defScope (inClass (top 19) 11)) := ⟨rfl, rfl, rfl, by decide +kernel, rfl, by decide +kernel, by decide +kernel⟩
theorem ok_Live_undo {P : Program} {w : World} {K : PySem.W.Frag} {mg : Str → Option Value} {base : Heap} (D : Mth K (cls_Live K) "undo" "Live.undo" (inClass (top 19) 11) ["self"]) (T : Glo K mg)   : GM P w K mg base 1 (cls_Live K) "undo" (sp_Live_undo K) := by
  have nd := sc_Live_undo.nd
  refine D.go sc_Live_undo (fun vs H Q E h => ?_) (fun f cdv A outer s0 H vs Q E hr h => ?_)
  · obtain ⟨S, y, ps, e, rfl, ⟨dx, t, es, l1⟩, my, d, q⟩ := h; rfl
  obtain ⟨S, y, ps, e, rfl, ⟨dx, t, es, l1⟩, my, d, q⟩ := h
  refine ⟨_, (pss_cons (ps_if (pt_cmpR op_eq (pe_callB call_lenS (by rfl) T.b_len (by decide +kernel) (pa_cons (pe_fld (pv 0) rfl) pa_nil)) pe_int (nomark _))
  (pss_one (ps_ret pe_bl))
  pss_nil)
  (pss_cons (ps_fld (pv 0) (pe_slice sl_tup (pe_fld (pv 0) rfl) po_none (po_some (pe_un un_neg pe_int))) rfl)
  (pss_one (ps_ret pe_bl)))), ?_⟩
  clear nd hr
  obtain ⟨gs, ev, rfl, re, hgs⟩ := l1.last
  have lg : gs.length = ps.length := hgs.len
  walk_at "r"
  refine ⟨_, _, _, l1.y, T.cL, T.nL _ (by decide), _, rfl, .tup t, rfl, _, hsqT l1.t, trivial, rfl, ?_⟩
  rcases q with ⟨rfl, q⟩ | ⟨hne, q⟩
  · have e0 : gs = [] := List.eq_nil_of_length_eq_zero lg
    subst e0
    refine ite_t rfl ?_
    exact q
  · have l0 : gs.length ≠ 0 := fun z => hne (List.eq_nil_of_length_eq_zero (by omega))
    refine ite_f (decide_eq_false (by simp only [List.length_append, List.length_cons, List.length_nil, V.int.injEq]; omega)) ?_
    walk_at "m"
    have e1 : cutV (gs ++ [ev]) none (some (-1)) = gs := by
      unfold cutV
      have : HT.sIx (gs ++ [ev]).length (gs ++ [ev]).length (some (-1)) = gs.length := by
        show (if (-1 : Int) < 0 then ((-1 : Int) + ((gs ++ [ev]).length : Nat)).toNat else min (-1 : Int).toNat (gs ++ [ev]).length) = _
        rw [if_pos (by decide), List.length_append]
        show ((-1 : Int) + ((gs.length + 1 : Nat) : Int)).toNat = _
        omega
      rw [this, HT.sIx_none, List.drop_zero, Nat.sub_zero]
      exact List.take_left
    refine ⟨_, _, _, l1.y, T.cL, T.nL _ (by decide), _, rfl, t, rfl, _, hsqT l1.t, ?_, fun u nu => ?_⟩
    · intro ⟨_, z⟩
      have : HT.sIx (gs ++ [ev]).length (gs ++ [ev]).length (some (-1)) = gs.length := by
        show (if (-1 : Int) < 0 then ((-1 : Int) + ((gs ++ [ev]).length : Nat)).toNat else min (-1 : Int).toNat (gs ++ [ev]).length) = _
        rw [if_pos (by decide), List.length_append]
        show ((-1 : Int) + ((gs.length + 1 : Nat) : Int)).toNat = _
        omega
      have z2 : HT.sIx (gs ++ [ev]).length (gs ++ [ev]).length (some (-1)) = (gs ++ [ev]).length := z
      rw [this, List.length_append] at z2
      have : gs.length = gs.length + 1 := z2
      omega
    rw [show cutV (gs ++ [ev]) none (some (-1)) = gs from e1]
    obtain ⟨H1, h, s1, d1, eu, hu⟩ := newE (S := S) (.tup gs) d nu
    rw [h]; clear h
    have l2 := l1.same s1
    refine ⟨_, _, _, l2.y, T.cL, T.nL _ (by decide), Nat.le_of_ble_eq_true rfl, ?_⟩
    obtain ⟨H4, h, k4, d4, e4, g4⟩ := setE (C := cL K) (dx := dx) (fs := [("past", .ref t)]) "past" (.ref u) [("past", .ref u)] (Kp.of (M := [y]) s1) my d1 rfl
    rw [h]; clear h
    have g04 : Same (hid S H) (hid S H4) := (hid_same s1).trans g4
    walk_at "m"
    exact q _ k4 ⟨dx, u, _, e4, g4 _ _ hu, hgs.mono fun _ _ z => z.up g04⟩
def sp_Live_UlenU (K : PySem.W.Frag) : Sp := fun vs H Q _ => ∃ (S : List Addr) (y : Addr) (past : List Ent), vs = [.ref y] ∧ LvAt K S H y past ∧ past ≠ [] ∧ ∀ H', Same H H' → Q (.int ((past.length - 1 : Nat) : Nat)) H'
theorem sc_Live_UlenU : FnScope ["self"] ["self"] (defScope (inClass (top 19) 13)) := ⟨rfl, rfl, rfl, by decide +kernel, rfl, by decide +kernel, by decide +kernel⟩
theorem ok_Live_UlenU {P : Program} {w : World} {K : PySem.W.Frag} {mg : Str → Option Value} {base : Heap} (D : Spc K (cls_Live K) "__len__" "Live.__len__" (inClass (top 19) 13) ["self"]) (T : Glo K mg)   : GS P w K mg base 1 (cls_Live K) "__len__" (sp_Live_UlenU K) := by
  have nd := sc_Live_UlenU.nd
  refine D.go sc_Live_UlenU (fun vs H Q E h => ?_) (fun f cdv A outer s0 H vs Q E hr h => ?_)
  · obtain ⟨S, y, past, rfl, ⟨dx, t, es, l1⟩, hne, q⟩ := h; rfl
  obtain ⟨S, y, past, rfl, ⟨dx, t, es, l1⟩, hne, q⟩ := h
  refine ⟨_, (pss_one (ps_ret (pe_callB call_lenS (by rfl) T.b_len (by decide +kernel) (pa_cons (pe_slice sl_tup (pe_fld (pv 0) rfl) (po_some pe_int) po_none) pa_nil)))), ?_⟩
  clear nd hr
  have le : es.length = past.length := l1.es.len
  have lp : past.length ≠ 0 := fun z => hne (List.eq_nil_of_length_eq_zero z)
  walk_at "r"
  refine ⟨_, _, _, l1.y, T.cL, T.nL _ (by decide), _, rfl, t, rfl, _, hsqT l1.t, ?_, fun u nu => ?_⟩
  · intro ⟨z, _⟩
    have z2 : HT.sIx es.length 0 (some ((1 : Nat) : Int)) = 0 := z
    rw [HT.sIx_nat] at z2
    omega
  rw [show cutV es (some 1) none = es.drop 1 from cutV_drop _ 1]
  refine ⟨.tup u, rfl, _, sqT upd_same, trivial, ?_⟩
  rw [List.length_drop, le]
  exact q _ (Same.upd nu)
def sp_Block_UinitU (K : PySem.W.Frag) : Sp := fun vs H Q _ => ∃ (b dx y : Addr), vs = [.ref b, .ref y] ∧ H b = some (.ins (cB K) dx []) ∧ ∀ H' kv, Kp [b] H H' → H' b = some (.ins (cB K) dx [("live", .ref y), ("kept", kv)]) → Q .non H'
theorem sc_Block_UinitU : FnScope ["self", "live"] ["self", "live"] (defScope (inClass (top 17) 0)) := ⟨rfl, rfl, rfl, by decide +kernel, rfl, by decide +kernel, by decide +kernel⟩
theorem ok_Block_UinitU {P : Program} {w : World} {K : PySem.W.Frag} {mg : Str → Option Value} {base : Heap} (D : Ini K mg "Block" (cls_Block K) "Block.__init__" (inClass (top 17) 0) ["self", "live"] []) (T : Glo K mg)   : GC P w K mg base 1 "Block" (cls_Block K) (sp_Block_UinitU K) ∧ GC P w K mg base 1 "Block" (cls_Block K) (fun vs H Q E => sp_Block_UinitU K (vs ++ []) H Q E) := by
  have nd := sc_Block_UinitU.nd
  refine D.go sc_Block_UinitU (fun vs H Q E h => ?_) (fun f cdv A outer s0 H vs Q E hr h => ?_)
  · obtain ⟨b, dx, y, rfl, eb, q⟩ := h; rfl
  obtain ⟨b, dx, y, rfl, eb, q⟩ := h
  refine ⟨_, (pss_cons (ps_fld (pv 0) (pv 1) rfl)
  (pss_one (ps_fld (pv 0) (pe_tup pa_nil) rfl))), ?_⟩
  clear nd hr
  have mb : b ∈ [b] := by simp
  have d : Dom [b] H := .cons eb Dom.nil
  walk_at "r"
  refine ⟨_, _, _, eb, T.cB, T.nB _ (by decide), Nat.le_of_ble_eq_true rfl, ?_⟩
  obtain ⟨H1, h, k1, d1, e1, _⟩ := setE (C := cB K) (dx := dx) (fs := []) "live" (.ref y) [("live", .ref y)] (Kp.refl (M := [b]) (H := H)) mb d rfl
  rw [h]; clear h
  walk_at "m"
  refine ⟨by decide, fun u nu => ?_⟩
  obtain ⟨H2, h, s2, d2, _, _⟩ := newE (S := [b]) (.tup []) d1 nu
  rw [h]; clear h
  refine ⟨_, _, _, s2 _ _ e1, T.cB, T.nB _ (by decide), Nat.le_of_ble_eq_true rfl, ?_⟩
  obtain ⟨H3, h, k3, d3, e3, _⟩ := setE (C := cB K) (dx := dx) (fs := [("live", .ref y)]) "kept" (.ref u) [("live", .ref y), ("kept", .ref u)] (k1.trans (Kp.of s2)) mb d2 rfl
  rw [h]; clear h
  exact q _ _ k3 e3
def sp_Block_UenterU (K : PySem.W.Frag) : Sp := fun vs H Q _ => ∃ (b dx y dy : Addr) (kv gv : V), vs = [.ref b] ∧ H b = some (.ins (cB K) dx [("live", .ref y), ("kept", kv)]) ∧ H y = some (.ins (cL K) dy [("past", gv)]) ∧ ∀ H', Kp [b] H H' → H' b = some (.ins (cB K) dx [("live", .ref y), ("kept", gv)]) → Q (.ref y) H'
theorem sc_Block_UenterU : FnScope ["self"] ["self"] (defScope (inClass (top 17) 1)) := ⟨rfl, rfl, rfl, by decide +kernel, rfl, by decide +kernel, by decide +kernel⟩
theorem ok_Block_UenterU {P : Program} {w : World} {K : PySem.W.Frag} {mg : Str → Option Value} {base : Heap} (D : Spc K (cls_Block K) "__enter__" "Block.__enter__" (inClass (top 17) 1) ["self"]) (T : Glo K mg)   : GS P w K mg base 1 (cls_Block K) "__enter__" (sp_Block_UenterU K) := by
  have nd := sc_Block_UenterU.nd
  refine D.go sc_Block_UenterU (fun vs H Q E h => ?_) (fun f cdv A outer s0 H vs Q E hr h => ?_)
  · obtain ⟨b, dx, y, dy, kv, gv, rfl, eb, ey, q⟩ := h; rfl
  obtain ⟨b, dx, y, dy, kv, gv, rfl, eb, ey, q⟩ := h
  refine ⟨_, (pss_cons (ps_fld (pv 0) (pe_fld (pe_fld (pv 0) rfl) rfl) rfl)
  (pss_one (ps_ret (pe_fld (pv 0) rfl)))), ?_⟩
  clear nd hr
  have mb : b ∈ [b] := by simp
  have d : Dom [b] H := .cons eb Dom.nil
  walk_at "r"
  refine ⟨_, _, _, eb, T.cB, T.nB _ (by decide), _, rfl, ?_⟩
  refine ⟨y, rfl, _, _, _, ey, T.cL, T.nL _ (by decide), _, rfl, _, _, _, eb, T.cB, T.nB _ (by decide), Nat.le_of_ble_eq_true rfl, ?_⟩
  obtain ⟨H1, h, k1, d1, e1, _⟩ := setE (C := cB K) (dx := dx) (fs := [("live", .ref y), ("kept", kv)]) "kept" gv [("live", .ref y), ("kept", gv)] (Kp.refl (M := [b]) (H := H)) mb d rfl
  rw [h]; clear h
  walk_at "m"
  exact ⟨_, _, _, e1, T.cB, T.nB _ (by decide), _, rfl, q _ k1 e1⟩
def sp_Block_UexitU (K : PySem.W.Frag) : Sp := fun vs H Q _ => ∃ (b dx y dy : Addr) (gv ov : V) (w1 w2 w3 : V), vs = [.ref b, w1, w2, w3] ∧ H b = some (.ins (cB K) dx [("live", .ref y), ("kept", gv)]) ∧ H y = some (.ins (cL K) dy [("past", ov)]) ∧ ∀ H', Kp [y] H H' → H' y = some (.ins (cL K) dy [("past", gv)]) → Q .non H'
theorem sc_Block_UexitU : FnScope ["self", "kind", "value", "trace"] ["self", "kind", "value", "trace"] (defScope (inClass (top 17) 2)) := ⟨rfl, rfl, rfl, by decide +kernel, rfl, by decide +kernel, by decide +kernel⟩
theorem ok_Block_UexitU {P : Program} {w : World} {K : PySem.W.Frag} {mg : Str → Option Value} {base : Heap} (D : Spc K (cls_Block K) "__exit__" "Block.__exit__" (inClass (top 17) 2) ["self", "kind", "value", "trace"]) (T : Glo K mg)   : GS P w K mg base 1 (cls_Block K) "__exit__" (sp_Block_UexitU K) := by
  have nd := sc_Block_UexitU.nd
  refine D.go sc_Block_UexitU (fun vs H Q E h => ?_) (fun f cdv A outer s0 H vs Q E hr h => ?_)
  · obtain ⟨b, dx, y, dy, gv, ov, w1, w2, w3, rfl, eb, ey, q⟩ := h; rfl
  obtain ⟨b, dx, y, dy, gv, ov, w1, w2, w3, rfl, eb, ey, q⟩ := h
  refine ⟨_, (pss_one (ps_fld (pe_fld (pv 0) rfl) (pe_fld (pv 0) rfl) rfl)), ?_⟩
  clear nd hr
  have my : y ∈ [y] := by simp
  have d : Dom [y] H := .cons ey Dom.nil
  walk_at "r"
  refine ⟨_, _, _, eb, T.cB, T.nB _ (by decide), _, rfl, _, _, _, eb, T.cB, T.nB _ (by decide), _, rfl, ?_⟩
  refine ⟨y, rfl, _, _, _, ey, T.cL, T.nL _ (by decide), Nat.le_of_ble_eq_true rfl, ?_⟩
  obtain ⟨H1, h, k1, d1, e1, _⟩ := setE (C := cL K) (dx := dy) (fs := [("past", ov)]) "past" gv [("past", gv)] (Kp.refl (M := [y]) (H := H)) my d rfl
  rw [h]; clear h
  exact q _ k1 e1
end Gt

set_option Elab.async false
set_option linter.all false
set_option maxRecDepth 100000
set_option maxHeartbeats 2000000
namespace Gt
open PySem PySem.Spec PyProof.Rows L2 StX
local macro_rules | `(tactic| walk_at "r") => `(tactic| simp only [tRet, tRetN, tAndV, tOrV, tNotV, tAnd, tOr, tNot, tCB, tCons, tNil, tC, tVar, L2.start, tCl, tOp, tTest, tB, tIf, tIfS, seqE, tAsg, gName, gTup, gLst, gCons, gNil, tPar, tPar3, tTup, tLst, tFld, sFld, sFldAug, tMt, tPr, tMakeR, tMakeL, tCallV, tWith, tSl, tPart, tNoPart, tM1, tM0, tBM, tBM0, tStar, tRevS, tJs, fmtE, tDrop, tNext, tChain, tUn, tYes, gSub, gAttr, ClX.tCMeth, lcE_src, lcE_enum, lcE_rng, lc2E_src, forE_src, forE_enum, forE_rng, forE_zip, iZipS, cxOf, Cx.nox, Cx.blk,
  rI, rI0, rU, rEq, rNe, rAdd, rIsi, rIsiT, rAll, rAny, rEqD, rNeD, rSrc, rSlL, rSlT, rSlS, rCat, rCatT, rNewStrs, rAppend, rIn,
  List.map_cons, List.map_nil, List.length_cons, List.length_nil, List.replicate, List.append_nil, List.cons_append, List.nil_append, List.getElem?_cons_zero, List.getElem?_cons_succ, List.set_cons_zero, List.set_cons_succ, wipe,
  Option.some.injEq, List.cons.injEq, V.int.injEq, V.bl.injEq, V.str.injEq, V.ref.injEq, and_true, true_and, exists_eq_left', exists_eq_left, exists_eq, exists_eq', exists_and_left, Nat.sub_self, Nat.zero_add, Nat.reduceAdd, Nat.reduceSub, Bool.not_true, Bool.not_false, Bool.false_eq_true, ite_true, ite_false, if_true, if_false, and_assoc, Int.ofNat_inj])
local macro_rules | `(tactic| walk_at "n") => `(tactic| (refine later ?_; try walk_at "r"))
local macro_rules | `(tactic| walk_at "m") => `(tactic| (refine later ?_; try walk_at "r"; refine later ?_; try walk_at "r"))
def sp__law_worked (K : PySem.W.Frag) : Sp := fun vs H Q _ => ∃ (S : List Addr) (y : Addr) (ps : List Ent) (e : Ent) (L : Nat), vs = [.ref y] ∧ LvAt K S H y (ps ++ [e]) ∧ EntOk L e ∧ L + 4 ≤ 90000 ∧ e.hd.length ≤ 900 ∧ ps.length ≤ 900 ∧ y ∈ S ∧ Dom S H ∧
  ∀ H', Kp [y] H H' → (∃ past, LvAt K S H' y past) → Q (.bl true) H'
theorem sc__law_worked : FnScope ["_law_inner", "_law_found"] ["_law_inner"] (defScope (top 76)) := ⟨rfl, rfl, rfl, by decide +kernel, rfl, by decide +kernel, by decide +kernel⟩
theorem ok__law_worked {P : Program} {w : World} {K : PySem.W.Frag} {mg : Str → Option Value} {base : Heap} (D : Adr K (aW K) "_law_worked" "_law_worked" (top 76) ["_law_inner"]) (T : Glo K mg) (m_take : GM P w K mg base 5 (cls_Live K) "take" (sp_Live_take K)) (m_undo : GM P w K mg base 1 (cls_Live K) "undo" (sp_Live_undo K))  : FnR P w K mg base CX0 6 (aW K) (sp__law_worked K) ∧ PySem.W.keepIn K (.ref (aW K)) = true := by
  have nd := sc__law_worked.nd
  refine D.go sc__law_worked (fun vs H Q E h => ?_) (fun f cdv A outer s0 H vs Q E hr h => ?_)
  · obtain ⟨S, y, ps, e, L, rfl, l, ok, hL, lh, lp, my, d, q⟩ := h; rfl
  obtain ⟨S, y, ps, e, L, rfl, l, ok, hL, lh, lp, my, d, q⟩ := h
  refine ⟨_, (pss_cons (ps_expr (pc_m m_take T.cL hr (pv 0) (pa_cons pe_str pa_nil)))
  (pss_cons (ps_set (i := 1) nd rfl (by first | exact Or.inl rfl | exact Or.inr rfl) (pc_m0 m_undo T.cL hr (pv 0)))
  (pss_cons (ps_expr (pc_m0 m_undo T.cL hr (pv 0)))
  (pss_one (ps_ret (pv 1)))))), ?_⟩
  clear nd hr
  obtain ⟨dx, t, es, l1⟩ := id l
  walk_at "r"
  refine ⟨_, _, l1.y, rfl, ?_⟩
  refine ⟨S, y, ps, e, L, 0, rfl, l, ok, hL, lh, by omega, by omega, my, d, fun H1 k1 l1' => ?_⟩
  obtain ⟨dx2, t2, es2, l2⟩ := id l1'
  have dk : ∀ {H H' : Hp} {past : List Ent}, Dom S H → Kp [y] H H' → LvAt K S H' y past → Dom S H' := fun d k l => d.kp k fun z hz => by
    obtain ⟨_, _, _, l⟩ := l
    rw [List.mem_singleton.mp hz, l.y]
    exact fun q => by cases q
  have d1 := dk d k1 l1'
  walk_at "m"
  refine ⟨_, _, l2.y, rfl, ?_⟩
  refine ⟨S, y, ps ++ [e], _, rfl, l1', my, d1, .inr ⟨by simp, fun H2 k2 l2' => ?_⟩⟩
  obtain ⟨dx3, t3, es3, l3⟩ := id l2'
  have d2 := dk d1 k2 l2'
  walk_at "m"
  refine ⟨_, _, l3.y, rfl, ?_⟩
  by_cases h : ps = []
  · refine ⟨S, y, ps, e, rfl, l2', my, d2, .inl ⟨h, ?_⟩⟩
    walk_at "m"
    exact q _ (k1.trans k2) ⟨_, l2'⟩
  · refine ⟨S, y, ps, e, rfl, l2', my, d2, .inr ⟨h, fun H3 k3 l3' => ?_⟩⟩
    walk_at "m"
    exact q _ ((k1.trans k2).trans k3) ⟨_, l3'⟩
def sp_Live_within (K : PySem.W.Frag) : Sp := fun vs H Q _ => ∃ (S : List Addr) (y : Addr) (ps : List Ent) (e : Ent) (L : Nat), vs = [.ref y, .ref (aW K)] ∧ LvAt K S H y (ps ++ [e]) ∧ EntOk L e ∧ L + 4 ≤ 90000 ∧ e.hd.length ≤ 900 ∧ ps.length ≤ 900 ∧ y ∈ S ∧ Dom S H ∧
  ∀ H', Kp [y] H H' → LvAt K S H' y (ps ++ [e]) → Q (.bl true) H'
theorem sc_Live_within : FnScope ["self", "work", "given"] ["self", "work"] (defScope (inClass (top 19) 12)) := ⟨rfl, rfl, rfl, by decide +kernel, rfl, by decide +kernel, by decide +kernel⟩
theorem ok_Live_within {P : Program} {w : World} {K : PySem.W.Frag} {mg : Str → Option Value} {base : Heap} (D : Mth K (cls_Live K) "within" "Live.within" (inClass (top 19) 12) ["self", "work"]) (T : Glo K mg) (n_Block : GS P w K mg base 1 (cls_Block K) "__enter__" (sp_Block_UenterU K)) (x_Block : GS P w K mg base 1 (cls_Block K) "__exit__" (sp_Block_UexitU K)) (c_Block : GC P w K mg base 1 "Block" (cls_Block K) (sp_Block_UinitU K)) (w_worked : FnR P w K mg base CX0 6 (aW K) (sp__law_worked K) ∧ PySem.W.keepIn K (.ref (aW K)) = true)  : GM P w K mg base 7 (cls_Live K) "within" (sp_Live_within K) := by
  have nd := sc_Live_within.nd
  refine D.go sc_Live_within (fun vs H Q E h => ?_) (fun f cdv A outer s0 H vs Q E hr h => ?_)
  · obtain ⟨S, y, ps, e, L, rfl, l, ok, hL, lh, lp, my, d, q⟩ := h; rfl
  obtain ⟨S, y, ps, e, L, rfl, l, ok, hL, lh, lp, my, d, q⟩ := h
  refine ⟨_, (pss_one (ps_with (pc_c c_Block hr (pa_cons (pv 0) pa_nil)) n_Block x_Block hr nd (i := 2) rfl (.inl rfl) (pss_one (ps_ret (pc_l (i := 1) w_worked.1 w_worked.2 hr (pa_cons (pv 2) pa_nil) rfl (.inl rfl)))))), ?_⟩
  clear nd hr
  obtain ⟨dx, t, es, l1⟩ := id l
  walk_at "r"
  intro b dx2 nb nd ne
  refine ⟨b, dx2, y, rfl, upd_same, fun H1 kv k1 e1 => ⟨rfl, _, _, e1, ?_⟩⟩
  have s1 := made nb nd k1
  have l1' := l1.same s1
  refine ⟨b, dx2, y, dx, kv, .ref t, rfl, e1, l1'.y, fun H2 k2 e2 => ?_⟩
  have kb : Kp [b] H H2 := (Kp.of s1).trans k2
  have s2 : Same H H2 := same_kp nb kb
  have nby : b ≠ y := fun z => by have := l1.y; rw [← z, nb] at this; cases this
  have g2 := same_hid2 (S := S) nb kb
  have l2 : LvAt K (b :: S) H2 y (ps ++ [e]) := ⟨dx, t, es, s2 _ _ l1.y, g2 _ _ l1.t, l1.es.mono fun _ _ z => z.up g2⟩
  refine ⟨b :: S, y, ps, e, L, rfl, l2, ok, hL, lh, lp, List.mem_cons_of_mem _ my, .cons e2 (d.same s2), fun H3 k3 ⟨past3, dx3, t3, es3, l3⟩ => ?_⟩
  have e3 := k3 _ _ (by simpa using nby) e2
  refine ⟨b, dx2, y, dx3, .ref t, .ref t3, .non, .non, .non, rfl, e3, l3.y, fun H4 k4 e4 => ?_⟩
  have k04 : Kp [y] H H4 := ((Kp.of s2).trans k3).trans k4
  have g04 := hid_kp (S := S) k04 (fun z hz => by rw [List.mem_singleton.mp hz]; exact my)
  exact q _ k04 ⟨dx3, t, es, e4, g04 _ _ l1.t, l1.es.mono fun _ _ z => z.up g04⟩
end Gt

set_option Elab.async false
set_option linter.all false
set_option maxRecDepth 100000
set_option maxHeartbeats 2000000
namespace Gt
open PySem PySem.Spec PyProof.Rows L2 StX
local macro_rules | `(tactic| walk_at "r") => `(tactic| simp only [tRet, tRetN, tAndV, tOrV, tNotV, tAnd, tOr, tNot, tCB, tCons, tNil, tC, tVar, L2.start, tCl, tOp, tTest, tB, tIf, tIfS, seqE, tAsg, gName, gTup, gLst, gCons, gNil, tPar, tPar3, tTup, tLst, tFld, sFld, sFldAug, tMt, tPr, tMakeR, tMakeL, tCallV, tWith, tSl, tPart, tNoPart, tM1, tM0, tBM, tBM0, tStar, tRevS, tJs, fmtE, tDrop, tNext, tChain, tUn, tYes, gSub, gAttr, ClX.tCMeth, lcE_src, lcE_enum, lcE_rng, lc2E_src, forE_src, forE_enum, forE_rng, forE_zip, iZipS, cxOf, Cx.nox, Cx.blk,
  rI, rI0, rU, rEq, rNe, rAdd, rIsi, rIsiT, rAll, rAny, rEqD, rNeD, rSrc, rSlL, rSlT, rSlS, rCat, rCatT, rNewStrs, rAppend, rIn,
  List.map_cons, List.map_nil, List.length_cons, List.length_nil, List.replicate, List.append_nil, List.cons_append, List.nil_append, List.getElem?_cons_zero, List.getElem?_cons_succ, List.set_cons_zero, List.set_cons_succ, wipe,
  Option.some.injEq, List.cons.injEq, V.int.injEq, V.bl.injEq, V.str.injEq, V.ref.injEq, and_true, true_and, exists_eq_left', exists_eq_left, exists_eq, exists_eq', exists_and_left, Nat.sub_self, Nat.zero_add, Nat.reduceAdd, Nat.reduceSub, Bool.not_true, Bool.not_false, Bool.false_eq_true, ite_true, ite_false, if_true, if_false, and_assoc, Int.ofNat_inj])
local macro_rules | `(tactic| walk_at "n") => `(tactic| (refine later ?_; try walk_at "r"))
local macro_rules | `(tactic| walk_at "m") => `(tactic| (refine later ?_; try walk_at "r"; refine later ?_; try walk_at "r"))
/-! ### the box of draws -/
def BoxAt (H : Hp) (b : Addr) : Prop := ∃ g s : Int, H b = some (.lst [.int g, .int s]) ∧ 0 ≤ s ∧ s < 4294967296
theorem BoxAt.dom {H : Hp} {b : Addr} (h : BoxAt H b) : H b ≠ none := by
  obtain ⟨g, s, e, _⟩ := h
  rw [e]
  exact fun q => by cases q
theorem BoxAt.same {H H' : Hp} {b : Addr} (s : Same H H') (h : BoxAt H b) : BoxAt H' b := let ⟨g, t, e, q⟩ := h; ⟨g, t, s _ _ e, q⟩
theorem BoxAt.eq {H H' : Hp} {b : Addr} (s : H' b = H b) (h : BoxAt H b) : BoxAt H' b := let ⟨g, t, e, q⟩ := h; ⟨g, t, by rw [s, e], q⟩
theorem Dom.box {S : List Addr} {H H' : Hp} {b : Addr} (d : Dom S H) (k : Kp [b] H H') (h : BoxAt H' b) : Dom S H' := d.kp k fun a ha => by rw [List.mem_singleton.mp ha]; exact h.dom
theorem call_intI {X : Cx} : CallR X (.type "int") (fun xs H Q => ∃ i, xs = [.int i] ∧ Q (.int i) H) := fun pins s σ H xs us Q I r ⟨i, e, q⟩ => call_int1 pins s σ H xs us Q I r (.inl ⟨i, e, q⟩)
theorem call_listT {X : Cx} (hc : X.calm = true) : CallR X (.type "list") (fun xs H Q => ∃ z : Str, xs = [.str z] ∧ z.length ≤ sizeLine ∧ ∀ p, H p = none → Q (.ref p) (upd H p (.lst (z.cps.toList.map fun c => V.str ⟨#[c]⟩)))) :=
  fun pins s σ H xs us Q I r ⟨z, e, hz, q⟩ => call_listS pins s σ H xs us Q I r ⟨z, e, hc, hz, q⟩
def sp__law_seed (K : PySem.W.Frag) : Sp := fun vs H Q _ => ∃ (a : Addr) (ns : List Int) (k : Nat), vs = [.ref a, .int (k : Nat)] ∧ SqL K H a (ns.map V.int) ∧ k < 4 ∧ ∀ H' b, Same H H' → H b = none → BoxAt H' b → Q (.ref b) H'
theorem sc__law_seed : FnScope ["_law_script", "_law_k", "_law_cell", "_law_great"] ["_law_script", "_law_k"] (defScope (top 51)) := ⟨rfl, rfl, rfl, by decide +kernel, rfl, by decide +kernel, by decide +kernel⟩
theorem ok__law_seed {P : Program} {w : World} {K : PySem.W.Frag} {mg : Str → Option Value} {base : Heap} (D : Def K mg "_law_seed" (top 51) ["_law_script", "_law_k"]) (T : Glo K mg)   : GF P w K mg base 1 "_law_seed" (sp__law_seed K) := by
  have nd := sc__law_seed.nd
  refine D.go sc__law_seed (fun vs H Q E h => ?_) (fun f cdv A outer s0 H vs Q E hr h => ?_)
  · obtain ⟨a, ns, k, rfl, ha, hk, q⟩ := h; rfl
  obtain ⟨a, ns, k, rfl, ha, hk, q⟩ := h
  refine ⟨_, (pss_cons (ps_set (i := 2) nd rfl (by first | exact Or.inl rfl | exact Or.inr rfl) (pe_op op_add (pe_op op_mul pe_int (pv 1)) pe_int))
  (pss_cons (ps_if (pt_cmpR op_lt (pv 1) (pe_callB call_lenS (by rfl) T.b_len (by decide +kernel) (pa_cons (pv 0) pa_nil)) (nomark _))
  (pss_one (ps_set (i := 2) nd rfl (by first | exact Or.inl rfl | exact Or.inr rfl) (pe_callB call_abs (by rfl) T.b_abs (by decide +kernel) (pa_cons (pe_ix ix_src (pv 0) (pv 1) (fun _ _ => rfl)) pa_nil))))
  (pss_one (ps_if (pt_cmpR op_gt (pe_callB call_lenS (by rfl) T.b_len (by decide +kernel) (pa_cons (pv 0) pa_nil)) pe_int (nomark _))
  (pss_one (ps_set (i := 2) nd rfl (by first | exact Or.inl rfl | exact Or.inr rfl) (pe_op op_add (pv 2) (pe_op op_mul (pe_op op_mod (pe_callTy call_intI (by rfl) T.b_int (by decide +kernel) (pa_cons (pe_callB call_abs (by rfl) T.b_abs (by decide +kernel) (pa_cons (pe_ix ix_src (pv 0) (pe_op op_mod (pe_callTy call_intI (by rfl) T.b_int (by decide +kernel) (pa_cons (pv 1) pa_nil)) (pe_callB call_lenS (by rfl) T.b_len (by decide +kernel) (pa_cons (pv 0) pa_nil))) (fun _ _ => rfl)) pa_nil)) pa_nil)) pe_int) pe_int))))
  pss_nil)))
  (pss_cons (ps_set (i := 3) nd rfl (by first | exact Or.inl rfl | exact Or.inr rfl) (pe_ifExp (pt_cmpR op_ge (pv 2) (pe_op op_pow pe_int pe_int) (nomark _)) (pv 2) pe_int))
  (pss_one (ps_ret (pe_lst (pa_cons (pv 3) (pa_cons (pe_op op_add (pe_op op_mod (pe_callTy call_intI (by rfl) T.b_int (by decide +kernel) (pa_cons (pe_op op_add (pe_op op_mul (pe_op op_mod (pe_callTy call_intI (by rfl) T.b_int (by decide +kernel) (pa_cons (pv 2) pa_nil)) pe_int) pe_int) (pe_op op_mul pe_int (pv 1))) pa_nil)) pe_int) pe_int) pa_nil)))))))), ?_⟩
  clear nd hr
  have fin : ∀ (cell : Int) (H1 : Hp), H1 = H → ∀ b, H1 b = none → ∀ g, BoxAt (upd H1 b (.lst [.int g, .int (((cell % 2147483629 * 48271 + 41201 * (k : Int)) % 2147483629) + 1)])) b := fun cell H1 e b nb g => by
    refine ⟨g, _, upd_same, ?_, ?_⟩
    · have := Int.emod_nonneg (cell % 2147483629 * 48271 + 41201 * (k : Int)) (by decide : (2147483629 : Int) ≠ 0)
      omega
    · have := Int.emod_lt_of_pos (cell % 2147483629 * 48271 + 41201 * (k : Int)) (by decide : (0 : Int) < 2147483629)
      omega
  walk_at "r"
  refine ⟨.inr ⟨by omega, by omega⟩, ?_⟩
  walk_at "n"
  refine ⟨.lst a, rfl, _, ha, trivial, ?_⟩
  rw [List.length_map]
  refine ite2' (fun h => ?_) (fun h => ?_)
  · have hlt : k < ns.length := by have := of_decide_eq_true h; omega
    refine ⟨.lst a, rfl, _, ha, trivial, _, atI_nat (by rw [List.getElem?_map, List.getElem?_eq_getElem hlt]; rfl), _, rfl, ?_⟩
    walk_at "m"
    refine ⟨⟨by decide, by decide, by decide⟩, ?_⟩
    refine ite2' (fun _ => ?_) (fun _ => ?_)
    · walk_at "m"
      refine ⟨by decide, .inr ⟨by decide, by decide⟩, .inr ⟨by omega, by omega⟩, by decide, by decide, fun b nb => q _ _ (Same.upd nb) nb (fin _ _ rfl b nb _)⟩
    · walk_at "m"
      refine ⟨by decide, .inr ⟨by decide, by decide⟩, .inr ⟨by omega, by omega⟩, by decide, by decide, fun b nb => q _ _ (Same.upd nb) nb (fin _ _ rfl b nb _)⟩
  · refine ⟨.lst a, rfl, _, ha, trivial, ?_⟩
    rw [List.length_map]
    refine ite2' (fun h2 => ?_) (fun h2 => ?_)
    · have h0 : 0 < ns.length := by have := of_decide_eq_true h2; omega
      have hm : k % ns.length < ns.length := Nat.mod_lt _ h0
      have hmi : ((k : Int) % ((ns.length : Nat) : Int)) = ((k % ns.length : Nat) : Int) := by omega
      refine ⟨.lst a, rfl, _, ha, trivial, by rw [List.length_map]; omega, ?_⟩
      refine ⟨.lst a, rfl, _, ha, trivial, _, by rw [List.length_map, hmi]; exact atI_nat (by rw [List.getElem?_map, List.getElem?_eq_getElem hm]; rfl), _, rfl, by decide, .inr ⟨by decide, by decide⟩, ?_⟩
      walk_at "m"
      refine ⟨⟨by decide, by decide, by decide⟩, ?_⟩
      refine ite2' (fun _ => ?_) (fun _ => ?_)
      · walk_at "m"
        refine ⟨by decide, .inr ⟨by decide, by decide⟩, .inr ⟨by omega, by omega⟩, by decide, by decide, fun b nb => q _ _ (Same.upd nb) nb (fin _ _ rfl b nb _)⟩
      · walk_at "m"
        refine ⟨by decide, .inr ⟨by decide, by decide⟩, .inr ⟨by omega, by omega⟩, by decide, by decide, fun b nb => q _ _ (Same.upd nb) nb (fin _ _ rfl b nb _)⟩
    · walk_at "m"
      refine ⟨⟨by decide, by decide, by decide⟩, ?_⟩
      refine ite2' (fun _ => ?_) (fun _ => ?_)
      · walk_at "m"
        refine ⟨by decide, .inr ⟨by decide, by decide⟩, .inr ⟨by omega, by omega⟩, by decide, by decide, fun b nb => q _ _ (Same.upd nb) nb (fin _ _ rfl b nb _)⟩
      · walk_at "m"
        refine ⟨by decide, .inr ⟨by decide, by decide⟩, .inr ⟨by omega, by omega⟩, by decide, by decide, fun b nb => q _ _ (Same.upd nb) nb (fin _ _ rfl b nb _)⟩
def sp__law_choose (K : PySem.W.Frag) : Sp := fun vs H Q _ => ∃ (b : Addr) (n : Nat), vs = [.ref b, .int (n : Nat)] ∧ BoxAt H b ∧ 1 ≤ n ∧ n < 1000000 ∧ ∀ H' (i : Nat), Kp [b] H H' → BoxAt H' b → i < n → Q (.int (i : Nat)) H'
theorem sc__law_choose : FnScope ["_law_box", "_law_many", "_law_digit", "_law_raw"] ["_law_box", "_law_many"] (defScope (top 52)) := ⟨rfl, rfl, rfl, by decide +kernel, rfl, by decide +kernel, by decide +kernel⟩
theorem ok__law_choose {P : Program} {w : World} {K : PySem.W.Frag} {mg : Str → Option Value} {base : Heap} (D : Def K mg "_law_choose" (top 52) ["_law_box", "_law_many"]) (T : Glo K mg)   : GF P w K mg base 1 "_law_choose" (sp__law_choose K) := by
  have nd := sc__law_choose.nd
  refine D.go sc__law_choose (fun vs H Q E h => ?_) (fun f cdv A outer s0 H vs Q E hr h => ?_)
  · obtain ⟨b, n, rfl, ⟨g, s, eb, s0, s1⟩, n1, n2, q⟩ := h; rfl
  obtain ⟨b, n, rfl, ⟨g, s, eb, s0, s1⟩, n1, n2, q⟩ := h
  refine ⟨_, (pss_cons (ps_if (pt_cmpR op_gt (pe_ix ix_src (pv 0) pe_int (fun _ _ => rfl)) pe_int (nomark _))
  (pss_cons (ps_set (i := 2) nd rfl (by first | exact Or.inl rfl | exact Or.inr rfl) (pe_op op_mod (pe_callTy call_intI (by rfl) T.b_int (by decide +kernel) (pa_cons (pe_ix ix_src (pv 0) pe_int (fun _ _ => rfl)) pa_nil)) (pv 1)))
  (pss_cons (ps_asg (pe_op op_fdiv (pe_ix ix_src (pv 0) pe_int (fun _ _ => rfl)) (pv 1)) (pg_sub (pv 0) pe_int set_list))
  (pss_one (ps_ret (pv 2)))))
  pss_nil)
  (pss_cons (ps_set (i := 3) nd rfl (by first | exact Or.inl rfl | exact Or.inr rfl) (pe_op op_mod (pe_callTy call_intI (by rfl) T.b_int (by decide +kernel) (pa_cons (pe_op op_add (pe_op op_mul (pe_ix ix_src (pv 0) pe_int (fun _ _ => rfl)) pe_int) pe_int) pa_nil)) pe_int))
  (pss_cons (ps_asg (pe_op op_add (pe_op op_mod (pe_callTy call_intI (by rfl) T.b_int (by decide +kernel) (pa_cons (pe_op op_add (pe_op op_mul (pv 3) pe_int) pe_int) pa_nil)) pe_int) pe_int) (pg_sub (pv 0) pe_int set_list))
  (pss_one (ps_ret (pe_op op_mod (pe_callTy call_intI (by rfl) T.b_int (by decide +kernel) (pa_cons (pe_op op_fdiv (pe_op op_add (pe_op op_mul (pv 3) pe_int) (pe_ix ix_src (pv 0) pe_int (fun _ _ => rfl))) pe_int) pa_nil)) (pv 1))))))), ?_⟩
  clear nd hr
  have hn : (0 : Int) < (n : Int) := by omega
  have pick : ∀ (i : Int), ∃ j : Nat, i % (n : Int) = (j : Int) ∧ j < n := fun i => by
    have h1 := Int.emod_nonneg i (by omega : (n : Int) ≠ 0)
    have h2 := Int.emod_lt_of_pos i hn
    exact ⟨(i % (n : Int)).toNat, by omega, by omega⟩
  walk_at "r"
  refine ⟨.lst b, rfl, _, sqL eb, trivial, _, at0, g, rfl, ?_⟩
  refine ite2' (fun h => ?_) (fun h => ?_)
  · walk_at "m"
    refine ⟨.lst b, rfl, _, sqL eb, trivial, _, at0, g, rfl, hn, ?_⟩
    walk_at "m"
    refine ⟨.lst b, rfl, _, sqL eb, trivial, _, at0, g, rfl, ⟨hn, by omega⟩, ?_⟩
    refine ⟨b, _, 0, 0, rfl, rfl, eb, rfl, ?_⟩
    obtain ⟨j, hj, jn⟩ := pick g
    walk_at "m"
    rw [hj]
    exact q _ j (Kp.upd (by simp)) ⟨g / n, s, upd_same, s0, s1⟩ jn
  walk_at "m"
  refine ⟨.lst b, rfl, _, sqL eb, trivial, _, at1, s, rfl, .inr ⟨by decide, by decide⟩, by decide, ?_⟩
  walk_at "m"
  have r0 := Int.emod_nonneg (s * 40014 + 83) (by decide : (2147483563 : Int) ≠ 0)
  have r1 := Int.emod_lt_of_pos (s * 40014 + 83) (by decide : (0 : Int) < 2147483563)
  have t0 := Int.emod_nonneg ((s * 40014 + 83) % 2147483563 * 40692 + 5323) (by decide : (2147483629 : Int) ≠ 0)
  have t1 := Int.emod_lt_of_pos ((s * 40014 + 83) % 2147483563 * 40692 + 5323) (by decide : (0 : Int) < 2147483629)
  refine ⟨.inr ⟨by decide, by decide⟩, by decide, ?_⟩
  refine ⟨b, _, 1, 1, rfl, rfl, eb, rfl, ?_⟩
  have box : BoxAt (upd H b (.lst (([V.int g, .int s] : List V).set 1 (.int (((s * 40014 + 83) % 2147483563 * 40692 + 5323) % 2147483629 + 1))))) b := ⟨g, _, upd_same, by omega, by omega⟩
  have eb2 : (upd H b (.lst (([V.int g, .int s] : List V).set 1 (.int (((s * 40014 + 83) % 2147483563 * 40692 + 5323) % 2147483629 + 1))))) b = some (.lst [.int g, .int (((s * 40014 + 83) % 2147483563 * 40692 + 5323) % 2147483629 + 1)]) := upd_same
  have kb : Kp [b] H (upd H b (.lst (([V.int g, .int s] : List V).set 1 (.int (((s * 40014 + 83) % 2147483563 * 40692 + 5323) % 2147483629 + 1))))) := Kp.upd (by simp)
  generalize upd H b (.lst (([V.int g, .int s] : List V).set 1 (.int (((s * 40014 + 83) % 2147483563 * 40692 + 5323) % 2147483629 + 1)))) = H1 at box eb2 kb ⊢
  walk_at "m"
  refine ⟨.inr ⟨by decide, by decide⟩, .lst b, rfl, _, sqL eb2, trivial, _, at1, _, rfl, ⟨by decide, by decide⟩, hn, ?_⟩
  obtain ⟨j, hj, jn⟩ := pick (((s * 40014 + 83) % 2147483563 * 2147483647 + (((s * 40014 + 83) % 2147483563 * 40692 + 5323) % 2147483629 + 1)) / 8191)
  rw [hj]
  exact q _ j kb box jn
def sp__law_one_of (K : PySem.W.Frag) : Sp := fun vs H Q _ => ∃ (b : Addr) (S : Src) (xs : List V), vs = [.ref b, S.vv] ∧ BoxAt H b ∧ S.small ∧ (∀ H', Kp [b] H H' → S.is K H' xs) ∧ 1 ≤ xs.length ∧ xs.length < 1000000 ∧ ∀ H' (i : Nat) x, Kp [b] H H' → BoxAt H' b → xs[i]? = some x → Q x H'
theorem sc__law_one_of : FnScope ["_law_box", "_law_some"] ["_law_box", "_law_some"] (defScope (top 53)) := ⟨rfl, rfl, rfl, by decide +kernel, rfl, by decide +kernel, by decide +kernel⟩
theorem ok__law_one_of {P : Program} {w : World} {K : PySem.W.Frag} {mg : Str → Option Value} {base : Heap} (D : Def K mg "_law_one_of" (top 53) ["_law_box", "_law_some"]) (T : Glo K mg) (g__law_choose : GF P w K mg base 1 "_law_choose" (sp__law_choose K))  : GF P w K mg base 2 "_law_one_of" (sp__law_one_of K) := by
  have nd := sc__law_one_of.nd
  refine D.go sc__law_one_of (fun vs H Q E h => ?_) (fun f cdv A outer s0 H vs Q E hr h => ?_)
  · obtain ⟨b, S, xs, rfl, hb, hsm, hS, h1, h2, q⟩ := h; rfl
  obtain ⟨b, S, xs, rfl, hb, hsm, hS, h1, h2, q⟩ := h
  refine ⟨_, (pss_one (ps_ret (pe_ix ix_src (pv 1) (pc_g g__law_choose hr (pa_cons (pv 0) (pa_cons (pe_callB call_lenS (by rfl) T.b_len (by decide +kernel) (pa_cons (pv 1) pa_nil)) pa_nil))) (fun _ _ => rfl)))), ?_⟩
  clear nd hr
  walk_at "r"
  refine ⟨S, rfl, xs, hS _ Kp.refl, hsm, b, xs.length, rfl, hb, h1, h2, fun H1 i k1 hb1 hi => ?_⟩
  exact ⟨S, rfl, xs, (i : Int), rfl, hS _ k1, hsm, xs[i], atI_nat (List.getElem?_eq_getElem hi), q _ i _ k1 hb1 (List.getElem?_eq_getElem hi)⟩
theorem join_signs {g : Str} : ∀ {ws : List V}, (∀ (i : Nat) v, ws[i]? = some v → ∃ c, c ∈ g.cps.toList ∧ v = .str ⟨#[c]⟩) → ∃ ys : List Str, ws = ys.map V.str ∧ Of g (Txt.join "" ys) ∧ (Txt.join "" ys).length ≤ ws.length ∧ (ys.map (·.length)).sum = ws.length := by
  intro ws h
  induction ws with
  | nil => exact ⟨[], rfl, by rw [TL.join_eq]; exact of_empty, Nat.le_refl _, rfl⟩
  | cons w r ih =>
    obtain ⟨c, hc, rfl⟩ := h 0 w rfl
    obtain ⟨ys, rfl, h1, h2, h3⟩ := ih fun i v e => h (i + 1) v (by simpa using e)
    have hcat : Txt.join "" ((⟨#[c]⟩ : Str) :: ys) = (⟨#[c]⟩ : Str) ++ Txt.join "" ys := by
      rw [TL.join_eq, TL.join_eq]
      cases ys with
      | nil =>
        show (⟨#[c]⟩ : Str) = (⟨#[c]⟩ : Str) ++ Str.empty
        show (⟨#[c]⟩ : Str) = ⟨#[c] ++ #[]⟩
        rw [Array.append_empty]
      | cons z t =>
        show (⟨#[c]⟩ : Str) ++ "" ++ Str.join "" (z :: t) = _
        have e0 : (⟨#[c]⟩ : Str) ++ (Str.ofString "") = ⟨#[c]⟩ := by
          show (⟨#[c] ++ #[]⟩ : Str) = ⟨#[c]⟩
          rw [Array.append_empty]
        rw [e0]
    have o1 : Of g (⟨#[c]⟩ : Str) := fun d hd => by
      have e : ((⟨#[c]⟩ : Str)).cps.toList = [c] := rfl
      rw [e, List.mem_singleton] at hd
      rw [hd]; exact hc
    refine ⟨(⟨#[c]⟩ : Str) :: ys, rfl, by rw [hcat]; exact of_app o1 h1, ?_, ?_⟩
    · rw [hcat, len_app]
      have : ((⟨#[c]⟩ : Str)).length = 1 := rfl
      simp only [List.length_cons, List.length_map] at h2 ⊢
      omega
    · simp only [List.map_cons, List.sum_cons, List.length_cons, List.length_map] at h3 ⊢
      have : ((⟨#[c]⟩ : Str)).length = 1 := rfl
      omega
theorem box_lc {b : Addr} : ∀ (H H' : Hp), (∀ a ∈ [b], H' a = H a) → BoxAt H b → BoxAt H' b := fun H H' h x => x.eq (h b (by simp))
theorem box_dom {b : Addr} : ∀ H, BoxAt H b → ∀ a ∈ [b], H a ≠ none := fun H h a ha => by rw [List.mem_singleton.mp ha]; exact h.dom
def sp__law_told (K : PySem.W.Frag) : Sp := fun vs H Q _ => ∃ (b : Addr) (g : Str) (n : Nat), vs = [.ref b, .str g, .int (n : Nat)] ∧ BoxAt H b ∧ 1 ≤ g.length ∧ g.length ≤ 1000 ∧ n ≤ 100 ∧ ∀ H' t, Kp [b] H H' → BoxAt H' b → Of g t → t.length ≤ n → Q (.str t) H'
theorem sc__law_told : FnScope ["_law_box", "_law_marks", "_law_most", "_law_turn"] ["_law_box", "_law_marks", "_law_most"] (defScope (top 55)) := ⟨rfl, rfl, rfl, by decide +kernel, rfl, by decide +kernel, by decide +kernel⟩
theorem ok__law_told {P : Program} {w : World} {K : PySem.W.Frag} {mg : Str → Option Value} {base : Heap} (D : Def K mg "_law_told" (top 55) ["_law_box", "_law_marks", "_law_most"]) (T : Glo K mg) (g__law_choose : GF P w K mg base 1 "_law_choose" (sp__law_choose K)) (g__law_one_of : GF P w K mg base 2 "_law_one_of" (sp__law_one_of K))  : GF P w K mg base 3 "_law_told" (sp__law_told K) := by
  have nd := sc__law_told.nd
  refine D.go sc__law_told (fun vs H Q E h => ?_) (fun f cdv A outer s0 H vs Q E hr h => ?_)
  · obtain ⟨b, g, n, rfl, hb, g1, g2, hn, q⟩ := h; rfl
  obtain ⟨b, g, n, rfl, hb, g1, g2, hn, q⟩ := h
  refine ⟨_, (pss_one (ps_ret (pe_join pe_str (pe_lc (own := [("_law_turn", 3)]) rfl nd (pi_range1 (by rfl) T.b_range (pa_cons (pc_g g__law_choose hr (pa_cons (pv 0) (pa_cons (pe_op op_add (pv 2) pe_int) pa_nil))) pa_nil)) (blkOk_by (own := [("_law_turn", 3)]) (N := ["_law_box", "_law_marks", "_law_most", "_law_turn"]) (sc := defScope (top 55)) (by decide +kernel)) (fun _ _ _ _ _ => (pg_name (i := 3) nd rfl (by first | exact Or.inl rfl | exact Or.inr rfl))) (fun _ _ _ _ _ => pts_nil) (fun _ _ _ _ _ => (pc_g g__law_one_of hr (pa_cons (pv 0) (pa_cons (pe_callTy (call_listT rfl) (by rfl) T.b_list (by decide +kernel) (pa_cons (pv 1) pa_nil)) pa_nil)))))))), ?_⟩
  clear nd hr
  have sz := sizeL
  have d : Dom [b] H := fun a ha => by rw [List.mem_singleton.mp ha]; exact hb.dom
  walk_at "r"
  refine ⟨b, n + 1, rfl, hb, by omega, by omega, fun H1 m k1 hb1 hm => ?_⟩
  have d1 : Dom [b] H1 := fun a ha => by rw [List.mem_singleton.mp ha]; exact hb1.dom
  refine ⟨(m : Int), rfl, by omega, by omega, ?_⟩
  rw [Int.toNat_natCast]
  refine lcB (walk_range (lo := 0) (n := m)) [b] [b] (fun H => BoxAt H b) (fun i G v => ∃ c, c ∈ g.cps.toList ∧ v = .str ⟨#[c]⟩) d1 (fun a h => h) (by omega) hb1 box_lc box_dom (fun _ _ _ => trivial) (fun i G G' v s h => h) (fun S2 i x H2 H2' Z hi hs d2 sm hb2 y hz => ?_) fun D ws H2 k2 d2 hb2 nD _ eD hl hv => ?_
  · obtain ⟨e, rfl⟩ := y
    subst e
    walk_at "r"
    refine ⟨by omega, fun l nl => ?_⟩
    have s3 : Same H2' (upd H2' l (.lst (g.cps.toList.map fun c => V.str ⟨#[c]⟩))) := Same.upd nl
    have el : (upd H2' l (.lst (g.cps.toList.map fun c => V.str ⟨#[c]⟩))) l = some (.lst (g.cps.toList.map fun c => V.str ⟨#[c]⟩)) := upd_same
    generalize upd H2' l (.lst (g.cps.toList.map fun c => V.str ⟨#[c]⟩)) = H3 at s3 el ⊢
    have nlb : l ≠ b := fun z => hb2.dom (by rw [← z]; exact nl)
    refine ⟨b, .lst l, _, rfl, hb2.same s3, trivial, fun H' k => sqL (k _ _ (by simpa using nlb) el), by rw [txt_len]; exact g1, by rw [txt_len]; omega, fun H4 i x k4 hb4 hx => ?_⟩
    obtain ⟨c, hc, rfl⟩ := at_sign hx
    exact hz _ _ ((Kp.of s3).trans k4) hb4 ⟨c, List.mem_of_getElem? hc, rfl⟩
  · obtain ⟨ys, rfl, h1, h2, h3⟩ := join_signs hv
    rw [hl] at h2 h3
    have z0 : (Str.ofString "").length = 0 := rfl
    refine ⟨D, rfl, ys, .inl (sqL eD), by rw [z0]; omega, ?_⟩
    exact q _ _ (k1.trans k2) hb2 h1 (by omega)
def sp__law_set (K : PySem.W.Frag) : Sp := fun vs H Q _ => ∃ (S : List Addr) (b : Addr) (g : Str) (n : Nat), vs = [.ref b, .str g, .int (n : Nat)] ∧ BoxAt H b ∧ b ∈ S ∧ Dom S H ∧ 1 ≤ g.length ∧ g.length ≤ 1000 ∧ 1 ≤ n ∧ n ≤ 100 ∧ ∀ H' r s, Kp [b] H H' → BoxAt H' b → rSett (hid S H') r s → SettOk g n s → Q r H'
theorem sc__law_set : FnScope ["_law_box", "_law_marks", "_law_cells"] ["_law_box", "_law_marks", "_law_cells"] (defScope (top 56)) := ⟨rfl, rfl, rfl, by decide +kernel, rfl, by decide +kernel, by decide +kernel⟩
theorem ok__law_set {P : Program} {w : World} {K : PySem.W.Frag} {mg : Str → Option Value} {base : Heap} (D : Def K mg "_law_set" (top 56) ["_law_box", "_law_marks", "_law_cells"]) (T : Glo K mg) (g__law_choose : GF P w K mg base 1 "_law_choose" (sp__law_choose K)) (g__law_told : GF P w K mg base 3 "_law_told" (sp__law_told K))  : GF P w K mg base 4 "_law_set" (sp__law_set K) := by
  have nd := sc__law_set.nd
  refine D.go sc__law_set (fun vs H Q E h => ?_) (fun f cdv A outer s0 H vs Q E hr h => ?_)
  · obtain ⟨S, b, g, n, rfl, hb, mb, d, g1, g2, n1, n2, q⟩ := h; rfl
  obtain ⟨S, b, g, n, rfl, hb, mb, d, g1, g2, n1, n2, q⟩ := h
  refine ⟨_, (pss_cons (ps_if (pt_cmpR op_eq (pc_g g__law_choose hr (pa_cons (pv 0) (pa_cons pe_int pa_nil))) pe_int (nomark _))
  (pss_one (ps_ret (pe_tup (pa_cons pe_non (pa_cons (pc_g g__law_told hr (pa_cons (pv 0) (pa_cons (pv 1) (pa_cons pe_int pa_nil)))) (pa_cons pe_str (pa_cons pe_bl pa_nil)))))))
  pss_nil)
  (pss_one (ps_ret (pe_tup (pa_cons (pc_g g__law_choose hr (pa_cons (pv 0) (pa_cons (pv 2) pa_nil))) (pa_cons (pc_g g__law_told hr (pa_cons (pv 0) (pa_cons (pv 1) (pa_cons pe_int pa_nil)))) (pa_cons (pc_g g__law_told hr (pa_cons (pv 0) (pa_cons (pv 1) (pa_cons pe_int pa_nil)))) (pa_cons (pe_cmpR op_eq (pc_g g__law_choose hr (pa_cons (pv 0) (pa_cons pe_int pa_nil))) pe_int (nomark _)) pa_nil)))))))), ?_⟩
  clear nd hr
  walk_at "r"
  refine ⟨b, 9, rfl, hb, by decide, by decide, fun H1 i k1 hb1 hi => ?_⟩
  have d1 := d.box k1 hb1
  refine ⟨rfl, ?_⟩
  refine ite2' (fun h => ?_) (fun h => ?_)
  · refine ⟨b, g, 2, rfl, hb1, g1, g2, by decide, fun H2 t k2 hb2 ot lt => ?_⟩
    refine ⟨by (show 4 ≤ sizeLine; decide), fun p np => ?_⟩
    obtain ⟨H3, h, s3, d3, ep, hp⟩ := newE (S := S) (.tup [.non, .str t, .str "", .bl false]) (d1.box k2 hb2) np
    rw [h]; clear h
    exact q _ _ ⟨none, t, Str.empty, false⟩ ((k1.trans k2).trans (Kp.of s3)) (hb2.same s3) ⟨p, rfl, hp⟩ ⟨ot, of_empty, lt, Nat.zero_le _, fun n e => (by cases e), fun _ => ⟨rfl, rfl⟩⟩
  · walk_at "n"
    refine ⟨b, n, rfl, hb1, n1, by omega, fun H2 j k2 hb2 hj => ?_⟩
    refine ⟨b, g, 1, rfl, hb2, g1, g2, by decide, fun H3 t3 k3 hb3 ot3 lt3 => ?_⟩
    refine ⟨b, g, 1, rfl, hb3, g1, g2, by decide, fun H4 t4 k4 hb4 ot4 lt4 => ?_⟩
    refine ⟨b, 4, rfl, hb4, by decide, by decide, fun H5 m k5 hb5 hm => ?_⟩
    refine ⟨rfl, by (show 4 ≤ sizeLine; decide), fun p np => ?_⟩
    have d5 := (((d1.box k2 hb2).box k3 hb3).box k4 hb4).box k5 hb5
    obtain ⟨H6, h, s6, d6, ep, hp⟩ := newE (S := S) (.tup [.int (j : Nat), .str t3, .str t4, .bl (decide ((m : Int) = 0))]) d5 np
    first | rw [h] | (simp only [V.int.injEq] at h ⊢; rw [h])
    clear h
    exact q _ _ ⟨some j, t3, t4, decide ((m : Int) = 0)⟩ (((((k1.trans k2).trans k3).trans k4).trans k5).trans (Kp.of s6)) (hb5.same s6) ⟨p, rfl, hp⟩ ⟨ot3, ot4, Nat.le_trans lt3 (by decide), Nat.le_trans lt4 (by decide), fun n' e => (by cases e; exact hj), fun e => (by cases e)⟩
theorem first_sign {g : Str} (h : 1 ≤ g.length) : ∃ c r, g.cps.toList = c :: r := by
  cases e : g.cps.toList with
  | nil =>
    have : g.cps.toList.length = 0 := by rw [e]; rfl
    rw [Array.length_toList] at this
    have h2 : g.cps.size = g.length := rfl
    omega
  | cons c r => exact ⟨c, r, rfl⟩
theorem All2.take {α : Type} {R : V → α → Prop} : ∀ {vs : List V} {xs : List α} (n : Nat), All2 R vs xs → All2 R (vs.take n) (xs.take n)
  | _, _, 0, _ => by simp; exact .nil
  | _, _, _ + 1, .nil => .nil
  | _, _, n + 1, .cons r t => .cons r (All2.take n t)
theorem All2.drop {α : Type} {R : V → α → Prop} : ∀ {vs : List V} {xs : List α} (n : Nat), All2 R vs xs → All2 R (vs.drop n) (xs.drop n)
  | _, _, 0, h => h
  | _, _, _ + 1, .nil => .nil
  | _, _, n + 1, .cons r t => All2.drop n t
def sp__law_close (K : PySem.W.Frag) : Sp := fun vs H Q _ => ∃ (S : List Addr) (b : Addr) (g : Str) (n : Nat), vs = [.ref b, .str g, .int (n : Nat)] ∧ BoxAt H b ∧ b ∈ S ∧ Dom S H ∧ 1 ≤ g.length ∧ g.length ≤ 1000 ∧ 1 ≤ n ∧ n ≤ 100 ∧ ∀ H' r e, Kp [b] H H' → BoxAt H' b → rEnd (hid S H') r e → EndOk g n e → Q r H'
theorem sc__law_close : FnScope ["_law_box", "_law_marks", "_law_cells", "_law_found", "_law_kinds", "_law_turn"] ["_law_box", "_law_marks", "_law_cells"] (defScope (top 57)) := ⟨rfl, rfl, rfl, by decide +kernel, rfl, by decide +kernel, by decide +kernel⟩
theorem ok__law_close {P : Program} {w : World} {K : PySem.W.Frag} {mg : Str → Option Value} {base : Heap} (D : Def K mg "_law_close" (top 57) ["_law_box", "_law_marks", "_law_cells"]) (T : Glo K mg) (g__law_choose : GF P w K mg base 1 "_law_choose" (sp__law_choose K)) (g__law_one_of : GF P w K mg base 2 "_law_one_of" (sp__law_one_of K)) (g__law_told : GF P w K mg base 3 "_law_told" (sp__law_told K))  : GF P w K mg base 4 "_law_close" (sp__law_close K) := by
  have nd := sc__law_close.nd
  refine D.go sc__law_close (fun vs H Q E h => ?_) (fun f cdv A outer s0 H vs Q E hr h => ?_)
  · obtain ⟨S, b, g, n, rfl, hb, mb, d, g1, g2, n1, n2, q⟩ := h; rfl
  obtain ⟨S, b, g, n, rfl, hb, mb, d, g1, g2, n1, n2, q⟩ := h
  refine ⟨_, (pss_cons (ps_if (pt_cmpR op_eq (pc_g g__law_choose hr (pa_cons (pv 0) (pa_cons pe_int pa_nil))) pe_int (nomark _))
  (pss_one (ps_ret pe_non))
  pss_nil)
  (pss_cons (ps_par (i := 3) (j := 4) rfl nd rfl rfl (by decide) rfl rfl (pa_cons (pe_lst pa_nil) (pa_cons (pe_lst (pa_cons pe_str (pa_cons pe_str (pa_cons pe_str pa_nil)))) pa_nil)) (by rfl))
  (pss_cons (ps_for PassesOwn.never rfl (pi_range1 (by rfl) T.b_range (pa_cons (pc_g g__law_choose hr (pa_cons (pv 0) (pa_cons pe_int pa_nil))) pa_nil)) (pg_name (i := 5) nd rfl (by first | exact Or.inl rfl | exact Or.inr rfl))
  (pss_one (ps_expr (pe_bm PySem.F.plainAttrs_list PySem.F.slot_list_append PySem.F.type_list_append mt_append (pv 3) (pa_cons (pe_tup (pa_cons (pc_g g__law_one_of hr (pa_cons (pv 0) (pa_cons (pv 4) pa_nil))) (pa_cons (pc_g g__law_choose hr (pa_cons (pv 0) (pa_cons (pv 2) pa_nil))) pa_nil))) pa_nil)))))
  (pss_cons (ps_if (pt_cmpR op_eq (pc_g g__law_choose hr (pa_cons (pv 0) (pa_cons pe_int pa_nil))) pe_int (nomark _))
  (pss_one (ps_expr (pe_bm PySem.F.plainAttrs_list PySem.F.slot_list_insert PySem.F.type_list_insert mt_insert (pv 3) (pa_cons (pc_g g__law_choose hr (pa_cons (pv 0) (pa_cons (pe_op op_add (pe_callB call_lenS (by rfl) T.b_len (by decide +kernel) (pa_cons (pv 3) pa_nil)) pe_int) pa_nil))) (pa_cons (pe_tup (pa_cons pe_str (pa_cons (pe_op op_add_str (pc_g g__law_told hr (pa_cons (pv 0) (pa_cons (pv 1) (pa_cons pe_int pa_nil)))) (pe_ix ix_src (pv 1) pe_int (fun _ _ => rfl))) pa_nil))) pa_nil)))))
  pss_nil)
  (pss_one (ps_ret (pv 3))))))), ?_⟩
  clear nd hr
  have sz := sizeL
  walk_at "r"
  refine ⟨b, 9, rfl, hb, by decide, by decide, fun H1 i k1 hb1 hi => ?_⟩
  have d1 := d.box k1 hb1
  refine ⟨rfl, ?_⟩
  refine ite2' (fun h => ?_) (fun h => ?_)
  · exact q _ _ none k1 hb1 rfl fun ps e => by cases e
  walk_at "n"
  refine ⟨by decide, fun fd nf => ⟨by decide, fun kd nk => ?_⟩⟩
  obtain ⟨H2, h, s2, d2, ef, _⟩ := newE (S := S) (.lst []) d1 nf
  rw [h] at nk ⊢; clear h
  obtain ⟨H3, h, s3, d3, ek, _⟩ := newE (S := S) (.lst [.str "box", .str "box", .str "turned"]) d2 nk
  rw [h]; clear h
  have ef3 := s3 _ _ ef
  have nfS : fd ∉ S := d1.new nf
  have nkS : kd ∉ S := d2.new nk
  have nfb : fd ≠ b := fun z => nfS (by rw [z]; exact mb)
  have nkb : kd ≠ b := fun z => nkS (by rw [z]; exact mb)
  have nfk : fd ≠ kd := fun z => by rw [z, nk] at ef; cases ef
  have hb3 := (hb1.same s2).same s3
  walk_at "n"
  refine ⟨b, 3, rfl, hb3, by decide, by decide, fun H4 m k4 hb4 hm => ?_⟩
  have d4 := d3.box k4 hb4
  refine ⟨(m : Int), rfl, by omega, by omega, ?_⟩
  rw [Int.toNat_natCast]
  have ekd4 := k4 _ _ (by simpa using nkb) ek
  have efd4 := k4 _ _ (by simpa using nfb) ef3
  have k04 : Kp [b] H H4 := ((k1.trans (Kp.of s2)).trans (Kp.of s3)).trans k4
  have mbf : ∀ z ∈ [b], z ∈ fd :: S := fun z hz => by rw [List.mem_singleton.mp hz]; exact List.mem_cons_of_mem _ mb
  have nf0 : H fd = none := by
    cases qq : H fd with
    | none => rfl
    | some o => rw [k1 _ _ (by simpa using nfb) qq] at nf; cases nf
  refine forB (walk_range (lo := 0) (n := m)) (fun i σ H' => Kp [b] H H' ∧ BoxAt H' b ∧ Dom (fd :: S) H' ∧ H' kd = some (.lst [.str "box", .str "box", .str "turned"]) ∧ (∃ ws ps, H' fd = some (.lst ws) ∧ All2 (rPart (hid (fd :: S) H')) ws ps ∧ ps.length = i ∧ ∀ q ∈ ps, PartOk g n q) ∧ ∃ x, σ = [some (.ref b), some (.str g), some (.int (n : Nat)), some (.ref fd), some (.ref kd), x])
    ⟨k04, hb4, .cons efd4 d4, ekd4, ⟨[], [], efd4, .nil, rfl, fun q h => by cases h⟩, _, rfl⟩ (fun _ _ _ _ _ => trivial) ?_ ?_
  · rintro i' x σ H5 H5' hi' ⟨k5, hb5, d5, ek5, ⟨ws, ps, ef5, hws, lps, okp⟩, x5, rfl⟩ ⟨ee, rfl⟩
    subst ee
    walk_at "r"
    refine ⟨.inl ⟨rfl, _, sqL ef5⟩, ?_⟩
    refine ⟨b, .lst kd, _, rfl, hb5, trivial, fun H' k => sqL (k _ _ (by simpa using nkb) ek5), by decide, by (show 3 < 1000000; decide), fun H6 i6 x6 k6 hb6 hx6 => ?_⟩
    refine ⟨b, n, rfl, hb6, n1, by omega, fun H7 j k7 hb7 hj => ?_⟩
    refine ⟨by (show 2 ≤ sizeLine; decide), fun u nu => ?_⟩
    have k57 := k6.trans k7
    have d7 := d5.box k57 hb7
    obtain ⟨H8, h, s8, d8, eu, hu⟩ := newE (S := fd :: S) (.tup [x6, .int (j : Nat)]) d7 nu
    rw [h]; clear h
    have ef8 := s8 _ _ (k57 _ _ (by simpa using nfb) ef5)
    have ek8 := s8 _ _ (k57 _ _ (by simpa using nkb) ek5)
    refine ⟨ws, ef8, by rw [hws.len]; omega, ?_⟩
    have kf : Kp [fd] H8 (upd H8 fd (.lst (ws ++ [.ref u]))) := Kp.upd (by simp)
    have g58 : Same (hid (fd :: S) H5') (hid (fd :: S) (upd H8 fd (.lst (ws ++ [.ref u])))) := ((hid_kp k57 mbf).trans (hid_same s8)).trans (hid_kp kf (by simp))
    have part : ∃ q : Part, x6 = .str q.kind ∧ q.val = .int (j : Nat) ∧ PartOk g n q := by
      match i6, hx6 with
      | 0, hx6 => cases hx6; exact ⟨.box j, rfl, rfl, hj⟩
      | 1, hx6 => cases hx6; exact ⟨.box j, rfl, rfl, hj⟩
      | 2, hx6 => cases hx6; exact ⟨.tur j, rfl, rfl, hj⟩
      | r + 3, hx6 => simp at hx6
    obtain ⟨pq, rfl, epv, okq⟩ := part
    refine ⟨fun z o nz e => ?_, (hb7.same s8).eq (upd_ne (fun z => nfb z.symm)), d8.kp kf (fun z hz => by rw [List.mem_singleton.mp hz, upd_same]; exact fun q => by cases q), by rw [upd_ne (fun z => nfk z.symm)]; exact ek8, ⟨ws ++ [.ref u], upd_same, ps ++ [pq], All2.snoc (hws.mono fun _ _ z => z.up g58) ⟨u, rfl, ?_⟩, by simp [lps], fun q' hq' => ?_⟩⟩
    · have nzf : z ≠ fd := fun q => by rw [q, nf0] at e; cases e
      exact kf _ _ (by simpa using nzf) (s8 _ _ (k57 _ _ nz (k5 _ _ nz e)))
    · rw [hid_kp kf (by simp) _ _ hu, epv]
    · rcases List.mem_append.mp hq' with h | h
      · exact okp q' h
      · rw [List.mem_singleton.mp h]; exact okq
  · rintro σ H5 ⟨k5, hb5, d5, ek5, ⟨ws, ps, ef5, hws, lps, okp⟩, x5, rfl⟩
    walk_at "n"
    walk_at "n"
    have fin : ∀ (H9 : Hp) (ws : List V) (ps : List Part), Kp [b] H H9 → BoxAt H9 b → H9 fd = some (.lst ws) → All2 (rPart (hid (fd :: S) H9)) ws ps → ps.length ≤ 3 → (∀ q ∈ ps, PartOk g n q) → Q (.ref fd) H9 := fun H9 ws ps k9 hb9 ef9 hws9 l9 ok9 =>
      q _ _ (some ps) k9 hb9 ⟨fd, ws, rfl, by rw [hid_at nfS]; exact ef9, hws9.mono fun _ _ z => z.up (hid_mono fun a h => List.mem_cons_of_mem _ h)⟩ fun ps' e => by cases e; exact ⟨l9, ok9⟩
    refine ⟨b, 3, rfl, hb5, by decide, by decide, fun H6 i6 k6 hb6 hi6 => ?_⟩
    have ef6 := k6 _ _ (by simpa using nfb) ef5
    have d6 := d5.box k6 hb6
    have g56 := hid_kp k6 mbf
    refine ⟨rfl, ?_⟩
    refine ite2' (fun h3 => ?_) (fun h3 => ?_)
    · refine ⟨.inl ⟨rfl, _, sqL ef6⟩, .lst fd, rfl, _, sqL ef6, trivial, ?_⟩
      have lws := hws.len
      refine ⟨b, ws.length + 1, rfl, hb6, by omega, by omega, fun H7 j7 k7 hb7 hj7 => ?_⟩
      refine ⟨b, g, 1, rfl, hb7, g1, g2, by decide, fun H8 t k8 hb8 ot lt => ?_⟩
      obtain ⟨c, r, ecr⟩ := first_sign g1
      refine ⟨.txt g, rfl, _, rfl, show g.length ≤ sizeLine by omega, .str ⟨#[c]⟩, by rw [ecr]; exact at0, t, rfl, ⟨#[c]⟩, rfl, ?_, by decide, fun u nu => ?_⟩
      · have : ((⟨#[c]⟩ : Str)).length = 1 := rfl
        omega
      have k68 := k7.trans k8
      obtain ⟨H9, h, s9, d9, eu, hu⟩ := newE (S := fd :: S) (.tup [.str "told", .str (t ++ ⟨#[c]⟩)]) (d6.box k68 hb8) nu
      rw [h]; clear h
      have ef9 := s9 _ _ (k68 _ _ (by simpa using nfb) ef6)
      refine ⟨ws, _, rfl, ef9, by omega, by omega, by omega, ?_⟩
      have kf : Kp [fd] H9 (upd H9 fd (.lst (ws.take ((j7 : Nat) : Int).toNat ++ [.ref u] ++ ws.drop ((j7 : Nat) : Int).toNat))) := Kp.upd (by simp)
      have g69 := ((hid_kp k68 mbf).trans (hid_same s9)).trans (hid_kp kf (by simp : ∀ a ∈ [fd], a ∈ fd :: S))
      have okt : PartOk g n (.told (t ++ ⟨#[c]⟩)) := ⟨fun e => by
          have h1 := congrArg Str.length e
          rw [len_app] at h1
          have h2 : ((⟨#[c]⟩ : Str)).length = 1 := rfl
          have h3 : Str.empty.length = 0 := rfl
          omega, of_app ot (fun d hd => by
          have e : ((⟨#[c]⟩ : Str)).cps.toList = [c] := rfl
          rw [e, List.mem_singleton] at hd
          rw [hd, ecr]; simp), by rw [len_app]; have h2 : ((⟨#[c]⟩ : Str)).length = 1 := rfl; omega⟩
      walk_at "n"
      refine fin _ _ (ps.take j7 ++ [.told (t ++ ⟨#[c]⟩)] ++ ps.drop j7) (fun z o nz e => ?_) ((hb8.same s9).eq (upd_ne (fun z => nfb z.symm))) upd_same ?_ ?_ fun q' hq' => ?_
      · have nzf : z ≠ fd := fun q => by rw [q, nf0] at e; cases e
        exact kf _ _ (by simpa using nzf) (s9 _ _ (k68 _ _ nz (k6 _ _ nz (k5 _ _ nz e))))
      · have hg := hws.mono fun _ _ z => z.up (g56.trans g69)
        rw [Int.toNat_natCast]
        rw [Int.toNat_natCast] at hg
        refine All2.app (All2.app (hg.take j7) (.cons ⟨u, rfl, ?_⟩ .nil)) (hg.drop j7)
        have := hid_kp kf (by simp : ∀ a ∈ [fd], a ∈ fd :: S) _ _ hu
        rw [Int.toNat_natCast] at this
        exact this
      · simp only [List.length_append, List.length_take, List.length_drop, List.length_cons, List.length_nil]
        omega
      · simp only [List.mem_append, List.mem_singleton] at hq'
        rcases hq' with (h | h) | h
        · exact okp q' (List.mem_of_mem_take h)
        · rw [h]; exact okt
        · exact okp q' (List.mem_of_mem_drop h)
    · walk_at "n"
      exact fin _ ws ps (k5.trans k6) hb6 ef6 (hws.mono fun _ _ z => z.up g56) (by omega) okp
end Gt

set_option Elab.async false
set_option linter.all false
set_option maxRecDepth 100000
set_option maxHeartbeats 2000000
namespace Gt
open PySem PySem.Spec PyProof.Rows L2 StX
local macro_rules | `(tactic| walk_at "r") => `(tactic| simp only [tRet, tRetN, tAndV, tOrV, tNotV, tAnd, tOr, tNot, tCB, tCons, tNil, tC, tVar, L2.start, tCl, tOp, tTest, tB, tIf, tIfS, seqE, tAsg, gName, gTup, gLst, gCons, gNil, tPar, tPar3, tTup, tLst, tFld, sFld, sFldAug, tMt, tPr, tMakeR, tMakeL, tCallV, tWith, tSl, tPart, tNoPart, tM1, tM0, tBM, tBM0, tStar, tRevS, tJs, fmtE, tDrop, tNext, tChain, tUn, tYes, gSub, gAttr, ClX.tCMeth, lcE_src, lcE_enum, lcE_rng, lc2E_src, forE_src, forE_enum, forE_rng, forE_zip, iZipS, cxOf, Cx.nox, Cx.blk,
  rI, rI0, rU, rEq, rNe, rAdd, rIsi, rIsiT, rAll, rAny, rEqD, rNeD, rSrc, rSlL, rSlT, rSlS, rCat, rCatT, rNewStrs, rAppend, rIn,
  List.map_cons, List.map_nil, List.length_cons, List.length_nil, List.replicate, List.append_nil, List.cons_append, List.nil_append, List.getElem?_cons_zero, List.getElem?_cons_succ, List.set_cons_zero, List.set_cons_succ, wipe,
  Option.some.injEq, List.cons.injEq, V.int.injEq, V.bl.injEq, V.str.injEq, V.ref.injEq, and_true, true_and, exists_eq_left', exists_eq_left, exists_eq, exists_eq', exists_and_left, Nat.sub_self, Nat.zero_add, Nat.reduceAdd, Nat.reduceSub, Bool.not_true, Bool.not_false, Bool.false_eq_true, ite_true, ite_false, if_true, if_false, and_assoc, Int.ofNat_inj])
local macro_rules | `(tactic| walk_at "n") => `(tactic| (refine later ?_; try walk_at "r"))
local macro_rules | `(tactic| walk_at "m") => `(tactic| (refine later ?_; try walk_at "r"; refine later ?_; try walk_at "r"))
theorem Dom.boxK {S : List Addr} {H H' : Hp} {b : Addr} (d : Dom S H) (k : Kp [b] H H') (h : BoxAt H' b) : Dom S H' := d.box k h
/-- a comprehension of draws -/
theorem lcBox {g : TG} {te : TE} {vs : List Nat} {σ : L2.St} {Q : VK} {H1 : Hp} {J : It} {n : Nat} {G : Hp → Prop} {Y : Nat → Hp → V → Hp → Prop} (w : Walk J n G Y) (S : List Addr) (b : Addr) (R : Nat → Hp → V → Prop) (hd : Dom S H1) (mb : b ∈ S) (hn : n < sizeLine)
    (h0 : BoxAt H1 b) (hG : ∀ H, Same (hid S H1) (hid S H) → BoxAt H b → G H) (hR : ∀ i G G' v, Same G G' → R i G v → R i G' v)
    (step : ∀ S2 i x H H' Z, i < n → (∀ a ∈ S, a ∈ S2) → Dom S2 H → Same (hid S H1) (hid S2 H) → BoxAt H b → Y i H x H' → (∀ y H4, Kp [b] H H4 → BoxAt H4 b → R i (hid S2 H4) y → Z y H4) →
      g x (wipe σ vs) H' fun σ2 H2 => wipe σ2 vs = wipe σ vs ∧ te σ2 H2 Z)
    (done : ∀ D ws H, Kp [b] H1 H → Dom S H → BoxAt H b → D ∉ S → H1 D = none → H D = some (.lst ws) → ws.length = n → (∀ i v, ws[i]? = some v → R i (hid S H) v) → Q (.ref D) H) : LcB J g tYes te vs σ Q H1 :=
  lcB w S [b] (fun H => BoxAt H b) R hd (fun a h => by rw [List.mem_singleton.mp h]; exact mb) hn h0 box_lc box_dom hG hR step done
/-- from a relation with something at each place, a list of those things -/
theorem choose_all {α : Type} [Inhabited α] {r : V → α → Prop} {P : α → Prop} : ∀ {ws : List V}, (∀ (i : Nat) v, ws[i]? = some v → ∃ x, r v x ∧ P x) → ∃ xs : List α, All2 r ws xs ∧ xs.length = ws.length ∧ ∀ x ∈ xs, P x
  | [], _ => ⟨[], .nil, rfl, fun x h => by cases h⟩
  | w :: ws, h => by
    obtain ⟨x, h1, h2⟩ := h 0 w rfl
    obtain ⟨xs, h3, h4, h5⟩ := choose_all fun i v e => h (i + 1) v (by simpa using e)
    exact ⟨x :: xs, .cons h1 h3, by simp [h4], fun z hz => by
      rcases List.mem_cons.mp hz with e | e
      · rw [e]; exact h2
      · exact h5 z e⟩
instance : Inhabited (Option (List Part)) := ⟨none⟩
instance : Inhabited (Nat × List Sett) := ⟨(0, [])⟩
instance : Inhabited Sett := ⟨⟨none, Str.empty, Str.empty, false⟩⟩
structure Sgn (g : Str) : Prop where
  low : Low g
  nd : g.cps.toList.Nodup
  l1 : 1 ≤ g.length
  l3 : g.length ≤ 3
theorem sgn_of {g : Str} (h : g = "ab" ∨ g = "ba" ∨ g = "a" ∨ g = "abc") : Sgn g := by
  have low : ∀ {z : Str}, (z.cps.toList.all fun c => decide (97 ≤ c ∧ c ≤ 122)) = true → Low z := fun h c hc => of_decide_eq_true (List.all_eq_true.mp h c hc)
  rcases h with rfl | rfl | rfl | rfl
  · exact ⟨low (by decide +kernel), by decide +kernel, by decide +kernel, by decide +kernel⟩
  · exact ⟨low (by decide +kernel), by decide +kernel, by decide +kernel, by decide +kernel⟩
  · exact ⟨low (by decide +kernel), by decide +kernel, by decide +kernel, by decide +kernel⟩
  · exact ⟨low (by decide +kernel), by decide +kernel, by decide +kernel, by decide +kernel⟩
def sp__law_drawn (K : PySem.W.Frag) : Sp := fun vs H Q _ => ∃ (S : List Addr) (b : Addr), vs = [.ref b, .int 2, .int 2, .str "xy"] ∧ BoxAt H b ∧ b ∈ S ∧ Dom S H ∧ ∀ H' r p, Kp [b] H H' → BoxAt H' b → rPrg (hid S H') r p → WF p → p.ways.length ≤ 2 → (∀ x ∈ p.t0, x.length ≤ 1) → Q r H'
theorem sc__law_drawn : FnScope ["_law_box", "_law_moods", "_law_cells", "_law_keys", "_law_marks", "_law_many", "_law_size", "_law_first", "_law_turn", "_law_steps", "_law_mood", "_law_key"] ["_law_box", "_law_moods", "_law_cells", "_law_keys"] (defScope (top 58)) := ⟨rfl, rfl, rfl, by decide +kernel, rfl, by decide +kernel, by decide +kernel⟩
theorem ok__law_drawn {P : Program} {w : World} {K : PySem.W.Frag} {mg : Str → Option Value} {base : Heap} (D : Def K mg "_law_drawn" (top 58) ["_law_box", "_law_moods", "_law_cells", "_law_keys"]) (T : Glo K mg) (g__law_one_of : GF P w K mg base 2 "_law_one_of" (sp__law_one_of K)) (g__law_choose : GF P w K mg base 1 "_law_choose" (sp__law_choose K)) (g__law_told : GF P w K mg base 3 "_law_told" (sp__law_told K)) (g__law_set : GF P w K mg base 4 "_law_set" (sp__law_set K)) (g__law_close : GF P w K mg base 4 "_law_close" (sp__law_close K))  : GF P w K mg base 5 "_law_drawn" (sp__law_drawn K) := by
  have nd := sc__law_drawn.nd
  refine D.go sc__law_drawn (fun vs H Q E h => ?_) (fun f cdv A outer s0 H vs Q E hr h => ?_)
  · obtain ⟨S, b, rfl, hb, mb, d, q⟩ := h; rfl
  obtain ⟨S, b, rfl, hb, mb, d, q⟩ := h
  refine ⟨_, (pss_cons (ps_set (i := 4) nd rfl (by first | exact Or.inl rfl | exact Or.inr rfl) (pc_g g__law_one_of hr (pa_cons (pv 0) (pa_cons (pe_lst (pa_cons pe_str (pa_cons pe_str (pa_cons pe_str (pa_cons pe_str (pa_cons pe_str pa_nil)))))) pa_nil))))
  (pss_cons (ps_asg (pe_tup (pa_cons (pe_op op_add pe_int (pc_g g__law_choose hr (pa_cons (pv 0) (pa_cons (pv 1) pa_nil)))) (pa_cons (pe_op op_add pe_int (pc_g g__law_choose hr (pa_cons (pv 0) (pa_cons (pv 2) pa_nil)))) pa_nil))) (pg_tup (n := 2) rfl (pgs_cons (pg_name (i := 5) nd rfl (by first | exact Or.inl rfl | exact Or.inr rfl)) (pgs_cons (pg_name (i := 6) nd rfl (by first | exact Or.inl rfl | exact Or.inr rfl)) pgs_nil))))
  (pss_cons (ps_set (i := 7) nd rfl (by first | exact Or.inl rfl | exact Or.inr rfl) (pe_tup (pa_cons (pc_g g__law_choose hr (pa_cons (pv 0) (pa_cons (pv 5) pa_nil))) (pa_cons (pe_lc (own := [("_law_turn", 8)]) rfl nd (pi_range1 (by rfl) T.b_range (pa_cons (pv 6) pa_nil)) (blkOk_by (own := [("_law_turn", 8)]) (N := ["_law_box", "_law_moods", "_law_cells", "_law_keys", "_law_marks", "_law_many", "_law_size", "_law_first", "_law_turn", "_law_steps", "_law_mood", "_law_key"]) (sc := defScope (top 58)) (by decide +kernel)) (fun _ _ _ _ _ => (pg_name (i := 8) nd rfl (by first | exact Or.inl rfl | exact Or.inr rfl))) (fun _ _ _ _ _ => pts_nil) (fun _ _ _ _ _ => (pc_g g__law_told hr (pa_cons (pv 0) (pa_cons (pv 4) (pa_cons pe_int pa_nil)))))) pa_nil))))
  (pss_cons (ps_set (i := 9) nd rfl (by first | exact Or.inl rfl | exact Or.inr rfl) (pe_lst pa_nil))
  (pss_cons (ps_for PassesOwn.never rfl (pi_range1 (by rfl) T.b_range (pa_cons (pv 5) pa_nil)) (pg_name (i := 10) nd rfl (by first | exact Or.inl rfl | exact Or.inr rfl))
  (pss_one (ps_expr (pe_bm PySem.F.plainAttrs_list PySem.F.slot_list_append PySem.F.type_list_append mt_append (pv 9) (pa_cons (pe_lc (own := [("_law_key", 11)]) rfl nd (pi_src (pv 3)) (blkOk_by (own := [("_law_key", 11)]) (N := ["_law_box", "_law_moods", "_law_cells", "_law_keys", "_law_marks", "_law_many", "_law_size", "_law_first", "_law_turn", "_law_steps", "_law_mood", "_law_key"]) (sc := defScope (top 58)) (by decide +kernel)) (fun _ _ _ _ _ => (pg_name (i := 11) nd rfl (by first | exact Or.inl rfl | exact Or.inr rfl))) (fun _ _ _ _ _ => pts_nil) (fun _ _ _ _ _ => (pe_tup (pa_cons (pc_g g__law_choose hr (pa_cons (pv 0) (pa_cons (pv 5) pa_nil))) (pa_cons (pe_lc (own := [("_law_turn", 8)]) rfl nd (pi_range1 (by rfl) T.b_range (pa_cons (pv 6) pa_nil)) (blkOk_by (own := [("_law_turn", 8)]) (by rfl)) (fun _ _ _ _ _ => (pg_name (i := 8) nd rfl (by first | exact Or.inl rfl | exact Or.inr rfl))) (fun _ _ _ _ _ => pts_nil) (fun _ _ _ _ _ => (pc_g g__law_set hr (pa_cons (pv 0) (pa_cons (pv 4) (pa_cons (pv 6) pa_nil)))))) pa_nil))))) pa_nil)))))
  (pss_one (ps_ret (pe_lst (pa_cons (pv 4) (pa_cons (pv 3) (pa_cons (pv 7) (pa_cons (pv 9) (pa_cons (pe_lc (own := [("_law_mood", 10)]) rfl nd (pi_range1 (by rfl) T.b_range (pa_cons (pv 5) pa_nil)) (blkOk_by (own := [("_law_mood", 10)]) (N := ["_law_box", "_law_moods", "_law_cells", "_law_keys", "_law_marks", "_law_many", "_law_size", "_law_first", "_law_turn", "_law_steps", "_law_mood", "_law_key"]) (sc := defScope (top 58)) (by decide +kernel)) (fun _ _ _ _ _ => (pg_name (i := 10) nd rfl (by first | exact Or.inl rfl | exact Or.inr rfl))) (fun _ _ _ _ _ => pts_nil) (fun _ _ _ _ _ => (pc_g g__law_close hr (pa_cons (pv 0) (pa_cons (pv 4) (pa_cons (pv 6) pa_nil)))))) pa_nil))))))))))))), ?_⟩
  clear nd hr
  have sz := sizeL
  walk_at "r"
  refine ⟨by decide, fun u nu => ?_⟩
  obtain ⟨H1, h, s1, d1, eu, _⟩ := newE (S := S) (.lst [.str "ab", .str "ab", .str "ba", .str "a", .str "abc"]) d nu
  rw [h]; clear h
  have nub : u ≠ b := fun z => d.new nu (by rw [z]; exact mb)
  refine ⟨b, .lst u, _, rfl, hb.same s1, trivial, fun H' k => sqL (k _ _ (by simpa using nub) eu), by decide, by (show 5 < 1000000; decide), fun H2 i2 x2 k2 hb2 hx2 => ?_⟩
  obtain ⟨g, rfl, hg⟩ : ∃ g, x2 = .str g ∧ Sgn g := by
    match i2, hx2 with
    | 0, hx => cases hx; exact ⟨_, rfl, sgn_of (.inl rfl)⟩
    | 1, hx => cases hx; exact ⟨_, rfl, sgn_of (.inl rfl)⟩
    | 2, hx => cases hx; exact ⟨_, rfl, sgn_of (.inr (.inl rfl))⟩
    | 3, hx => cases hx; exact ⟨_, rfl, sgn_of (.inr (.inr (.inl rfl)))⟩
    | 4, hx => cases hx; exact ⟨_, rfl, sgn_of (.inr (.inr (.inr rfl)))⟩
    | n + 5, hx => simp at hx
  have g1 := hg.l1
  have g3 := hg.l3
  have d2 := d1.box k2 hb2
  have k02 : Kp [b] H H2 := (Kp.of s1).trans k2
  walk_at "n"
  refine ⟨b, 2, rfl, hb2, by decide, by decide, fun H3 m3 k3 hb3 hm3 => ?_⟩
  refine ⟨(m3 : Int), rfl, b, 2, rfl, hb3, by decide, by decide, fun H4 m4 k4 hb4 hm4 => ?_⟩
  refine ⟨(m4 : Int), rfl, by decide, fun t nt => ?_⟩
  have d4 := (d2.box k3 hb3).box k4 hb4
  obtain ⟨H5, h, s5, d5, et, _⟩ := newE (S := S) (.tup [.int (1 + (m3 : Int)), .int (1 + (m4 : Int))]) d4 nt
  rw [h]; clear h
  have k05 : Kp [b] H H5 := ((k02.trans k3).trans k4).trans (Kp.of s5)
  refine ⟨_, sqT et, rfl, _, _, rfl, _, _, rfl, rfl, ?_⟩
  have e3 : (1 + (m3 : Int)) = ((m3 + 1 : Nat) : Int) := by omega
  have e4 : (1 + (m4 : Int)) = ((m4 + 1 : Nat) : Int) := by omega
  rw [e3, e4]
  generalize hM : m3 + 1 = M
  generalize hB : m4 + 1 = B
  have hb5 := hb4.same s5
  walk_at "n"
  refine ⟨b, M, rfl, hb5, by omega, by omega, fun H6 m6 k6 hb6 hm6 => ?_⟩
  have d6 := d5.box k6 hb6
  refine ⟨by omega, by omega, ?_⟩
  rw [Int.toNat_natCast]
  refine lcBox (walk_range (lo := 0) (n := B)) S b (fun i G v => ∃ x : Str, v = .str x ∧ Of g x ∧ x.length ≤ 1) d6 mb (by omega) hb6 (fun _ _ _ => trivial) (fun i G G' v s h => h) (fun S2 i x H7 H7' Z hi hs d7 sm hb7 y hz => ?_) fun D ws H7 k7 d7 hb7 nD _ eD hl hv => ?_
  · obtain ⟨e, rfl⟩ := y
    subst e
    walk_at "r"
    exact ⟨b, g, 1, rfl, hb7, g1, by omega, by decide, fun H8 t k8 hb8 ot lt => hz _ _ k8 hb8 ⟨t, rfl, ot, lt⟩⟩
  obtain ⟨t0, ht0, lt0, ot0⟩ := choose_all (r := fun v x => v = .str x) (P := fun x : Str => Of g x ∧ x.length ≤ 1) fun i v e => let ⟨x, h1, h2⟩ := hv i v e; ⟨x, h1, h2⟩
  have ews := ht0.strs
  rw [ews] at eD
  have hD7 : hid S H7 D = some (.lst (t0.map V.str)) := by rw [hid_at nD]; exact eD
  refine ⟨by decide, fun w nw => ?_⟩
  obtain ⟨H8, h, s8, d8, ew, hw⟩ := newE (S := S) (.tup [.int (m6 : Nat), .ref D]) d7 nw
  rw [h]; clear h
  have k08 : Kp [b] H H8 := ((k05.trans k6).trans k7).trans (Kp.of s8)
  have hb8 := hb7.same s8
  walk_at "n"
  refine ⟨by decide, fun sd nsd => ?_⟩
  obtain ⟨H9, h, s9, d9, esd, _⟩ := newE (S := S) (.lst []) d8 nsd
  rw [h]; clear h
  have nsS : sd ∉ S := d8.new nsd
  have nsb : sd ≠ b := fun z => nsS (by rw [z]; exact mb)
  have nsH : H sd = none := by
    cases qq : H sd with
    | none => rfl
    | some o => rw [k08 _ _ (by simpa using nsb) qq] at nsd; cases nsd
  have g89 : Same (hid S H8) (hid (sd :: S) H9) := same_hid2 nsd (Kp.of s9)
  have mbS : ∀ z ∈ [b], z ∈ sd :: S := fun z hz => by rw [List.mem_singleton.mp hz]; exact List.mem_cons_of_mem _ mb
  walk_at "n"
  refine ⟨by omega, by omega, ?_⟩
  rw [Int.toNat_natCast]
  refine forB (walk_range (lo := 0) (n := M)) (fun i σ H' => Kp [b] H H' ∧ BoxAt H' b ∧ Dom (sd :: S) H' ∧ Same (hid S H8) (hid (sd :: S) H') ∧ (∃ ws rows, H' sd = some (.lst ws) ∧ All2 (rRow (hid (sd :: S) H')) ws rows ∧ rows.length = i ∧ ∀ row ∈ rows, row.length = 2 ∧ ∀ w ∈ row, WayOk g M B w) ∧ ∃ x, σ = [some (.ref b), some (.int 2), some (.int 2), some (.str "xy"), some (.str g), some (.int (M : Nat)), some (.int (B : Nat)), some (.ref w), none, some (.ref sd), x, none])
    ⟨k08.trans (Kp.of s9), hb8.same s9, .cons esd d9, g89, ⟨[], [], esd, .nil, rfl, fun q h => by cases h⟩, _, rfl⟩ (fun _ _ _ _ _ => trivial) ?_ ?_
  · rintro i x σ H10 H10' hi ⟨k10, hb10, d10, g10, ⟨ws1, rows, es10, hws1, lrows, okr⟩, x10, rfl⟩ ⟨ee, rfl⟩
    subst ee
    walk_at "r"
    refine ⟨.inl ⟨rfl, _, sqL es10⟩, .txt "xy", rfl, _, rfl, ?_⟩
    refine lcBox (walk_src (K := K) (S := .txt "xy")) (sd :: S) b (fun i G v => ∃ w, rWay G v w ∧ WayOk g M B w) d10 (List.mem_cons_of_mem _ mb) (by rw [txt_len]; show 2 < sizeLine; decide) hb10 (fun _ _ _ => rfl) (fun i G G' v s ⟨w, h1, h2⟩ => ⟨w, h1.up s, h2⟩) (fun S2 k y H11 H11' Z hk hs d11 sm hb11 yy hz => ?_) fun D1 ws2 H11 k11 d11 hb11 nD1 _ eD1 hl1 hv1 => ?_
    · obtain ⟨e, hy⟩ := yy
      subst e
      walk_at "r"
      refine ⟨b, M, rfl, hb11, by omega, by omega, fun H12 m12 k12 hb12 hm12 => ?_⟩
      have d12 := d11.box k12 hb12
      have mb2 : b ∈ S2 := hs b (List.mem_cons_of_mem _ mb)
      refine ⟨by omega, by omega, ?_⟩
      rw [Int.toNat_natCast]
      refine lcBox (walk_range (lo := 0) (n := B)) S2 b (fun i G v => ∃ s, rSett G v s ∧ SettOk g B s) d12 mb2 (by omega) hb12 (fun _ _ _ => trivial) (fun i G G' v s ⟨w, h1, h2⟩ => ⟨w, h1.up s, h2⟩) (fun S3 j x H13 H13' Z2 hj hs3 d13 sm3 hb13 y2 hz2 => ?_) fun D2 ws3 H13 k13 d13 hb13 nD2 _ eD2 hl2 hv2 => ?_
      · obtain ⟨e, rfl⟩ := y2
        subst e
        walk_at "r"
        exact ⟨S3, b, g, B, rfl, hb13, hs3 b mb2, d13, g1, by omega, by omega, by omega, fun H14 r s k14 hb14 h1 h2 => hz2 _ _ k14 hb14 ⟨s, h1, h2⟩⟩
      · obtain ⟨ss, hss, lss, oks⟩ := choose_all hv2
        refine ⟨by decide, fun v nv => ?_⟩
        obtain ⟨H14, h, s14, d14, ev, hv⟩ := newE (S := S2) (.tup [.int (m12 : Nat), .ref D2]) d13 nv
        rw [h]; clear h
        refine hz _ _ ((k12.trans k13).trans (Kp.of s14)) (hb13.same s14) ⟨(m12, ss), ⟨v, D2, ws3, rfl, hv, hid_same s14 _ _ (by rw [hid_at nD2]; exact eD2), hss.mono fun _ _ z => z.up (hid_same s14)⟩, hm12, by rw [lss, hl2], oks⟩
    · obtain ⟨row, hrow, lrow, okrow⟩ := choose_all hv1
      have es11 := k11 _ _ (by simpa using nsb) es10
      have lD1 : ws2.length = 2 := by rw [hl1, txt_len]; rfl
      refine ⟨ws1, es11, by rw [hws1.len]; omega, ?_⟩
      have kf : Kp [sd] H11 (upd H11 sd (.lst (ws1 ++ [.ref D1]))) := Kp.upd (by simp)
      have gf := hid_kp (S := sd :: S) kf (by simp)
      have g1011 := hid_kp (S := sd :: S) k11 mbS
      have hD1' : hid (sd :: S) (upd H11 sd (.lst (ws1 ++ [.ref D1]))) D1 = some (.lst ws2) := gf _ _ (by rw [hid_at nD1]; exact eD1)
      refine ⟨fun z o nz e => ?_, hb11.eq (upd_ne (fun z => nsb z.symm)), d11.kp kf (fun z hz => by rw [List.mem_singleton.mp hz, upd_same]; exact fun q => by cases q), (g10.trans g1011).trans gf, ws1 ++ [.ref D1], upd_same, rows ++ [row], All2.snoc (hws1.mono fun _ _ z => z.up (g1011.trans gf)) ⟨D1, ws2, rfl, hD1', hrow.mono fun _ _ z => z.up gf⟩, by simp [lrows], fun q hq => ?_⟩
      · have nzs : z ≠ sd := fun q => by rw [q, nsH] at e; cases e
        exact kf _ _ (by simpa using nzs) (k11 _ _ nz (k10 _ _ nz e))
      · rcases List.mem_append.mp hq with h | h
        · exact okr q h
        · rw [List.mem_singleton.mp h]
          exact ⟨by rw [lrow, lD1], okrow⟩
  · rintro σ H10 ⟨k10, hb10, d10, g10, ⟨ws1, rows, es10, hws1, lrows, okr⟩, x10, rfl⟩
    walk_at "n"
    walk_at "n"
    have dS : Dom S H10 := fun a ha => d10 a (List.mem_cons_of_mem _ ha)
    have gm : Same (hid (sd :: S) H10) (hid S H10) := hid_mono fun a h => List.mem_cons_of_mem _ h
    have hsd : hid S H10 sd = some (.lst ws1) := by rw [hid_at nsS]; exact es10
    refine ⟨by omega, by omega, ?_⟩
    rw [Int.toNat_natCast]
    refine lcBox (walk_range (lo := 0) (n := M)) S b (fun i G v => ∃ e, rEnd G v e ∧ EndOk g B e) dS mb (by omega) hb10 (fun _ _ _ => trivial) (fun i G G' v s ⟨w, h1, h2⟩ => ⟨w, h1.up s, h2⟩) (fun S2 i x H11 H11' Z hi hs d11 sm hb11 y hz => ?_) fun D3 ws3 H11 k11 d11 hb11 nD3 _ eD3 hl3 hv3 => ?_
    · obtain ⟨e, rfl⟩ := y
      subst e
      walk_at "r"
      exact ⟨S2, b, g, B, rfl, hb11, hs b mb, d11, g1, by omega, by omega, by omega, fun H12 r e k12 hb12 h1 h2 => hz _ _ k12 hb12 ⟨e, h1, h2⟩⟩
    · obtain ⟨ends, hends, lends, okends⟩ := choose_all hv3
      refine ⟨by decide, fun v nv => ?_⟩
      obtain ⟨H12, h, s12, d12, ev, hv⟩ := newE (S := S) (.lst [.str g, .str "xy", .ref w, .ref sd, .ref D3]) d11 nv
      rw [h]; clear h
      have g1112 := hid_same s12 (S := S)
      have g1011 : Same (hid S H10) (hid S H11) := hid_kp k11 fun z hz => by rw [List.mem_singleton.mp hz]; exact mb
      have g812 : Same (hid S H8) (hid S H12) := ((g10.trans gm).trans g1011).trans g1112
      have g712 : Same (hid S H7) (hid S H12) := (hid_same s8).trans g812
      have lt0' : t0.length = B := by rw [lt0, hl]
      refine q _ _ ⟨g, "xy", m6, t0, rows, ends⟩ ((k10.trans k11).trans (Kp.of s12)) (hb11.same s12) ⟨v, w, D, .ref sd, .ref D3, rfl, ⟨hv, g812 _ _ hw, g712 _ _ hD7, ⟨sd, ws1, rfl, g1112 _ _ (g1011 _ _ hsd), hws1.mono fun _ _ z => z.up ((gm.trans g1011).trans g1112)⟩, ⟨D3, ws3, rfl, g1112 _ _ (by rw [hid_at nD3]; exact eD3), hends.mono fun _ _ z => z.up g1112⟩⟩⟩ ?_ ?_ ?_
      · exact ⟨hg.low, hg.nd, hg.l1, hg.l3, rfl, by show 1 ≤ t0.length; omega, by show t0.length ≤ 2; omega, fun x hx => ⟨(ot0 x hx).1, Nat.le_trans (ot0 x hx).2 (by decide)⟩, by show 1 ≤ rows.length; omega, by show rows.length ≤ 3; omega, by show m6 < rows.length; omega, fun row hr => ⟨(okr row hr).1, fun w hw => by show WayOk g rows.length t0.length w; rw [lrows, lt0']; exact (okr row hr).2 w hw⟩, by show ends.length = rows.length; omega, fun e he => by show EndOk g t0.length e; rw [lt0']; exact okends e he⟩
      · show rows.length ≤ 2
        omega
      · exact fun x hx => (ot0 x hx).2
end Gt

set_option Elab.async false
set_option linter.all false
set_option maxRecDepth 100000
set_option maxHeartbeats 2000000
namespace Gt
open PySem PySem.Spec PyProof.Rows L2 StX
local macro_rules | `(tactic| walk_at "r") => `(tactic| simp only [tRet, tRetN, tAndV, tOrV, tNotV, tAnd, tOr, tNot, tCB, tCons, tNil, tC, tVar, L2.start, tCl, tOp, tTest, tB, tIf, tIfS, seqE, tAsg, gName, gTup, gLst, gCons, gNil, tPar, tPar3, tTup, tLst, tFld, sFld, sFldAug, tMt, tPr, tMakeR, tMakeL, tCallV, tWith, tSl, tPart, tNoPart, tM1, tM0, tBM, tBM0, tStar, tRevS, tJs, fmtE, tDrop, tNext, tChain, tUn, tYes, gSub, gAttr, ClX.tCMeth, lcE_src, lcE_enum, lcE_rng, lc2E_src, forE_src, forE_enum, forE_rng, forE_zip, iZipS, cxOf, Cx.nox, Cx.blk,
  rI, rI0, rU, rEq, rNe, rAdd, rIsi, rIsiT, rAll, rAny, rEqD, rNeD, rSrc, rSlL, rSlT, rSlS, rCat, rCatT, rNewStrs, rAppend, rIn,
  List.map_cons, List.map_nil, List.length_cons, List.length_nil, List.replicate, List.append_nil, List.cons_append, List.nil_append, List.getElem?_cons_zero, List.getElem?_cons_succ, List.set_cons_zero, List.set_cons_succ, wipe,
  Option.some.injEq, List.cons.injEq, V.int.injEq, V.bl.injEq, V.str.injEq, V.ref.injEq, and_true, true_and, exists_eq_left', exists_eq_left, exists_eq, exists_eq', exists_and_left, Nat.sub_self, Nat.zero_add, Nat.reduceAdd, Nat.reduceSub, Bool.not_true, Bool.not_false, Bool.false_eq_true, ite_true, ite_false, if_true, if_false, and_assoc, Int.ofNat_inj])
local macro_rules | `(tactic| walk_at "n") => `(tactic| (refine later ?_; try walk_at "r"))
local macro_rules | `(tactic| walk_at "m") => `(tactic| (refine later ?_; try walk_at "r"; refine later ?_; try walk_at "r"))
def sp__law_set_text (K : PySem.W.Frag) : Sp := fun vs H Q _ => ∃ (v : V) (s : Sett), vs = [v] ∧ rSett H v s ∧ SettLow s ∧ Q (.str (settText s)) H
theorem sc__law_set_text : FnScope ["_law_one", "_law_mark"] ["_law_one"] (defScope (top 59)) := ⟨rfl, rfl, rfl, by decide +kernel, rfl, by decide +kernel, by decide +kernel⟩
theorem ok__law_set_text {P : Program} {w : World} {K : PySem.W.Frag} {mg : Str → Option Value} {base : Heap} (D : Def K mg "_law_set_text" (top 59) ["_law_one"]) (T : Glo K mg)   : GF P w K mg base 1 "_law_set_text" (sp__law_set_text K) := by
  have nd := sc__law_set_text.nd
  refine D.go sc__law_set_text (fun vs H Q E h => ?_) (fun f cdv A outer s0 H vs Q E hr h => ?_)
  · obtain ⟨v, s, rfl, ⟨a, rfl, ea⟩, low, q⟩ := h; rfl
  obtain ⟨v, s, rfl, ⟨a, rfl, ea⟩, low, q⟩ := h
  refine ⟨_, (pss_cons (ps_set (i := 1) nd rfl (by first | exact Or.inl rfl | exact Or.inr rfl) (pe_ifExp (pt_cmpR op_isN (pe_ix ix_src (pv 0) pe_int (fun _ _ => rfl)) pe_non (nomark _)) pe_str (pe_op op_add_str (pe_ifExp (pt_val (pe_ix ix_src (pv 0) pe_int (fun _ _ => rfl))) pe_str pe_str) (pe_callTy call_str_int (by rfl) T.b_str (by decide +kernel) (pa_cons (pe_ix ix_src (pv 0) pe_int (fun _ _ => rfl)) pa_nil)))))
  (pss_one (ps_ret (pe_op op_add_str (pe_op op_add_str (pe_op op_add_str (pe_op op_add_str (pe_ix ix_src (pv 0) pe_int (fun _ _ => rfl)) pe_str) (pv 1)) pe_str) (pe_ix ix_src (pv 0) pe_int (fun _ _ => rfl)))))), ?_⟩
  clear nd hr
  have sz := sizeL
  have z1 := low.z1
  have z2 := low.z2
  have zd : (Str.ofString ".").length = 1 := rfl
  have zm := mid_len s
  have zt : (Str.ofString "~").length = 1 := rfl
  have z0 : (Str.ofString "").length = 0 := rfl
  have zh : (Str.ofString "-").length = 1 := rfl
  have znn : ∀ n, (numC n).length = 1 := fun _ => rfl
  walk_at "r"
  refine ⟨.tup a, rfl, _, sqT ea, trivial, _, rfl, ?_⟩
  unfold settText at q
  cases es : s.src with
  | none =>
    rw [es] at q zm
    refine ite_t vN_non' ?_
    walk_at "n"
    refine ⟨.tup a, rfl, _, sqT ea, trivial, _, rfl, ?_⟩
    refine ⟨s.hd, rfl, (by simp only [len_app, zd, zt, z0, zh, znn]; omega), (by simp only [len_app, zd, zt, z0, zh, znn]; omega), (by simp only [len_app, zd, zt, z0, zh, znn]; omega), .tup a, rfl, _, sqT ea, trivial, _, rfl, s.tl, rfl, (by simp only [len_app, zd, zt, z0, zh, znn]; omega), q⟩
  | some n =>
    have hn := low.n n es
    rw [es] at q zm
    refine ite_f vN_non ?_
    refine ⟨.tup a, rfl, _, sqT ea, trivial, _, rfl, s.tn, rfl, ?_⟩
    refine ite2' (fun e2 => ?_) (fun e2 => ?_)
    · refine ⟨.tup a, rfl, _, sqT ea, trivial, _, rfl, (n : Int), by rw [es]; rfl, lg10 hn, ?_⟩
      rw [num_eq hn]
      refine ⟨by (show 2 ≤ sizeLine; decide), ?_⟩
      walk_at "n"
      refine ⟨.tup a, rfl, _, sqT ea, trivial, _, rfl, ?_⟩
      rw [e2] at q
      refine ⟨s.hd, rfl, (by simp only [len_app, zd, zt, z0, zh, znn]; omega), (by simp only [len_app, zd, zt, z0, zh, znn]; omega), (by simp only [len_app, zd, zt, z0, zh, znn]; omega), .tup a, rfl, _, sqT ea, trivial, _, rfl, s.tl, rfl, (by simp only [len_app, zd, zt, z0, zh, znn]; omega), q⟩
    · refine ⟨.tup a, rfl, _, sqT ea, trivial, _, rfl, (n : Int), by rw [es]; rfl, lg10 hn, ?_⟩
      rw [num_eq hn]
      refine ⟨by (show 1 ≤ sizeLine; decide), ?_⟩
      walk_at "n"
      refine ⟨.tup a, rfl, _, sqT ea, trivial, _, rfl, ?_⟩
      rw [e2] at q
      refine ⟨s.hd, rfl, (by simp only [len_app, zd, zt, z0, zh, znn]; omega), (by simp only [len_app, zd, zt, z0, zh, znn]; omega), (by simp only [len_app, zd, zt, z0, zh, znn]; omega), .tup a, rfl, _, sqT ea, trivial, _, rfl, s.tl, rfl, (by simp only [len_app, zd, zt, z0, zh, znn]; omega), q⟩
def sp__law_part_text (K : PySem.W.Frag) : Sp := fun vs H Q _ => ∃ (v : V) (p : Part), vs = [v] ∧ rPart H v p ∧ PartLow p ∧ Q (.str (partText p)) H
theorem sc__law_part_text : FnScope ["_law_part"] ["_law_part"] (defScope (top 60)) := ⟨rfl, rfl, rfl, by decide +kernel, rfl, by decide +kernel, by decide +kernel⟩
theorem ok__law_part_text {P : Program} {w : World} {K : PySem.W.Frag} {mg : Str → Option Value} {base : Heap} (D : Def K mg "_law_part_text" (top 60) ["_law_part"]) (T : Glo K mg)   : GF P w K mg base 1 "_law_part_text" (sp__law_part_text K) := by
  have nd := sc__law_part_text.nd
  refine D.go sc__law_part_text (fun vs H Q E h => ?_) (fun f cdv A outer s0 H vs Q E hr h => ?_)
  · obtain ⟨v, p, rfl, ⟨a, rfl, ea⟩, hp, q⟩ := h; rfl
  obtain ⟨v, p, rfl, ⟨a, rfl, ea⟩, hp, q⟩ := h
  refine ⟨_, (pss_cons (ps_if (pt_cmpR op_eq (pe_ix ix_src (pv 0) pe_int (fun _ _ => rfl)) pe_str (nomark _))
  (pss_one (ps_ret (pe_op op_add_str pe_str (pe_ix ix_src (pv 0) pe_int (fun _ _ => rfl)))))
  pss_nil)
  (pss_one (ps_ret (pe_op op_add_str (pe_ifExp (pt_cmpR op_eq (pe_ix ix_src (pv 0) pe_int (fun _ _ => rfl)) pe_str (nomark _)) pe_str pe_str) (pe_callTy call_str_int (by rfl) T.b_str (by decide +kernel) (pa_cons (pe_ix ix_src (pv 0) pe_int (fun _ _ => rfl)) pa_nil)))))), ?_⟩
  clear nd hr
  have sz := sizeL
  walk_at "r"
  refine ⟨.tup a, rfl, _, sqT ea, trivial, _, rfl, rfl, ?_⟩
  cases p with
  | told x =>
    obtain ⟨h1, h2, h3⟩ := hp.x x rfl
    refine ite_t (decide_eq_true rfl) ?_
    have z1 : (Str.ofString "=").length = 1 := rfl
    exact ⟨.tup a, rfl, _, sqT ea, trivial, _, rfl, x, rfl, by omega, q⟩
  | box n =>
    refine ite_f (by show decide (V.str "box" = V.str "told") = false; decide +kernel) ?_
    walk_at "n"
    refine ⟨.tup a, rfl, _, sqT ea, trivial, _, rfl, rfl, ?_⟩
    refine ite_f (by show decide (V.str "box" = V.str "turned") = false; decide +kernel) ?_
    refine ⟨.tup a, rfl, _, sqT ea, trivial, _, rfl, (n : Int), rfl, lg10 (hp.n1 n rfl), ?_⟩
    rw [num_eq (hp.n1 n rfl)]
    refine ⟨by (show 1 ≤ sizeLine; decide), ?_⟩
    rw [show Str.ofString "" ++ numC n = numC n from emp_app _]
    exact q
  | tur n =>
    refine ite_f (by show decide (V.str "turned" = V.str "told") = false; decide +kernel) ?_
    walk_at "n"
    refine ⟨.tup a, rfl, _, sqT ea, trivial, _, rfl, rfl, ?_⟩
    refine ite_t (decide_eq_true rfl) ?_
    refine ⟨.tup a, rfl, _, sqT ea, trivial, _, rfl, (n : Int), rfl, lg10 (hp.n2 n rfl), ?_⟩
    rw [num_eq (hp.n2 n rfl)]
    exact ⟨by (show 2 ≤ sizeLine; decide), q⟩
def sp__law_text (K : PySem.W.Frag) : Sp := fun vs H Q _ => ∃ (v : V) (p : Prg), vs = [v] ∧ rPrg H v p ∧ WF p ∧ ∀ H', Same H H' → Q (.str (progText p)) H'
theorem sc__law_text : FnScope ["_law_told_here", "_law_lines", "_law_one", "_law_mood", "_law_steps", "_law_key", "_law_later", "_law_some", "_law_close_here", "_law_words", "_law_part"] ["_law_told_here"] (defScope (top 61)) := ⟨rfl, rfl, rfl, by decide +kernel, rfl, by decide +kernel, by decide +kernel⟩
theorem ok__law_text {P : Program} {w : World} {K : PySem.W.Frag} {mg : Str → Option Value} {base : Heap} (D : Def K mg "_law_text" (top 61) ["_law_told_here"]) (T : Glo K mg) (g__law_set_text : GF P w K mg base 1 "_law_set_text" (sp__law_set_text K)) (g__law_part_text : GF P w K mg base 1 "_law_part_text" (sp__law_part_text K))  : GF P w K mg base 2 "_law_text" (sp__law_text K) := by
  have nd := sc__law_text.nd
  refine D.go sc__law_text (fun vs H Q E h => ?_) (fun f cdv A outer s0 H vs Q E hr h => ?_)
  · obtain ⟨v, p, rfl, ⟨a, b1, b2', vc, vd, rfl, op⟩, wf, q⟩ := h; rfl
  obtain ⟨v, p, rfl, ⟨a, b1, b2', vc, vd, rfl, op⟩, wf, q⟩ := h
  refine ⟨_, (pss_cons (ps_set (i := 1) nd rfl (by first | exact Or.inl rfl | exact Or.inr rfl) (pe_lst (pa_cons (pe_op op_add_str (pe_op op_add_str (pe_op op_add_str pe_str (pe_ix ix_src (pv 0) pe_int (fun _ _ => rfl))) pe_str) (pe_ix ix_src (pv 0) pe_int (fun _ _ => rfl))) pa_nil)))
  (pss_cons (ps_expr (pe_bm PySem.F.plainAttrs_list PySem.F.slot_list_append PySem.F.type_list_append mt_append (pv 1) (pa_cons (pe_join pe_str (pe_op op_cat (pe_lst (pa_cons pe_str (pa_cons (pe_callTy call_str_int (by rfl) T.b_str (by decide +kernel) (pa_cons (pe_ix ix_src (pe_ix ix_src (pv 0) pe_int (fun _ _ => rfl)) pe_int (fun _ _ => rfl)) pa_nil)) pa_nil))) (pe_lc (own := [("_law_one", 2)]) rfl nd (pi_src (pe_ix ix_src (pe_ix ix_src (pv 0) pe_int (fun _ _ => rfl)) pe_int (fun _ _ => rfl))) (blkOk_by (own := [("_law_one", 2)]) (N := ["_law_told_here", "_law_lines", "_law_one", "_law_mood", "_law_steps", "_law_key", "_law_later", "_law_some", "_law_close_here", "_law_words", "_law_part"]) (sc := defScope (top 61)) (by decide +kernel)) (fun _ _ _ _ _ => (pg_name (i := 2) nd rfl (by first | exact Or.inl rfl | exact Or.inr rfl))) (fun _ _ _ _ _ => pts_nil) (fun _ _ _ _ _ => (pe_ifExp (pt_cmpR op_ne (pv 2) pe_str (nomark _)) (pv 2) pe_str))))) pa_nil)))
  (pss_cons (ps_for PassesOwn.never rfl (pi_enumS (by rfl) T.b_enumerate (pa_cons (pe_ix ix_src (pv 0) pe_int (fun _ _ => rfl)) pa_nil)) (pg_tup (n := 2) rfl (pgs_cons (pg_name (i := 3) nd rfl (by first | exact Or.inl rfl | exact Or.inr rfl)) (pgs_cons (pg_name (i := 4) nd rfl (by first | exact Or.inl rfl | exact Or.inr rfl)) pgs_nil)))
  (pss_one (ps_for PassesOwn.never rfl (pi_zipS (by rfl) T.b_zip (pa_cons (pe_ix ix_src (pv 0) pe_int (fun _ _ => rfl)) (pa_cons (pv 4) pa_nil))) (pg_tup (n := 2) rfl (pgs_cons (pg_name (i := 5) nd rfl (by first | exact Or.inl rfl | exact Or.inr rfl)) (pgs_cons (pg_tup (n := 2) rfl (pgs_cons (pg_name (i := 6) nd rfl (by first | exact Or.inl rfl | exact Or.inr rfl)) (pgs_cons (pg_name (i := 7) nd rfl (by first | exact Or.inl rfl | exact Or.inr rfl)) pgs_nil))) pgs_nil)))
  (pss_one (ps_expr (pe_bm PySem.F.plainAttrs_list PySem.F.slot_list_append PySem.F.type_list_append mt_append (pv 1) (pa_cons (pe_join pe_str (pe_op op_cat (pe_lst (pa_cons pe_str (pa_cons (pe_callTy call_str_int (by rfl) T.b_str (by decide +kernel) (pa_cons (pv 3) pa_nil)) (pa_cons (pv 5) (pa_cons (pe_callTy call_str_int (by rfl) T.b_str (by decide +kernel) (pa_cons (pv 6) pa_nil)) pa_nil))))) (pe_lc (own := [("_law_one", 2)]) rfl nd (pi_src (pv 7)) (blkOk_by (own := [("_law_one", 2)]) (N := ["_law_told_here", "_law_lines", "_law_one", "_law_mood", "_law_steps", "_law_key", "_law_later", "_law_some", "_law_close_here", "_law_words", "_law_part"]) (sc := defScope (top 61)) (by decide +kernel)) (fun _ _ _ _ _ => (pg_name (i := 2) nd rfl (by first | exact Or.inl rfl | exact Or.inr rfl))) (fun _ _ _ _ _ => pts_nil) (fun _ _ _ _ _ => (pc_g g__law_set_text hr (pa_cons (pv 2) pa_nil)))))) pa_nil)))))))
  (pss_cons (ps_for PassesOwn.never rfl (pi_enumS (by rfl) T.b_enumerate (pa_cons (pe_ix ix_src (pv 0) pe_int (fun _ _ => rfl)) pa_nil)) (pg_tup (n := 2) rfl (pgs_cons (pg_name (i := 3) nd rfl (by first | exact Or.inl rfl | exact Or.inr rfl)) (pgs_cons (pg_name (i := 8) nd rfl (by first | exact Or.inl rfl | exact Or.inr rfl)) pgs_nil)))
  (pss_cons (ps_set (i := 9) nd rfl (by first | exact Or.inl rfl | exact Or.inr rfl) (pe_ifExp (pt_cmpR op_isN (pv 8) pe_non (nomark _)) (pe_lst (pa_cons pe_str pa_nil)) (pe_lc (own := [("_law_part", 10)]) rfl nd (pi_src (pv 8)) (blkOk_by (own := [("_law_part", 10)]) (N := ["_law_told_here", "_law_lines", "_law_one", "_law_mood", "_law_steps", "_law_key", "_law_later", "_law_some", "_law_close_here", "_law_words", "_law_part"]) (sc := defScope (top 61)) (by decide +kernel)) (fun _ _ _ _ _ => (pg_name (i := 10) nd rfl (by first | exact Or.inl rfl | exact Or.inr rfl))) (fun _ _ _ _ _ => pts_nil) (fun _ _ _ _ _ => (pc_g g__law_part_text hr (pa_cons (pv 10) pa_nil))))))
  (pss_one (ps_expr (pe_bm PySem.F.plainAttrs_list PySem.F.slot_list_append PySem.F.type_list_append mt_append (pv 1) (pa_cons (pe_join pe_str (pe_op op_cat (pe_lst (pa_cons pe_str (pa_cons (pe_callTy call_str_int (by rfl) T.b_str (by decide +kernel) (pa_cons (pv 3) pa_nil)) pa_nil))) (pv 9))) pa_nil))))))
  (pss_one (ps_ret (pe_join pe_str (pv 1)))))))), ?_⟩
  clear nd hr
  have sz := sizeL
  have ea := op.a
  have l3 := wf.w3
  have b2 := wf.b2
  have m0 := wf.m0
  have s3 := wf.s3
  have ll : p.letters.length = 2 := by rw [wf.let']; rfl
  have pn : p.n = 2 + 3 * p.ways.length := rfl
  have z14 : (Str.ofString "program signs ").length = 14 := rfl
  have z9 : (Str.ofString " letters ").length = 9 := rfl
  have z1 : (Str.ofString " ").length = 1 := rfl
  have eb1 := op.b
  have eb2 := op.e
  walk_at "r"
  refine ⟨.lst a, rfl, _, sqL ea, trivial, _, rfl, p.signs, rfl, by omega, by simp only [len_app]; omega, .lst a, rfl, _, sqL ea, trivial, _, rfl, p.letters, rfl, by simp only [len_app]; omega, by decide, fun l nl => ?_⟩
  rw [← line0]
  have k1 : Kp [l] H (upd H l (.lst [.str (lineS p 0)])) := Kp.of (Same.upd nl)
  have e1 : (upd H l (.lst [.str (lineS p 0)])) l = some (.lst ((linesS p 1).map V.str)) := upd_same
  generalize upd H l (.lst [.str (lineS p 0)]) = H1 at k1 e1 ⊢
  have f1 := same_kp nl k1
  walk_at "n"
  refine ⟨.inl ⟨rfl, _, sqL e1⟩, ?_⟩
  refine ⟨.lst a, rfl, _, sqL (f1 _ _ ea), trivial, _, rfl, .tup b1, rfl, _, sqT (f1 _ _ eb1), trivial, _, rfl, p.m0, rfl, lg10 (by omega), by decide, fun u nu => ?_⟩
  rw [num_eq (show p.m0 < 10 by omega)]
  obtain ⟨H2, h, s2, _, eu, _⟩ := newE (S := []) (.lst [.str "begin", .str (numC p.m0)]) Dom.nil nu
  rw [h]; clear h
  have f2 := f1.trans s2
  refine ⟨.lst a, rfl, _, sqL (f2 _ _ ea), trivial, _, rfl, .tup b1, rfl, _, sqT (f2 _ _ eb1), trivial, _, rfl, .lst b2', rfl, _, sqL (f2 _ _ eb2), ?_⟩
  refine lcB0 (walk_src (K := K) (S := .lst b2')) [] (fun i G v => ∀ x, p.t0[i]? = some x → v = .str (wordOf x)) Dom.nil (by rw [List.length_map]; show p.t0.length < _; omega) (fun H6 s6 => sqL (s6 _ _ (f2 _ _ eb2))) (fun i G G' v s h => h) (fun S2 i x H3 H3' Z hi hs d3 sm s3 y hz => ?_) fun D ws H3 s3' d3 nD _ eD hl hv => ?_
  · obtain ⟨e, hx⟩ := y
    subst e
    rw [List.getElem?_map] at hx
    cases e : p.t0[i]? with
    | none => rw [e] at hx; cases hx
    | some t =>
      rw [e] at hx
      cases hx
      walk_at "r"
      refine ⟨rfl, ?_⟩
      by_cases h : t = Str.ofString ""
      · refine ite_f (by rw [decide_eq_true h]; rfl) ?_
        refine hz _ _ (Same.refl _) fun x hx => ?_
        rw [e] at hx
        cases hx
        unfold wordOf
        rw [if_pos h]
      · refine ite_t (by rw [decide_eq_false h]; rfl) ?_
        refine hz _ _ (Same.refl _) fun x hx => ?_
        rw [e] at hx
        cases hx
        unfold wordOf
        rw [if_neg h]
  have ews := strs_of (f := wordOf) (xs := p.t0) (by rw [hl, List.length_map]) fun i v x e1 e2 => hv i v e1 x e2
  rw [ews] at eD
  refine ⟨D, rfl, _, s3' _ _ eu, _, eD, by simp; omega, fun j nj => ?_⟩
  obtain ⟨H4, h, s4, _, ej, _⟩ := newE (S := []) (.lst ([V.str "begin", V.str (numC p.m0)] ++ (p.t0.map wordOf).map V.str)) Dom.nil nj
  first | rw [h] | (simp only [List.cons_append, List.nil_append] at h; rw [h])
  clear h
  have s14 := (s2.trans s3').trans s4
  have e4 := s14 _ _ e1
  refine ⟨wb p, .inl (sqL ej), ?_, ?_⟩
  · have := okl_sum (lineAt_ok wf (i := 1) (by omega))
    exact Nat.le_trans this (by decide)
  refine ⟨_, e4, by rw [List.length_map, linesS_len]; decide, ?_⟩
  obtain ⟨H5, h, k5, e5⟩ := appE (p := p) (n := 1) (k1.trans (Kp.of s14))
  rw [show Txt.join " " (wb p) = lineS p 1 from rfl, h]
  clear h
  have f5 := same_kp nl k5
  obtain ⟨c1, xs, ec0, ec1, hxs⟩ := op.c
  subst ec0
  walk_at "n"
  refine ⟨.lst a, rfl, _, sqL (f5 _ _ ea), trivial, _, rfl, .lst c1, rfl, xs, sqL (f5 _ _ ec1), ?_⟩
  have lx := hxs.len
  refine forB walk_enumS (fun i σ H' => Kp [l] H H' ∧ H' l = some (.lst ((linesS p (2 + 2 * i)).map V.str)) ∧ ∃ x3 x4 x5 x6 x7 x8 x9, σ = [some (.ref a), some (.ref l), none, x3, x4, x5, x6, x7, x8, x9, none]) ⟨k5, e5, _, _, _, _, _, _, _, rfl⟩ (fun i σ H' _ pv => sqL (same_kp nl pv.1 _ _ ec1)) ?_ ?_
  · rintro i x σ H6 H6' hi ⟨k6, e6, x3, x4, x5, x6, x7, x8, x9, rfl⟩ ⟨t, y, row, rfl, nt, rfl, ey, hrow⟩
    cases ey
    have hi' : i < p.ways.length := by omega
    obtain ⟨wr, hwr, c2, ys, rfl, ec2, hys⟩ := hxs.get hrow
    have lr := (wf.rows wr (List.mem_of_getElem? hwr)).1
    have s6 : Same H6 (upd H6 t (.tup [.int (i : Nat), .ref c2])) := Same.upd nt
    have et : (upd H6 t (.tup [.int (i : Nat), .ref c2])) t = some (.tup [.int (i : Nat), .ref c2]) := upd_same
    generalize upd H6 t (.tup [.int (i : Nat), .ref c2]) = H7 at s6 et ⊢
    have k7 := k6.trans (Kp.of s6)
    have e7 := s6 _ _ e6
    have f7 := same_kp nl k7
    walk_at "r"
    refine ⟨_, sqT et, rfl, _, _, rfl, _, _, rfl, rfl, ?_⟩
    refine ⟨.lst a, rfl, _, sqL (f7 _ _ ea), trivial, _, rfl, .txt p.letters, rfl, .lst c2, rfl, _, rfl, ys, sqL (f7 _ _ ec2), ?_⟩
    refine forB (walk_zipS (n := 2) (by rw [txt_len, ll]) (by rw [hys.len, lr])) (fun j σ H' => Kp [l] H H' ∧ H' l = some (.lst ((linesS p (2 + 2 * i + j)).map V.str)) ∧ ∃ x5 x6 x7, σ = [some (.ref a), some (.ref l), none, some (.int (i : Nat)), some (.ref c2), x5, x6, x7, x8, x9, none]) ⟨k7, e7, _, _, _, rfl⟩ (fun i σ H' _ pv => ⟨rfl, sqL (same_kp nl pv.1 _ _ ec2)⟩) ?_ ?_
    · rintro j y σ H8 H8' hj ⟨k8, e8, x5, x6, x7, rfl⟩ ⟨t2, lv, wv, rfl, nt2, rfl, hlv, hwv⟩
      have elv := xy_at wf.let' hlv
      subst elv
      obtain ⟨w', hw', c3, c4, ss, rfl, ec3, ec4, hss⟩ := hys.get hwv
      have okw := (wf.rows wr (List.mem_of_getElem? hwr)).2 w' (List.mem_of_getElem? hw')
      have okm := okw.m
      have ewy := way_eq hwr hw'
      have s8 : Same H8 (upd H8 t2 (.tup [.str ⟨#[120 + j]⟩, .ref c3])) := Same.upd nt2
      have et2 : (upd H8 t2 (.tup [.str ⟨#[120 + j]⟩, .ref c3])) t2 = some (.tup [.str ⟨#[120 + j]⟩, .ref c3]) := upd_same
      generalize upd H8 t2 (.tup [.str ⟨#[120 + j]⟩, .ref c3]) = H9 at s8 et2 ⊢
      have k9 := k8.trans (Kp.of s8)
      have e9 := s8 _ _ e8
      have f9 := same_kp nl k9
      walk_at "r"
      refine ⟨_, sqT et2, rfl, _, _, rfl, _, _, rfl, c3, rfl, _, sqT (f9 _ _ ec3), rfl, _, _, rfl, _, _, rfl, rfl, rfl, ?_⟩
      refine ⟨.inl ⟨rfl, _, sqL e9⟩, lg10 (by omega), w'.1, rfl, lg10 (by omega), ?_⟩
      rw [num_eq (show i < 10 by omega), num_eq (show w'.1 < 10 by omega)]
      refine ⟨by decide, fun u2 nu2 => ?_⟩
      obtain ⟨H10, h, s10, _, eu2, _⟩ := newE (S := []) (.lst [.str "way", .str (numC i), .str ⟨#[120 + j]⟩, .str (numC w'.1)]) Dom.nil nu2
      rw [h]; clear h
      have f10 := f9.trans s10
      refine ⟨.lst c4, rfl, ss, sqL (f10 _ _ ec4), ?_⟩
      refine lcB0 (walk_src (K := K) (S := .lst c4)) [] (fun i G v => ∀ x, w'.2[i]? = some x → v = .str (settText x)) Dom.nil (by rw [hss.len, okw.n]; omega) (fun H6 s6 => sqL (s6 _ _ (f10 _ _ ec4))) (fun i G G' v s h => h) (fun S2 k x H11 H11' Z hi hs d11 sm s11 y hz => ?_) fun D ws H11 s11 d11 nD _ eD hl hv => ?_
      · obtain ⟨e, hx⟩ := y
        subst e
        obtain ⟨s, hs', rp⟩ := hss.get hx
        walk_at "r"
        have low := sett_low wf (okw.s s (List.mem_of_getElem? hs'))
        refine ⟨x, s, rfl, rp.up (f10.trans s11), low, hz _ _ (Same.refl _) fun x hx => ?_⟩
        rw [hs'] at hx
        cases hx
        rfl
      have ews := strs_of (f := settText) (xs := w'.2) (by rw [hl, hss.len]) fun i v x e1 e2 => hv i v e1 x e2
      rw [ews] at eD
      refine ⟨D, rfl, _, s11 _ _ eu2, _, eD, by simp [okw.n]; omega, fun v nv => ?_⟩
      have hj' : j < 2 := hj
      have ln : lineS p (2 + 2 * i + j) = Txt.join " " (wway i (120 + j) w') := by
        unfold lineS
        rw [lineAt_way hi' hj', ewy]
      have okl := lineAt_ok wf (i := 2 + 2 * i + j) (by omega)
      rw [lineAt_way hi' hj', ewy] at okl
      obtain ⟨H12, h, s12, _, ev, _⟩ := newE (S := []) (.lst ([V.str "way", V.str (numC i), V.str ⟨#[120 + j]⟩, V.str (numC w'.1)] ++ (w'.2.map settText).map V.str)) Dom.nil nv
      first | rw [h] | (simp only [List.cons_append, List.nil_append] at h; rw [h])
      clear h
      have s912 := (s10.trans s11).trans s12
      have e12 := s912 _ _ e9
      refine ⟨wway i (120 + j) w', .inl (sqL ev), Nat.le_trans (okl_sum okl) (by decide), _, e12, by rw [List.length_map, linesS_len]; omega, ?_⟩
      obtain ⟨H13, h, k13, e13⟩ := appE (p := p) (n := 2 + 2 * i + j) (k9.trans (Kp.of s912))
      rw [← ln, h]
      exact ⟨k13, e13⟩
    · rintro σ H8 ⟨k8, e8, x5, x6, x7, rfl⟩
      exact ⟨k8, e8, _, _, _, _, _, _, _, rfl⟩
  · rintro σ H6 ⟨k6, e6, x3, x4, x5, x6, x7, x8, x9, rfl⟩
    have f6 := same_kp nl k6
    obtain ⟨d1, es, ed0, ed1, hes⟩ := op.d
    subst ed0
    have les : es.length = p.ways.length := by rw [hes.len, wf.el]
    rw [lx] at e6
    walk_at "n"
    walk_at "n"
    refine ⟨.lst a, rfl, _, sqL (f6 _ _ ea), trivial, _, rfl, .lst d1, rfl, es, sqL (f6 _ _ ed1), ?_⟩
    refine forB walk_enumS (fun i σ H' => Kp [l] H H' ∧ H' l = some (.lst ((linesS p (2 + 2 * p.ways.length + i)).map V.str)) ∧ ∃ x3 x8 x9, σ = [some (.ref a), some (.ref l), none, x3, x4, x5, x6, x7, x8, x9, none]) ⟨k6, e6, _, _, _, rfl⟩ (fun i σ H' _ pv => sqL (same_kp nl pv.1 _ _ ed1)) ?_ ?_
    · rintro i x σ H7 H7' hi ⟨k7, e7, x3, x8, x9, rfl⟩ ⟨t, y, row, rfl, nt, rfl, ey, hrow⟩
      cases ey
      have hi' : i < p.ways.length := by omega
      obtain ⟨en, hen, hv⟩ := hes.get hrow
      have s7 : Same H7 (upd H7 t (.tup [.int (i : Nat), row])) := Same.upd nt
      have et : (upd H7 t (.tup [.int (i : Nat), row])) t = some (.tup [.int (i : Nat), row]) := upd_same
      generalize upd H7 t (.tup [.int (i : Nat), row]) = H8 at s7 et ⊢
      have k8 := k7.trans (Kp.of s7)
      have e8 := s7 _ _ e7
      have f8 := same_kp nl k8
      have een : p.ends.getD i none = en := by simp [List.getD_eq_getElem?_getD, hen]
      have ln : lineS p (2 + 2 * p.ways.length + i) = Txt.join " " (wend i en) := by
        unfold lineS
        rw [lineAt_end, een]
      have okl := lineAt_ok wf (i := 2 + 2 * p.ways.length + i) (by omega)
      rw [lineAt_end, een] at okl
      walk_at "r"
      refine ⟨_, sqT et, rfl, _, _, rfl, _, _, rfl, rfl, ?_⟩
      cases en with
      | none =>
        have e : row = .non := hv
        subst e
        refine ite_t rfl ?_
        refine ⟨by decide, fun u nu => ?_⟩
        obtain ⟨H9, h, s9, _, eu, _⟩ := newE (S := []) (.lst [.str "none"]) Dom.nil nu
        rw [h]; clear h
        walk_at "n"
        refine ⟨.inl ⟨rfl, _, sqL (s9 _ _ e8)⟩, lg10 (by omega), ?_⟩
        rw [num_eq (show i < 10 by omega)]
        refine ⟨by decide, fun u2 nu2 => ?_⟩
        obtain ⟨H10, h, s10, _, eu2, _⟩ := newE (S := []) (.lst [.str "end", .str (numC i)]) Dom.nil nu2
        rw [h]; clear h
        refine ⟨_, eu2, _, s10 _ _ eu, by simp; omega, fun v nv => ?_⟩
        obtain ⟨H11, h, s11, _, ev, _⟩ := newE (S := []) (.lst ([V.str "end", V.str (numC i)] ++ ([Str.ofString "none"]).map V.str)) Dom.nil nv
        first | rw [h] | (simp only [List.cons_append, List.nil_append, List.map_cons, List.map_nil] at h; rw [h]) | (simp only [List.cons_append, List.nil_append, List.map_cons, List.map_nil] at h ⊢; rw [h])
        clear h
        have e11 := s11 _ _ (s10 _ _ (s9 _ _ e8))
        refine ⟨Str.ofString "end" :: numC i :: [Str.ofString "none"], .inl (sqL ev), Nat.le_trans (okl_sum okl) (by decide), _, e11, by rw [List.length_map, linesS_len]; omega, ?_⟩
        obtain ⟨H12, h, k12, e12⟩ := appE (p := p) (n := 2 + 2 * p.ways.length + i) (((k8.trans (Kp.of s9)).trans (Kp.of s10)).trans (Kp.of s11))
        have ln' : lineS p (2 + 2 * p.ways.length + i) = Txt.join " " (Str.ofString "end" :: numC i :: [Str.ofString "none"]) := ln
        rw [← ln', h]
        exact ⟨k12, e12⟩
      | some ps =>
        obtain ⟨e1', ws, rfl, ee1, hps⟩ := hv
        obtain ⟨l3', okp⟩ := wf.en _ (List.mem_of_getElem? hen) ps rfl
        refine ite_f rfl ?_
        refine ⟨.lst e1', rfl, ws, sqL (f8 _ _ ee1), ?_⟩
        refine lcB0 (walk_src (K := K) (S := .lst e1')) [] (fun i G v => ∀ x, ps[i]? = some x → v = .str (partText x)) Dom.nil (by rw [hps.len]; omega) (fun H6 s6 => sqL (s6 _ _ (f8 _ _ ee1))) (fun i G G' v s h => h) (fun S2 k x H9 H9' Z hi hs d9 sm s9 y hz => ?_) fun D ws' H9 s9 d9 nD _ eD hl hv => ?_
        · obtain ⟨e, hx⟩ := y
          subst e
          obtain ⟨part, hpart, op'⟩ := hps.get hx
          walk_at "r"
          refine ⟨x, part, rfl, op'.up (f8.trans s9), part_low wf (okp part (List.mem_of_getElem? hpart)), hz _ _ (Same.refl _) fun x hx => ?_⟩
          rw [hpart] at hx
          cases hx
          rfl
        have ews := strs_of (f := partText) (xs := ps) (by rw [hl, hps.len]) fun i v x e1 e2 => hv i v e1 x e2
        rw [ews] at eD
        walk_at "n"
        refine ⟨.inl ⟨rfl, _, sqL (s9 _ _ e8)⟩, lg10 (by omega), ?_⟩
        rw [num_eq (show i < 10 by omega)]
        refine ⟨by decide, fun u2 nu2 => ?_⟩
        obtain ⟨H10, h, s10, _, eu2, _⟩ := newE (S := []) (.lst [.str "end", .str (numC i)]) Dom.nil nu2
        rw [h]; clear h
        refine ⟨_, eu2, _, s10 _ _ eD, by simp; omega, fun v nv => ?_⟩
        obtain ⟨H11, h, s11, _, ev, _⟩ := newE (S := []) (.lst ([V.str "end", V.str (numC i)] ++ (ps.map partText).map V.str)) Dom.nil nv
        first | rw [h] | (simp only [List.cons_append, List.nil_append, List.map_cons, List.map_nil] at h; rw [h]) | (simp only [List.cons_append, List.nil_append, List.map_cons, List.map_nil] at h ⊢; rw [h])
        clear h
        have e11 := s11 _ _ (s10 _ _ (s9 _ _ e8))
        refine ⟨Str.ofString "end" :: numC i :: ps.map partText, .inl (sqL ev), Nat.le_trans (okl_sum okl) (by decide), _, e11, by rw [List.length_map, linesS_len]; omega, ?_⟩
        obtain ⟨H12, h, k12, e12⟩ := appE (p := p) (n := 2 + 2 * p.ways.length + i) (((k8.trans (Kp.of s9)).trans (Kp.of s10)).trans (Kp.of s11))
        have ln' : lineS p (2 + 2 * p.ways.length + i) = Txt.join " " (Str.ofString "end" :: numC i :: ps.map partText) := ln
        rw [← ln', h]
        exact ⟨k12, e12⟩
    · rintro σ H7 ⟨k7, e7, x3, x8, x9, rfl⟩
      rw [les] at e7
      walk_at "n"
      walk_at "n"
      have en : 2 + 2 * p.ways.length + p.ways.length = p.n := by omega
      rw [en] at e7
      exact ⟨linesS p p.n, .inl (sqL e7), Nat.le_trans (lines_sum wf) (by decide), q _ (same_kp nl k7)⟩
def sp__law_made (K : PySem.W.Frag) : Sp := fun vs H Q _ => ∃ (S : List Addr) (v : V) (p : Prg), vs = [v] ∧ rPrg (hid S H) v p ∧ WF p ∧ Dom S H ∧ ∀ H' r, Same H H' → oPrg K (hid S H') r p → Q r H'
theorem sc__law_made : FnScope ["_law_told_here"] ["_law_told_here"] (defScope (top 62)) := ⟨rfl, rfl, rfl, by decide +kernel, rfl, by decide +kernel, by decide +kernel⟩
theorem ok__law_made {P : Program} {w : World} {K : PySem.W.Frag} {mg : Str → Option Value} {base : Heap} (D : Def K mg "_law_made" (top 62) ["_law_told_here"]) (T : Glo K mg) {mc : Value} {pR gR : Addr} (rP : ClX.CRead K (cP K) mc) (k_read : ClX.CMet K (cP K) mc "read" pR gR ∧ FnR P w K mg base CX0 9 gR (sp_Program_read K)) (g__law_text : GF P w K mg base 2 "_law_text" (sp__law_text K))  : GF P w K mg base 10 "_law_made" (sp__law_made K) := by
  have nd := sc__law_made.nd
  refine D.go sc__law_made (fun vs H Q E h => ?_) (fun f cdv A outer s0 H vs Q E hr h => ?_)
  · obtain ⟨S, v, p, rfl, rp, wf, d, q⟩ := h; rfl
  obtain ⟨S, v, p, rfl, rp, wf, d, q⟩ := h
  refine ⟨_, (pss_one (ps_ret (ClX.pe_cmeth (pe_gl T.v_Program) rP k_read.1 k_read.2 (hr.mono (by decide)) pass0 (pa_cons (pc_g g__law_text hr (pa_cons (pv 0) pa_nil)) pa_nil)))), ?_⟩
  clear nd hr
  walk_at "r"
  refine ⟨v, p, rfl, rp.up hid_le, wf, fun H1 s1 => ?_⟩
  exact ⟨S, p, rfl, wf, d.same s1, fun H2 r s2 o => q _ _ (s1.trans s2) o⟩
def sp__law_over (K : PySem.W.Frag) : Sp := fun vs H Q _ => ∃ (v : V) (s : Sett) (c : Addr) (ts : List Str), vs = [v, .ref c] ∧ rSett H v s ∧ SqT K H c (ts.map V.str) ∧ (∀ n, s.src = some n → n < ts.length) ∧ s.hd.length ≤ 1000 ∧ s.tl.length ≤ 1000 ∧ (∀ x ∈ ts, x.length ≤ 100000) ∧ Q (.str (s.over ts)) H
theorem sc__law_over : FnScope ["_law_one", "_law_cells", "_law_middle"] ["_law_one", "_law_cells"] (defScope (top 63)) := ⟨rfl, rfl, rfl, by decide +kernel, rfl, by decide +kernel, by decide +kernel⟩
theorem ok__law_over {P : Program} {w : World} {K : PySem.W.Frag} {mg : Str → Option Value} {base : Heap} (D : Def K mg "_law_over" (top 63) ["_law_one", "_law_cells"]) (T : Glo K mg)   : GF P w K mg base 1 "_law_over" (sp__law_over K) := by
  have nd := sc__law_over.nd
  refine D.go sc__law_over (fun vs H Q E h => ?_) (fun f cdv A outer s0 H vs Q E hr h => ?_)
  · obtain ⟨v, s, c, ts, rfl, ⟨a, rfl, ea⟩, ec, hn, z1, z2, ht, q⟩ := h; rfl
  obtain ⟨v, s, c, ts, rfl, ⟨a, rfl, ea⟩, ec, hn, z1, z2, ht, q⟩ := h
  refine ⟨_, (pss_cons (ps_if (pt_cmpR op_isN (pe_ix ix_src (pv 0) pe_int (fun _ _ => rfl)) pe_non (nomark _))
  (pss_one (ps_ret (pe_ix ix_src (pv 0) pe_int (fun _ _ => rfl))))
  pss_nil)
  (pss_cons (ps_set (i := 2) nd rfl (by first | exact Or.inl rfl | exact Or.inr rfl) (pe_ix ix_src (pv 1) (pe_ix ix_src (pv 0) pe_int (fun _ _ => rfl)) (fun _ _ => rfl)))
  (pss_one (ps_ret (pe_op op_add_str (pe_op op_add_str (pe_ix ix_src (pv 0) pe_int (fun _ _ => rfl)) (pe_ifExp (pt_val (pe_ix ix_src (pv 0) pe_int (fun _ _ => rfl))) (pe_revS (pv 2) (pe_op op_sub pe_int pe_int)) (pv 2))) (pe_ix ix_src (pv 0) pe_int (fun _ _ => rfl))))))), ?_⟩
  clear nd hr
  have sz := sizeL
  walk_at "r"
  refine ⟨.tup a, rfl, _, sqT ea, trivial, _, rfl, ?_⟩
  unfold Sett.over at q
  cases es : s.src with
  | none =>
    rw [es] at q
    refine ite_t vN_non' ?_
    exact ⟨.tup a, rfl, _, sqT ea, trivial, _, rfl, q⟩
  | some n =>
    rw [es] at q
    have hn' := hn n es
    have hl := getD_ok (P := fun x => x.length ≤ 100000) ht hn'
    refine ite_f vN_non ?_
    walk_at "n"
    refine ⟨.tup a, rfl, _, sqT ea, trivial, _, rfl, .tup c, rfl, _, (n : Int), by rw [es]; rfl, ec, trivial, .str (ts.getD n Str.empty), atI_nat (by rw [List.getElem?_map, List.getElem?_eq_getElem hn']; simp [List.getD_eq_getElem?_getD, List.getElem?_eq_getElem hn']), ?_⟩
    walk_at "n"
    refine ⟨.tup a, rfl, _, sqT ea, trivial, _, rfl, .tup a, rfl, _, sqT ea, trivial, _, rfl, s.tn, rfl, ?_⟩
    refine ite2' (fun e2 => ?_) (fun e2 => ?_)
    · rw [e2] at q
      refine ⟨by omega, rfl, s.hd, rfl, by rw [revS_len]; omega, .tup a, rfl, _, sqT ea, trivial, _, rfl, s.tl, rfl, by rw [len_app, revS_len]; omega, q⟩
    · rw [e2] at q
      refine ⟨s.hd, rfl, by omega, .tup a, rfl, _, sqT ea, trivial, _, rfl, s.tl, rfl, by rw [len_app]; omega, q⟩
def sp__law_led (K : PySem.W.Frag) : Sp := fun vs H Q _ => ∃ (S : List Addr) (v sv : V) (p : Prg) (now : Stand) (k L : Nat), vs = [v, sv, .str ⟨#[120 + k]⟩] ∧ rPrg (hid S H) v p ∧ rStand (hid S H) sv now ∧ WF p ∧ StandOk p.signs p.ways.length p.t0.length L now ∧ L ≤ 90000 ∧ k < 2 ∧ Dom S H ∧
  ∀ H' r, Same H H' → rStand (hid S H') r (p.led now k) → Q r H'
theorem sc__law_led : FnScope ["_law_told_here", "_law_now", "_law_key", "_law_later", "_law_some", "_law_one"] ["_law_told_here", "_law_now", "_law_key"] (defScope (top 64)) := ⟨rfl, rfl, rfl, by decide +kernel, rfl, by decide +kernel, by decide +kernel⟩
theorem ok__law_led {P : Program} {w : World} {K : PySem.W.Frag} {mg : Str → Option Value} {base : Heap} (D : Def K mg "_law_led" (top 64) ["_law_told_here", "_law_now", "_law_key"]) (T : Glo K mg) (g__law_over : GF P w K mg base 1 "_law_over" (sp__law_over K))  : GF P w K mg base 2 "_law_led" (sp__law_led K) := by
  have nd := sc__law_led.nd
  refine D.go sc__law_led (fun vs H Q E h => ?_) (fun f cdv A outer s0 H vs Q E hr h => ?_)
  · obtain ⟨S, v, sv, p, now, k, L, rfl, ⟨a, a1, a2, vc, vd, rfl, op⟩, ⟨b, c, rfl, eb, ec⟩, wf, ok, hL, hk, d, q⟩ := h; rfl
  obtain ⟨S, v, sv, p, now, k, L, rfl, ⟨a, a1, a2, vc, vd, rfl, op⟩, ⟨b, c, rfl, eb, ec⟩, wf, ok, hL, hk, d, q⟩ := h
  refine ⟨_, (pss_cons (ps_asg (pe_ix ix_src (pe_ix ix_src (pe_ix ix_src (pv 0) pe_int (fun _ _ => rfl)) (pe_ix ix_src (pv 1) pe_int (fun _ _ => rfl)) (fun _ _ => rfl)) (pe_m1 PySem.F.slot_str_index PySem.F.type_str_index mt_sindex (pe_ix ix_src (pv 0) pe_int (fun _ _ => rfl)) (pv 2)) (fun _ _ => rfl)) (pg_tup (n := 2) rfl (pgs_cons (pg_name (i := 3) nd rfl (by first | exact Or.inl rfl | exact Or.inr rfl)) (pgs_cons (pg_name (i := 4) nd rfl (by first | exact Or.inl rfl | exact Or.inr rfl)) pgs_nil))))
  (pss_one (ps_ret (pe_tup (pa_cons (pv 3) (pa_cons (pe_callTy call_tuple_of (by rfl) T.b_tuple (by decide +kernel) (pa_cons (pe_lc (own := [("_law_one", 5)]) rfl nd (pi_src (pv 4)) (blkOk_by (own := [("_law_one", 5)]) (N := ["_law_told_here", "_law_now", "_law_key", "_law_later", "_law_some", "_law_one"]) (sc := defScope (top 64)) (by decide +kernel)) (fun _ _ _ _ _ => (pg_name (i := 5) nd rfl (by first | exact Or.inl rfl | exact Or.inr rfl))) (fun _ _ _ _ _ => pts_nil) (fun _ _ _ _ _ => (pc_g g__law_over hr (pa_cons (pv 5) (pa_cons (pe_ix (ix_srcK (K := K) rfl) (pv 1) pe_int (fun _ _ => rfl)) pa_nil))))) pa_nil)) pa_nil)))))), ?_⟩
  clear nd hr
  have sz := sizeL
  obtain ⟨cw, xs, rfl, ecw, hxs⟩ := id op.c
  obtain ⟨row, w, hrow, hw, lr, okw, ew⟩ := way_at wf ok.m hk
  obtain ⟨rv, hrv, rc, rs, rfl, erc, hrs⟩ := hxs.at hrow
  obtain ⟨wv, hwv, w1, w2, ss, rfl, ew1, ew2, hss⟩ := hrs.at hw
  have b2 := wf.b2
  walk_at "r"
  refine ⟨.lst a, rfl, _, hsqL op.a, trivial, _, rfl, .tup b, rfl, _, hsqT eb, trivial, _, rfl, .lst cw, rfl, _, (now.1 : Int), rfl, hsqL ecw, trivial, _, atI_nat hrv, ?_⟩
  refine ⟨.lst a, rfl, _, hsqL op.a, trivial, _, rfl, ⟨_, rfl⟩, p.letters, rfl, k, [], ?_, .lst rc, rfl, _, hsqL erc, trivial, _, atI_nat hwv, w1, rfl, _, hsqT ew1, rfl, _, _, rfl, _, _, rfl, rfl, ?_⟩
  · rw [wf.let']
    have : k = 0 ∨ k = 1 := by omega
    rcases this with rfl | rfl
    · exact occ_xy0
    · exact occ_xy1
  walk_at "n"
  refine ⟨.lst w2, rfl, ss, hsqL ew2, ?_⟩
  refine lcB0 (walk_src (K := K) (S := .lst w2)) S (fun i G v => ∀ s, w.2[i]? = some s → v = .str (s.over now.2)) d (by rw [hss.len, okw.n]; omega) (fun H6 s6 => sqL (s6 _ _ (hid_le _ _ ew2))) (fun i G G' v s h => h) (fun S2 k' x H2 H2' Z hi hs d2 sm s2 y hz => ?_) fun D ws' H2 s2 d2 nD _ eD hl hv => ?_
  · obtain ⟨e, hx⟩ := y
    subst e
    obtain ⟨s, hs', rs'⟩ := hss.get hx
    have oks := okw.s s (List.mem_of_getElem? hs')
    walk_at "r"
    refine ⟨.tup b, rfl, _, sqT (s2 _ _ (hid_le _ _ eb)), trivial, _, rfl, x, s, c, now.2, rfl, (rs'.up hid_le).up s2, sqT (s2 _ _ (hid_le _ _ ec)), fun n e => by rw [ok.n]; exact oks.src n e, Nat.le_trans oks.hl (by decide), Nat.le_trans oks.tll (by decide), fun x hx => Nat.le_trans (ok.t x hx).2 (by omega), hz _ _ (Same.refl _) fun t ht => ?_⟩
    rw [hs'] at ht
    cases ht
    rfl
  have ews := strs_of (f := fun s : Sett => s.over now.2) (xs := w.2) (by rw [hl, hss.len]) fun i v x e1 e2 => hv i v e1 x e2
  rw [ews] at eD
  refine ⟨D, rfl, _, .inl ⟨sqL eD, fun t nt => ?_⟩⟩
  obtain ⟨H3, h, s3, d3, et, ht⟩ := newE (S := S) (.tup ((w.2.map fun s => s.over now.2).map V.str)) d2 nt
  rw [h]; clear h
  refine ⟨by decide, fun u nu => ?_⟩
  obtain ⟨H4, h, s4, d4, eu, hu⟩ := newE (S := S) (.tup [.int (w.1 : Nat), .ref t]) d3 nu
  rw [h]; clear h
  refine q _ _ ((s2.trans s3).trans s4) ⟨u, t, rfl, ?_, ?_⟩
  · rw [hu]
    unfold Prg.led
    rw [ew]
  · rw [hid_same s4 _ _ ht]
    unfold Prg.led
    rw [ew]
def sp__law_stood (K : PySem.W.Frag) : Sp := fun vs H Q _ => ∃ (S : List Addr) (v : V) (p : Prg), vs = [v, .str ""] ∧ rPrg (hid S H) v p ∧ Dom S H ∧ ∀ H' r, Same H H' → rStand (hid S H') r (p.m0, p.t0) → Q r H'
theorem sc__law_stood : FnScope ["_law_told_here", "_law_keys", "_law_now", "_law_key"] ["_law_told_here", "_law_keys"] (defScope (top 65)) := ⟨rfl, rfl, rfl, by decide +kernel, rfl, by decide +kernel, by decide +kernel⟩
theorem ok__law_stood {P : Program} {w : World} {K : PySem.W.Frag} {mg : Str → Option Value} {base : Heap} (D : Def K mg "_law_stood" (top 65) ["_law_told_here", "_law_keys"]) (T : Glo K mg) (g__law_led : GF P w K mg base 2 "_law_led" (sp__law_led K))  : GF P w K mg base 3 "_law_stood" (sp__law_stood K) := by
  have nd := sc__law_stood.nd
  refine D.go sc__law_stood (fun vs H Q E h => ?_) (fun f cdv A outer s0 H vs Q E hr h => ?_)
  · obtain ⟨S, v, p, rfl, ⟨a, a1, a2, vc, vd, rfl, op⟩, d, q⟩ := h; rfl
  obtain ⟨S, v, p, rfl, ⟨a, a1, a2, vc, vd, rfl, op⟩, d, q⟩ := h
  refine ⟨_, (pss_cons (ps_set (i := 2) nd rfl (by first | exact Or.inl rfl | exact Or.inr rfl) (pe_tup (pa_cons (pe_ix ix_src (pe_ix ix_src (pv 0) pe_int (fun _ _ => rfl)) pe_int (fun _ _ => rfl)) (pa_cons (pe_callTy call_tuple_of (by rfl) T.b_tuple (by decide +kernel) (pa_cons (pe_ix ix_src (pe_ix ix_src (pv 0) pe_int (fun _ _ => rfl)) pe_int (fun _ _ => rfl)) pa_nil)) pa_nil))))
  (pss_cons (ps_for PassesOwn.never rfl (pi_src (pv 1)) (pg_name (i := 3) nd rfl (by first | exact Or.inl rfl | exact Or.inr rfl))
  (pss_one (ps_set (i := 2) nd rfl (by first | exact Or.inl rfl | exact Or.inr rfl) (pc_g g__law_led hr (pa_cons (pv 0) (pa_cons (pv 2) (pa_cons (pv 3) pa_nil)))))))
  (pss_one (ps_ret (pv 2))))), ?_⟩
  clear nd hr
  walk_at "r"
  refine ⟨.lst a, rfl, _, hsqL op.a, trivial, _, rfl, .tup a1, rfl, _, hsqT op.b, trivial, _, rfl, .lst a, rfl, _, hsqL op.a, trivial, _, rfl, .tup a1, rfl, _, hsqT op.b, trivial, _, rfl, a2, rfl, _, .inl ⟨hsqL op.e, fun t nt => ?_⟩⟩
  obtain ⟨H3, h, s3, d3, et, ht⟩ := newE (S := S) (.tup (p.t0.map V.str)) d nt
  rw [h]; clear h
  refine ⟨by decide, fun u nu => ?_⟩
  obtain ⟨H4, h, s4, d4, eu, hu⟩ := newE (S := S) (.tup [.int (p.m0 : Nat), .ref t]) d3 nu
  rw [h]; clear h
  have hr4 : rStand (hid S H4) (.ref u) (p.m0, p.t0) := ⟨u, t, rfl, hu, hid_same s4 _ _ ht⟩
  walk_at "n"
  refine ⟨.txt "", rfl, _, rfl, forB (walk_src (K := K) (S := .txt "")) (fun i σ H' => H' = H4 ∧ σ = [some (.ref a), some (.str ""), some (.ref u), none]) ⟨rfl, rfl⟩ (fun i σ H' _ pv => rfl) ?_ ?_⟩
  · rintro i x σ H5 H5' hi
    rw [txt_len] at hi
    exact absurd hi (Nat.not_lt_zero _)
  · rintro σ H5 ⟨rfl, rfl⟩
    walk_at "n"
    walk_at "n"
    exact q _ _ (s3.trans s4) hr4
theorem rowText_snoc (ts : List Str) (q : Part) : ∀ ps : List Part, rowText ts (ps ++ [q]) = rowText ts ps ++ q.text ts
  | [] => by
    show q.text ts ++ Str.empty = Str.empty ++ q.text ts
    rw [emp_app]
    show (⟨(q.text ts).cps ++ #[]⟩ : Str) = _
    rw [Array.append_empty]
  | p :: r => by
    show p.text ts ++ rowText ts (r ++ [q]) = p.text ts ++ rowText ts r ++ q.text ts
    rw [rowText_snoc ts q r, app_assoc]
theorem rowText_len {g : Str} {b L : Nat} {ts : List Str} (hn : ts.length = b) (ht : ∀ x ∈ ts, x.length ≤ L) : ∀ ps : List Part, (∀ q ∈ ps, PartOk g b q) → (rowText ts ps).length ≤ ps.length * (L + 2)
  | [], _ => Nat.zero_le _
  | p :: r, h => by
    have h1 := part_text_len (h p (by simp)) hn ht
    have h2 := rowText_len hn ht r fun q hq => h q (by simp [hq])
    show (p.text ts ++ rowText ts r).length ≤ _
    rw [len_app, List.length_cons, Nat.add_mul, Nat.one_mul]
    omega
def sp__law_closed (K : PySem.W.Frag) : Sp := fun vs H Q _ => ∃ (ev : V) (e : Option (List Part)) (c : Addr) (ts : List Str) (g : Str), vs = [ev, .ref c] ∧ rEnd H ev e ∧ SqT K H c (ts.map V.str) ∧ EndOk g ts.length e ∧ (∀ x ∈ ts, x.length ≤ 90000) ∧ Q (vO (e.map fun r => rowText ts r)) H
theorem sc__law_closed : FnScope ["_law_close_here", "_law_cells", "_law_found", "_law_kind", "_law_what"] ["_law_close_here", "_law_cells"] (defScope (top 66)) := ⟨rfl, rfl, rfl, by decide +kernel, rfl, by decide +kernel, by decide +kernel⟩
theorem ok__law_closed {P : Program} {w : World} {K : PySem.W.Frag} {mg : Str → Option Value} {base : Heap} (D : Def K mg "_law_closed" (top 66) ["_law_close_here", "_law_cells"]) (T : Glo K mg)   : GF P w K mg base 1 "_law_closed" (sp__law_closed K) := by
  have nd := sc__law_closed.nd
  refine D.go sc__law_closed (fun vs H Q E h => ?_) (fun f cdv A outer s0 H vs Q E hr h => ?_)
  · obtain ⟨ev, e, c, ts, g, rfl, he, ec, ok, ht, q⟩ := h; rfl
  obtain ⟨ev, e, c, ts, g, rfl, he, ec, ok, ht, q⟩ := h
  refine ⟨_, (pss_cons (ps_if (pt_cmpR op_isN (pv 0) pe_non (nomark _))
  (pss_one (ps_ret pe_non))
  pss_nil)
  (pss_cons (ps_set (i := 2) nd rfl (by first | exact Or.inl rfl | exact Or.inr rfl) pe_str)
  (pss_cons (ps_for PassesOwn.never rfl (pi_src (pv 0)) (pg_tup (n := 2) rfl (pgs_cons (pg_name (i := 3) nd rfl (by first | exact Or.inl rfl | exact Or.inr rfl)) (pgs_cons (pg_name (i := 4) nd rfl (by first | exact Or.inl rfl | exact Or.inr rfl)) pgs_nil)))
  (pss_one (ps_if (pt_cmpR op_eq (pv 3) pe_str (nomark _))
  (pss_one (ps_set (i := 2) nd rfl (by first | exact Or.inl rfl | exact Or.inr rfl) (pe_op op_add_str (pv 2) (pv 4))))
  (pss_one (ps_set (i := 2) nd rfl (by first | exact Or.inl rfl | exact Or.inr rfl) (pe_op op_add_str (pv 2) (pe_ifExp (pt_cmpR op_eq (pv 3) pe_str (nomark _)) (pe_ix ix_src (pv 1) (pv 4) (fun _ _ => rfl)) (pe_revS (pe_ix ix_src (pv 1) (pv 4) (fun _ _ => rfl)) (pe_op op_sub pe_int pe_int)))))))))
  (pss_one (ps_ret (pv 2)))))), ?_⟩
  clear nd hr
  have sz := sizeL
  walk_at "r"
  cases e with
  | none =>
    have e : ev = .non := he
    subst e
    exact ite_t rfl q
  | some ps =>
    obtain ⟨a, ws, rfl, ea, hws⟩ := he
    obtain ⟨lp, okp⟩ := ok ps rfl
    refine ite_f rfl ?_
    walk_at "n"
    walk_at "n"
    refine ⟨.lst a, rfl, ws, sqL ea, forB (walk_src (K := K) (S := .lst a)) (fun i σ H' => H' = H ∧ ∃ x y, σ = [some (.ref a), some (.ref c), some (.str (rowText ts (ps.take i))), x, y]) ⟨rfl, _, _, rfl⟩ (fun i σ H' _ pv => by rw [pv.1]; exact sqL ea) ?_ ?_⟩
    · rintro i x σ H1 H1' hi ⟨rfl, x3, x4, rfl⟩ ⟨e, hx⟩
      subst e
      obtain ⟨part, hpart, pa, rfl, ep⟩ := hws.get hx
      have okq := okp part (List.mem_of_getElem? hpart)
      have hlt : i < ps.length := (List.getElem?_eq_some_iff.mp hpart).1
      have l1 := rowText_len (L := 90000) rfl ht (ps.take i) fun q hq => okp q (List.mem_of_mem_take hq)
      have l2 : (ps.take i).length * (90000 + 2) ≤ 3 * (90000 + 2) := Nat.mul_le_mul_right _ (by rw [List.length_take]; omega)
      have l3 := part_text_len okq rfl ht
      have etk : rowText ts (ps.take (i + 1)) = rowText ts (ps.take i) ++ part.text ts := by
        rw [List.take_succ, hpart]
        exact rowText_snoc ts part _
      have at_ : ∀ n, n < ts.length → atI (ts.map V.str) (n : Int) = some (V.str (ts.getD n Str.empty)) := fun n hn => atI_nat (by rw [List.getElem?_map, List.getElem?_eq_getElem hn]; simp [List.getD_eq_getElem?_getD, List.getElem?_eq_getElem hn])
      walk_at "r"
      refine ⟨_, sqT ep, rfl, _, _, rfl, _, _, rfl, rfl, ?_⟩
      cases part with
      | told x =>
        refine ⟨rfl, ite_t (decide_eq_true rfl) ?_⟩
        have l4 : x.length ≤ 90002 := l3
        refine ⟨x, rfl, by omega, ?_⟩
        rw [etk]
        rfl
      | box n =>
        have l4 : (ts.getD n Str.empty).length ≤ 90002 := l3
        refine ⟨rfl, ite_f kbt ?_⟩
        refine ⟨rfl, ite_t (decide_eq_true rfl) ⟨.tup c, rfl, _, (n : Int), rfl, ec, trivial, _, at_ n okq, _, rfl, by omega, ?_⟩⟩
        rw [etk]
        rfl
      | tur n =>
        have l4 : (revS (ts.getD n Str.empty)).length ≤ 90002 := l3
        have kub : decide (("turned" : Str) = "box") = false := by decide +kernel
        have l5 : (ts.getD n Str.empty).length ≤ 90002 := by rw [revS_len] at l4; exact l4
        refine ⟨rfl, ite_f kut ?_⟩
        refine ⟨rfl, ite_f kub ⟨.tup c, rfl, _, (n : Int), rfl, ec, trivial, _, at_ n okq, _, rfl, by omega, rfl, by omega, ?_⟩⟩
        rw [etk]
        rfl
    · rintro σ H1 ⟨rfl, x3, x4, rfl⟩
      rw [hws.len, List.take_of_length_le (Nat.le_refl _)]
      walk_at "n"
      walk_at "n"
      exact q
end Gt

set_option Elab.async false
set_option linter.all false
set_option maxRecDepth 100000
set_option maxHeartbeats 2000000
namespace Gt
open PySem PySem.Spec PyProof.Rows L2 StX
local macro_rules | `(tactic| walk_at "r") => `(tactic| simp only [tRet, tRetN, tAndV, tOrV, tNotV, tAnd, tOr, tNot, tCB, tCons, tNil, tC, tVar, L2.start, tCl, tOp, tTest, tB, tIf, tIfS, seqE, tAsg, gName, gTup, gLst, gCons, gNil, tPar, tPar3, tTup, tLst, tFld, sFld, sFldAug, tMt, tPr, tMakeR, tMakeL, tCallV, tWith, tSl, tPart, tNoPart, tM1, tM0, tBM, tBM0, tStar, tRevS, tJs, fmtE, tDrop, tNext, tChain, tUn, tYes, gSub, gAttr, ClX.tCMeth, lcE_src, lcE_enum, lcE_rng, lc2E_src, forE_src, forE_enum, forE_rng, forE_zip, iZipS, cxOf, Cx.nox, Cx.blk,
  rI, rI0, rU, rEq, rNe, rAdd, rIsi, rIsiT, rAll, rAny, rEqD, rNeD, rSrc, rSlL, rSlT, rSlS, rCat, rCatT, rNewStrs, rAppend, rIn,
  List.map_cons, List.map_nil, List.length_cons, List.length_nil, List.replicate, List.append_nil, List.cons_append, List.nil_append, List.getElem?_cons_zero, List.getElem?_cons_succ, List.set_cons_zero, List.set_cons_succ, wipe,
  Option.some.injEq, List.cons.injEq, V.int.injEq, V.bl.injEq, V.str.injEq, V.ref.injEq, and_true, true_and, exists_eq_left', exists_eq_left, exists_eq, exists_eq', exists_and_left, Nat.sub_self, Nat.zero_add, Nat.reduceAdd, Nat.reduceSub, Bool.not_true, Bool.not_false, Bool.false_eq_true, ite_true, ite_false, if_true, if_false, and_assoc, Int.ofNat_inj])
local macro_rules | `(tactic| walk_at "n") => `(tactic| (refine later ?_; try walk_at "r"))
local macro_rules | `(tactic| walk_at "m") => `(tactic| (refine later ?_; try walk_at "r"; refine later ?_; try walk_at "r"))
/-- what a doubled program's rows are -/
structure RowD (d M : Nat) (row row' : List Way) : Prop where
  n : row'.length = row.length
  w : ∀ (k : Nat) w, row[k]? = some w → ∃ l', row'[k]? = some (l', w.2) ∧ (l' = w.1 ∨ (w.1 = d ∧ l' = M))
/-- the row that the i-th of the doubled one comes from -/
def Prg.src (p : Prg) (d i : Nat) : List Way := p.ways.getD (if i = p.ways.length then d else i) []
theorem dbl_of {p : Prg} (wf : WF p) (w2 : p.ways.length ≤ 2) {d : Nat} (hd : d < p.ways.length) {rows : List (List Way)} (lr : rows.length = p.ways.length + 1) (hr : ∀ (i : Nat) row, rows[i]? = some row → RowD d p.ways.length (p.src d i) row) :
    Dbl p { p with ways := rows, ends := p.ends ++ [p.ends.getD d none] } d ∧ WF { p with ways := rows, ends := p.ends ++ [p.ends.getD d none] } := by
  have el := wf.el
  have src : ∀ i, i ≤ p.ways.length → p.src d i ∈ p.ways := fun i hi => by
    unfold Prg.src
    have : (if i = p.ways.length then d else i) < p.ways.length := by split <;> omega
    simp [List.getD_eq_getElem?_getD, List.getElem?_eq_getElem this]
  refine ⟨⟨rfl, rfl, rfl, rfl, hd, lr, by show (p.ends ++ [_]).length = _; simp [el], fun i hi k hk => ?_, fun i hi => ?_⟩, ?_⟩
  · have hi' : i < rows.length := by omega
    have R := hr i rows[i] (List.getElem?_eq_getElem hi')
    have l2 := (wf.rows _ (src i hi)).1
    have hk' : k < (p.src d i).length := by rw [l2]; exact hk
    obtain ⟨l', h1, h2⟩ := R.w k _ (List.getElem?_eq_getElem hk')
    refine ⟨(p.src d i)[k].1, l', (p.src d i)[k].2, ?_, ?_, h2⟩
    · show (p.src d i).getD k (0, []) = _
      simp [List.getD_eq_getElem?_getD, List.getElem?_eq_getElem hk']
    · show ((rows.getD i []).getD k (0, [])) = _
      have e1 : rows.getD i [] = rows[i] := by simp [List.getD_eq_getElem?_getD, List.getElem?_eq_getElem hi']
      rw [e1]
      simp [List.getD_eq_getElem?_getD, h1]
  · show (p.ends ++ [p.ends.getD d none]).getD i none = _
    by_cases h : i = p.ways.length
    · rw [if_pos h, h, ← el]
      simp [List.getD_eq_getElem?_getD]
    · rw [if_neg h]
      have : i < p.ends.length := by omega
      simp [List.getD_eq_getElem?_getD, List.getElem?_append_left this]
  · refine ⟨wf.low, wf.nd, wf.s1, wf.s3, wf.let', wf.b1, wf.b2, wf.t0, by show 1 ≤ rows.length; omega, by show rows.length ≤ 3; omega, by show p.m0 < rows.length; have := wf.m0; omega, fun row hrow => ?_, by show (p.ends ++ [_]).length = rows.length; simp [el, lr], fun e he => ?_⟩
    · obtain ⟨i, hi, e⟩ := List.mem_iff_getElem.mp hrow
      have hi' : i < rows.length := hi
      have R := hr i row (by rw [List.getElem?_eq_getElem hi']; exact congrArg some e)
      obtain ⟨l2, okw⟩ := wf.rows _ (src i (by omega))
      refine ⟨by rw [R.n, l2], fun w hw => ?_⟩
      obtain ⟨k, hk, e2⟩ := List.mem_iff_getElem.mp hw
      have hk' : k < (p.src d i).length := by rw [← R.n]; exact hk
      obtain ⟨l', h1, h2⟩ := R.w k _ (List.getElem?_eq_getElem hk')
      rw [List.getElem?_eq_getElem hk, e2] at h1
      have ew := Option.some.inj h1
      have ok := okw _ (List.getElem_mem hk')
      have okm := ok.m
      subst ew
      refine ⟨?_, ok.n, ok.s⟩
      show l' < rows.length
      rcases h2 with h2 | ⟨_, h2⟩ <;> omega
    · have he : e ∈ p.ends ++ [p.ends.getD d none] := he
      rcases List.mem_append.mp he with h | h
      · exact wf.en e h
      · rw [List.mem_singleton.mp h]
        have : d < p.ends.length := by omega
        simp only [List.getD_eq_getElem?_getD, List.getElem?_eq_getElem this]
        exact wf.en _ (List.getElem_mem this)
def sp__law_doubled (K : PySem.W.Frag) : Sp := fun vs H Q _ => ∃ (S : List Addr) (b : Addr) (v : V) (p : Prg), vs = [.ref b, v] ∧ BoxAt H b ∧ b ∈ S ∧ Dom S H ∧ rPrg (hid S H) v p ∧ WF p ∧ p.ways.length ≤ 2 ∧ ∀ H' r q d, Kp [b] H H' → BoxAt H' b → rPrg (hid S H') r q → Dbl p q d → WF q → Q r H'
theorem sc__law_doubled : FnScope ["_law_box", "_law_told_here", "_law_mood", "_law_many", "_law_steps", "_law_some", "_law_rows", "_law_later", "_law_sets", "_law_is_new"] ["_law_box", "_law_told_here"] (defScope (top 72)) := ⟨rfl, rfl, rfl, by decide +kernel, rfl, by decide +kernel, by decide +kernel⟩
theorem ok__law_doubled {P : Program} {w : World} {K : PySem.W.Frag} {mg : Str → Option Value} {base : Heap} (D : Def K mg "_law_doubled" (top 72) ["_law_box", "_law_told_here"]) (T : Glo K mg) (g__law_choose : GF P w K mg base 1 "_law_choose" (sp__law_choose K))  : GF P w K mg base 2 "_law_doubled" (sp__law_doubled K) := by
  have nd := sc__law_doubled.nd
  refine D.go sc__law_doubled (fun vs H Q E h => ?_) (fun f cdv A outer s0 H vs Q E hr h => ?_)
  · obtain ⟨S, b, v, p, rfl, hb, mb, d, ⟨a, a1, a2, vc, vd, rfl, op⟩, wf, w2, q⟩ := h; rfl
  obtain ⟨S, b, v, p, rfl, hb, mb, d, ⟨a, a1, a2, vc, vd, rfl, op⟩, wf, w2, q⟩ := h
  refine ⟨_, (pss_cons (ps_par (i := 2) (j := 3) rfl nd rfl rfl (by decide) rfl rfl (pa_cons (pc_g g__law_choose hr (pa_cons (pv 0) (pa_cons (pe_callB call_lenS (by rfl) T.b_len (by decide +kernel) (pa_cons (pe_ix ix_src (pv 1) pe_int (fun _ _ => rfl)) pa_nil)) pa_nil))) (pa_cons (pe_callB call_lenS (by rfl) T.b_len (by decide +kernel) (pa_cons (pe_ix ix_src (pv 1) pe_int (fun _ _ => rfl)) pa_nil)) pa_nil)) (by rfl))
  (pss_cons (ps_set (i := 4) nd rfl (by first | exact Or.inl rfl | exact Or.inr rfl) (pe_lst pa_nil))
  (pss_cons (ps_for PassesOwn.never rfl (pi_src (pe_op op_cat (pe_callTy call_list_of (by rfl) T.b_list (by decide +kernel) (pa_cons (pe_ix ix_src (pv 1) pe_int (fun _ _ => rfl)) pa_nil)) (pe_lst (pa_cons (pe_ix ix_src (pe_ix ix_src (pv 1) pe_int (fun _ _ => rfl)) (pv 2) (fun _ _ => rfl)) pa_nil)))) (pg_name (i := 5) nd rfl (by first | exact Or.inl rfl | exact Or.inr rfl))
  (pss_cons (ps_set (i := 6) nd rfl (by first | exact Or.inl rfl | exact Or.inr rfl) (pe_lst pa_nil))
  (pss_cons (ps_for PassesOwn.never rfl (pi_src (pv 5)) (pg_tup (n := 2) rfl (pgs_cons (pg_name (i := 7) nd rfl (by first | exact Or.inl rfl | exact Or.inr rfl)) (pgs_cons (pg_name (i := 8) nd rfl (by first | exact Or.inl rfl | exact Or.inr rfl)) pgs_nil)))
  (pss_cons (ps_set (i := 9) nd rfl (by first | exact Or.inl rfl | exact Or.inr rfl) (pe_and (pe_cmpR op_eq (pv 7) (pv 2) (nomark _)) (pe_one (pe_cmpR op_eq (pc_g g__law_choose hr (pa_cons (pv 0) (pa_cons pe_int pa_nil))) pe_int (nomark _)))))
  (pss_one (ps_expr (pe_bm PySem.F.plainAttrs_list PySem.F.slot_list_append PySem.F.type_list_append mt_append (pv 6) (pa_cons (pe_tup (pa_cons (pe_ifExp (pt_val (pv 9)) (pv 3) (pv 7)) (pa_cons (pv 8) pa_nil))) pa_nil))))))
  (pss_one (ps_expr (pe_bm PySem.F.plainAttrs_list PySem.F.slot_list_append PySem.F.type_list_append mt_append (pv 4) (pa_cons (pv 6) pa_nil)))))))
  (pss_one (ps_ret (pe_lst (pa_cons (pe_ix ix_src (pv 1) pe_int (fun _ _ => rfl)) (pa_cons (pe_ix ix_src (pv 1) pe_int (fun _ _ => rfl)) (pa_cons (pe_ix ix_src (pv 1) pe_int (fun _ _ => rfl)) (pa_cons (pv 4) (pa_cons (pe_op op_cat (pe_callTy call_list_of (by rfl) T.b_list (by decide +kernel) (pa_cons (pe_ix ix_src (pv 1) pe_int (fun _ _ => rfl)) pa_nil)) (pe_lst (pa_cons (pe_ix ix_src (pe_ix ix_src (pv 1) pe_int (fun _ _ => rfl)) (pv 2) (fun _ _ => rfl)) pa_nil))) pa_nil))))))))))), ?_⟩
  clear nd hr
  have sz := sizeL
  have w1 := wf.w1
  obtain ⟨cw, xs, rfl, ecw, hxs⟩ := id op.c
  obtain ⟨ce, es, rfl, ece, hes⟩ := id op.d
  have lx : xs.length = p.ways.length := hxs.len
  have le : es.length = p.ways.length := by rw [hes.len, wf.el]
  have mb1 : ∀ z ∈ [b], z ∈ S := fun z hz => by rw [List.mem_singleton.mp hz]; exact mb
  walk_at "r"
  refine ⟨.lst a, rfl, _, hsqL op.a, trivial, _, rfl, .lst cw, rfl, _, hsqL ecw, trivial, b, xs.length, rfl, hb, by omega, by omega, fun H1 dm k1 hb1 hdm => ?_⟩
  have g1 := hid_kp k1 mb1
  have d1 := d.box k1 hb1
  refine ⟨.lst a, rfl, _, hsqL (g1 _ _ op.a), trivial, _, rfl, .lst cw, rfl, _, hsqL (g1 _ _ ecw), trivial, ?_⟩
  walk_at "n"
  refine ⟨by decide, fun sd nsd => ?_⟩
  obtain ⟨H2, h, s2, d2, esd, _⟩ := newE (S := S) (.lst []) d1 nsd
  rw [h]; clear h
  have g2 := g1.trans (hid_same s2)
  walk_at "n"
  have hdm' : dm < xs.length := hdm
  have hdp : dm < p.ways.length := by omega
  refine ⟨.lst a, rfl, _, hsqL (g2 _ _ op.a), trivial, _, rfl, cw, rfl, xs, .inl (hsqL (g2 _ _ ecw)), fun l nl => ?_⟩
  obtain ⟨H3, h, s3, d3, el, _⟩ := newE (S := S) (.lst xs) d2 nl
  rw [h]; clear h
  have g3 := g2.trans (hid_same s3)
  refine ⟨.lst a, rfl, _, hsqL (g3 _ _ op.a), trivial, _, rfl, .lst cw, rfl, xs, hsqL (g3 _ _ ecw), trivial, xs[dm], atI_nat (List.getElem?_eq_getElem hdm'), by decide, fun l2 nl2 => ?_⟩
  obtain ⟨H4, h, s4, d4, el2, _⟩ := newE (S := S) (.lst [xs[dm]]) d3 nl2
  rw [h]; clear h
  refine ⟨_, s4 _ _ el, _, el2, by simp; omega, fun cl ncl => ?_⟩
  obtain ⟨H5, h, s5, d5, ecl, hcl⟩ := newE (S := S) (.lst (xs ++ [xs[dm]])) d4 ncl
  rw [h]; clear h
  have s25 := (s3.trans s4).trans s5
  have nsS : sd ∉ S := d1.new nsd
  have nsb : sd ≠ b := fun z => nsS (by rw [z]; exact mb)
  have nsH : H sd = none := by
    cases qq : H sd with
    | none => rfl
    | some o => rw [k1 _ _ (by simpa using nsb) qq] at nsd; cases nsd
  have ncs : cl ≠ sd := fun z => by have := s4 _ _ (s3 _ _ esd); rw [← z, ncl] at this; cases this
  have b5 : Same (hid S H1) (hid (sd :: S) H5) := same_hid2 nsd (Kp.of (s2.trans s25))
  have b05 := g1.trans b5
  have hcl5 : hid (sd :: S) H5 cl = some (.lst (xs ++ [xs[dm]])) := by
    rw [hid_at (fun z => (List.mem_cons.mp z).elim ncs (hid_in hcl))]
    exact ecl
  have mbS : ∀ z ∈ [b], z ∈ sd :: S := fun z hz => by rw [List.mem_singleton.mp hz]; exact List.mem_cons_of_mem _ mb
  have lcl : (xs ++ [xs[dm]]).length = p.ways.length + 1 := by simp [lx]
  -- what a row of the walked list is
  have rowOf : ∀ (i : Nat) v, (xs ++ [xs[dm]])[i]? = some v → rRow (hid S H) v (p.src dm i) := fun i v e => by
    unfold Prg.src
    by_cases hi : i < xs.length
    · rw [List.getElem?_append_left hi] at e
      obtain ⟨row, hrow, r⟩ := hxs.get e
      rw [if_neg (by omega)]
      simpa [List.getD_eq_getElem?_getD, hrow] using r
    · have : i = xs.length := by
        have := (List.getElem?_eq_some_iff.mp e).1
        rw [List.length_append] at this
        have : i < xs.length + 1 := this
        omega
      subst this
      rw [List.getElem?_append_right (Nat.le_refl _), Nat.sub_self] at e
      cases e
      obtain ⟨row, hrow, r⟩ := hxs.get (List.getElem?_eq_getElem hdm')
      rw [if_pos lx]
      simpa [List.getD_eq_getElem?_getD, hrow] using r
  refine ⟨.lst cl, rfl, _, sqL ecl, forB (walk_src (K := K) (S := .lst cl)) (fun i σ H' => Kp [b] H H' ∧ BoxAt H' b ∧ Dom (sd :: S) H' ∧ Same (hid (sd :: S) H5) (hid (sd :: S) H') ∧ (∃ ws rows, H' sd = some (.lst ws) ∧ All2 (rRow (hid (sd :: S) H')) ws rows ∧ rows.length = i ∧ ∀ (j : Nat) row, rows[j]? = some row → RowD dm p.ways.length (p.src dm j) row) ∧ ∃ x5 x6 x7 x8 x9, σ = [some (.ref b), some (.ref a), some (.int (dm : Nat)), some (.int (xs.length : Nat)), some (.ref sd), x5, x6, x7, x8, x9])
    ⟨k1.trans (Kp.of (s2.trans s25)), hb1.same (s2.trans s25), .cons (s25 _ _ esd) d5, Same.refl _, ⟨[], [], s25 _ _ esd, .nil, rfl, fun j row e => by simp at e⟩, _, _, _, _, _, rfl⟩ (fun i σ H' _ pv => hsqL (pv.2.2.2.1 _ _ hcl5)) ?_ ?_⟩
  · rintro i x σ H6 H6' hi ⟨k6, hb6, d6, g6, ⟨ws, rows, es6, hws, lrows, okr⟩, x5, x6, x7, x8, x9, rfl⟩ ⟨ee, hx⟩
    subst ee
    obtain ⟨c, ys, rfl, ec, hys⟩ := rowOf i x hx
    have g06 := b05.trans g6
    walk_at "r"
    refine ⟨by decide, fun rd nrd => ?_⟩
    obtain ⟨H7, h, s7, d7, erd, _⟩ := newE (S := sd :: S) (.lst []) d6 nrd
    rw [h]; clear h
    have nrS : rd ∉ sd :: S := d6.new nrd
    have nrs : rd ≠ sd := fun z => nrS (by rw [z]; simp)
    have nrb : rd ≠ b := fun z => nrS (by rw [z]; simp [mb])
    have nrH : H rd = none := by
      cases qq : H rd with
      | none => rfl
      | some o => rw [k6 _ _ (by simpa using nrb) qq] at nrd; cases nrd
    have mbR : ∀ z ∈ [b], z ∈ rd :: sd :: S := fun z hz => by rw [List.mem_singleton.mp hz]; simp [mb]
    walk_at "n"
    refine ⟨.lst c, rfl, ys, sqL (s7 _ _ (hid_le _ _ (g06 _ _ ec))), ?_⟩
    refine forB (walk_src (K := K) (S := .lst c)) (fun k σ H' => Kp [b] H H' ∧ BoxAt H' b ∧ Dom (rd :: sd :: S) H' ∧ Same (hid (sd :: S) H6') (hid (rd :: sd :: S) H') ∧ H' sd = some (.lst ws) ∧ (∃ vs ww, H' rd = some (.lst vs) ∧ All2 (rWay (hid (rd :: sd :: S) H')) vs ww ∧ ww.length = k ∧ ∀ (j : Nat) w, j < k → (p.src dm i)[j]? = some w → ∃ l', ww[j]? = some (l', w.2) ∧ (l' = w.1 ∨ (w.1 = dm ∧ l' = p.ways.length))) ∧ ∃ x7 x8 x9, σ = [some (.ref b), some (.ref a), some (.int (dm : Nat)), some (.int (xs.length : Nat)), some (.ref sd), some (.ref c), some (.ref rd), x7, x8, x9])
      ⟨k6.trans (Kp.of s7), hb6.same s7, .cons erd d7, same_hid2 nrd (Kp.of s7), s7 _ _ es6, ⟨[], [], erd, .nil, rfl, fun j w h => by omega⟩, _, _, _, rfl⟩ (fun i σ H' _ pv => sqL (hid_le _ _ (pv.2.2.2.1 _ _ (g06 _ _ ec)))) ?_ ?_
    · rintro k y σ H8 H8' hk ⟨k8, hb8, d8, g8, es8, ⟨vs, ww, er8, hvs, lww, okw⟩, x7, x8, x9, rfl⟩ ⟨ee, hy⟩
      subst ee
      obtain ⟨w, hw, u1, u2, ss, rfl, eu1, eu2, hss⟩ := hys.get hy
      have g08 := g06.trans g8
      walk_at "r"
      refine ⟨_, hsqT (g08 _ _ eu1), rfl, _, _, rfl, _, _, rfl, rfl, rfl, ?_⟩
      have l2s : (p.src dm i).length = 2 := by
        unfold Prg.src
        have hlt : (if i = p.ways.length then dm else i) < p.ways.length := by
          have : i < (xs ++ [xs[dm]]).length := hi
          rw [lcl] at this
          split <;> omega
        simp only [List.getD_eq_getElem?_getD, List.getElem?_eq_getElem hlt, Option.getD_some]
        exact (wf.rows _ (List.getElem_mem hlt)).1
      have app : ∀ (l' : Nat) (H9 : Hp), Kp [b] H8' H9 → BoxAt H9 b → (l' = w.1 ∨ (w.1 = dm ∧ l' = p.ways.length)) → ∀ t, H9 t = none → ∃ xs_1, (upd H9 t (.tup [.int (l' : Nat), .ref u2])) rd = some (.lst xs_1) ∧ xs_1.length < sizeLine ∧
          (Kp [b] H (upd (upd H9 t (.tup [.int (l' : Nat), .ref u2])) rd (.lst (xs_1 ++ [.ref t]))) ∧ BoxAt (upd (upd H9 t (.tup [.int (l' : Nat), .ref u2])) rd (.lst (xs_1 ++ [.ref t]))) b ∧ Dom (rd :: sd :: S) (upd (upd H9 t (.tup [.int (l' : Nat), .ref u2])) rd (.lst (xs_1 ++ [.ref t]))) ∧
          Same (hid (sd :: S) H6') (hid (rd :: sd :: S) (upd (upd H9 t (.tup [.int (l' : Nat), .ref u2])) rd (.lst (xs_1 ++ [.ref t])))) ∧ (upd (upd H9 t (.tup [.int (l' : Nat), .ref u2])) rd (.lst (xs_1 ++ [.ref t]))) sd = some (.lst ws) ∧
          (∃ vs ww, (upd (upd H9 t (.tup [.int (l' : Nat), .ref u2])) rd (.lst (xs_1 ++ [.ref t]))) rd = some (.lst vs) ∧ All2 (rWay (hid (rd :: sd :: S) (upd (upd H9 t (.tup [.int (l' : Nat), .ref u2])) rd (.lst (xs_1 ++ [.ref t]))))) vs ww ∧ ww.length = k + 1 ∧ ∀ (j : Nat) w, j < k + 1 → (p.src dm i)[j]? = some w → ∃ l', ww[j]? = some (l', w.2) ∧ (l' = w.1 ∨ (w.1 = dm ∧ l' = p.ways.length)))) := fun l' H9 k9 hb9 hl t nt => by
        have d9 := d8.box k9 hb9
        obtain ⟨H10, h, s10, d10, et, ht⟩ := newE (S := rd :: sd :: S) (.tup [.int (l' : Nat), .ref u2]) d9 nt
        rw [h]
        have er10 := s10 _ _ (k9 _ _ (by simpa using nrb) er8)
        have es10 := s10 _ _ (k9 _ _ (by simpa using nsb) es8)
        have kr : Kp [rd] H10 (upd H10 rd (.lst (vs ++ [.ref t]))) := Kp.upd (by simp)
        have gr := hid_kp (S := rd :: sd :: S) kr (by simp)
        have g810 : Same (hid (rd :: sd :: S) H8') (hid (rd :: sd :: S) (upd H10 rd (.lst (vs ++ [.ref t])))) := ((hid_kp k9 mbR).trans (hid_same s10)).trans gr
        refine ⟨vs, er10, by rw [hvs.len]; have : k < ys.length := hk; have := hys.len; omega, fun z o nz e => ?_, (hb9.same s10).eq (upd_ne (fun z => nrb z.symm)), d10.kp kr (fun z hz => by rw [List.mem_singleton.mp hz, upd_same]; exact fun q => by cases q), g8.trans g810, by rw [upd_ne (fun z => nrs z.symm)]; exact es10, vs ++ [.ref t], ww ++ [(l', w.2)], upd_same, All2.snoc (hvs.mono fun _ _ z => z.up g810) ⟨t, u2, ss, rfl, gr _ _ ht, (g08.trans g810) _ _ eu2, hss.mono fun _ _ z => z.up (g08.trans g810)⟩, by simp [lww], fun j w' hj hw' => ?_⟩
        · have nz1 : z ≠ rd := fun q => by rw [q, nrH] at e; cases e
          exact kr _ _ (by simpa using nz1) (s10 _ _ (k9 _ _ nz (k8 _ _ nz e)))
        · by_cases hj2 : j < k
          · obtain ⟨l2, h1, h2⟩ := okw j w' hj2 hw'
            exact ⟨l2, by rw [List.getElem?_append_left (by omega)]; exact h1, h2⟩
          · have : j = k := by omega
            subst this
            rw [hw] at hw'
            cases hw'
            exact ⟨l', by rw [List.getElem?_append_right (by omega), lww, Nat.sub_self]; rfl, hl⟩
      refine ite2' (fun h1 => ?_) (fun h1 => ?_)
      · have e1 : w.1 = dm := by have := V.int.inj (of_decide_eq_true h1); omega
        refine ⟨b, 2, rfl, hb8, by decide, by decide, fun H9 m k9 hb9 hm => ⟨rfl, ?_⟩⟩
        walk_at "n"
        refine ⟨.inl ⟨rfl, _, sqL (k9 _ _ (by simpa using nrb) er8)⟩, ?_⟩
        rw [lx]
        refine ite2' (fun _ => ⟨by decide, fun t nt => ?_⟩) (fun _ => ⟨by decide, fun t nt => ?_⟩)
        · obtain ⟨xs1, e1', l1, q1, q2, q3, q4, q5, vs', ww', q6, q7, q8, q9⟩ := app p.ways.length H9 k9 hb9 (.inr ⟨e1, rfl⟩) t nt
          exact ⟨xs1, e1', l1, q1, q2, q3, q4, q5, vs', q6, ww', q7, q8, q9⟩
        · obtain ⟨xs1, e1', l1, q1, q2, q3, q4, q5, vs', ww', q6, q7, q8, q9⟩ := app w.1 H9 k9 hb9 (.inl rfl) t nt
          exact ⟨xs1, e1', l1, q1, q2, q3, q4, q5, vs', q6, ww', q7, q8, q9⟩
      · walk_at "n"
        refine ⟨.inl ⟨rfl, _, sqL er8⟩, ?_⟩
        refine ⟨by decide, fun t nt => ?_⟩
        obtain ⟨xs1, e1', l1, q1, q2, q3, q4, q5, vs', ww', q6, q7, q8, q9⟩ := app w.1 H8' Kp.refl hb8 (.inl rfl) t nt
        exact ⟨xs1, e1', l1, q1, q2, q3, q4, q5, vs', q6, ww', q7, q8, q9⟩
    · rintro σ H8 ⟨k8, hb8, d8, g8, es8, ⟨vs, ww, er8, hvs, lww, okw⟩, x7, x8, x9, rfl⟩
      walk_at "n"
      walk_at "n"
      have d8' : Dom (sd :: S) H8 := fun z hz => d8 z (List.mem_cons_of_mem _ hz)
      have gm : Same (hid (rd :: sd :: S) H8) (hid (sd :: S) H8) := hid_mono fun z hz => List.mem_cons_of_mem _ hz
      have ks : Kp [sd] H8 (upd H8 sd (.lst (ws ++ [.ref rd]))) := Kp.upd (by simp)
      have gs := hid_kp (S := sd :: S) ks (by simp)
      have g68 := (g8.trans gm).trans gs
      have lww' : ww.length = (p.src dm i).length := by rw [lww, hys.len]
      refine ⟨.inl ⟨rfl, _, sqL es8⟩, ws, es8, by rw [hws.len, lrows]; have : i < (xs ++ [xs[dm]]).length := hi; omega, fun z o nz e => ?_, hb8.eq (upd_ne (fun z => nsb z.symm)), d8'.kp ks (fun z hz => by rw [List.mem_singleton.mp hz, upd_same]; exact fun q => by cases q), g6.trans g68, ws ++ [.ref rd], upd_same, rows ++ [ww], All2.snoc (hws.mono fun _ _ z => z.up g68) ⟨rd, vs, rfl, ?_, hvs.mono fun _ _ z => z.up (gm.trans gs)⟩, by simp [lrows], fun j row e => ?_⟩
      · have nz1 : z ≠ sd := fun q => by rw [q, nsH] at e; cases e
        exact ks _ _ (by simpa using nz1) (k8 _ _ nz e)
      · rw [hid_at nrS, upd_ne nrs]
        exact er8
      · by_cases hj : j < rows.length
        · rw [List.getElem?_append_left hj] at e
          exact okr j row e
        · have hj2 : j = i := by
            have := (List.getElem?_eq_some_iff.mp e).1
            rw [List.length_append] at this
            have : j < rows.length + 1 := this
            omega
          subst hj2
          rw [List.getElem?_append_right (by omega), lrows, Nat.sub_self] at e
          cases e
          exact ⟨lww', fun k w hw => okw k w (by have := (List.getElem?_eq_some_iff.mp hw).1; rw [hys.len]; exact this) hw⟩
  · rintro σ H6 ⟨k6, hb6, d6, g6, ⟨ws, rows, es6, hws, lrows, okr⟩, x5, x6, x7, x8, x9, rfl⟩
    rw [lcl] at lrows
    walk_at "n"
    walk_at "n"
    have gm : Same (hid (sd :: S) H6) (hid S H6) := hid_mono fun z hz => List.mem_cons_of_mem _ hz
    have g06 : Same (hid S H) (hid S H6) := (b05.trans g6).trans gm
    have dS : Dom S H6 := fun z hz => d6 z (List.mem_cons_of_mem _ hz)
    have ea6 := hid_le _ _ (g06 _ _ op.a)
    have ee6 := hid_le _ _ (g06 _ _ ece)
    have hde : dm < es.length := by omega
    refine ⟨.lst a, rfl, _, sqL ea6, trivial, _, rfl, .lst a, rfl, _, sqL ea6, trivial, _, rfl, .lst a, rfl, _, sqL ea6, trivial, _, rfl, .lst a, rfl, _, sqL ea6, trivial, _, rfl, ce, rfl, es, .inl (sqL ee6), fun m1 nm1 => ?_⟩
    obtain ⟨H7, h, s7, d7, em1, _⟩ := newE (S := S) (.lst es) dS nm1
    rw [h]; clear h
    refine ⟨.lst a, rfl, _, sqL (s7 _ _ ea6), trivial, _, rfl, .lst ce, rfl, es, sqL (s7 _ _ ee6), trivial, es[dm], atI_nat (List.getElem?_eq_getElem hde), by decide, fun m2 nm2 => ?_⟩
    obtain ⟨H8, h, s8, d8, em2, _⟩ := newE (S := S) (.lst [es[dm]]) d7 nm2
    rw [h]; clear h
    refine ⟨_, s8 _ _ em1, _, em2, by simp; omega, fun m3 nm3 => ?_⟩
    obtain ⟨H9, h, s9, d9, em3, hm3⟩ := newE (S := S) (.lst (es ++ [es[dm]])) d8 nm3
    rw [h]; clear h
    refine ⟨by decide, fun r nr => ?_⟩
    obtain ⟨H10, h, s10, d10, er, hr'⟩ := newE (S := S) (.lst [.str p.signs, .str p.letters, .ref a1, .ref sd, .ref m3]) d9 nr
    rw [h]; clear h
    have s610 := ((s7.trans s8).trans s9).trans s10
    have g610 := hid_same s610 (S := S)
    have g010 := g06.trans g610
    obtain ⟨D, wf'⟩ := dbl_of wf w2 hdp lrows okr
    have hsd : hid S H10 sd = some (.lst ws) := by rw [hid_at nsS]; exact s610 _ _ es6
    have eend : (p.ends.getD dm none) = p.ends[dm]'(by rw [wf.el]; exact hdp) := by
      have : dm < p.ends.length := by rw [wf.el]; exact hdp
      simp [List.getD_eq_getElem?_getD, List.getElem?_eq_getElem this]
    obtain ⟨en, hen, hren⟩ := hes.get (List.getElem?_eq_getElem hde)
    have een : p.ends.getD dm none = en := by simp [List.getD_eq_getElem?_getD, hen]
    refine q _ _ { p with ways := rows, ends := p.ends ++ [p.ends.getD dm none] } dm (k6.trans (Kp.of s610)) (hb6.same s610) ⟨r, a1, a2, .ref sd, .ref m3, rfl, ⟨hr', g010 _ _ op.b, g010 _ _ op.e, ⟨sd, ws, rfl, hsd, hws.mono fun _ _ z => z.up (gm.trans g610)⟩, ⟨m3, _, rfl, hid_same s10 _ _ hm3, ?_⟩⟩⟩ D wf'
    show All2 (rEnd (hid S H10)) (es ++ [es[dm]]) (p.ends ++ [p.ends.getD dm none])
    rw [een]
    exact All2.snoc (hes.mono fun _ _ z => z.up g010) (hren.up g010)
end Gt

set_option Elab.async false
set_option linter.all false
set_option maxRecDepth 100000
set_option maxHeartbeats 2000000
namespace Gt
open PySem PySem.Spec PyProof.Rows L2 StX
local macro_rules | `(tactic| walk_at "r") => `(tactic| simp only [tRet, tRetN, tAndV, tOrV, tNotV, tAnd, tOr, tNot, tCB, tCons, tNil, tC, tVar, L2.start, tCl, tOp, tTest, tB, tIf, tIfS, seqE, tAsg, gName, gTup, gLst, gCons, gNil, tPar, tPar3, tTup, tLst, tFld, sFld, sFldAug, tMt, tPr, tMakeR, tMakeL, tCallV, tWith, tSl, tPart, tNoPart, tM1, tM0, tBM, tBM0, tStar, tRevS, tJs, fmtE, tDrop, tNext, tChain, tUn, tYes, gSub, gAttr, ClX.tCMeth, lcE_src, lcE_enum, lcE_rng, lc2E_src, forE_src, forE_enum, forE_rng, forE_zip, iZipS, cxOf, Cx.nox, Cx.blk,
  rI, rI0, rU, rEq, rNe, rAdd, rIsi, rIsiT, rAll, rAny, rEqD, rNeD, rSrc, rSlL, rSlT, rSlS, rCat, rCatT, rNewStrs, rAppend, rIn,
  List.map_cons, List.map_nil, List.length_cons, List.length_nil, List.replicate, List.append_nil, List.cons_append, List.nil_append, List.getElem?_cons_zero, List.getElem?_cons_succ, List.set_cons_zero, List.set_cons_succ, wipe,
  Option.some.injEq, List.cons.injEq, V.int.injEq, V.bl.injEq, V.str.injEq, V.ref.injEq, and_true, true_and, exists_eq_left', exists_eq_left, exists_eq, exists_eq', exists_and_left, Nat.sub_self, Nat.zero_add, Nat.reduceAdd, Nat.reduceSub, Bool.not_true, Bool.not_false, Bool.false_eq_true, ite_true, ite_false, if_true, if_false, and_assoc, Int.ofNat_inj])
local macro_rules | `(tactic| walk_at "n") => `(tactic| (refine later ?_; try walk_at "r"))
local macro_rules | `(tactic| walk_at "m") => `(tactic| (refine later ?_; try walk_at "r"; refine later ?_; try walk_at "r"))
/-- a comprehension, with what is known of the whole list so far -/
theorem lcA {J : It} {n : Nat} {G : Hp → Prop} {Y : Nat → Hp → V → Hp → Prop} (w : Walk J n G Y) {g : TG} {te : TE} {vs : List Nat} {σ : L2.St} {Q : VK} {H1 : Hp} (S : List Addr) (Pa : List V → Hp → Prop) (hd : Dom S H1) (hn : n < sizeLine)
    (hG : ∀ H, Same H1 H → G H) (hP : ∀ acc G G', Same G G' → Pa acc G → Pa acc G') (h0 : Pa [] (hid S H1))
    (step : ∀ S2 i acc x H H' Z, i < n → acc.length = i → (∀ a ∈ S, a ∈ S2) → Dom S2 H → Same (hid S H1) (hid S2 H) → Same H1 H → Pa acc (hid S2 H) → Y i H x H' → (∀ y H4, Same H H4 → Pa (acc ++ [y]) (hid S2 H4) → Z y H4) →
      g x (wipe σ vs) H' fun σ2 H2 => wipe σ2 vs = wipe σ vs ∧ te σ2 H2 Z)
    (done : ∀ D ws H, Same H1 H → Dom S H → D ∉ S → H1 D = none → H D = some (.lst ws) → ws.length = n → Pa ws (hid (D :: S) H) → Q (.ref D) H) : LcB J g tYes te vs σ Q H1 := by
  intro D hD
  have dn : D ∉ S := fun q => hd D q hD
  refine lc_it w (fun i H => Same H1 H ∧ Dom (D :: S) H ∧ ∃ acc, H D = some (.lst acc) ∧ acc.length = i ∧ Pa acc (hid (D :: S) H)) ?_ ?_ ?_ ?_
  · exact ⟨Same.upd hD, .cons upd_same (hd.same (Same.upd hD)), [], upd_same, rfl, hP _ _ _ (same_cons hD (M := []) (by simp) (Kp.of (Same.upd hD))) h0⟩
  · rintro i H hi ⟨k, d, _⟩
    exact hG H k
  · rintro i x H H' hi ⟨k, d, acc, ea, la, ra⟩ y
    show g x (wipe σ vs) H' fun σ2 H2 => wipe σ2 vs = wipe σ vs ∧ te σ2 H2 _
    refine step (D :: S) i acc x H H' _ hi la (fun a h => List.mem_cons_of_mem _ h) d (same_cons hD (M := []) (by simp) (Kp.of k)) k ra y fun v H4 k4 r4 => ?_
    have ea4 := k4 D _ ea
    have kD : Kp [D] H4 (upd H4 D (.lst (acc ++ [v]))) := Kp.upd (by simp)
    have sD := hid_kp (S := D :: S) kD (by simp)
    refine ⟨acc, ea4, by omega, fun a o e => ?_, (d.same k4).kp kD (fun a ha => ?_), acc ++ [v], upd_same, by simp [la], hP _ _ _ sD r4⟩
    · have nd : a ≠ D := fun z => by rw [z, hD] at e; cases e
      rw [upd_ne nd]
      exact k4 a o (k a o e)
    · rw [List.mem_singleton.mp ha, upd_same]
      exact fun z => by cases z
  · rintro H ⟨k, d, acc, ea, la, ra⟩
    exact done D acc H k (fun a ha => d a (List.mem_cons_of_mem _ ha)) dn hD ea la ra
/-- one way of a program put in place of another -/
theorem set_way {p : Prg} (wf : WF p) {m k : Nat} (hm : m < p.ways.length) (hk : k < 2) {w : Way} (ok : WayOk p.signs p.ways.length p.t0.length w) {row : List Way} (hrow : p.ways[m]? = some row) :
    WF { p with ways := p.ways.set m (row.set k w) } ∧ Kin p { p with ways := p.ways.set m (row.set k w) } := by
  have ln : (p.ways.set m (row.set k w)).length = p.ways.length := List.length_set
  refine ⟨⟨wf.low, wf.nd, wf.s1, wf.s3, wf.let', wf.b1, wf.b2, wf.t0, by show 1 ≤ (p.ways.set m _).length; rw [ln]; exact wf.w1, by show (p.ways.set m _).length ≤ 3; rw [ln]; exact wf.w3, by show p.m0 < (p.ways.set m _).length; rw [ln]; exact wf.m0, fun r hr => ?_, by show p.ends.length = (p.ways.set m _).length; rw [ln]; exact wf.el, wf.en⟩, ⟨rfl, rfl, ln, rfl⟩⟩
  have hr : r ∈ p.ways.set m (row.set k w) := hr
  show r.length = 2 ∧ ∀ w' ∈ r, WayOk p.signs (p.ways.set m (row.set k w)).length p.t0.length w'
  rw [ln]
  obtain ⟨l2, okr⟩ := wf.rows row (List.mem_of_getElem? hrow)
  rcases List.mem_or_eq_of_mem_set hr with h | h
  · exact wf.rows r h
  · subst h
    refine ⟨by rw [List.length_set, l2], fun w' hw' => ?_⟩
    rcases List.mem_or_eq_of_mem_set hw' with h | h
    · exact okr w' h
    · rw [h]; exact ok
theorem set_end {p : Prg} (wf : WF p) {m : Nat} {e : Option (List Part)} (ok : EndOk p.signs p.t0.length e) :
    WF { p with ends := p.ends.set m e } ∧ Kin p { p with ends := p.ends.set m e } := by
  refine ⟨⟨wf.low, wf.nd, wf.s1, wf.s3, wf.let', wf.b1, wf.b2, wf.t0, wf.w1, wf.w3, wf.m0, wf.rows, by show (p.ends.set m e).length = _; rw [List.length_set]; exact wf.el, fun e' h => ?_⟩, ⟨rfl, rfl, rfl, rfl⟩⟩
  have h : e' ∈ p.ends.set m e := h
  rcases List.mem_or_eq_of_mem_set h with h | h
  · exact wf.en e' h
  · rw [h]; exact ok
theorem Kin.refl {p : Prg} : Kin p p := ⟨rfl, rfl, rfl, rfl⟩
theorem ixN_nat {n j : Nat} (h : j < n) : ixN n (j : Int) = some j := by
  unfold ixN
  rw [if_pos (by omega), if_pos (by omega), Int.toNat_natCast]
theorem same_new {S L : List Addr} {b : Addr} {H H' : Hp} (hL : ∀ z ∈ L, H z = none) (mb : b ∈ S) (k : Kp [b] H H') : Same (hid S H) (hid (L ++ S) H') := fun a o e => by
  have e1 := hid_le _ _ e
  have n1 : a ∉ L := fun z => by rw [hL a z] at e1; cases e1
  have n2 := hid_in e
  rw [hid_at (fun z => (List.mem_append.mp z).elim n1 n2)]
  exact k a o (fun z => n2 (by rw [List.mem_singleton.mp z]; exact mb)) e1
def sp__law_bent (K : PySem.W.Frag) : Sp := fun vs H Q _ => ∃ (S : List Addr) (b : Addr) (v : V) (p : Prg), vs = [.ref b, v] ∧ BoxAt H b ∧ b ∈ S ∧ Dom S H ∧ rPrg (hid S H) v p ∧ WF p ∧ ∀ H' r q, Kp [b] H H' → BoxAt H' b → rPrg (hid S H') r q → WF q → Kin p q → Q r H'
theorem sc__law_bent : FnScope ["_law_box", "_law_told_here", "_law_steps", "_law_ends", "_law_some", "_law_mood", "_law_form", "_law_cells", "_law_at", "_law_later", "_law_sets", "_law_spot"] ["_law_box", "_law_told_here"] (defScope (top 73)) := ⟨rfl, rfl, rfl, by decide +kernel, rfl, by decide +kernel, by decide +kernel⟩
theorem ok__law_bent {P : Program} {w : World} {K : PySem.W.Frag} {mg : Str → Option Value} {base : Heap} (D : Def K mg "_law_bent" (top 73) ["_law_box", "_law_told_here"]) (T : Glo K mg) (g__law_choose : GF P w K mg base 1 "_law_choose" (sp__law_choose K)) (g__law_close : GF P w K mg base 4 "_law_close" (sp__law_close K)) (g__law_set : GF P w K mg base 4 "_law_set" (sp__law_set K))  : GF P w K mg base 5 "_law_bent" (sp__law_bent K) := by
  have nd := sc__law_bent.nd
  refine D.go sc__law_bent (fun vs H Q E h => ?_) (fun f cdv A outer s0 H vs Q E hr h => ?_)
  · obtain ⟨S, b, v, p, rfl, hb, mb, d, ⟨a, a1, a2, vc, vd, rfl, op⟩, wf, q⟩ := h; rfl
  obtain ⟨S, b, v, p, rfl, hb, mb, d, ⟨a, a1, a2, vc, vd, rfl, op⟩, wf, q⟩ := h
  refine ⟨_, (pss_cons (ps_par (i := 2) (j := 3) rfl nd rfl rfl (by decide) rfl rfl (pa_cons (pe_lc (own := [("_law_some", 4)]) rfl nd (pi_src (pe_ix ix_src (pv 1) pe_int (fun _ _ => rfl))) (blkOk_by (own := [("_law_some", 4)]) (N := ["_law_box", "_law_told_here", "_law_steps", "_law_ends", "_law_some", "_law_mood", "_law_form", "_law_cells", "_law_at", "_law_later", "_law_sets", "_law_spot"]) (sc := defScope (top 73)) (by decide +kernel)) (fun _ _ _ _ _ => (pg_name (i := 4) nd rfl (by first | exact Or.inl rfl | exact Or.inr rfl))) (fun _ _ _ _ _ => pts_nil) (fun _ _ _ _ _ => (pe_callTy (call_listK (K := K) rfl) (by rfl) T.b_list (by decide +kernel) (pa_cons (pv 4) pa_nil)))) (pa_cons (pe_callTy call_list_of (by rfl) T.b_list (by decide +kernel) (pa_cons (pe_ix ix_src (pv 1) pe_int (fun _ _ => rfl)) pa_nil)) pa_nil)) (by rfl))
  (pss_cons (ps_par3 (i := 5) (j := 6) (l := 7) rfl nd rfl rfl rfl (by decide) (by decide) (by decide) rfl rfl rfl (pa_cons (pc_g g__law_choose hr (pa_cons (pv 0) (pa_cons (pe_callB call_lenS (by rfl) T.b_len (by decide +kernel) (pa_cons (pv 2) pa_nil)) pa_nil))) (pa_cons (pc_g g__law_choose hr (pa_cons (pv 0) (pa_cons pe_int pa_nil))) (pa_cons (pe_callB call_lenS (by rfl) T.b_len (by decide +kernel) (pa_cons (pe_ix ix_src (pe_ix ix_src (pv 1) pe_int (fun _ _ => rfl)) pe_int (fun _ _ => rfl)) pa_nil)) pa_nil))) (by rfl))
  (pss_cons (ps_if (pt_cmpR op_eq (pv 6) pe_int (nomark _))
  (pss_cons (ps_asg (pc_g g__law_close hr (pa_cons (pv 0) (pa_cons (pe_ix ix_src (pv 1) pe_int (fun _ _ => rfl)) (pa_cons (pv 7) pa_nil)))) (pg_sub (pv 3) (pv 5) set_list))
  (pss_one (ps_ret (pe_lst (pa_cons (pe_ix ix_src (pv 1) pe_int (fun _ _ => rfl)) (pa_cons (pe_ix ix_src (pv 1) pe_int (fun _ _ => rfl)) (pa_cons (pe_ix ix_src (pv 1) pe_int (fun _ _ => rfl)) (pa_cons (pv 2) (pa_cons (pv 3) pa_nil)))))))))
  pss_nil)
  (pss_cons (ps_set (i := 8) nd rfl (by first | exact Or.inl rfl | exact Or.inr rfl) (pc_g g__law_choose hr (pa_cons (pv 0) (pa_cons (pe_callB call_lenS (by rfl) T.b_len (by decide +kernel) (pa_cons (pe_ix ix_src (pv 1) pe_int (fun _ _ => rfl)) pa_nil)) pa_nil))))
  (pss_cons (ps_asg (pe_ix ix_src (pe_ix ix_src (pv 2) (pv 5) (fun _ _ => rfl)) (pv 8) (fun _ _ => rfl)) (pg_tup (n := 2) rfl (pgs_cons (pg_name (i := 9) nd rfl (by first | exact Or.inl rfl | exact Or.inr rfl)) (pgs_cons (pg_name (i := 10) nd rfl (by first | exact Or.inl rfl | exact Or.inr rfl)) pgs_nil))))
  (pss_cons (ps_set (i := 10) nd rfl (by first | exact Or.inl rfl | exact Or.inr rfl) (pe_callTy call_list_of (by rfl) T.b_list (by decide +kernel) (pa_cons (pv 10) pa_nil)))
  (pss_cons (ps_set (i := 11) nd rfl (by first | exact Or.inl rfl | exact Or.inr rfl) (pc_g g__law_choose hr (pa_cons (pv 0) (pa_cons (pv 7) pa_nil))))
  (pss_cons (ps_if (pt_cmpR op_eq (pv 6) pe_int (nomark _))
  (pss_one (ps_set (i := 9) nd rfl (by first | exact Or.inl rfl | exact Or.inr rfl) (pc_g g__law_choose hr (pa_cons (pv 0) (pa_cons (pe_callB call_lenS (by rfl) T.b_len (by decide +kernel) (pa_cons (pv 2) pa_nil)) pa_nil)))))
  (pss_one (ps_if (PW.pt (pw_and (pt_cmpR op_eq (pv 6) pe_int (nomark _)) (pw_and1 (pt_cmpR op_notN (pe_ix ix_src (pe_ix ix_src (pv 10) (pv 11) (fun _ _ => rfl)) pe_int (fun _ _ => rfl)) pe_non (nomark _)))))
  (pss_one (ps_asg (pe_op op_catT (pe_slice sl_tup (pe_ix ix_src (pv 10) (pv 11) (fun _ _ => rfl)) po_none (po_some pe_int)) (pe_tup (pa_cons (pe_not (pe_ix ix_src (pe_ix ix_src (pv 10) (pv 11) (fun _ _ => rfl)) pe_int (fun _ _ => rfl))) pa_nil))) (pg_sub (pv 10) (pv 11) set_list)))
  (pss_one (ps_asg (pc_g g__law_set hr (pa_cons (pv 0) (pa_cons (pe_ix ix_src (pv 1) pe_int (fun _ _ => rfl)) (pa_cons (pv 7) pa_nil)))) (pg_sub (pv 10) (pv 11) set_list))))))
  (pss_cons (ps_asg (pe_tup (pa_cons (pv 9) (pa_cons (pv 10) pa_nil))) (pg_sub (pe_ix ix_src (pv 2) (pv 5) (fun _ _ => rfl)) (pv 8) set_list))
  (pss_one (ps_ret (pe_lst (pa_cons (pe_ix ix_src (pv 1) pe_int (fun _ _ => rfl)) (pa_cons (pe_ix ix_src (pv 1) pe_int (fun _ _ => rfl)) (pa_cons (pe_ix ix_src (pv 1) pe_int (fun _ _ => rfl)) (pa_cons (pv 2) (pa_cons (pv 3) pa_nil))))))))))))))))), ?_⟩
  clear nd hr
  have sz := sizeL
  have w1 := wf.w1
  have w3 := wf.w3
  have b1 := wf.b1
  have b2 := wf.b2
  obtain ⟨cw, xs, rfl, ecw, hxs⟩ := id op.c
  obtain ⟨ce, es, rfl, ece, hes⟩ := id op.d
  have lx : xs.length = p.ways.length := hxs.len
  have le : es.length = p.ways.length := by rw [hes.len, wf.el]
  have mb1 : ∀ z ∈ [b], z ∈ S := fun z hz => by rw [List.mem_singleton.mp hz]; exact mb
  walk_at "r"
  refine ⟨.lst a, rfl, _, hsqL op.a, trivial, _, rfl, .lst cw, rfl, xs, hsqL ecw, ?_⟩
  refine lcA (walk_src (K := K) (S := .lst cw)) S (fun acc G => ∃ as : List Addr, acc = as.map V.ref ∧ as.Nodup ∧ (∀ z ∈ as, H z = none) ∧ ∀ (i : Nat) z row, as[i]? = some z → p.ways[i]? = some row → ∃ vs, G z = some (.lst vs) ∧ All2 (rWay (hid S H)) vs row) d (by omega) (fun H6 s6 => sqL (s6 _ _ (hid_le _ _ ecw))) (fun acc G G' s ⟨as, h1, h2, h3, h4⟩ => ⟨as, h1, h2, h3, fun i z row e1 e2 => let ⟨vs, q1, q2⟩ := h4 i z row e1 e2; ⟨vs, s _ _ q1, q2⟩⟩) ⟨[], rfl, .nil, fun z h => (by cases h), fun i z row e => (by simp at e)⟩ (fun S2 i acc x H2 H2' Z hi la hs d2 sm s2 ⟨as, ea, nd, hn, hv⟩ y hz => ?_) fun D ws H1 s1 d1 nD hD eD hl ⟨as, ews, nd, hnone, hrows⟩ => ?_
  · obtain ⟨e, hx⟩ := y
    subst e
    obtain ⟨row, hrow, c, ys, rfl, ec, hys⟩ := hxs.get hx
    walk_at "r"
    refine ⟨ys, .inl (sqL (s2 _ _ (hid_le _ _ ec))), fun t nt => ?_⟩
    obtain ⟨H3, h, s3, d3, et, ht⟩ := newE (S := S2) (.lst ys) d2 nt
    rw [h]; clear h
    subst ea
    have las : as.length = i := by rw [List.length_map] at la; exact la
    refine hz _ _ s3 ⟨as ++ [t], by simp, ?_, ?_, ?_⟩
    · rw [List.nodup_append]
      refine ⟨nd, by simp, fun z hz z' hz' e => ?_⟩
      have : z' = t := by simpa using hz'
      subst this
      subst e
      obtain ⟨j, hj, ej⟩ := List.mem_iff_getElem.mp hz
      have hjw : j < p.ways.length := by omega
      obtain ⟨vs, q1, _⟩ := hv j z _ (by rw [List.getElem?_eq_getElem hj, ej]) (List.getElem?_eq_getElem hjw)
      have := hid_le _ _ q1
      rw [nt] at this
      cases this
    · intro z hz
      rcases List.mem_append.mp hz with h | h
      · exact hn z h
      · rw [List.mem_singleton.mp h]
        cases qq : H t with
        | none => rfl
        | some o => have := s2 _ _ qq; rw [nt] at this; cases this
    · intro j z row' e1 e2
      by_cases hj : j < as.length
      · rw [List.getElem?_append_left hj] at e1
        obtain ⟨vs, q1, q2⟩ := hv j z row' e1 e2
        exact ⟨vs, hid_same s3 _ _ q1, q2⟩
      · have hj2 : j = i := by
          have := (List.getElem?_eq_some_iff.mp e1).1
          rw [List.length_append] at this
          have : j < as.length + 1 := this
          omega
        subst hj2
        rw [List.getElem?_append_right (by omega), las, Nat.sub_self] at e1
        cases e1
        rw [hrow] at e2
        cases e2
        exact ⟨ys, ht, hys⟩
  have k01 : Kp [b] H H1 := Kp.of s1
  refine ⟨.lst a, rfl, _, sqL (s1 _ _ (hid_le _ _ op.a)), trivial, _, rfl, ce, rfl, es, .inl (sqL (s1 _ _ (hid_le _ _ ece))), fun el nel => ?_⟩
  obtain ⟨H2, h, s2, d2, eel, _⟩ := newE (S := S) (.lst es) d1 nel
  rw [h]; clear h
  have hb2 := (hb.same s1).same s2
  have nelS : el ∉ S := d1.new nel
  have nelb : el ≠ b := fun z => nelS (by rw [z]; exact mb)
  have nDb : D ≠ b := fun z => nD (by rw [z]; exact mb)
  have las : as.length = p.ways.length := by have := congrArg List.length ews; rw [List.length_map] at this; omega
  have zS : ∀ z ∈ as, z ∉ S := fun z hz q => d z q (hnone z hz)
  have zb : ∀ z ∈ as, z ≠ b := fun z hz q => zS z hz (by rw [q]; exact mb)
  have eD2 := s2 _ _ eD
  walk_at "n"
  refine ⟨.lst D, rfl, ws, sqL eD2, trivial, b, ws.length, rfl, hb2, by omega, by omega, fun H3 m k3 hb3 hm => ?_⟩
  refine ⟨b, 5, rfl, hb3, by decide, by decide, fun H4 f k4 hb4 hf => ?_⟩
  have k24 := k3.trans k4
  have k04 : Kp [b] H H4 := (Kp.of (s1.trans s2)).trans k24
  have g04 := hid_kp k04 mb1
  have d4 := d.box k04 hb4
  have eD4 := k24 _ _ (by simpa using nDb) eD2
  have eel4 := k24 _ _ (by simpa using nelb) eel
  have rows4 : ∀ (i : Nat) z row, as[i]? = some z → p.ways[i]? = some row → ∃ vs, H4 z = some (.lst vs) ∧ All2 (rWay (hid S H)) vs row := fun i z row e1 e2 => by
    obtain ⟨vs, q1, q2⟩ := hrows i z row e1 e2
    exact ⟨vs, k24 _ _ (by simpa using zb z (List.mem_of_getElem? e1)) (s2 _ _ (hid_le _ _ q1)), q2⟩
  have hmw : m < p.ways.length := by omega
  refine ⟨.lst a, rfl, _, hsqL (g04 _ _ op.a), trivial, _, rfl, .tup a1, rfl, _, hsqT (g04 _ _ op.b), trivial, _, rfl, .lst a2, rfl, _, hsqL (g04 _ _ op.e), trivial, ?_⟩
  rw [List.length_map]
  walk_at "n"
  refine ⟨rfl, ?_⟩
  refine ite2' (fun hf0 => ?_) (fun hf0 => ?_)
  · refine ⟨.lst a, rfl, _, hsqL (g04 _ _ op.a), trivial, _, rfl, ?_⟩
    refine ⟨el :: S, b, p.signs, p.t0.length, rfl, hb4, List.mem_cons_of_mem _ mb, .cons eel4 d4, wf.s1, Nat.le_trans wf.s3 (by decide), b1, by omega, fun H5 r e k5 hb5 hr5 ok5 => ?_⟩
    refine ⟨el, es, m, m, rfl, rfl, k5 _ _ (by simpa using nelb) eel4, ixN_nat (by omega), ?_⟩
    have ke : Kp [el] H5 (upd H5 el (.lst (es.set m r))) := Kp.upd (by simp)
    have eel6 : (upd H5 el (.lst (es.set m r))) el = some (.lst (es.set m r)) := upd_same
    have hb6 : BoxAt (upd H5 el (.lst (es.set m r))) b := hb5.eq (upd_ne (fun z => nelb z.symm))
    have d6 : Dom S (upd H5 el (.lst (es.set m r))) := (d4.box k5 hb5).kp ke (fun z hz => by rw [List.mem_singleton.mp hz, upd_same]; exact fun q => by cases q)
    have nelH : H el = none := by
      cases qq : H el with
      | none => rfl
      | some o => have := s1 _ _ qq; rw [nel] at this; cases this
    have nelz : ∀ z ∈ as, z ≠ el := fun z hz e => by
      obtain ⟨i, hi, ei⟩ := List.mem_iff_getElem.mp hz
      obtain ⟨vs, q1, _⟩ := hrows i z _ (by rw [List.getElem?_eq_getElem hi, ei]) (List.getElem?_eq_getElem (by omega))
      have := hid_le _ _ q1
      rw [e, nel] at this
      cases this
    have nelD : D ≠ el := fun e => by rw [e, nel] at eD; cases eD
    generalize hG : upd H5 el (.lst (es.set m r)) = H6 at ke eel6 hb6 d6 ⊢
    -- facts of the told program, through to H6
    have g06 : Same (hid S H) (hid S H6) := fun z o e => by
      have e1 := hid_le _ _ e
      have n1 : z ≠ el := fun q => by rw [q, nelH] at e1; cases e1
      have n2 := hid_in e
      have n3 : z ≠ b := fun q => n2 (by rw [q]; exact mb)
      rw [hid_at n2]
      exact ke _ _ (by simpa using n1) (k5 _ _ (by simpa using n3) (k04 _ _ (by simpa using n3) e1))
    have hr6 : rEnd (hid S H6) r e := (hr5.up (hid_kp (S := el :: S) ke (by simp))).up (hid_mono fun z hz => List.mem_cons_of_mem _ hz)
    walk_at "n"
    have ea6 := hid_le _ _ (g06 _ _ op.a)
    refine ⟨.lst a, rfl, _, sqL ea6, trivial, _, rfl, .lst a, rfl, _, sqL ea6, trivial, _, rfl, .lst a, rfl, _, sqL ea6, trivial, _, rfl, by decide, fun u nu => ?_⟩
    obtain ⟨H7, h, s7, d7, eu, hu⟩ := newE (S := S) (.lst [.str p.signs, .str p.letters, .ref a1, .ref D, .ref el]) d6 nu
    rw [h]; clear h
    have g07 := g06.trans (hid_same s7)
    obtain ⟨wf', kin⟩ := set_end wf (m := m) ok5
    have at7 : ∀ z o, z ∉ S → H6 z = some o → hid S H7 z = some o := fun z o n e => by rw [hid_at n]; exact s7 _ _ e
    have k07 : Kp [b] H H7 := fun z o nz e => by
      have n1 : z ≠ el := fun q => by rw [q, nelH] at e; cases e
      exact s7 _ _ (ke _ _ (by simpa using n1) (k5 _ _ nz (k04 _ _ nz e)))
    refine q _ _ { p with ends := p.ends.set m e } k07 (hb6.same s7) ⟨u, a1, a2, .ref D, .ref el, rfl, ⟨hu, g07 _ _ op.b, g07 _ _ op.e, ⟨D, ws, rfl, at7 _ _ nD (ke _ _ (by simpa using nelD) (k5 _ _ (by simpa using nDb) eD4)), all2_of (by rw [hl]; exact lx) fun i v row e1 e2 => ?_⟩, ⟨el, _, rfl, at7 _ _ nelS eel6, ?_⟩⟩⟩ wf' kin
    · rw [ews, List.getElem?_map] at e1
      cases e3 : as[i]? with
      | none => rw [e3] at e1; cases e1
      | some z =>
        rw [e3] at e1
        cases e1
        have hz := List.mem_of_getElem? e3
        obtain ⟨vs, q1, q2⟩ := rows4 i z row e3 e2
        exact ⟨z, vs, rfl, at7 _ _ (zS z hz) (ke _ _ (by simpa using nelz z hz) (k5 _ _ (by simpa using zb z hz) q1)), q2.mono fun _ _ w => w.up g07⟩
    · exact All2.set m (hes.mono fun _ _ z => z.up g07) (hr6.up (hid_same s7))
  · walk_at "n"
    refine ⟨.lst a, rfl, _, hsqL (g04 _ _ op.a), trivial, _, rfl, .txt p.letters, rfl, _, rfl, (by show p.letters.length ≤ sizeLine; rw [wf.let']; decide +kernel), ?_⟩
    rw [txt_len, show p.letters.length = 2 by rw [wf.let']; rfl]
    refine ⟨b, 2, rfl, hb4, by decide, by decide, fun H5 k k5 hb5 hk => ?_⟩
    have k05 := k04.trans k5
    have eD5 := k5 _ _ (by simpa using nDb) eD4
    have hma : m < as.length := by omega
    obtain ⟨z, hz⟩ : ∃ z, as[m]? = some z := ⟨_, List.getElem?_eq_getElem hma⟩
    have hzm := List.mem_of_getElem? hz
    obtain ⟨row, hrow⟩ : ∃ row, p.ways[m]? = some row := ⟨_, List.getElem?_eq_getElem hmw⟩
    obtain ⟨zvs, ez4, hzv⟩ := rows4 m z row hz hrow
    have ez5 := k5 _ _ (by simpa using zb z hzm) ez4
    obtain ⟨lr, okr⟩ := wf.rows row (List.mem_of_getElem? hrow)
    obtain ⟨w, hw⟩ : ∃ w, row[k]? = some w := ⟨_, List.getElem?_eq_getElem (by rw [lr]; exact hk)⟩
    obtain ⟨wv, hwv, u1, u2, ss, rfl, eu1, eu2, hss⟩ := hzv.at hw
    have okw := okr w (List.mem_of_getElem? hw)
    have g05 := hid_kp k05 mb1
    have hwm : ws[m]? = some (.ref z) := by rw [ews, List.getElem?_map, hz]; rfl
    walk_at "n"
    refine ⟨.lst D, rfl, _, sqL eD5, trivial, .ref z, atI_nat hwm, .lst z, rfl, _, sqL ez5, trivial, .ref u1, atI_nat hwv, u1, rfl, _, hsqT (g05 _ _ eu1), rfl, _, _, rfl, _, _, rfl, rfl, ?_⟩
    walk_at "n"
    refine ⟨ss, .inl (hsqL (g05 _ _ eu2)), fun sl nsl => ?_⟩
    have d5 := d4.box k5 hb5
    obtain ⟨H6, h, s6, d6, esl, _⟩ := newE (S := S) (.lst ss) d5 nsl
    rw [h]; clear h
    have hb6 := hb5.same s6
    have k06 : Kp [b] H H6 := k05.trans (Kp.of s6)
    have nslS : sl ∉ S := d5.new nsl
    have nslb : sl ≠ b := fun q => nslS (by rw [q]; exact mb)
    have nslH : H sl = none := by
      cases qq : H sl with
      | none => rfl
      | some o => have := k05 _ _ (by simpa using nslb) qq; rw [nsl] at this; cases this
    have nslz : ∀ z' ∈ as, z' ≠ sl := fun z' hz' e => by
      obtain ⟨i, hi, ei⟩ := List.mem_iff_getElem.mp hz'
      obtain ⟨vs, q1, _⟩ := rows4 i z' _ (by rw [List.getElem?_eq_getElem hi, ei]) (List.getElem?_eq_getElem (by omega))
      have := k5 _ _ (by simpa using zb z' hz') q1
      rw [e, nsl] at this
      cases this
    have nslD : D ≠ sl := fun e => by rw [e, nsl] at eD5; cases eD5
    have ez6 := s6 _ _ ez5
    have eD6 := s6 _ _ eD5
    have d6' : Dom (z :: sl :: S) H6 := .cons ez6 (.cons esl d6)
    have hnew : ∀ y ∈ [z, sl], H y = none := fun y hy => by
      simp only [List.mem_cons, List.not_mem_nil, or_false] at hy
      rcases hy with rfl | rfl
      · exact hnone _ hzm
      · exact nslH
    have mb6 : b ∈ z :: sl :: S := by simp [mb]
    have mbz : ∀ y ∈ [b], y ∈ z :: sl :: S := fun y hy => by rw [List.mem_singleton.mp hy]; exact mb6
    have lss : ss.length = p.t0.length := by rw [hss.len, okw.n]
    walk_at "n"
    refine ⟨b, p.t0.length, rfl, hb6, b1, by omega, fun H7 sp k7 hb7 hsp => ?_⟩
    have k07 := k06.trans k7
    have esl7 := k7 _ _ (by simpa using nslb) esl
    have ez7 := k7 _ _ (by simpa using zb z hzm) ez6
    have eD7 := k7 _ _ (by simpa using nDb) eD6
    have d7 := d6'.box k7 hb7
    have g07 := hid_kp k07 mb1
    have h07 : Same (hid S H) (hid (z :: sl :: S) H7) := same_new (L := [z, sl]) hnew mb k07
    have hss7 : All2 (rSett (hid (z :: sl :: S) H7)) ss w.2 := hss.mono fun _ _ q => q.up h07
    have rows7 : ∀ (i : Nat) z' row, as[i]? = some z' → p.ways[i]? = some row → ∃ vs, H7 z' = some (.lst vs) ∧ All2 (rWay (hid S H)) vs row := fun i z' row e1 e2 => by
      obtain ⟨vs, q1, q2⟩ := rows4 i z' row e1 e2
      have n := zb z' (List.mem_of_getElem? e1)
      exact ⟨vs, k7 _ _ (by simpa using n) (s6 _ _ (k5 _ _ (by simpa using n) q1)), q2⟩
    have fin : ∀ (H8 : Hp) (l' : Nat) (ss' : List V) (sets' : List Sett), Kp [b, sl] H7 H8 → BoxAt H8 b → Dom (z :: sl :: S) H8 → H8 sl = some (.lst ss') → All2 (rSett (hid (z :: sl :: S) H8)) ss' sets' → WayOk p.signs p.ways.length p.t0.length (l', sets') → ∀ t, H8 t = none →
        ∃ H10, upd (upd H8 t (.tup [.int (l' : Nat), .ref sl])) z (.lst (zvs.set k (.ref t))) = H10 ∧ (upd H8 t (.tup [.int (l' : Nat), .ref sl])) z = some (.lst zvs) ∧ (upd H8 t (.tup [.int (l' : Nat), .ref sl])) D = some (.lst ws) ∧ Same (hid S H) (hid S H10) ∧ ∀ u, H10 u = none → Q (.ref u) (upd H10 u (.lst [.str p.signs, .str p.letters, .ref a1, .ref D, .ref el])) := by
      intro H8 l' ss' sets' k8 hb8 d8 esl8 hss8 okw' t nt
      have nzsl : z ≠ sl := nslz z hzm
      have nz2 : ∀ z' ∈ as, z' ∉ [b, sl] := fun z' h => by
        simp only [List.mem_cons, List.not_mem_nil, or_false, not_or]
        exact ⟨zb z' h, nslz z' h⟩
      have ez8 := k8 _ _ (nz2 z hzm) ez7
      have eD8 := k8 _ _ (by simp only [List.mem_cons, List.not_mem_nil, or_false, not_or]; exact ⟨nDb, nslD⟩) eD7
      obtain ⟨H9, h, s9, d9, et, ht⟩ := newE (S := z :: sl :: S) (.tup [.int (l' : Nat), .ref sl]) d8 nt
      rw [h]
      have ez9 := s9 _ _ ez8
      have kz : Kp [z] H9 (upd H9 z (.lst (zvs.set k (.ref t)))) := Kp.upd (by simp)
      have ez10 : (upd H9 z (.lst (zvs.set k (.ref t)))) z = some (.lst (zvs.set k (.ref t))) := upd_same
      have hb10 : BoxAt (upd H9 z (.lst (zvs.set k (.ref t)))) b := (hb8.same s9).eq (upd_ne (fun q => zb z hzm q.symm))
      have d10 : Dom (z :: sl :: S) (upd H9 z (.lst (zvs.set k (.ref t)))) := d9.kp kz (fun y hy => by rw [List.mem_singleton.mp hy, upd_same]; exact fun q => by cases q)
      refine ⟨_, rfl, ez9, s9 _ _ eD8, ?_⟩
      generalize upd H9 z (.lst (zvs.set k (.ref t))) = H10 at kz ez10 hb10 d10 ⊢
      have k010 : Kp [b] H H10 := fun y o ny e => by
        have n1 : y ≠ sl := fun q => by rw [q, nslH] at e; cases e
        have n2 : y ≠ z := fun q => by rw [q, hnone z hzm] at e; cases e
        exact kz _ _ (by simpa using n2) (s9 _ _ (k8 _ _ (by simp only [List.mem_cons, List.not_mem_nil, or_false, not_or]; exact ⟨by simpa using ny, n1⟩) (k07 _ _ ny e)))
      have g010 := hid_kp k010 mb1
      refine ⟨g010, fun u nu => ?_⟩
      have gz := hid_kp (S := z :: sl :: S) kz (by simp)
      have gm : Same (hid (z :: sl :: S) H10) (hid S H10) := hid_mono fun y hy => by simp [hy]
      have dS : Dom S H10 := fun y hy => d10 y (by simp [hy])
      obtain ⟨H11, h2, s11, d11, eu, hu⟩ := newE (S := S) (.lst [.str p.signs, .str p.letters, .ref a1, .ref D, .ref el]) dS nu
      rw [h2]
      have g11 := hid_same s11 (S := S)
      have at11 : ∀ y o, y ∉ S → H10 y = some o → hid S H11 y = some o := fun y o n e => by rw [hid_at n]; exact s11 _ _ e
      have nsl10 : sl ≠ z := fun q => nzsl q.symm
      have esl10 := kz _ _ (by simpa using nsl10) (s9 _ _ esl8)
      have hss10 : All2 (rSett (hid S H11)) ss' sets' := hss8.mono fun _ _ q => (((q.up (hid_same s9)).up gz).up gm).up g11
      obtain ⟨wf', kin⟩ := set_way wf hmw hk okw' hrow
      have k10D : H10 D = some (.lst ws) := kz _ _ (by
        have : D ≠ z := fun q => by
          obtain ⟨vs, q1, _⟩ := hrows m z row hz hrow
          exact hid_in q1 (by rw [q]; simp)
        simpa using this) (s9 _ _ eD8)
      have eel10 : H10 el = some (.lst es) := by
        have n1 : el ≠ z := fun q => by
          obtain ⟨vs, q1, _⟩ := hrows m z row hz hrow
          have h1 := hid_le _ _ q1
          rw [← q, nel] at h1
          cases h1
        have e5 := k5 _ _ (by simpa using nelb) eel4
        have n2 : el ≠ sl := fun q => by rw [q, nsl] at e5; cases e5
        exact kz _ _ (by simpa using n1) (s9 _ _ (k8 _ _ (by simp only [List.mem_cons, List.not_mem_nil, or_false, not_or]; exact ⟨nelb, n2⟩) (k7 _ _ (by simpa using nelb) (s6 _ _ e5))))
      refine q _ _ { p with ways := p.ways.set m (row.set k (l', sets')) } (k010.trans (Kp.of s11)) (hb10.same s11) ⟨u, a1, a2, .ref D, .ref el, rfl, ⟨hu, g11 _ _ (g010 _ _ op.b), g11 _ _ (g010 _ _ op.e), ⟨D, ws, rfl, at11 _ _ nD k10D, all2_of (by show ws.length = (p.ways.set m _).length; rw [List.length_set, hl]; exact lx) fun i v r' e1 e2 => ?_⟩, ⟨el, es, rfl, at11 _ _ nelS eel10, hes.mono fun _ _ q => (q.up g010).up g11⟩⟩⟩ wf' kin
      rw [ews, List.getElem?_map] at e1
      cases e3 : as[i]? with
      | none => rw [e3] at e1; cases e1
      | some z' =>
        rw [e3] at e1
        cases e1
        have hz' := List.mem_of_getElem? e3
        have e2 : (p.ways.set m (row.set k (l', sets')))[i]? = some r' := e2
        by_cases him : i = m
        · subst him
          rw [hz] at e3
          cases e3
          rw [List.getElem?_set_self (by omega)] at e2
          cases e2
          refine ⟨z, _, rfl, at11 _ _ (zS z hzm) ez10, All2.set k (hzv.mono fun _ _ q => (q.up g010).up g11) ?_⟩
          have htS : hid S H10 t = some (.tup [.int (l' : Nat), .ref sl]) := gm _ _ (gz _ _ ht)
          exact ⟨t, sl, ss', rfl, g11 _ _ htS, at11 _ _ nslS esl10, hss10⟩
        · rw [List.getElem?_set_ne (fun q => him q.symm)] at e2
          obtain ⟨vs, q1, q2⟩ := rows7 i z' r' e3 e2
          have nzz : z' ≠ z := fun q => by
            subst q
            obtain ⟨h1, e4⟩ := List.getElem?_eq_some_iff.mp e3
            obtain ⟨h2, e5⟩ := List.getElem?_eq_some_iff.mp hz
            have := (List.pairwise_iff_getElem.mp nd)
            rcases Nat.lt_or_gt_of_ne him with h | h
            · exact this i m h1 h2 h (by rw [e4, e5])
            · exact this m i h2 h1 h (by rw [e4, e5])
          exact ⟨z', vs, rfl, at11 _ _ (zS z' hz') (kz _ _ (by simpa using nzz) (s9 _ _ (k8 _ _ (nz2 z' hz') q1))), q2.mono fun _ _ q => (q.up g010).up g11⟩
    walk_at "n"
    refine ⟨rfl, ?_⟩
    refine ite2' (fun hf1 => ?_) (fun hf1 => ?_)
    · refine ⟨.lst D, rfl, _, sqL eD7, trivial, b, ws.length, rfl, hb7, by omega, by omega, fun H8 j k8 hb8 hj => ?_⟩
      walk_at "n"
      refine ⟨by decide, fun t nt => ?_⟩
      have k8' : Kp [b, sl] H7 H8 := k8.mono (by simp)
      obtain ⟨H10, h, ez, eDt, g10, out⟩ := fin H8 j ss w.2 k8' hb8 (d7.box k8 hb8) (k8 _ _ (by simpa using nslb) esl7) (hss7.mono fun _ _ q => q.up (hid_kp k8 mbz)) ⟨by show j < p.ways.length; omega, okw.n, okw.s⟩ t nt
      refine ⟨.lst D, rfl, _, sqL eDt, trivial, .ref z, atI_nat hwm, z, zvs, k, k, rfl, rfl, ez, ixN_nat (by rw [hzv.len, lr]; exact hk), ?_⟩
      rw [h]
      walk_at "n"
      have ea10 := hid_le _ _ (g10 _ _ op.a)
      exact ⟨.lst a, rfl, _, sqL ea10, trivial, _, rfl, .lst a, rfl, _, sqL ea10, trivial, _, rfl, .lst a, rfl, _, sqL ea10, trivial, _, rfl, by decide, fun u nu => out u nu⟩
    · refine ⟨rfl, ?_⟩
      have hspl : sp < ss.length := by omega
      have hspw : sp < w.2.length := by rw [← hss.len]; exact hspl
      have esp := List.getElem?_eq_getElem hspl
      have espw := List.getElem?_eq_getElem hspw
      have put : ∀ (H8 : Hp) (r : V) (s : Sett), Kp [b] H7 H8 → BoxAt H8 b → Dom (z :: sl :: S) H8 → rSett (hid (z :: sl :: S) H8) r s → SettOk p.signs p.t0.length s → ∃ H9, upd H8 sl (.lst (ss.set sp r)) = H9 ∧ H8 sl = some (.lst ss) ∧ ∀ t, H9 t = none → ∃ H10, upd (upd H9 t (.tup [.int (w.1 : Nat), .ref sl])) z (.lst (zvs.set k (.ref t))) = H10 ∧ (upd H9 t (.tup [.int (w.1 : Nat), .ref sl])) z = some (.lst zvs) ∧ (upd H9 t (.tup [.int (w.1 : Nat), .ref sl])) D = some (.lst ws) ∧ Same (hid S H) (hid S H10) ∧ ∀ u, H10 u = none → Q (.ref u) (upd H10 u (.lst [.str p.signs, .str p.letters, .ref a1, .ref D, .ref el])) := by
        intro H8 r s k8 hb8 d8 hr8 ok8
        have esl8 := k8 _ _ (by simpa using nslb) esl7
        have ks : Kp [sl] H8 (upd H8 sl (.lst (ss.set sp r))) := Kp.upd (by simp)
        have gs := hid_kp (S := z :: sl :: S) ks (by simp)
        have g78 := hid_kp (S := z :: sl :: S) k8 mbz
        refine ⟨_, rfl, esl8, fun t nt => ?_⟩
        refine fin _ w.1 (ss.set sp r) (w.2.set sp s) ((k8.mono (by simp)).trans (ks.mono (by simp))) (hb8.eq (upd_ne (fun q => nslb q.symm))) (d8.kp ks (fun y hy => by rw [List.mem_singleton.mp hy, upd_same]; exact fun q => by cases q)) upd_same (All2.set sp (hss7.mono fun _ _ q => (q.up g78).up gs) (hr8.up gs)) ⟨okw.m, by show (w.2.set sp s).length = _; rw [List.length_set]; exact okw.n, fun x hx => ?_⟩ t nt
        rcases List.mem_or_eq_of_mem_set hx with h | h
        · exact okw.s x h
        · rw [h]; exact ok8
      have ea7 := hid_le _ _ (g07 _ _ op.a)
      have okS := okw.s _ (List.getElem_mem hspw)
      obtain ⟨pa, epa0, epa⟩ : ∃ pa, ss[sp] = .ref pa ∧ H7 pa = some (.tup [vN (w.2[sp]).src, .str (w.2[sp]).hd, .str (w.2[sp]).tl, .bl (w.2[sp]).tn]) := by
        obtain ⟨s, hs', pa, e1, e2⟩ := hss7.get esp
        rw [espw] at hs'
        cases hs'
        exact ⟨pa, e1, hid_le _ _ e2⟩
      rw [epa0] at esp
      refine ite2' (fun hf2 => ?_) (fun hf2 => ?_)
      · refine ⟨.lst sl, rfl, _, sqL esl7, trivial, .ref pa, atI_nat esp, .tup pa, rfl, _, sqT epa, trivial, _, at0, ?_⟩
        refine ite2' (fun hn => ?_) (fun hn => ?_)
        · have hns : (w.2[sp]).src ≠ none := fun e => by rw [e] at hn; revert hn; decide
          refine ⟨.lst sl, rfl, _, sqL esl7, trivial, .ref pa, atI_nat esp, pa, rfl, _, sqT epa, (by show ¬ ((0 : Nat) = 0 ∧ (3 : Nat) = 4); decide), fun t3 nt3 => ?_⟩
          rw [show cutV [vN (w.2[sp]).src, V.str (w.2[sp]).hd, V.str (w.2[sp]).tl, V.bl (w.2[sp]).tn] none (some 3) = [vN (w.2[sp]).src, V.str (w.2[sp]).hd, V.str (w.2[sp]).tl] from cutV_take _ 3]
          obtain ⟨H8, h8, s8, d8, e8, _⟩ := newE (S := z :: sl :: S) (.tup [vN (w.2[sp]).src, V.str (w.2[sp]).hd, V.str (w.2[sp]).tl]) d7 nt3
          rw [h8]
          refine ⟨.lst sl, rfl, _, sqL (s8 _ _ esl7), trivial, .ref pa, atI_nat esp, .tup pa, rfl, _, sqT (s8 _ _ epa), trivial, _, at3, _, rfl, by decide, fun t4 nt4 => ?_⟩
          obtain ⟨H9', h9, s9, d9, e9, _⟩ := newE (S := z :: sl :: S) (.tup [.bl (!(w.2[sp]).tn)]) d8 nt4
          rw [h9]
          refine ⟨_, sqT (s9 _ _ e8), _, sqT e9, by simp, (by show 4 ≤ sizeLine; decide), fun e => (by cases e), fun _ t5 nt5 => ?_⟩
          obtain ⟨H11, h11, s11, d11, e11, he11⟩ := newE (S := z :: sl :: S) (.tup [vN (w.2[sp]).src, .str (w.2[sp]).hd, .str (w.2[sp]).tl, .bl (!(w.2[sp]).tn)]) d9 nt5
          rw [show ([vN (w.2[sp]).src, V.str (w.2[sp]).hd, V.str (w.2[sp]).tl] ++ [V.bl (!(w.2[sp]).tn)] : List V) = [vN (w.2[sp]).src, .str (w.2[sp]).hd, .str (w.2[sp]).tl, .bl (!(w.2[sp]).tn)] from rfl, h11]
          have s711 := (s8.trans s9).trans s11
          obtain ⟨H9, h, esl8, mk⟩ := put H11 (.ref t5) ⟨(w.2[sp]).src, (w.2[sp]).hd, (w.2[sp]).tl, !(w.2[sp]).tn⟩ (Kp.of s711) (hb7.same s711) d11 ⟨t5, rfl, he11⟩ ⟨okS.hd, okS.tl, okS.hl, okS.tll, okS.src, fun e => absurd e hns⟩
          refine ⟨sl, ss, sp, sp, rfl, rfl, esl8, ixN_nat hspl, ?_⟩
          rw [h]
          walk_at "n"
          refine ⟨by decide, fun t nt => ?_⟩
          obtain ⟨H10, h10, ez, eDt, g10, out⟩ := mk t nt
          refine ⟨.lst D, rfl, _, sqL eDt, trivial, .ref z, atI_nat hwm, z, zvs, k, k, rfl, rfl, ez, ixN_nat (by rw [hzv.len, lr]; exact hk), ?_⟩
          rw [h10]
          walk_at "n"
          have ea10 := hid_le _ _ (g10 _ _ op.a)
          exact ⟨.lst a, rfl, _, sqL ea10, trivial, _, rfl, .lst a, rfl, _, sqL ea10, trivial, _, rfl, .lst a, rfl, _, sqL ea10, trivial, _, rfl, by decide, fun u nu => out u nu⟩
        · refine ⟨.lst a, rfl, _, sqL ea7, trivial, _, at0, ?_⟩
          refine ⟨z :: sl :: S, b, p.signs, p.t0.length, rfl, hb7, mb6, d7, wf.s1, Nat.le_trans wf.s3 (by decide), b1, by omega, fun H8 r s k8 hb8 hr8 ok8 => ?_⟩
          obtain ⟨H9, h, esl8, mk⟩ := put H8 r s k8 hb8 (d7.box k8 hb8) hr8 ok8
          refine ⟨sl, ss, sp, sp, rfl, rfl, esl8, ixN_nat hspl, ?_⟩
          rw [h]
          walk_at "n"
          refine ⟨by decide, fun t nt => ?_⟩
          obtain ⟨H10, h10, ez, eDt, g10, out⟩ := mk t nt
          refine ⟨.lst D, rfl, _, sqL eDt, trivial, .ref z, atI_nat hwm, z, zvs, k, k, rfl, rfl, ez, ixN_nat (by rw [hzv.len, lr]; exact hk), ?_⟩
          rw [h10]
          walk_at "n"
          have ea10 := hid_le _ _ (g10 _ _ op.a)
          exact ⟨.lst a, rfl, _, sqL ea10, trivial, _, rfl, .lst a, rfl, _, sqL ea10, trivial, _, rfl, .lst a, rfl, _, sqL ea10, trivial, _, rfl, by decide, fun u nu => out u nu⟩
      · refine ⟨.lst a, rfl, _, sqL ea7, trivial, _, at0, ?_⟩
        refine ⟨z :: sl :: S, b, p.signs, p.t0.length, rfl, hb7, mb6, d7, wf.s1, Nat.le_trans wf.s3 (by decide), b1, by omega, fun H8 r s k8 hb8 hr8 ok8 => ?_⟩
        obtain ⟨H9, h, esl8, mk⟩ := put H8 r s k8 hb8 (d7.box k8 hb8) hr8 ok8
        refine ⟨sl, ss, sp, sp, rfl, rfl, esl8, ixN_nat hspl, ?_⟩
        rw [h]
        walk_at "n"
        refine ⟨by decide, fun t nt => ?_⟩
        obtain ⟨H10, h10, ez, eDt, g10, out⟩ := mk t nt
        refine ⟨.lst D, rfl, _, sqL eDt, trivial, .ref z, atI_nat hwm, z, zvs, k, k, rfl, rfl, ez, ixN_nat (by rw [hzv.len, lr]; exact hk), ?_⟩
        rw [h10]
        walk_at "n"
        have ea10 := hid_le _ _ (g10 _ _ op.a)
        exact ⟨.lst a, rfl, _, sqL ea10, trivial, _, rfl, .lst a, rfl, _, sqL ea10, trivial, _, rfl, .lst a, rfl, _, sqL ea10, trivial, _, rfl, by decide, fun u nu => out u nu⟩
end Gt

set_option Elab.async false
set_option linter.all false
set_option maxRecDepth 100000
set_option maxHeartbeats 2000000
namespace Gt
open PySem PySem.Spec PyProof.Rows L2 StX
local macro_rules | `(tactic| walk_at "r") => `(tactic| simp only [tRet, tRetN, tAndV, tOrV, tNotV, tAnd, tOr, tNot, tCB, tCons, tNil, tC, tVar, L2.start, tCl, tOp, tTest, tB, tIf, tIfS, seqE, tAsg, gName, gTup, gLst, gCons, gNil, tPar, tPar3, tTup, tLst, tFld, sFld, sFldAug, tMt, tPr, tMakeR, tMakeL, tCallV, tWith, tSl, tPart, tNoPart, tM1, tM0, tBM, tBM0, tStar, tRevS, tJs, fmtE, tDrop, tNext, tChain, tUn, tYes, gSub, gAttr, ClX.tCMeth, lcE_src, lcE_enum, lcE_rng, lc2E_src, forE_src, forE_enum, forE_rng, forE_zip, iZipS, cxOf, Cx.nox, Cx.blk,
  rI, rI0, rU, rEq, rNe, rAdd, rIsi, rIsiT, rAll, rAny, rEqD, rNeD, rSrc, rSlL, rSlT, rSlS, rCat, rCatT, rNewStrs, rAppend, rIn,
  List.map_cons, List.map_nil, List.length_cons, List.length_nil, List.replicate, List.append_nil, List.cons_append, List.nil_append, List.getElem?_cons_zero, List.getElem?_cons_succ, List.set_cons_zero, List.set_cons_succ, wipe,
  Option.some.injEq, List.cons.injEq, V.int.injEq, V.bl.injEq, V.str.injEq, V.ref.injEq, and_true, true_and, exists_eq_left', exists_eq_left, exists_eq, exists_eq', exists_and_left, Nat.sub_self, Nat.zero_add, Nat.reduceAdd, Nat.reduceSub, Bool.not_true, Bool.not_false, Bool.false_eq_true, ite_true, ite_false, if_true, if_false, and_assoc, Int.ofNat_inj])
local macro_rules | `(tactic| walk_at "n") => `(tactic| (refine later ?_; try walk_at "r"))
local macro_rules | `(tactic| walk_at "m") => `(tactic| (refine later ?_; try walk_at "r"; refine later ?_; try walk_at "r"))
theorem shaped_strsT {as : List Str} (h : ∀ a ∈ as, Uni a) : SeqAt.shaped (.tuple (as.map PyData.str)) = true := by
  have := shaped_strs h
  unfold SeqAt.shaped at this ⊢
  simp only [PyData.canLay0, PyData.depth] at this ⊢
  exact this
theorem lays {as : List Str} (h : ∀ a ∈ as, Uni a) : PyData.canLayAll0 (as.map PyData.str) = true := by
  induction as with
  | nil => rfl
  | cons a r ih =>
    show (PyData.canLay0 (.str a) && PyData.canLayAll0 (r.map PyData.str)) = true
    rw [ih fun x hx => h x (by simp [hx]), shaped_str1 (h a (by simp))] <;> rfl
theorem deps (as : List Str) : PyData.depthAll (as.map PyData.str) = 0 := by
  induction as with
  | nil => rfl
  | cons a r ih =>
    show max (PyData.depth (.str a)) (PyData.depthAll (r.map PyData.str)) = 0
    rw [ih]
    simp [PyData.depth]
theorem shaped_it {as : List Str} {i : Int} (h : ∀ a ∈ as, Uni a) : SeqAt.shaped (.tuple [.int i, .tuple (as.map PyData.str)]) = true := by
  unfold SeqAt.shaped
  simp only [PyData.canLay0, PyData.canLayAll0, PyData.depth, PyData.depthAll, lays h, deps]
  decide
theorem eqv_it (as : List Str) (i : Int) : PyData.eqv (.tuple [.int i, .tuple (as.map PyData.str)]) (.tuple [.int i, .tuple (as.map PyData.str)]) = true := by
  simp only [PyData.eqv, PyData.eqvAll]
  rw [eqv_strs as as]
  simp
theorem eqvT (as bs : List Str) : PyData.eqv (.tuple (as.map PyData.str)) (.tuple (bs.map PyData.str)) = decide (as = bs) := eqv_strs as bs
theorem uni_sub {g z : Str} (h : Low g) (o : Of g z) : Uni z := uni_low (low_of_sub h o)
theorem scal_vO (a b : Option Str) : scal (vO a) (vO b) = true := by cases a <;> cases b <;> rfl
def sp__law_is_right (K : PySem.W.Frag) : Sp := fun vs H Q _ => ∃ (S : List Addr) (y : Addr) (tv nv : V) (ps : List Ent) (e : Ent) (L : Nat), vs = [.ref y, tv, nv, .str (tOf e.hd)] ∧ LvAt K S H y (ps ++ [e]) ∧ rPrg (hid S H) tv e.p ∧ rStand (hid S H) nv e.st ∧ EntOk L e ∧ L ≤ 90000 ∧ ∀ H', Same H H' → Q (.bl true) H'
theorem sc__law_is_right : FnScope ["_law_live", "_law_told_here", "_law_now", "_law_heard"] ["_law_live", "_law_told_here", "_law_now", "_law_heard"] (defScope (top 74)) := ⟨rfl, rfl, rfl, by decide +kernel, rfl, by decide +kernel, by decide +kernel⟩
theorem ok__law_is_right {P : Program} {w : World} {K : PySem.W.Frag} {mg : Str → Option Value} {base : Heap} (D : Def K mg "_law_is_right" (top 74) ["_law_live", "_law_told_here", "_law_now", "_law_heard"]) (T : Glo K mg) (p_spot : GP P w K mg base 1 (cls_Live K) "spot" (sp_Live_spot K)) (p_texts : GP P w K mg base 1 (cls_Live K) "texts" (sp_Live_texts K)) (p_heard : GP P w K mg base 1 (cls_Live K) "heard" (sp_Live_heard K)) (p_shown : GP P w K mg base 3 (cls_Live K) "shown" (sp_Live_shown K)) (g__law_closed : GF P w K mg base 1 "_law_closed" (sp__law_closed K))  : GF P w K mg base 5 "_law_is_right" (sp__law_is_right K) := by
  have nd := sc__law_is_right.nd
  refine D.go sc__law_is_right (fun vs H Q E h => ?_) (fun f cdv A outer s0 H vs Q E hr h => ?_)
  · obtain ⟨S, y, tv, nv, ps, e, L, rfl, l, ⟨a, a1, a2, vc, vd, rfl, op⟩, ⟨b, c, rfl, eb, ec⟩, ok, hL, q⟩ := h; rfl
  obtain ⟨S, y, tv, nv, ps, e, L, rfl, l, ⟨a, a1, a2, vc, vd, rfl, op⟩, ⟨b, c, rfl, eb, ec⟩, ok, hL, q⟩ := h
  refine ⟨_, (pss_cons (ps_if (PW.pt (pw_or (pt_cmpR op_ne (pc_p p_spot T.cL hr (pv 0)) (pe_ix ix_src (pv 2) pe_int (fun _ _ => rfl)) (nomark _)) (pw_or (pt_cmpR (op_neD hr.units) (pc_p p_texts T.cL hr (pv 0)) (pe_ix ix_src (pv 2) pe_int (fun _ _ => rfl)) (nomark _)) (pw_or1 (pt_cmpR op_ne (pc_p p_heard T.cL hr (pv 0)) (pv 3) (nomark _))))))
  (pss_one (ps_ret pe_bl))
  pss_nil)
  (pss_one (ps_ret (pe_cmpR op_eq (pc_p p_shown T.cL hr (pv 0)) (pc_g g__law_closed hr (pa_cons (pe_ix ix_src (pe_ix ix_src (pv 1) pe_int (fun _ _ => rfl)) (pe_ix ix_src (pv 2) pe_int (fun _ _ => rfl)) (fun _ _ => rfl)) (pa_cons (pe_ix ix_src (pv 2) pe_int (fun _ _ => rfl)) pa_nil))) (nomark _))))), ?_⟩
  clear nd hr
  have sz := sizeL
  obtain ⟨dx, t, es, l1⟩ := id l
  obtain ⟨ce, xs, rfl, ece, hxs⟩ := id op.d
  have hm : e.st.1 < e.p.ends.length := by rw [ok.wf.el]; exact ok.st.m
  have hen := List.getElem?_eq_getElem hm
  obtain ⟨ev, hev, he⟩ := hxs.at hen
  have uni : ∀ x ∈ e.st.2, Uni x := fun x hx => uni_sub ok.wf.low (ok.st.t x hx).1
  walk_at "r"
  refine ⟨_, _, l1.y, ?_⟩
  refine ⟨S, y, ps, e, rfl, l, ?_⟩
  refine ⟨.tup b, rfl, _, hsqT eb, trivial, _, rfl, rfl, ?_⟩
  rw [decide_eq_true rfl]
  walk_at "r"
  refine ⟨_, _, l1.y, ?_⟩
  refine ⟨S, y, ps, e, rfl, l, fun c' hc' => ?_⟩
  refine ⟨.tup b, rfl, _, hsqT eb, trivial, _, rfl, ?_⟩
  refine ⟨_, .tup (hsqT hc') (dps _), _, .tup (hsqT ec) (dps _), shaped_strsT uni, shaped_strsT uni, ?_⟩
  rw [eqvT, decide_eq_true rfl]
  walk_at "r"
  refine ⟨_, _, l1.y, ?_⟩
  refine ⟨S, y, ps, e, rfl, l, ?_⟩
  refine ⟨rfl, ?_⟩
  rw [decide_eq_true rfl]
  walk_at "r"
  walk_at "n"
  refine ⟨_, _, l1.y, ?_⟩
  refine ⟨S, y, ps, e, L, rfl, l, ok, hL, fun H1 s1 => ?_⟩
  have g1 := hid_same s1 (S := S)
  refine ⟨.lst a, rfl, _, hsqL (g1 _ _ op.a), trivial, _, rfl, .tup b, rfl, _, hsqT (g1 _ _ eb), trivial, _, rfl, .lst ce, rfl, _, (e.st.1 : Int), rfl, hsqL (g1 _ _ ece), trivial, ev, atI_nat hev, .tup b, rfl, _, hsqT (g1 _ _ eb), trivial, _, rfl, ?_⟩
  refine ⟨ev, _, c, e.st.2, e.p.signs, rfl, (he.up g1).up hid_le, hsqT (g1 _ _ ec), by rw [ok.st.n]; exact ok.wf.en _ (List.getElem_mem hm), fun x hx => Nat.le_trans (ok.st.t x hx).2 hL, ?_⟩
  have esh : e.p.shown e.st = (e.p.ends[e.st.1]).map fun r => rowText e.st.2 r := by unfold Prg.shown; simp [List.getD_eq_getElem?_getD, hen]
  rw [← esh]
  refine ⟨scal_vO _ _, ?_⟩
  rw [decide_eq_true rfl]
  exact q _ s1
theorem LvAt.to {K : PySem.W.Frag} {S S' : List Addr} {H H' : Hp} {y : Addr} {past : List Ent} (l : LvAt K S H y past) (g : Same (hid S H) (hid S' H')) (k : ∀ o, H y = some o → H' y = some o) : LvAt K S' H' y past :=
  let ⟨dx, t, es, l⟩ := l
  ⟨dx, t, es, k _ l.y, g _ _ l.t, l.es.mono fun _ _ z => z.up g⟩
theorem LvAt.ins {K : PySem.W.Frag} {S : List Addr} {H : Hp} {y : Addr} {past : List Ent} (l : LvAt K S H y past) : ∃ dx fs, H y = some (.ins (cL K) dx fs) := let ⟨dx, _, _, l⟩ := l; ⟨dx, _, l.y⟩
theorem xyT : (Str.ofString "xy") = tOf [0, 1] := by decide +kernel
theorem newI {S : List Addr} {H : Hp} {x dx C : Addr} (d : Dom S H) (nx : H x = none) (nd : H dx = none) :
    (upd (upd H dx (.own x)) x (.ins C dx [])) x = some (.ins C dx []) ∧ Dom (x :: S) (upd (upd H dx (.own x)) x (.ins C dx [])) ∧ Same (hid S H) (hid (x :: S) (upd (upd H dx (.own x)) x (.ins C dx []))) := by
  have kx : Kp [] H (upd (upd H dx (.own x)) x (.ins C dx [])) := fun z o _ e => by
    have h1 : z ≠ x := fun q => by rw [q, nx] at e; cases e
    have h2 : z ≠ dx := fun q => by rw [q, nd] at e; cases e
    rw [upd_ne h1, upd_ne h2]
    exact e
  exact ⟨upd_same, .cons upd_same (d.kp kx (by simp)), same_cons nx (M := []) (by simp) kx⟩
theorem same_hid1 {S : List Addr} {x : Addr} {H H' : Hp} (n : H x = none) (s : Same H H') : Same (hid S H) (hid (x :: S) H') := fun z o e => by
  have e1 := hid_le _ _ e
  have n1 : z ≠ x := fun q => by rw [q, n] at e1; cases e1
  rw [hid_at (fun q => (List.mem_cons.mp q).elim n1 (hid_in e))]
  exact s _ _ e1
theorem free_of {H H' : Hp} {x : Addr} (s : Same H H') (n : H' x = none) : H x = none := s.free n
def sp__law_are_twins (K : PySem.W.Frag) : Sp := fun vs H Q _ => ∃ (S : List Addr) (b : Addr) (fv gv : V) (p r : Prg) (d : Nat), vs = [.ref b, fv, gv] ∧ BoxAt H b ∧ b ∈ S ∧ Dom S H ∧ rPrg (hid S H) fv p ∧ oPrg K (hid S H) gv r ∧ WF p ∧ WF r ∧ Dbl p r d ∧ (∀ x ∈ p.t0, x.length ≤ 1) ∧ ∀ H', Kp [b] H H' → BoxAt H' b → Q (.bl true) H'
theorem sc__law_are_twins : FnScope ["_law_box", "_law_first", "_law_twin", "_law_plain", "_law_other", "_law_key", "_law_step"] ["_law_box", "_law_first", "_law_twin"] (defScope (top 75)) := ⟨rfl, rfl, rfl, by decide +kernel, rfl, by decide +kernel, by decide +kernel⟩
theorem ok__law_are_twins {P : Program} {w : World} {K : PySem.W.Frag} {mg : Str → Option Value} {base : Heap} (D : Def K mg "_law_are_twins" (top 75) ["_law_box", "_law_first", "_law_twin"]) (T : Glo K mg) (c_Live : GC P w K mg base 4 "Live" (cls_Live K) (sp_Live_UinitU K)) (g__law_made : GF P w K mg base 10 "_law_made" (sp__law_made K)) (g__law_one_of : GF P w K mg base 2 "_law_one_of" (sp__law_one_of K)) (m_take : GM P w K mg base 5 (cls_Live K) "take" (sp_Live_take K)) (p_texts : GP P w K mg base 1 (cls_Live K) "texts" (sp_Live_texts K)) (p_shown : GP P w K mg base 3 (cls_Live K) "shown" (sp_Live_shown K)) (g_write : GF P w K mg base 4 "write" (sp_write K)) (p_program : GP P w K mg base 1 (cls_Live K) "program" (sp_Live_program K)) (p_heard : GP P w K mg base 1 (cls_Live K) "heard" (sp_Live_heard K)) (p_spot : GP P w K mg base 1 (cls_Live K) "spot" (sp_Live_spot K)) (g_stand : GF P w K mg base 3 "stand" (sp_stand K)) (g_behind : GF P w K mg base 9 "behind" (sp_behind K)) (m_several : GM P w K mg base 4 (cls_Live K) "several" (sp_Live_several K))  : GF P w K mg base 11 "_law_are_twins" (sp__law_are_twins K) := by
  have nd := sc__law_are_twins.nd
  refine D.go sc__law_are_twins (fun vs H Q E h => ?_) (fun f cdv A outer s0 H vs Q E hr h => ?_)
  · obtain ⟨S, b, fv, gv, p, r, dd, rfl, hb, mb, d, rp, og, wf, wr, D, h0, q⟩ := h; rfl
  obtain ⟨S, b, fv, gv, p, r, dd, rfl, hb, mb, d, rp, og, wf, wr, D, h0, q⟩ := h
  refine ⟨_, (pss_cons (ps_par (i := 3) (j := 4) rfl nd rfl rfl (by decide) rfl rfl (pa_cons (pc_c c_Live hr (pa_cons (pc_g g__law_made hr (pa_cons (pv 1) pa_nil)) pa_nil)) (pa_cons (pc_c c_Live hr (pa_cons (pv 2) pa_nil)) pa_nil)) (by rfl))
  (pss_cons (ps_for PassesOwn.never rfl (pi_src (pe_lc (own := [("_law_step", 6)]) rfl nd (pi_range1 (by rfl) T.b_range (pa_cons pe_int pa_nil)) (blkOk_by (own := [("_law_step", 6)]) (N := ["_law_box", "_law_first", "_law_twin", "_law_plain", "_law_other", "_law_key", "_law_step"]) (sc := defScope (top 75)) (by decide +kernel)) (fun _ _ _ _ _ => (pg_name (i := 6) nd rfl (by first | exact Or.inl rfl | exact Or.inr rfl))) (fun _ _ _ _ _ => pts_nil) (fun _ _ _ _ _ => (pc_g g__law_one_of hr (pa_cons (pv 0) (pa_cons (pe_lst (pa_cons pe_str (pa_cons pe_str pa_nil))) pa_nil)))))) (pg_name (i := 5) nd rfl (by first | exact Or.inl rfl | exact Or.inr rfl))
  (pss_cons (ps_if (PW.pt (pw_or (pt_cmpR op_ne (pc_m m_take T.cL hr (pv 3) (pa_cons (pv 5) pa_nil)) (pc_m m_take T.cL hr (pv 4) (pa_cons (pv 5) pa_nil)) (nomark _)) (pw_or1 (pt_cmpR (op_neD hr.units) (pc_p p_texts T.cL hr (pv 3)) (pc_p p_texts T.cL hr (pv 4)) (nomark _)))))
  (pss_one (ps_ret pe_bl))
  pss_nil)
  (pss_one (ps_if (pt_cmpR op_ne (pc_p p_shown T.cL hr (pv 3)) (pc_g g_write hr (pa_cons (pc_p p_program T.cL hr (pv 3)) (pa_cons (pc_p p_heard T.cL hr (pv 3)) pa_nil))) (nomark _))
  (pss_one (ps_ret pe_bl))
  pss_nil))))
  (pss_cons (ps_if (pt_cmpR (op_neD hr.units) (pe_tup (pa_cons (pc_p p_spot T.cL hr (pv 3)) (pa_cons (pc_p p_texts T.cL hr (pv 3)) pa_nil))) (pc_g g_stand hr (pa_cons (pc_g g__law_made hr (pa_cons (pv 1) pa_nil)) (pa_cons (pc_p p_heard T.cL hr (pv 3)) pa_nil))) (nomark _))
  (pss_one (ps_ret pe_bl))
  pss_nil)
  (pss_one (ps_ret (pe_cmpR op_eq (pc_g g_write hr (pa_cons (pc_g g_behind hr (pa_cons (pc_p p_program T.cL hr (pv 3)) (pa_cons (pc_p p_heard T.cL hr (pv 3)) pa_nil))) (pa_cons pe_str pa_nil))) (pe_ix ix_src (pc_m m_several T.cL hr (pv 3) (pa_cons pe_str pa_nil)) pe_int (fun _ _ => rfl)) (nomark _))))))), ?_⟩
  clear nd hr
  have sz := sizeL
  walk_at "r"
  refine ⟨S, fv, p, rfl, rp, wf, d, fun H1 v1 s1 o1 => ?_⟩
  have d1 := d.same s1
  intro y1 dx1 ny1 nd1 ne1
  have kx1 : Kp [] H1 (upd (upd H1 dx1 (.own y1)) y1 (.ins (cL K) dx1 [])) := fun z o _ e => by
    have h1 : z ≠ y1 := fun q => by rw [q, ny1] at e; cases e
    have h2 : z ≠ dx1 := fun q => by rw [q, nd1] at e; cases e
    rw [upd_ne h1, upd_ne h2]
    exact e
  have ey1 : (upd (upd H1 dx1 (.own y1)) y1 (.ins (cL K) dx1 [])) y1 = some (.ins (cL K) dx1 []) := upd_same
  have g1 := same_cons (S := S) ny1 (M := []) (by simp) kx1
  have dd1 : Dom (y1 :: S) (upd (upd H1 dx1 (.own y1)) y1 (.ins (cL K) dx1 [])) := .cons ey1 (d1.kp kx1 (by simp))
  refine ⟨y1 :: S, y1, dx1, v1, p, rfl, ey1, by simp, dd1, o1.up g1, wf, fun H2 k2 l2 => ⟨rfl, ?_⟩⟩
  have s2 := made ny1 nd1 k2
  have s02 := s1.trans s2
  have h12 : Same (hid S H) (hid (y1 :: S) H2) := fun z o e => by
    have e1 := s1 _ _ (hid_le _ _ e)
    have n1 : z ≠ y1 := fun q => by rw [q, ny1] at e1; cases e1
    rw [hid_at (fun q => (List.mem_cons.mp q).elim n1 (hid_in e))]
    exact s2 _ _ e1
  have d2 : Dom (y1 :: S) H2 := by
    obtain ⟨dx, fs, e⟩ := l2.ins
    exact .cons e (d1.same s2)
  intro y2 dx2 ny2 nd2 ne2
  obtain ⟨ey2, dd2, g2⟩ := newI (C := cL K) d2 ny2 nd2
  have og2 : oPrg K (hid (y1 :: S) H2) gv r := og.up h12
  refine ⟨y2 :: y1 :: S, y2, dx2, gv, r, rfl, ey2, by simp, dd2, og2.up g2, wr, fun H3 k3 m3 => ⟨rfl, ?_⟩⟩
  have s3 := made ny2 nd2 k3
  have s03 := s02.trans s3
  have n1H : H y1 = none := free_of s1 ny1
  have n2H : H y2 = none := free_of s02 ny2
  have l3 : LvAt K (y2 :: y1 :: S) H3 y1 [⟨p, (p.m0, p.t0), []⟩] := l2.to (same_hid1 ny2 s3) fun o e => s3 _ _ e
  have n12 : y1 ≠ y2 := fun q => by
    obtain ⟨dx, fs, e⟩ := l2.ins
    rw [q, ny2] at e
    cases e
  have d3 : Dom (y2 :: y1 :: S) H3 := by
    obtain ⟨dx, fs, e⟩ := m3.ins
    exact .cons e (d2.same s3)
  have hb3 := hb.same s03
  have nb1 : y1 ≠ b := fun q => hb.dom (by rw [← q]; exact n1H)
  have nb2 : y2 ≠ b := fun q => hb.dom (by rw [← q]; exact n2H)
  have mbS : b ∈ y2 :: y1 :: S := by simp [mb]
  walk_at "n"
  refine ⟨by decide, by decide, ?_⟩
  refine lcBox (walk_range (lo := 0) (n := 20)) (y2 :: y1 :: S) b (fun i G v => ∃ k : Nat, k < 2 ∧ v = .str ⟨#[120 + k]⟩) d3 mbS (by decide) hb3 (fun _ _ _ => trivial) (fun i G G' v s h => h) (fun S2 i x H4 H4' Z hi hs d4 sm hb4 y hz => ?_) fun kl ws H4 k4 d4 hb4 nkl hkl ekl hl hv => ?_
  · obtain ⟨e, rfl⟩ := y
    subst e
    walk_at "r"
    refine ⟨by decide, fun u nu => ?_⟩
    obtain ⟨H5, h, s5, d5, eu, _⟩ := newE (S := S2) (.lst [.str "x", .str "y"]) d4 nu
    rw [h]; clear h
    have nub : u ≠ b := fun q => d4 b (hs b mbS) (by rw [← q]; exact nu)
    refine ⟨b, .lst u, _, rfl, hb4.same s5, trivial, fun H' k => sqL (k _ _ (by simpa using nub) eu), by decide, by (show 2 < 1000000; decide), fun H6 i6 x6 k6 hb6 hx6 => ?_⟩
    refine hz _ _ ((Kp.of s5).trans k6) hb6 ?_
    match i6, hx6 with
    | 0, hx => cases hx; exact ⟨0, by decide, rfl⟩
    | 1, hx => cases hx; exact ⟨1, by decide, rfl⟩
    | n + 2, hx => simp at hx
  have mS1 : y1 ∈ y2 :: y1 :: S := by simp
  have mS2 : y2 ∈ y2 :: y1 :: S := by simp
  have mS3 : ∀ z ∈ S, z ∈ y2 :: y1 :: S := fun z hz => by simp [hz]
  generalize hS3 : y2 :: y1 :: S = S3 at *
  have mb3 : ∀ z ∈ [b], z ∈ S3 := fun z hz => by rw [List.mem_singleton.mp hz]; exact mbS
  have my1 : ∀ z ∈ [y1], z ∈ S3 := fun z hz => by rw [List.mem_singleton.mp hz]; exact mS1
  have my2 : ∀ z ∈ [y2], z ∈ S3 := fun z hz => by rw [List.mem_singleton.mp hz]; exact mS2
  have g34 := hid_kp k4 mb3
  have l4 := l3.to g34 (fun o e => k4 _ _ (by simpa using nb1) e)
  have m4 := m3.to g34 (fun o e => k4 _ _ (by simpa using nb2) e)
  have dk : ∀ {y : Addr} {A B : Hp} {past : List Ent}, Dom S3 A → Kp [y] A B → LvAt K S3 B y past → Dom S3 B := fun d k l => d.kp k fun z hz => by
    obtain ⟨dx, fs, e⟩ := l.ins
    rw [List.mem_singleton.mp hz, e]
    exact fun q => by cases q
  have kl1 : kl ≠ y1 := fun q => nkl (by rw [q]; exact mS1)
  have kl2 : kl ≠ y2 := fun q => nkl (by rw [q]; exact mS2)
  refine ⟨.lst kl, rfl, ws, sqL ekl, forB (walk_src (K := K) (S := .lst kl)) (fun i σ H' => Kp [b] H H' ∧ BoxAt H' b ∧ Dom S3 H' ∧ H' kl = some (.lst ws) ∧ Same (hid S H) (hid S3 H') ∧ (∃ ps1 ps2 hd st2, LvAt K S3 H' y1 (ps1 ++ [⟨p, p.stood hd, hd⟩]) ∧ LvAt K S3 H' y2 (ps2 ++ [⟨r, st2, hd⟩]) ∧ ps1.length = i ∧ ps2.length = i ∧ hd.length = i ∧ (∀ k ∈ hd, k < 2) ∧ Tw p dd (p.stood hd) st2 ∧ StandOk r.signs r.ways.length r.t0.length (1 + 4 * i) st2) ∧ ∃ x5, σ = [some (.ref b), some fv, some gv, some (.ref y1), some (.ref y2), x5, none])
    ⟨(Kp.of s03).trans k4, hb4, d4, ekl, ?_, ⟨[], [], [], (r.m0, r.t0), l4, m4, rfl, rfl, rfl, fun k h => (by cases h), Tw.start wf D, ⟨wr.m0, rfl, fun x hx => ⟨(wr.t0 x hx).1, by rw [D.t0] at hx; exact h0 x hx⟩⟩⟩, _, rfl⟩ (fun i σ H' _ pv => sqL pv.2.2.2.1) ?_ ?_⟩
  · refine Same.trans (h12.trans ?_) g34
    rw [← hS3]
    exact same_hid1 ny2 s3
  · rintro i x σ H5 H5' hi ⟨k5, hb5, d5, ekl5, g5, ⟨ps1, ps2, hd, st2, l5, m5, lp1, lp2, lhd, hks, tw, ok2⟩, x5, rfl⟩ ⟨ee, hx⟩
    subst ee
    obtain ⟨k, hk, rfl⟩ := hv i x hx
    have hi' : i < 20 := by rw [hl] at hi; exact hi
    have ok1 := stood_ok wf h0 hd hks
    have eok1 : EntOk (1 + 4 * hd.length) ⟨p, p.stood hd, hd⟩ := ⟨wf, ok1, hks⟩
    have eok2 : EntOk (1 + 4 * i) ⟨r, st2, hd⟩ := ⟨wr, ok2, hks⟩
    obtain ⟨dxa, fsa, eya⟩ := l5.ins
    obtain ⟨dxb, fsb, eyb⟩ := m5.ins
    have e1 : p.led (p.stood hd) k = p.stood (hd ++ [k]) := (stood_snoc p hd k).symm
    have tw' : Tw p dd (p.stood (hd ++ [k])) (r.led st2 k) := by rw [← e1]; exact tw.led wf D hk
    have hks' : ∀ z ∈ hd ++ [k], z < 2 := fun z hz => by
      rcases List.mem_append.mp hz with h | h
      · exact hks z h
      · rw [List.mem_singleton.mp h]; exact hk
    walk_at "r"
    obtain ⟨dxa', ta, esa, la⟩ := id l5
    obtain ⟨dxb', tb, esb, lb⟩ := id m5
    refine ⟨_, _, la.y, rfl, ?_⟩
    refine ⟨S3, y1, ps1, _, _, k, rfl, l5, eok1, by omega, by show hd.length ≤ 900; omega, hk, by omega, mS1, d5, fun H6 k6 l6 => ?_⟩
    rw [e1] at l6
    have g56 := hid_kp k6 my1
    have m6 := m5.to g56 (fun o e => k6 _ _ (by simpa using fun q => n12 q.symm) e)
    obtain ⟨dxb6, tb6, esb6, lb6⟩ := id m6
    have d6 := dk d5 k6 l6
    refine ⟨_, _, lb6.y, rfl, ?_⟩
    refine ⟨S3, y2, ps2, _, _, k, rfl, m6, eok2, by omega, by show hd.length ≤ 900; omega, hk, by omega, mS2, d6, fun H7 k7 m7 => ?_⟩
    have g67 := hid_kp k7 my2
    have l7 := l6.to g67 (fun o e => k7 _ _ (by simpa using n12) e)
    have d7 := dk d6 k7 m7
    obtain ⟨dxa7, ta7, esa7, la7⟩ := id l7
    obtain ⟨dxb7, tb7, esb7, lb7⟩ := id m7
    have esh : r.shown (r.led st2 k) = p.shown (p.led (p.stood hd) k) := by rw [e1]; exact tw'.shown D
    refine ⟨by show scal (vO _) (vO _) = true; exact scal_vO _ _, ?_⟩
    have ok1' := stood_ok wf h0 (hd ++ [k]) hks'
    have ok2' : StandOk r.signs r.ways.length r.t0.length (1 + 4 * (i + 1)) (r.led st2 k) := by
      have := led_ok wr ok2 hk
      rw [show 1 + 4 * (i + 1) = 1 + 4 * i + 4 by omega]
      exact this
    have eok1' : EntOk (1 + 4 * (hd ++ [k]).length) ⟨p, p.stood (hd ++ [k]), hd ++ [k]⟩ := ⟨wf, ok1', hks'⟩
    have lhk : (hd ++ [k]).length = i + 1 := by simp [lhd]
    refine ite_f (by show (!decide (vO (p.shown (p.led (p.stood hd) k)) = vO (r.shown (r.led st2 k)))) = false; rw [esh, decide_eq_true rfl]; rfl) ?_
    have u1 : ∀ x ∈ (p.stood (hd ++ [k])).2, Uni x := fun x hx => uni_sub wf.low (ok1'.t x hx).1
    have u2 : ∀ x ∈ (r.led st2 k).2, Uni x := fun x hx => uni_sub wr.low (ok2'.t x hx).1
    refine ⟨_, _, la7.y, S3, y1, _, _, rfl, l7, fun c1 hc1 => ⟨_, _, lb7.y, S3, y2, _, _, rfl, m7, fun c2 hc2 => ⟨_, .tup (hsqT hc1) (dps _), _, .tup (hsqT hc2) (dps _), shaped_strsT u1, shaped_strsT u2, ?_⟩⟩⟩
    rw [eqvT, decide_eq_true (show (p.stood (hd ++ [k])).2 = (r.led st2 k).2 from tw'.t.symm)]
    walk_at "r"
    walk_at "n"
    refine ⟨_, _, la7.y, S3, y1, _, _, 1 + 4 * (hd ++ [k]).length, rfl, l7, eok1', by omega, fun H8 s8 => ?_⟩
    have l8 := l7.same s8
    obtain ⟨dxa8, ta8, esa8, la8⟩ := id l8
    refine ⟨_, _, la8.y, S3, y1, _, _, rfl, l8, fun pv8 op8 => ?_⟩
    refine ⟨_, _, la8.y, S3, y1, _, _, rfl, l8, ?_⟩
    refine ⟨pv8, p, hd ++ [k], rfl, op8.up hid_le, wf, hks', by omega, fun H9 s9 => ?_⟩
    refine ⟨scal_vO _ _, ?_⟩
    rw [decide_eq_true rfl]
    have s79 := s8.trans s9
    have g59 := (g56.trans g67).trans (hid_same s79)
    have k57 : Kp [y1, y2] H5' H7 := (k6.mono (by simp)).trans (k7.mono (by simp))
    have kk : ∀ z o, z ≠ y1 → z ≠ y2 → H5' z = some o → H9 z = some o := fun z o n1 n2 e => s79 _ _ (k57 _ _ (by simp [n1, n2]) e)
    refine ⟨fun z o nz e => ?_, ?_, d7.same s79, kk _ _ kl1 kl2 ekl5, g5.trans g59, ps1 ++ [⟨p, p.stood hd, hd⟩], ps2 ++ [⟨r, st2, hd⟩], hd ++ [k], l7.same s79, r.led st2 k, m7.same s79, by simp [lp1], by simp [lp2], lhk, hks', tw', ok2'⟩
    · have n1 : z ≠ y1 := fun q => by rw [q, n1H] at e; cases e
      have n2 : z ≠ y2 := fun q => by rw [q, n2H] at e; cases e
      exact kk _ _ n1 n2 (k5 _ _ nz e)
    · obtain ⟨g', s', eb', q'⟩ := hb5
      exact ⟨g', s', kk _ _ (fun q => nb1 q.symm) (fun q => nb2 q.symm) eb', q'⟩
  · rintro σ H5 ⟨k5, hb5, d5, ekl5, g5, ⟨ps1, ps2, hd, st2, l5, m5, lp1, lp2, lhd, hks, tw, ok2⟩, x5, rfl⟩
    walk_at "n"
    walk_at "n"
    have lhd' : hd.length = 20 := by rw [lhd, hl]
    have ok1 := stood_ok wf h0 hd hks
    obtain ⟨dxa, ta, esa, la⟩ := id l5
    have u1 : ∀ x ∈ (p.stood hd).2, Uni x := fun x hx => uni_sub wf.low (ok1.t x hx).1
    refine ⟨_, _, la.y, S3, y1, _, _, rfl, l5, ?_⟩
    refine ⟨_, _, la.y, S3, y1, _, _, rfl, l5, fun c1 hc1 => ?_⟩
    refine ⟨by decide, fun t nt => ?_⟩
    obtain ⟨H6, h, s6, d6, et, ht⟩ := newE (S := S3) (.tup [.int ((p.stood hd).1 : Nat), .ref c1]) d5 nt
    rw [h]; clear h
    have g6 := g5.trans (hid_same s6)
    refine ⟨S3, fv, p, rfl, rp.up g6, wf, d6, fun H7 v7 s7 o7 => ?_⟩
    have l7 := l5.same (s6.trans s7)
    obtain ⟨dxa7, ta7, esa7, la7⟩ := id l7
    refine ⟨_, _, la7.y, S3, y1, _, _, rfl, l7, ?_⟩
    refine ⟨S3, v7, p, hd, rfl, o7, wf, hks, by omega, d6.same s7, fun H8 r8 s8 ⟨b8, c8, er8, eb8, ec8⟩ => ?_⟩
    subst er8
    have g58 : Same (hid S3 H5) (hid S3 H8) := ((hid_same s6).trans (hid_same s7)).trans (hid_same s8)
    refine ⟨_, .tup (sqT ((s7.trans s8) _ _ et)) (.cons (.int _) (.cons (.tup (hsqT (g58 _ _ hc1)) (dps _)) .nil)), _, .tup (hsqT eb8) (.cons (.int _) (.cons (.tup (hsqT ec8) (dps _)) .nil)), ?_, ?_, ?_⟩
    · exact shaped_it u1
    · exact shaped_it u1
    rw [show (PyData.tuple [PyData.int ((p.stood hd).1 : Nat), PyData.tuple ((p.stood hd).2.map PyData.str)]).eqv (PyData.tuple [PyData.int ((p.stood hd).1 : Nat), PyData.tuple ((p.stood hd).2.map PyData.str)]) = true from eqv_it _ _]
    walk_at "r"
    walk_at "n"
    have l8 := l7.same s8
    have d8 := (d6.same s7).same s8
    obtain ⟨dxa8, ta8, esa8, la8⟩ := id l8
    refine ⟨_, _, la8.y, S3, y1, _, _, rfl, l8, fun pv8 op8 => ?_⟩
    refine ⟨_, _, la8.y, S3, y1, _, _, rfl, l8, ?_⟩
    refine ⟨S3, pv8, p, hd, rfl, op8, wf, fun x hx => Nat.le_trans (h0 x hx) (by decide), hks, by omega, d8, fun H9 r9 s9 o9 => ?_⟩
    have hk01 : ∀ k ∈ [0, 1], k < 2 := by decide
    rw [xyT]
    refine ⟨r9, p.behind hd, [0, 1], rfl, o9.up hid_le, behind_wf wf (fun x hx => Nat.le_trans (h0 x hx) (by decide)) hks (by omega), hk01, by decide, fun H10 s10 => ?_⟩
    have l10 := l8.same (s9.trans s10)
    have d10 := (d8.same s9).same s10
    obtain ⟨dxa10, ta10, esa10, la10⟩ := id l10
    refine ⟨_, _, la10.y, rfl, ?_⟩
    have eok : EntOk (1 + 4 * hd.length) ⟨p, p.stood hd, hd⟩ := ⟨wf, ok1, hks⟩
    refine ⟨S3, y1, ps1, _, _, [0, 1], rfl, l10, eok, by simp; omega, by show hd.length ≤ 1000; omega, by decide, hk01, by omega, mS1, d10, fun H11 c fs k11 hc lf hf => ?_⟩
    have e1 := hf 1 (by decide)
    have eq1 : (p.behind hd).shown ((p.behind hd).stood [0, 1]) = p.shown (([0, 1].take (1 + 1)).foldl p.led (p.stood hd)) := rfl
    refine ⟨.tup c, rfl, fs, hsqT hc, trivial, _, atI_nat (j := 1) e1, ?_, ?_⟩
    · rw [eq1]; exact scal_vO _ _
    · rw [eq1, decide_eq_true rfl]
      have k511 : Kp [y1] H5 H11 := (Kp.of ((((s6.trans s7).trans s8).trans s9).trans s10)).trans k11
      refine q _ (fun z o nz e => ?_) ?_
      · have n1 : z ≠ y1 := fun q => by rw [q, n1H] at e; cases e
        exact k511 _ _ (by simpa using n1) (k5 _ _ nz e)
      · obtain ⟨g', s', eb', q'⟩ := hb5
        exact ⟨g', s', k511 _ _ (by simpa using fun q => nb1 q.symm) eb', q'⟩
end Gt

set_option Elab.async false
set_option linter.all false
set_option maxRecDepth 100000
set_option maxHeartbeats 2000000
namespace Gt
open PySem PySem.Spec PyProof.Rows L2 StX
local macro_rules | `(tactic| walk_at "r") => `(tactic| simp only [tRet, tRetN, tAndV, tOrV, tNotV, tAnd, tOr, tNot, tCB, tCons, tNil, tC, tVar, L2.start, tCl, tOp, tTest, tB, tIf, tIfS, seqE, tAsg, gName, gTup, gLst, gCons, gNil, tPar, tPar3, tTup, tLst, tFld, sFld, sFldAug, tMt, tPr, tMakeR, tMakeL, tCallV, tWith, tSl, tPart, tNoPart, tM1, tM0, tBM, tBM0, tStar, tRevS, tJs, fmtE, tDrop, tNext, tChain, tUn, tYes, gSub, gAttr, ClX.tCMeth, lcE_src, lcE_enum, lcE_rng, lc2E_src, forE_src, forE_enum, forE_rng, forE_zip, iZipS, cxOf, Cx.nox, Cx.blk,
  rI, rI0, rU, rEq, rNe, rAdd, rIsi, rIsiT, rAll, rAny, rEqD, rNeD, rSrc, rSlL, rSlT, rSlS, rCat, rCatT, rNewStrs, rAppend, rIn,
  List.map_cons, List.map_nil, List.length_cons, List.length_nil, List.replicate, List.append_nil, List.cons_append, List.nil_append, List.getElem?_cons_zero, List.getElem?_cons_succ, List.set_cons_zero, List.set_cons_succ, wipe,
  Option.some.injEq, List.cons.injEq, V.int.injEq, V.bl.injEq, V.str.injEq, V.ref.injEq, and_true, true_and, exists_eq_left', exists_eq_left, exists_eq, exists_eq', exists_and_left, Nat.sub_self, Nat.zero_add, Nat.reduceAdd, Nat.reduceSub, Bool.not_true, Bool.not_false, Bool.false_eq_true, ite_true, ite_false, if_true, if_false, and_assoc, Int.ofNat_inj])
local macro_rules | `(tactic| walk_at "n") => `(tactic| (refine later ?_; try walk_at "r"))
local macro_rules | `(tactic| walk_at "m") => `(tactic| (refine later ?_; try walk_at "r"; refine later ?_; try walk_at "r"))
/-! ### data of the law -/
def HasD (K : PySem.W.Frag) (H : Hp) (v : V) (n : Nat) : Prop := ∃ d, Dp K H v d ∧ PyData.canLay0 d = true ∧ PyData.depth d ≤ n
theorem hasD_all {K : PySem.W.Frag} {H : Hp} {n : Nat} : ∀ {vs : List V}, (∀ v ∈ vs, HasD K H v n) → ∃ ds, DpAll K H vs ds ∧ PyData.canLayAll0 ds = true ∧ PyData.depthAll ds ≤ n
  | [], _ => ⟨[], .nil, rfl, Nat.zero_le _⟩
  | v :: r, h => by
    obtain ⟨d, h1, h2, h3⟩ := h v (by simp)
    obtain ⟨ds, k1, k2, k3⟩ := hasD_all (vs := r) fun x hx => h x (by simp [hx])
    refine ⟨d :: ds, .cons h1 k1, ?_, ?_⟩
    · show (PyData.canLay0 d && PyData.canLayAll0 ds) = true
      rw [h2, k2] <;> rfl
    · show max (PyData.depth d) (PyData.depthAll ds) ≤ n
      omega
theorem hasD_lst {K : PySem.W.Frag} {H : Hp} {n : Nat} {a : Addr} {vs : List V} (e : H a = some (.lst vs)) (h : ∀ v ∈ vs, HasD K H v n) : HasD K H (.ref a) (n + 1) := by
  obtain ⟨ds, k1, k2, k3⟩ := hasD_all h
  refine ⟨.list ds, .lst (sqL e) k1, by simp only [PyData.canLay0]; exact k2, ?_⟩
  simp only [PyData.depth]
  omega
theorem hasD_tup {K : PySem.W.Frag} {H : Hp} {n : Nat} {a : Addr} {vs : List V} (e : H a = some (.tup vs)) (h : ∀ v ∈ vs, HasD K H v n) : HasD K H (.ref a) (n + 1) := by
  obtain ⟨ds, k1, k2, k3⟩ := hasD_all h
  refine ⟨.tuple ds, .tup (sqT e) k1, by simp only [PyData.canLay0]; exact k2, ?_⟩
  simp only [PyData.depth]
  omega
theorem HasD.mono {K : PySem.W.Frag} {H : Hp} {n m : Nat} {v : V} (h : HasD K H v n) (hm : n ≤ m) : HasD K H v m := let ⟨d, h1, h2, h3⟩ := h; ⟨d, h1, h2, Nat.le_trans h3 hm⟩
theorem hasD_str {K : PySem.W.Frag} {H : Hp} {n : Nat} {z : Str} (h : Uni z) : HasD K H (.str z) n := ⟨.str z, .str z, shaped_str1 h, by simp [PyData.depth]⟩
theorem hasD_int {K : PySem.W.Frag} {H : Hp} {n : Nat} {i : Int} : HasD K H (.int i) n := ⟨.int i, .int i, by simp [PyData.canLay0], by simp [PyData.depth]⟩
theorem hasD_bl {K : PySem.W.Frag} {H : Hp} {n : Nat} {i : Bool} : HasD K H (.bl i) n := ⟨.bool i, .bl i, by simp [PyData.canLay0], by simp [PyData.depth]⟩
theorem hasD_non {K : PySem.W.Frag} {H : Hp} {n : Nat} : HasD K H .non n := ⟨.none, .non, by simp [PyData.canLay0], by simp [PyData.depth]⟩
theorem hasD_of {α : Type} {K : PySem.W.Frag} {H : Hp} {n : Nat} {R : V → α → Prop} : ∀ {vs : List V} {xs : List α}, All2 R vs xs → (∀ v x, x ∈ xs → R v x → HasD K H v n) → ∀ v ∈ vs, HasD K H v n
  | _, _, .nil, _, v, h => by cases h
  | _, _, .cons r t, k, v, h => by
    rcases List.mem_cons.mp h with rfl | h
    · exact k _ _ (by simp) r
    · exact hasD_of t (fun v x hx => k v x (by simp [hx])) v h
theorem hasD_strs {K : PySem.W.Frag} {H : Hp} {n : Nat} {xs : List Str} (h : ∀ x ∈ xs, Uni x) : ∀ v ∈ xs.map V.str, HasD K H v n := fun v hv => by
  obtain ⟨x, hx, rfl⟩ := List.mem_map.mp hv
  exact hasD_str (h x hx)
theorem hasD_prg {K : PySem.W.Frag} {H : Hp} {v : V} {p : Prg} (h : rPrg H v p) (wf : WF p) : HasD K H v 6 := by
  obtain ⟨a, b, e, c, d, rfl, o⟩ := h
  have us : ∀ {z : Str}, Of p.signs z → Uni z := fun h => uni_sub wf.low h
  refine hasD_lst o.a fun v hv => ?_
  have h1 : HasD K H (.ref b) 2 := hasD_tup o.b fun v hv => by
    simp at hv
    rcases hv with rfl | rfl
    · exact hasD_int
    · exact hasD_lst o.e (hasD_strs fun x hx => us (wf.t0 x hx).1)
  have h2 : HasD K H c 5 := by
    obtain ⟨a2, vs2, rfl, q1, q2⟩ := o.c
    refine hasD_lst q1 (hasD_of q2 fun v row hr h => ?_)
    obtain ⟨a3, vs3, rfl, q3, q4⟩ := h
    refine hasD_lst q3 (hasD_of q4 fun v w hw h => ?_)
    obtain ⟨a4, b4, vs4, rfl, q5, q6, q7⟩ := h
    have wo := (wf.rows row hr).2 w hw
    refine hasD_tup q5 fun v hv => ?_
    simp at hv
    rcases hv with rfl | rfl
    · exact hasD_int
    · refine hasD_lst q6 (hasD_of q7 fun v s hs h => ?_)
      obtain ⟨a5, rfl, q8⟩ := h
      have so := wo.s s hs
      refine hasD_tup q8 fun v hv => ?_
      simp at hv
      rcases hv with rfl | rfl | rfl | rfl
      · cases s.src with
        | none => exact hasD_non
        | some n => exact hasD_int
      · exact hasD_str (us so.hd)
      · exact hasD_str (us so.tl)
      · exact hasD_bl
  have h3 : HasD K H d 5 := by
    obtain ⟨a2, vs2, rfl, q1, q2⟩ := o.d
    refine HasD.mono (n := 3) (hasD_lst q1 (hasD_of q2 fun v e he h => ?_)) (by decide)
    cases e with
    | none => obtain rfl : v = .non := h; exact hasD_non
    | some ps =>
      obtain ⟨a3, vs3, rfl, q3, q4⟩ := h
      have eo := wf.en _ he ps rfl
      refine hasD_lst q3 (hasD_of q4 fun v pt hp h => ?_)
      obtain ⟨a4, rfl, q5⟩ := h
      have po := eo.2 pt hp
      refine hasD_tup q5 fun v hv => ?_
      simp at hv
      rcases hv with rfl | rfl
      · cases pt with
        | box n => exact hasD_str (z := "box") (by unfold Uni; decide +kernel)
        | tur n => exact hasD_str (z := "turned") (by unfold Uni; decide +kernel)
        | told x => exact hasD_str (z := "told") (by unfold Uni; decide +kernel)
      · cases pt with
        | box n => exact hasD_int
        | tur n => exact hasD_int
        | told x => exact hasD_str (us po.2.1)
  simp at hv
  rcases hv with rfl | rfl | rfl | rfl | rfl
  · exact hasD_str (uni_low wf.low)
  · rw [wf.let']; exact hasD_str (by unfold Uni; decide +kernel)
  · exact h1.mono (by decide)
  · exact h2
  · exact h3
theorem hasD_stand {K : PySem.W.Frag} {H : Hp} {v : V} {s : Stand} (h : rStand H v s) (u : ∀ x ∈ s.2, Uni x) : HasD K H v 2 := by
  obtain ⟨a, b, rfl, q1, q2⟩ := h
  refine hasD_tup q1 fun v hv => ?_
  simp at hv
  rcases hv with rfl | rfl
  · exact hasD_int
  · exact hasD_tup q2 (hasD_strs u)
theorem uni_tOf {ks : List Nat} (h : ∀ k ∈ ks, k < 2) : Uni (tOf ks) := fun c hc => by
  rw [tOf_tl] at hc
  obtain ⟨k, hk, rfl⟩ := List.mem_map.mp hc
  have := h k hk
  omega
theorem HasD.sh {K : PySem.W.Frag} {H : Hp} {v : V} {n : Nat} (h : HasD K H v n) (hn : n ≤ 64) : ∃ d, Dp K H v d ∧ SeqAt.shaped d = true := by
  obtain ⟨d, h1, h2, h3⟩ := h
  refine ⟨d, h1, ?_⟩
  unfold SeqAt.shaped
  rw [h2, decide_eq_true (by omega)] <;> rfl
/-- what the law keeps beside the live run -/
def rMem (G : Hp) (v : V) (e : Ent) : Prop := ∃ a tv nv, v = .ref a ∧ G a = some (.tup [tv, nv, .str (tOf e.hd)]) ∧ rPrg G tv e.p ∧ rStand G nv e.st
theorem rMem.up {G G' : Hp} (h : Same G G') {v : V} {e : Ent} (r : rMem G v e) : rMem G' v e := let ⟨a, tv, nv, e, q1, q2, q3⟩ := r; ⟨a, tv, nv, e, h _ _ q1, q2.up h, q3.up h⟩
structure MemOk (p : Prg) (i : Nat) (e : Ent) : Prop where
  ok : EntOk (1 + 4 * i) e
  l : e.hd.length ≤ i
  k : Kin p e.p
theorem MemOk.up {p : Prg} {i j : Nat} {e : Ent} (h : MemOk p i e) (hi : i ≤ j) : MemOk p j e := ⟨⟨h.ok.wf, ⟨h.ok.st.m, h.ok.st.n, fun x hx => ⟨(h.ok.st.t x hx).1, by have := (h.ok.st.t x hx).2; omega⟩⟩, h.ok.hd⟩, by have := h.l; omega, h.k⟩
theorem hasD_mem {K : PySem.W.Frag} {H : Hp} {v : V} {e : Ent} {p : Prg} {i : Nat} (h : rMem H v e) (ok : MemOk p i e) : HasD K H v 7 := by
  obtain ⟨a, tv, nv, rfl, q1, q2, q3⟩ := h
  refine hasD_tup q1 fun v hv => ?_
  simp at hv
  rcases hv with rfl | rfl | rfl
  · exact hasD_prg q2 ok.ok.wf
  · exact (hasD_stand q3 fun x hx => uni_sub ok.ok.wf.low (ok.ok.st.t x hx).1).mono (by decide)
  · exact hasD_str (uni_tOf ok.ok.hd)
theorem Same.kp {H A B : Hp} {M : List Addr} (s : Same H A) (k : Kp M A B) (n : ∀ m ∈ M, H m = none) : Same H B := fun z o e => k z o (fun q => by rw [n z q] at e; cases e) (s _ _ e)
theorem Kin.two {p q r : Prg} (h1 : Kin p q) (h2 : Kin p r) : Kin q r := ⟨by rw [h2.s, h1.s], by rw [h2.l, h1.l], by rw [h2.m, h1.m], by rw [h2.b, h1.b]⟩
theorem all2_end {α : Type} {R : V → α → Prop} : ∀ {vs : List V} {xs : List α}, All2 R vs xs → vs ≠ [] → ∃ fs v qs e, vs = fs ++ [v] ∧ xs = qs ++ [e] ∧ R v e ∧ All2 R fs qs
  | _, _, .nil, h => absurd rfl h
  | [v], [x], .cons r .nil, _ => ⟨[], v, [], x, rfl, rfl, r, .nil⟩
  | v :: v' :: vs, x :: x' :: xs, .cons r (.cons r' t), _ => by
    obtain ⟨fs, w, qs, e, h1, h2, h3, h4⟩ := all2_end (.cons r' t) (by simp)
    exact ⟨v :: fs, w, x :: qs, e, by rw [h1]; rfl, by rw [h2]; rfl, h3, .cons r h4⟩
structure LawMid (K : PySem.W.Frag) (S : List Addr) (H H0 : Hp) (b y L : Addr) (p : Prg) (i : Nat) (H' : Hp) (tv nv : V) (ps : List Ent) (e : Ent) (es : List V) : Prop where
  s : Same H H'
  b : BoxAt H' b
  d : Dom S H'
  g : Same (hid S H0) (hid S H')
  l : LvAt K S H' y (ps ++ [e])
  eL : H' L = some (.lst es)
  aes : All2 (rMem (hid S H')) es ps
  rt : rPrg (hid S H') tv e.p
  rn : rStand (hid S H') nv e.st
  mok : ∀ x ∈ ps ++ [e], MemOk p i x
  lps : ps.length ≤ i
structure LawFix (S : List Addr) (H : Hp) (b y L : Addr) : Prop where
  mb : b ∈ S
  my : y ∈ S
  mL : L ∈ S
  yL : y ≠ L
  Lb : L ≠ b
  yb : y ≠ b
  fb : H b = none
  fy : H y = none
  fL : H L = none
theorem one_in {a : Addr} {S : List Addr} (h : a ∈ S) : ∀ z ∈ [a], z ∈ S := fun z hz => by rw [List.mem_singleton.mp hz]; exact h
theorem LvAt.kp {K : PySem.W.Frag} {S M : List Addr} {A B : Hp} {y : Addr} {past : List Ent} (l : LvAt K S A y past) (k : Kp M A B) (m : ∀ z ∈ M, z ∈ S) (n : y ∉ M) : LvAt K S B y past := l.to (hid_kp k m) fun o e => k _ _ n e
theorem LawMid.same {K : PySem.W.Frag} {S : List Addr} {H H0 : Hp} {b y L : Addr} {p : Prg} {i : Nat} {A B : Hp} {tv nv : V} {ps : List Ent} {e : Ent} {es : List V} (M : LawMid K S H H0 b y L p i A tv nv ps e es) (s : Same A B) : LawMid K S H H0 b y L p i B tv nv ps e es :=
  ⟨M.s.trans s, M.b.same s, M.d.same s, M.g.trans (hid_same s), M.l.same s, s _ _ M.eL, M.aes.mono fun _ _ z => z.up (hid_same s), M.rt.up (hid_same s), M.rn.up (hid_same s), M.mok, M.lps⟩
theorem LawMid.box {K : PySem.W.Frag} {S : List Addr} {H H0 : Hp} {b y L : Addr} {p : Prg} {i : Nat} {A B : Hp} {tv nv : V} {ps : List Ent} {e : Ent} {es : List V} (F : LawFix S H b y L) (M : LawMid K S H H0 b y L p i A tv nv ps e es) (k : Kp [b] A B) (hb : BoxAt B b) : LawMid K S H H0 b y L p i B tv nv ps e es :=
  have g := hid_kp k (one_in F.mb)
  ⟨Same.kp M.s k (by simpa using F.fb), hb, M.d.box k hb, M.g.trans g, M.l.kp k (one_in F.mb) (by simpa using F.yb), k _ _ (by simpa using F.Lb) M.eL, M.aes.mono fun _ _ z => z.up g, M.rt.up g, M.rn.up g, M.mok, M.lps⟩
theorem LawMid.live {K : PySem.W.Frag} {S : List Addr} {H H0 : Hp} {b y L : Addr} {p : Prg} {i : Nat} {A B : Hp} {tv nv : V} {ps : List Ent} {e : Ent} {es : List V} (F : LawFix S H b y L) (M : LawMid K S H H0 b y L p i A tv nv ps e es) (k : Kp [y] A B) (l : LvAt K S B y (ps ++ [e])) : LawMid K S H H0 b y L p i B tv nv ps e es :=
  have g := hid_kp k (one_in F.my)
  ⟨Same.kp M.s k (by simpa using F.fy), (let ⟨g', s', eb', q'⟩ := M.b; ⟨g', s', k _ _ (by simpa using fun q => F.yb q.symm) eb', q'⟩), M.d.kp k (fun z hz => by obtain ⟨dx, fs, e⟩ := l.ins; rw [List.mem_singleton.mp hz, e]; exact fun q => by cases q), M.g.trans g, l, k _ _ (by simpa using F.yL.symm) M.eL, M.aes.mono fun _ _ z => z.up g, M.rt.up g, M.rn.up g, M.mok, M.lps⟩
theorem MemOk.chg {p r : Prg} {i : Nat} {e : Ent} (h : MemOk p i e) (wr : WF r) (k : Kin p r) : MemOk p i ⟨r, e.st, e.hd⟩ := by
  have kk := Kin.two h.k k
  refine ⟨⟨wr, ⟨?_, ?_, fun x hx => ?_⟩, h.ok.hd⟩, h.l, k⟩
  · show e.st.1 < r.ways.length
    rw [kk.m]; exact h.ok.st.m
  · show e.st.2.length = r.t0.length
    rw [kk.b]; exact h.ok.st.n
  · show Of r.signs x ∧ _
    rw [kk.s]; exact h.ok.st.t x hx
theorem MemOk.take {p : Prg} {i k : Nat} {e : Ent} (h : MemOk p i e) (hk : k < 2) : MemOk p (i + 1) ⟨e.p, e.p.led e.st k, e.hd ++ [k]⟩ := by
  refine ⟨⟨h.ok.wf, ?_, fun z hz => ?_⟩, by have := h.l; simp; omega, h.k⟩
  · have := led_ok h.ok.wf h.ok.st hk
    rw [show 1 + 4 * (i + 1) = 1 + 4 * i + 4 by omega]
    exact this
  · rcases List.mem_append.mp hz with q | q
    · exact h.ok.hd z q
    · rw [List.mem_singleton.mp q]; exact hk
/-- after the append of what stood -/
structure LawApp (K : PySem.W.Frag) (S : List Addr) (H H0 : Hp) (b y L : Addr) (H' : Hp) (tv nv : V) (ps : List Ent) (e : Ent) (es : List V) : Prop where
  s : Same H H'
  b : BoxAt H' b
  d : Dom S H'
  g : Same (hid S H0) (hid S H')
  l : LvAt K S H' y (ps ++ [e])
  eL : H' L = some (.lst es)
  aes : All2 (rMem (hid S H')) es (ps ++ [e])
  rt : rPrg (hid S H') tv e.p
  rn : rStand (hid S H') nv e.st
theorem LawMid.app {K : PySem.W.Frag} {S : List Addr} {H H0 : Hp} {b y L t : Addr} {p : Prg} {i : Nat} {A : Hp} {tv nv : V} {ps : List Ent} {e : Ent} {es : List V} (F : LawFix S H b y L) (M : LawMid K S H H0 b y L p i A tv nv ps e es) (nt : A t = none) :
    (upd A t (.tup [tv, nv, .str (tOf e.hd)])) L = some (.lst es) ∧ LawApp K S H H0 b y L (upd (upd A t (.tup [tv, nv, .str (tOf e.hd)])) L (.lst (es ++ [.ref t]))) tv nv ps e (es ++ [.ref t]) := by
  obtain ⟨B, h, s, d, et, ht⟩ := newE (S := S) (.tup [tv, nv, .str (tOf e.hd)]) M.d nt
  rw [h]
  have M1 := M.same s
  have k : Kp [L] B (upd B L (.lst (es ++ [.ref t]))) := Kp.upd (by simp)
  have g := hid_kp k (one_in F.mL)
  exact ⟨M1.eL, Same.kp M1.s k (by simpa using F.fL), M1.b.eq (upd_ne fun q => F.Lb q.symm), M1.d.kp k (fun z hz => by rw [List.mem_singleton.mp hz, upd_same]; exact fun q => by cases q), M1.g.trans g, M1.l.kp k (one_in F.mL) (by simpa using F.yL), upd_same,
    All2.snoc (M1.aes.mono fun _ _ z => z.up g) ⟨t, tv, nv, rfl, g _ _ ht, M1.rt.up g, M1.rn.up g⟩, M1.rt.up g, M1.rn.up g⟩
/-- how the law's state stands before a turn -/
def LawInv (K : PySem.W.Frag) (S : List Addr) (H H0 : Hp) (a b y L : Addr) (k fv gv tw : V) (p : Prg) (i : Nat) (σ : L2.St) (H' : Hp) : Prop :=
  Same H H' ∧ BoxAt H' b ∧ Dom S H' ∧ Same (hid S H0) (hid S H') ∧ ∃ tv nv ps e es, LvAt K S H' y (ps ++ [e]) ∧ H' L = some (.lst es) ∧ All2 (rMem (hid S H')) es ps ∧ rPrg (hid S H') tv e.p ∧ rStand (hid S H') nv e.st ∧ (∀ x ∈ ps ++ [e], MemOk p i x) ∧ ps.length ≤ i ∧
    ∃ x11 x12 x13 x14, σ = [some (.ref a), some k, some (.ref b), some fv, some gv, some tw, some (.ref y), some tv, some (.str (tOf e.hd)), some (.ref L), some nv, x11, x12, x13, x14]
theorem goOk {P : Program} {w : World} {K : PySem.W.Frag} {mg : Str → Option Value} {base : Heap} {x q : Str} {st : Stmt} {N ps : List Str} {k : Nat} {sp : Sp} {f : Addr} {fd : FuncData} (F : FunD K x q (defArgs st) (defBody st) (defScope st) [] [] f fd) (S : FnScope N ps (defScope st)) (len : ∀ vs H Q E, sp vs H Q E → vs.length = ps.length)
    (hbody : ∀ (f : Addr) (cdv : Value) (A : Around) (outer : List Env) (s : Shared) (H : Hp) (vs : List V) (Q : VK) (E : XK), Room k (A.deeper (envOfC q (defScope st) s.heap.objs.size f cdv)) → sp vs H Q E →
      ∃ t, PSs (cxOf CX0 P w K mg base N q (defScope st) f cdv A outer s H E).nox (defBody st) t ∧ t { nx := fun _ H' => Q .non H', rt := Q } (L2.start N vs) H) : FnOk P w K mg base CX0 (k + 1) f fd ps sp :=
  F.ok S len fun cdv A outer s H vs Q E hr h => let ⟨t, p, q⟩ := hbody f cdv A outer s H vs Q E hr h; ⟨t, PSs.nox p, q⟩
def sp_law (K : PySem.W.Frag) : Sp := fun vs H Q _ => ∃ (a : Addr) (ns : List Int), vs = [.ref a] ∧ SqL K H a (ns.map V.int) ∧ ns.length < 1000000 ∧ ∀ H', Q (.bl true) H'
theorem sc_law : FnScope ["_law_script", "_law_k", "_law_box", "_law_first", "_law_second", "_law_twin", "_law_live", "_law_told_here", "_law_heard", "_law_past", "_law_now", "_law_turn", "_law_form", "_law_key", "_law_due"] ["_law_script"] (defScope (top 77)) := ⟨rfl, rfl, rfl, by decide +kernel, rfl, by decide +kernel, by decide +kernel⟩
theorem ok_law {P : Program} {w : World} {K : PySem.W.Frag} {mg : Str → Option Value} {base : Heap} {fL : Addr} {fdL : FuncData} (D : FunD K "law" "law" (defArgs (top 77)) (defBody (top 77)) (defScope (top 77)) [] [] fL fdL) (T : Glo K mg) (g__law_seed : GF P w K mg base 1 "_law_seed" (sp__law_seed K)) (g__law_drawn : GF P w K mg base 5 "_law_drawn" (sp__law_drawn K)) (g__law_bent : GF P w K mg base 5 "_law_bent" (sp__law_bent K)) (g__law_made : GF P w K mg base 10 "_law_made" (sp__law_made K)) (g__law_doubled : GF P w K mg base 2 "_law_doubled" (sp__law_doubled K)) (c_Live : GC P w K mg base 4 "Live" (cls_Live K) (sp_Live_UinitU K)) (g__law_stood : GF P w K mg base 3 "_law_stood" (sp__law_stood K)) (g__law_choose : GF P w K mg base 1 "_law_choose" (sp__law_choose K)) (m_undo : GM P w K mg base 1 (cls_Live K) "undo" (sp_Live_undo K)) (m_change : GM P w K mg base 3 (cls_Live K) "change" (sp_Live_change K)) (g__law_one_of : GF P w K mg base 2 "_law_one_of" (sp__law_one_of K)) (g__law_led : GF P w K mg base 2 "_law_led" (sp__law_led K)) (g__law_closed : GF P w K mg base 1 "_law_closed" (sp__law_closed K)) (m_take : GM P w K mg base 5 (cls_Live K) "take" (sp_Live_take K)) (g__law_is_right : GF P w K mg base 5 "_law_is_right" (sp__law_is_right K)) (l_Live : GS P w K mg base 1 (cls_Live K) "__len__" (sp_Live_UlenU K)) (m_within : GM P w K mg base 7 (cls_Live K) "within" (sp_Live_within K)) (p_program : GP P w K mg base 1 (cls_Live K) "program" (sp_Live_program K)) (e_Program : GS P w K mg base 7 (cls_Program K) "__eq__" (sp_Program_UeqU K)) (g__law_are_twins : GF P w K mg base 11 "_law_are_twins" (sp__law_are_twins K))  : FnOk P w K mg base CX0 12 fL fdL ["_law_script"] (sp_law K) := by
  have nd := sc_law.nd
  refine goOk D sc_law (fun vs H Q E h => ?_) (fun f cdv A outer s0 H vs Q E hr h => ?_)
  · obtain ⟨a, ns, rfl, ha, hn, q⟩ := h; rfl
  obtain ⟨a, ns, rfl, ha, hn, q⟩ := h
  refine ⟨_, (pss_cons (ps_for PassesOwn.never rfl (pi_range1 (by rfl) T.b_range (pa_cons (pe_callB (call_max2 rfl) (by rfl) T.b_max (by decide +kernel) (pa_cons pe_int (pa_cons (pe_callB (call_min2 rfl) (by rfl) T.b_min (by decide +kernel) (pa_cons pe_int (pa_cons (pe_callB call_lenS (by rfl) T.b_len (by decide +kernel) (pa_cons (pv 0) pa_nil)) pa_nil))) pa_nil))) pa_nil)) (pg_name (i := 1) nd rfl (by first | exact Or.inl rfl | exact Or.inr rfl))
  (pss_cons (ps_set (i := 2) nd rfl (by first | exact Or.inl rfl | exact Or.inr rfl) (pc_g g__law_seed hr (pa_cons (pv 0) (pa_cons (pv 1) pa_nil))))
  (pss_cons (ps_set (i := 3) nd rfl (by first | exact Or.inl rfl | exact Or.inr rfl) (pc_g g__law_drawn hr (pa_cons (pv 2) (pa_cons pe_int (pa_cons pe_int (pa_cons pe_str pa_nil))))))
  (pss_cons (ps_par (i := 4) (j := 5) rfl nd rfl rfl (by decide) rfl rfl (pa_cons (pc_g g__law_bent hr (pa_cons (pv 2) (pa_cons (pv 3) pa_nil))) (pa_cons (pc_g g__law_made hr (pa_cons (pc_g g__law_doubled hr (pa_cons (pv 2) (pa_cons (pv 3) pa_nil))) pa_nil)) pa_nil)) (by rfl))
  (pss_cons (ps_asg (pe_tup (pa_cons (pc_c c_Live hr (pa_cons (pc_g g__law_made hr (pa_cons (pv 3) pa_nil)) pa_nil)) (pa_cons (pv 3) (pa_cons pe_str (pa_cons (pe_lst pa_nil) pa_nil))))) (pg_tup (n := 4) rfl (pgs_cons (pg_name (i := 6) nd rfl (by first | exact Or.inl rfl | exact Or.inr rfl)) (pgs_cons (pg_name (i := 7) nd rfl (by first | exact Or.inl rfl | exact Or.inr rfl)) (pgs_cons (pg_name (i := 8) nd rfl (by first | exact Or.inl rfl | exact Or.inr rfl)) (pgs_cons (pg_name (i := 9) nd rfl (by first | exact Or.inl rfl | exact Or.inr rfl)) pgs_nil))))))
  (pss_cons (ps_set (i := 10) nd rfl (by first | exact Or.inl rfl | exact Or.inr rfl) (pc_g g__law_stood hr (pa_cons (pv 3) (pa_cons pe_str pa_nil))))
  (pss_cons (ps_for PassesOwn.never rfl (pi_range1 (by rfl) T.b_range (pa_cons pe_int pa_nil)) (pg_name (i := 11) nd rfl (by first | exact Or.inl rfl | exact Or.inr rfl))
  (pss_cons (ps_set (i := 12) nd rfl (by first | exact Or.inl rfl | exact Or.inr rfl) (pc_g g__law_choose hr (pa_cons (pv 2) (pa_cons pe_int pa_nil))))
  (pss_cons (ps_if (PW.pt (pw_and (pt_cmpR op_eq (pv 12) pe_int (nomark _)) (pw_and1 (pt_cmpR (op_neD hr.units) (pv 9) (pe_lst pa_nil) (nomark _)))))
  (pss_cons (ps_asg (pe_bm0 PySem.F.plainAttrs_list PySem.F.slot_list_pop PySem.F.type_list_pop mt_pop (pv 9)) (pg_tup (n := 3) rfl (pgs_cons (pg_name (i := 7) nd rfl (by first | exact Or.inl rfl | exact Or.inr rfl)) (pgs_cons (pg_name (i := 10) nd rfl (by first | exact Or.inl rfl | exact Or.inr rfl)) (pgs_cons (pg_name (i := 8) nd rfl (by first | exact Or.inl rfl | exact Or.inr rfl)) pgs_nil)))))
  (pss_one (ps_if (pt_cmpR op_isnot_bl (pc_m0 m_undo T.cL hr (pv 6)) pe_bl (nomark _))
  (pss_one (ps_ret pe_bl))
  pss_nil)))
  (pss_one (ps_if (pt_cmpR op_eq (pv 12) pe_int (nomark _))
  (pss_cons (ps_expr (pe_bm PySem.F.plainAttrs_list PySem.F.slot_list_append PySem.F.type_list_append mt_append (pv 9) (pa_cons (pe_tup (pa_cons (pv 7) (pa_cons (pv 10) (pa_cons (pv 8) pa_nil)))) pa_nil)))
  (pss_cons (ps_set (i := 7) nd rfl (by first | exact Or.inl rfl | exact Or.inr rfl) (pe_ifExp (pt_cmpR (op_eqD hr.units) (pv 7) (pv 3) (nomark _)) (pv 4) (pv 3)))
  (pss_one (ps_if (pt_cmpR op_notN (pc_m m_change T.cL hr (pv 6) (pa_cons (pc_g g__law_made hr (pa_cons (pv 7) pa_nil)) pa_nil)) pe_non (nomark _))
  (pss_one (ps_ret pe_bl))
  pss_nil))))
  (pss_cons (ps_expr (pe_bm PySem.F.plainAttrs_list PySem.F.slot_list_append PySem.F.type_list_append mt_append (pv 9) (pa_cons (pe_tup (pa_cons (pv 7) (pa_cons (pv 10) (pa_cons (pv 8) pa_nil)))) pa_nil)))
  (pss_cons (ps_set (i := 13) nd rfl (by first | exact Or.inl rfl | exact Or.inr rfl) (pc_g g__law_one_of hr (pa_cons (pv 2) (pa_cons (pe_lst (pa_cons pe_str (pa_cons pe_str pa_nil))) pa_nil))))
  (pss_cons (ps_par (i := 10) (j := 8) rfl nd rfl rfl (by decide) rfl rfl (pa_cons (pc_g g__law_led hr (pa_cons (pv 7) (pa_cons (pv 10) (pa_cons (pv 13) pa_nil)))) (pa_cons (pe_op op_add_str (pv 8) (pv 13)) pa_nil)) (by rfl))
  (pss_cons (ps_set (i := 14) nd rfl (by first | exact Or.inl rfl | exact Or.inr rfl) (pc_g g__law_closed hr (pa_cons (pe_ix ix_src (pe_ix ix_src (pv 7) pe_int (fun _ _ => rfl)) (pe_ix ix_src (pv 10) pe_int (fun _ _ => rfl)) (fun _ _ => rfl)) (pa_cons (pe_ix ix_src (pv 10) pe_int (fun _ _ => rfl)) pa_nil))))
  (pss_one (ps_if (pt_cmpR op_ne (pc_m m_take T.cL hr (pv 6) (pa_cons (pv 13) pa_nil)) (pv 14) (nomark _))
  (pss_one (ps_ret pe_bl))
  pss_nil)))))))))
  (pss_cons (ps_if (PW.pt (pw_or (pt_not (pt_val (pc_g g__law_is_right hr (pa_cons (pv 6) (pa_cons (pv 7) (pa_cons (pv 10) (pa_cons (pv 8) pa_nil))))))) (pw_or1 (pt_cmpR op_ne (pe_callB (cr_lenOwn l_Live hr) (by rfl) T.b_len (by decide +kernel) (pa_cons (pv 6) pa_nil)) (pe_callB call_lenS (by rfl) T.b_len (by decide +kernel) (pa_cons (pv 9) pa_nil)) (nomark _)))))
  (pss_one (ps_ret pe_bl))
  pss_nil)
  (pss_cons (ps_if (pt_cmpR op_isnot_bl (pc_m m_within T.cL hr (pv 6) (pa_cons (pe_gl T.v__law_worked) pa_nil)) pe_bl (nomark _))
  (pss_one (ps_ret pe_bl))
  pss_nil)
  (pss_cons (ps_if (pt_not (pt_val (pc_g g__law_is_right hr (pa_cons (pv 6) (pa_cons (pv 7) (pa_cons (pv 10) (pa_cons (pv 8) pa_nil)))))))
  (pss_one (ps_ret pe_bl))
  pss_nil)
  (pss_one (ps_if (pt_cmpR (op_neOwn e_Program T.neP T.mroP hr) (pc_p p_program T.cL hr (pv 6)) (pc_g g__law_made hr (pa_cons (pv 7) pa_nil)) (nomark _))
  (pss_one (ps_ret pe_bl))
  pss_nil))))))))
  (pss_one (ps_if (pt_not (pt_val (pc_g g__law_are_twins hr (pa_cons (pv 2) (pa_cons (pv 3) (pa_cons (pv 5) pa_nil))))))
  (pss_one (ps_ret pe_bl))
  pss_nil)))))))))
  (pss_one (ps_ret pe_bl))), ?_⟩
  clear nd hr
  have sz := sizeL
  walk_at "r"
  refine ⟨.lst a, rfl, _, ha, trivial, ?_⟩
  rw [List.length_map]
  generalize hm : (if (if ((ns.length : Nat) : Int) < 3 then ((ns.length : Nat) : Int) else 3) > 2 then (if ((ns.length : Nat) : Int) < 3 then ((ns.length : Nat) : Int) else 3) else 2) = m
  have hm3 : 0 ≤ m ∧ m ≤ 3 := by
    rw [← hm]
    split <;> split <;> omega
  refine ⟨by omega, by omega, ?_⟩
  refine forB (walk_range (lo := 0) (n := m.toNat)) (fun i σ H' => Same H H' ∧ ∃ x1 x2 x3 x4 x5 x6 x7 x8 x9 x10 x11 x12 x13 x14, σ = [some (.ref a), x1, x2, x3, x4, x5, x6, x7, x8, x9, x10, x11, x12, x13, x14]) ⟨Same.refl _, _, _, _, _, _, _, _, _, _, _, _, _, _, _, rfl⟩ (fun _ _ _ _ _ => trivial) ?_ ?_
  · rintro i x σ H1 H1' hi ⟨s1, x1, x2, x3, x4, x5, x6, x7, x8, x9, x10, x11, x12, x13, x14, rfl⟩ ⟨ee, hx⟩
    subst ee hx
    dsimp only
    rw [Int.zero_add]
    walk_at "r"
    refine ⟨a, ns, i, rfl, Same.seq s1 ha, by omega, fun H2 b s2 nb hb2 => ?_⟩
    have d2 : Dom [b] H2 := fun z hz => by rw [List.mem_singleton.mp hz]; exact hb2.dom
    have nbH : H b = none := s1.free nb
    have s02 := s1.trans s2
    walk_at "n"
    refine ⟨[b], b, rfl, hb2, by simp, d2, fun H3 fv p k3 hb3 rp3 wf w2 h0 => ?_⟩
    have d3 := d2.box k3 hb3
    have s03 := Same.kp s02 k3 (by simpa using nbH)
    walk_at "n"
    refine ⟨[b], b, fv, p, rfl, hb3, by simp, d3, rp3, wf, fun H4 gv q2 k4 hb4 rq4 wq kin => ?_⟩
    have d4 := d3.box k4 hb4
    have s04 := Same.kp s03 k4 (by simpa using nbH)
    have rp4 := rp3.up (hid_kp k4 (by simp))
    refine ⟨[b], b, fv, p, rfl, hb4, by simp, d4, rp4, wf, w2, fun H5 dv q3 dd k5 hb5 rd5 dbl wd => ?_⟩
    have d5 := d4.box k5 hb5
    have s05 := Same.kp s04 k5 (by simpa using nbH)
    have g45 := hid_kp (S := [b]) k5 (by simp)
    have rp5 := rp4.up g45
    have rq5 := rq4.up g45
    refine ⟨[b], dv, q3, rfl, rd5, wd, d5, fun H6 tw s6 ot6 => ?_⟩
    have hb6 := hb5.same s6
    have d6 := d5.same s6
    have s06 := s05.trans s6
    have rp6 := rp5.up (hid_same s6)
    have rq6 := rq5.up (hid_same s6)
    walk_at "n"
    refine ⟨[b], fv, p, rfl, rp6, wf, d6, fun H7 v7 s7 ov7 => ?_⟩
    have d7 := d6.same s7
    have s07 := s06.trans s7
    intro y dx ny nd ne
    obtain ⟨ey, dy, gy⟩ := newI (C := cL K) d7 ny nd
    refine ⟨y :: [b], y, dx, v7, p, rfl, ey, by simp, dy, ov7.up gy, wf, fun H8 k8 l8 => ⟨rfl, Nat.zero_le _, fun L nL => ⟨by decide, fun t nt => ?_⟩⟩⟩
    have s8 := made ny nd k8
    have s08 := s07.trans s8
    have nyH : H y = none := s07.free ny
    have nLH : H L = none := s08.free nL
    have d8 : Dom [y, b] H8 := by
      obtain ⟨dx, fs, e⟩ := l8.ins
      exact .cons e (d7.same s8)
    have nyL : y ≠ L := fun q => by
      obtain ⟨dx, fs, e⟩ := l8.ins
      rw [q, nL] at e
      cases e
    have nyb : y ≠ b := fun q => d7 b (by simp) (by rw [← q]; exact ny)
    have nLb : L ≠ b := fun q => d8 b (by simp) (by rw [← q]; exact nL)
    obtain ⟨H9, h9, s9, d9', eL, _⟩ := newE (S := [y, b]) (.lst []) d8 nL
    rw [h9] at nt ⊢
    have d9 : Dom [L, y, b] H9 := .cons eL d9'
    obtain ⟨H10, h10, s10, d10, et, _⟩ := newE (S := [L, y, b]) (.tup [.ref y, fv, .str "", .ref L]) d9 nt
    rw [h10]
    clear h9 h10
    have s610 : Same H6 H10 := ((s7.trans s8).trans s9).trans s10
    have s010 := s06.trans s610
    have gS : Same (hid [b] H6) (hid [L, y, b] H10) := ((hid_same s7).trans (same_hid1 ny s8)).trans (same_hid1 nL (s9.trans s10))
    have l10 : LvAt K [L, y, b] H10 y [⟨p, (p.m0, p.t0), []⟩] := l8.to (same_hid1 nL (s9.trans s10)) fun o e => (s9.trans s10) _ _ e
    have eL10 := s10 _ _ eL
    have hb10 := hb6.same s610
    have rp10 := rp6.up gS
    have rq10 := rq6.up gS
    have ot10 := ot6.up gS
    have mb : b ∈ [L, y, b] := by simp
    have my : y ∈ [L, y, b] := by simp
    have mL : L ∈ [L, y, b] := by simp
    refine ⟨_, sqT et, rfl, _, _, rfl, _, _, rfl, _, _, rfl, _, _, rfl, rfl, ?_⟩
    clear eL s610 gS l8 d8 d9' d9 s8 s9 s10 ov7 d7 s7 ey dy gy
    generalize hS : [L, y, b] = S at *
    walk_at "n"
    refine ⟨S, fv, p, rfl, rp10, d10, fun H11 nv s11 rn11 => ?_⟩
    walk_at "n"
    refine ⟨by decide, by decide, ?_⟩
    have F : LawFix S H b y L := ⟨mb, my, mL, nyL, nLb, nyb, nbH, nyH, nLH⟩
    have me0 : MemOk p 0 ⟨p, (p.m0, p.t0), []⟩ := ⟨⟨wf, ⟨wf.m0, rfl, fun x hx => ⟨(wf.t0 x hx).1, h0 x hx⟩⟩, fun k hk => by cases hk⟩, Nat.le_refl _, ⟨rfl, rfl, rfl, rfl⟩⟩
    refine forB (walk_range (lo := 0) (n := 16)) (LawInv K S H H11 a b y L (.int (i : Nat)) fv gv tw p) ⟨s010.trans s11, hb10.same s11, d10.same s11, Same.refl _, fv, nv, [], _, [], l10.same s11, s11 _ _ eL10, .nil, rp10.up (hid_same s11), rn11, fun x hx => by simp at hx; rw [hx]; exact me0, Nat.le_refl _, _, _, _, _, rfl⟩ (fun _ _ _ _ _ => trivial) ?_ ?_
    · rintro j x σ H12 H12' hj ⟨s12, hb12, d12, g12, tv, nv', ps, e, es, l12, eL12, aes, rt12, rn12, mok, lps, y11, y12, y13, y14, rfl⟩ ⟨ee, hx⟩
      subst ee hx
      dsimp only
      walk_at "r"
      refine ⟨b, 6, rfl, hb12, by decide, by decide, fun H13 fm k13 hb13 hfm => ?_⟩
      walk_at "n"
      have M13 : LawMid K S H H11 b y L p j H13 tv nv' ps e es := LawMid.box F ⟨s12, hb12, d12, g12, l12, eL12, aes, rt12, rn12, mok, lps⟩ k13 hb13
      refine ⟨rfl, ite2' (fun h0' => ?_) (fun h0' => ?_)⟩
      · refine ⟨Nat.zero_le _, fun t0 nt0 => ?_⟩
        have M14 := M13.same (Same.upd (o := .lst []) nt0)
        have et0 : upd H13 t0 (.lst []) t0 = some (.lst []) := upd_same
        revert M14 et0
        generalize upd H13 t0 (.lst []) = H14
        intro M14 et0
        obtain ⟨ds, kd, kl, kdp⟩ := hasD_all (hasD_of M14.aes fun v x hx r => hasD_mem (rMem.up hid_le r) (mok x (by simp [hx])))
        refine ⟨.list ds, .lst (sqL M14.eL) kd, .list [], .lst (sqL et0) .nil, ?_, rfl, ?_⟩
        · unfold SeqAt.shaped
          rw [show PyData.canLay0 (.list ds) = true by simp only [PyData.canLay0]; exact kl, decide_eq_true (show PyData.depth (.list ds) ≤ 64 by simp only [PyData.depth]; omega)] <;> rfl
        have hne : (!PyData.eqv (.list ds) (.list [])) = true → es ≠ [] := fun h z => by
          subst z
          cases kd
          exact absurd h (by decide)
        refine ite2' (fun hc0 => ?_) (fun hc0 => ?_)
        · obtain ⟨fs, v0, qs, e0, rfl, rfl, rm0, aes0⟩ := all2_end M14.aes (hne hc0)
          refine ⟨.inl ⟨rfl, _, sqL M14.eL⟩, L, _, v0, rfl, rfl, M14.eL, by simp, ?_⟩
          rw [List.dropLast_concat]
          obtain ⟨a0, tv0, nv0, rfl, q1, q2', q3'⟩ := rm0
          have kA : Kp [L] H14 (upd H14 L (.lst fs)) := Kp.upd (by simp)
          have eLA : upd H14 L (.lst fs) L = some (.lst fs) := upd_same
          have bA : BoxAt (upd H14 L (.lst fs)) b := M14.b.eq (upd_ne fun q => F.Lb q.symm)
          revert kA eLA bA
          generalize upd H14 L (.lst fs) = HA
          intro kA eLA bA
          have gA := hid_kp kA (one_in F.mL)
          have sA := Same.kp M14.s kA (by simpa using F.fL)
          have dA : Dom S HA := M14.d.kp kA (fun z hz => by rw [List.mem_singleton.mp hz, eLA]; exact fun q => by cases q)
          have lA := M14.l.kp kA (one_in F.mL) (by simpa using F.yL)
          refine ⟨a0, rfl, _, hsqT (gA _ _ q1), rfl, _, _, rfl, _, _, rfl, _, _, rfl, rfl, ?_⟩
          walk_at "n"
          obtain ⟨dxa, ta, esa, la⟩ := id lA
          refine ⟨_, _, la.y, rfl, ?_⟩
          refine ⟨S, y, qs ++ [e0], e, rfl, lA, F.my, dA, .inr ⟨by simp, fun HB kB lB => ?_⟩⟩
          have gB := hid_kp kB (one_in F.my)
          have MT : LawMid K S H H11 b y L p (j + 1) HB tv0 nv0 qs e0 fs := ⟨Same.kp sA kB (by simpa using F.fy), (let ⟨g', s', eb', q'⟩ := bA; ⟨g', s', kB _ _ (by simpa using fun q => F.yb q.symm) eb', q'⟩),
            dA.kp kB (fun z hz => by obtain ⟨dx, fs, e⟩ := lB.ins; rw [List.mem_singleton.mp hz, e]; exact fun q => by cases q), (M14.g.trans gA).trans gB, lB, kB _ _ (by simpa using F.yL.symm) eLA, aes0.mono fun _ _ z => z.up (gA.trans gB), (q2'.up gA).up gB, (q3'.up gA).up gB,
            fun x hx => (M14.mok x (by simp at hx ⊢; rcases hx with h | h <;> simp [h])).up (by omega), by have := M14.lps; simp at this; omega⟩
          refine ⟨true, rfl, ite_f rfl ?_⟩
          walk_at "n"
          have mE := MT.mok e0 (by simp)
          refine ⟨S, y, tv0, nv0, qs, e0, 1 + 4 * (j + 1), rfl, MT.l, MT.rt, MT.rn, mE.ok, by omega, fun H21 s21 => ⟨true, rfl, ite_f rfl ?_⟩⟩
          have M1 := MT.same s21
          obtain ⟨dxb, tb, esb, lb⟩ := id M1.l
          have hl1 := M1.aes.len
          have hl2 := M1.lps
          refine ⟨_, _, lb.y, S, y, qs ++ [e0], rfl, M1.l, by simp, fun H22 s22 => ?_⟩
          have M2 := M1.same s22
          refine ⟨_, rfl, by rw [List.length_append, List.length_singleton]; omega, .lst L, rfl, _, sqL M2.eL, trivial, rfl, ite_f (by rw [decide_eq_true (by rw [List.length_append, List.length_singleton]; omega)] <;> rfl) ?_⟩
          walk_at "n"
          obtain ⟨dxc, tc, esc, lc⟩ := id M2.l
          refine ⟨_, _, lc.y, rfl, S, y, qs, e0, 1 + 4 * (j + 1), rfl, M2.l, mE.ok, by omega, by have := mE.l; omega, by omega, F.my, M2.d, fun H23 k23 l23 => ?_⟩
          refine ⟨true, rfl, ite_f rfl ?_⟩
          have M3 := M2.live F k23 l23
          walk_at "n"
          refine ⟨S, y, tv0, nv0, qs, e0, 1 + 4 * (j + 1), rfl, M3.l, M3.rt, M3.rn, mE.ok, by omega, fun H24 s24 => ⟨true, rfl, ite_f rfl ?_⟩⟩
          have M4 := M3.same s24
          walk_at "n"
          obtain ⟨dxd, td, esd, ld⟩ := id M4.l
          refine ⟨_, _, ld.y, S, y, qs, e0, rfl, M4.l, fun pv op4 => ?_⟩
          refine ⟨S, tv0, (e0).p, rfl, M4.rt, mE.ok.wf, M4.d, fun H25 rv25 s25 or25 => ?_⟩
          have M5 := M4.same s25
          have op5 := op4.up (hid_same s25)
          obtain ⟨o1, o2, o3, o4, o5, rfl, p5⟩ := id op5
          obtain ⟨u1, u2, u3, u4, u5, rfl, r5⟩ := id or25
          refine ⟨o1, rfl, u1, rfl, o2, u2, _, hid_le _ _ p5.a, _, hid_le _ _ r5.a, ?_⟩
          refine ⟨_, _, (e0).p, rfl, op5.up hid_le, or25.up hid_le, mE.ok.wf, fun H26 s26 => ⟨true, rfl, ite_f rfl ?_⟩⟩
          have M6 := M5.same s26
          exact ⟨M6.s, M6.b, M6.d, M6.g, tv0, nv0, qs, e0, fs, M6.l, M6.eL, M6.aes, M6.rt, M6.rn, M6.mok, M6.lps, _, _, _, _, rfl⟩
        have MX := M14

        refine ⟨rfl, ite2' (fun hc => ?_) (fun hc => ?_)⟩
        · refine ⟨.inl ⟨rfl, _, sqL MX.eL⟩, by decide, fun t nt => ?_⟩
          obtain ⟨eA, AP⟩ := MX.app F nt
          refine ⟨es, eA, by have := MX.aes.len; have := MX.lps; omega, ?_⟩
          revert AP
          generalize upd (upd _ t (.tup [tv, nv', .str (tOf e.hd)])) L (.lst (es ++ [.ref t])) = HA
          intro AP
          generalize es ++ [V.ref t] = es2 at AP
          walk_at "n"
          have me := MX.mok e (by simp)
          obtain ⟨d1, D1, S1⟩ := (hasD_prg (AP.rt.up hid_le) me.ok.wf).sh (by decide)
          have rp11 := (rp10.up (hid_same s11)).up AP.g
          have rq11 := (rq10.up (hid_same s11)).up AP.g
          obtain ⟨d2, D2, S2⟩ := (hasD_prg (rp11.up hid_le) wf).sh (by decide)
          have mk' : ∀ r, WF r → Kin p r → ∀ x ∈ ps ++ [e] ++ [⟨r, e.st, e.hd⟩], MemOk p (j + 1) x := fun r wr kr x hx => by
            rcases List.mem_append.mp hx with h | h
            · exact (MX.mok x h).up (by omega)
            · rw [List.mem_singleton.mp h]; exact (me.chg wr kr).up (by omega)
          refine ⟨d1, D1, d2, D2, S1, S2, ite2' (fun _ => ?_) (fun _ => ?_)⟩
          · walk_at "n"
            obtain ⟨dxa0, ta0, esa0, la0⟩ := id AP.l
            refine ⟨_, _, la0.y, rfl, ?_⟩
            refine ⟨S, gv, q2, rfl, rq11, wq, AP.d, fun HB rv sB oB => ?_⟩
            have lB := AP.l.same sB
            obtain ⟨dxa, ta, esa, la⟩ := id lB
            refine ⟨S, y, ps, e, rv, q2, rfl, lB, oB, Kin.two me.k kin, by have := MX.lps; omega, F.my, AP.d.same sB, fun HC kC lC => ?_⟩
            refine ite_f rfl ?_
            have gC := (hid_same sB).trans (hid_kp kC (one_in F.my))
            have MT : LawMid K S H H11 b y L p (j + 1) HC gv nv' (ps ++ [e]) ⟨q2, e.st, e.hd⟩ es2 := ⟨Same.kp (AP.s.trans sB) kC (by simpa using F.fy), (let ⟨g', s', eb', q'⟩ := AP.b; ⟨g', s', kC _ _ (by simpa using fun q => F.yb q.symm) (sB _ _ eb'), q'⟩),
              (AP.d.same sB).kp kC (fun z hz => by obtain ⟨dx, fs, e⟩ := lC.ins; rw [List.mem_singleton.mp hz, e]; exact fun q => by cases q), AP.g.trans gC, lC, kC _ _ (by simpa using F.yL.symm) (sB _ _ AP.eL), AP.aes.mono fun _ _ z => z.up gC, rq11.up gC, AP.rn.up gC, mk' _ wq kin, by have := MX.lps; simp; omega⟩
            walk_at "n"
            have mE := MT.mok (⟨q2, e.st, e.hd⟩ : Ent) (by simp)
            refine ⟨S, y, gv, nv', (ps ++ [e]), (⟨q2, e.st, e.hd⟩ : Ent), 1 + 4 * (j + 1), rfl, MT.l, MT.rt, MT.rn, mE.ok, by omega, fun H21 s21 => ⟨true, rfl, ite_f rfl ?_⟩⟩
            have M1 := MT.same s21
            obtain ⟨dxb, tb, esb, lb⟩ := id M1.l
            have hl1 := M1.aes.len
            have hl2 := M1.lps
            refine ⟨_, _, lb.y, S, y, (ps ++ [e]) ++ [(⟨q2, e.st, e.hd⟩ : Ent)], rfl, M1.l, by simp, fun H22 s22 => ?_⟩
            have M2 := M1.same s22
            refine ⟨_, rfl, by rw [List.length_append, List.length_singleton]; omega, .lst L, rfl, _, sqL M2.eL, trivial, rfl, ite_f (by rw [decide_eq_true (by rw [List.length_append, List.length_singleton]; omega)] <;> rfl) ?_⟩
            walk_at "n"
            obtain ⟨dxc, tc, esc, lc⟩ := id M2.l
            refine ⟨_, _, lc.y, rfl, S, y, (ps ++ [e]), (⟨q2, e.st, e.hd⟩ : Ent), 1 + 4 * (j + 1), rfl, M2.l, mE.ok, by omega, by have := mE.l; omega, by omega, F.my, M2.d, fun H23 k23 l23 => ?_⟩
            refine ⟨true, rfl, ite_f rfl ?_⟩
            have M3 := M2.live F k23 l23
            walk_at "n"
            refine ⟨S, y, gv, nv', (ps ++ [e]), (⟨q2, e.st, e.hd⟩ : Ent), 1 + 4 * (j + 1), rfl, M3.l, M3.rt, M3.rn, mE.ok, by omega, fun H24 s24 => ⟨true, rfl, ite_f rfl ?_⟩⟩
            have M4 := M3.same s24
            walk_at "n"
            obtain ⟨dxd, td, esd, ld⟩ := id M4.l
            refine ⟨_, _, ld.y, S, y, (ps ++ [e]), (⟨q2, e.st, e.hd⟩ : Ent), rfl, M4.l, fun pv op4 => ?_⟩
            refine ⟨S, gv, ((⟨q2, e.st, e.hd⟩ : Ent)).p, rfl, M4.rt, mE.ok.wf, M4.d, fun H25 rv25 s25 or25 => ?_⟩
            have M5 := M4.same s25
            have op5 := op4.up (hid_same s25)
            obtain ⟨o1, o2, o3, o4, o5, rfl, p5⟩ := id op5
            obtain ⟨u1, u2, u3, u4, u5, rfl, r5⟩ := id or25
            refine ⟨o1, rfl, u1, rfl, o2, u2, _, hid_le _ _ p5.a, _, hid_le _ _ r5.a, ?_⟩
            refine ⟨_, _, ((⟨q2, e.st, e.hd⟩ : Ent)).p, rfl, op5.up hid_le, or25.up hid_le, mE.ok.wf, fun H26 s26 => ⟨true, rfl, ite_f rfl ?_⟩⟩
            have M6 := M5.same s26
            exact ⟨M6.s, M6.b, M6.d, M6.g, gv, nv', (ps ++ [e]), (⟨q2, e.st, e.hd⟩ : Ent), es2, M6.l, M6.eL, M6.aes, M6.rt, M6.rn, M6.mok, M6.lps, _, _, _, _, rfl⟩
          · walk_at "n"
            obtain ⟨dxa0, ta0, esa0, la0⟩ := id AP.l
            refine ⟨_, _, la0.y, rfl, ?_⟩
            refine ⟨S, fv, p, rfl, rp11, wf, AP.d, fun HB rv sB oB => ?_⟩
            have lB := AP.l.same sB
            obtain ⟨dxa, ta, esa, la⟩ := id lB
            refine ⟨S, y, ps, e, rv, p, rfl, lB, oB, Kin.two me.k ⟨rfl, rfl, rfl, rfl⟩, by have := MX.lps; omega, F.my, AP.d.same sB, fun HC kC lC => ?_⟩
            refine ite_f rfl ?_
            have gC := (hid_same sB).trans (hid_kp kC (one_in F.my))
            have MT : LawMid K S H H11 b y L p (j + 1) HC fv nv' (ps ++ [e]) ⟨p, e.st, e.hd⟩ es2 := ⟨Same.kp (AP.s.trans sB) kC (by simpa using F.fy), (let ⟨g', s', eb', q'⟩ := AP.b; ⟨g', s', kC _ _ (by simpa using fun q => F.yb q.symm) (sB _ _ eb'), q'⟩),
              (AP.d.same sB).kp kC (fun z hz => by obtain ⟨dx, fs, e⟩ := lC.ins; rw [List.mem_singleton.mp hz, e]; exact fun q => by cases q), AP.g.trans gC, lC, kC _ _ (by simpa using F.yL.symm) (sB _ _ AP.eL), AP.aes.mono fun _ _ z => z.up gC, rp11.up gC, AP.rn.up gC, mk' _ wf ⟨rfl, rfl, rfl, rfl⟩, by have := MX.lps; simp; omega⟩
            walk_at "n"
            have mE := MT.mok (⟨p, e.st, e.hd⟩ : Ent) (by simp)
            refine ⟨S, y, fv, nv', (ps ++ [e]), (⟨p, e.st, e.hd⟩ : Ent), 1 + 4 * (j + 1), rfl, MT.l, MT.rt, MT.rn, mE.ok, by omega, fun H21 s21 => ⟨true, rfl, ite_f rfl ?_⟩⟩
            have M1 := MT.same s21
            obtain ⟨dxb, tb, esb, lb⟩ := id M1.l
            have hl1 := M1.aes.len
            have hl2 := M1.lps
            refine ⟨_, _, lb.y, S, y, (ps ++ [e]) ++ [(⟨p, e.st, e.hd⟩ : Ent)], rfl, M1.l, by simp, fun H22 s22 => ?_⟩
            have M2 := M1.same s22
            refine ⟨_, rfl, by rw [List.length_append, List.length_singleton]; omega, .lst L, rfl, _, sqL M2.eL, trivial, rfl, ite_f (by rw [decide_eq_true (by rw [List.length_append, List.length_singleton]; omega)] <;> rfl) ?_⟩
            walk_at "n"
            obtain ⟨dxc, tc, esc, lc⟩ := id M2.l
            refine ⟨_, _, lc.y, rfl, S, y, (ps ++ [e]), (⟨p, e.st, e.hd⟩ : Ent), 1 + 4 * (j + 1), rfl, M2.l, mE.ok, by omega, by have := mE.l; omega, by omega, F.my, M2.d, fun H23 k23 l23 => ?_⟩
            refine ⟨true, rfl, ite_f rfl ?_⟩
            have M3 := M2.live F k23 l23
            walk_at "n"
            refine ⟨S, y, fv, nv', (ps ++ [e]), (⟨p, e.st, e.hd⟩ : Ent), 1 + 4 * (j + 1), rfl, M3.l, M3.rt, M3.rn, mE.ok, by omega, fun H24 s24 => ⟨true, rfl, ite_f rfl ?_⟩⟩
            have M4 := M3.same s24
            walk_at "n"
            obtain ⟨dxd, td, esd, ld⟩ := id M4.l
            refine ⟨_, _, ld.y, S, y, (ps ++ [e]), (⟨p, e.st, e.hd⟩ : Ent), rfl, M4.l, fun pv op4 => ?_⟩
            refine ⟨S, fv, ((⟨p, e.st, e.hd⟩ : Ent)).p, rfl, M4.rt, mE.ok.wf, M4.d, fun H25 rv25 s25 or25 => ?_⟩
            have M5 := M4.same s25
            have op5 := op4.up (hid_same s25)
            obtain ⟨o1, o2, o3, o4, o5, rfl, p5⟩ := id op5
            obtain ⟨u1, u2, u3, u4, u5, rfl, r5⟩ := id or25
            refine ⟨o1, rfl, u1, rfl, o2, u2, _, hid_le _ _ p5.a, _, hid_le _ _ r5.a, ?_⟩
            refine ⟨_, _, ((⟨p, e.st, e.hd⟩ : Ent)).p, rfl, op5.up hid_le, or25.up hid_le, mE.ok.wf, fun H26 s26 => ⟨true, rfl, ite_f rfl ?_⟩⟩
            have M6 := M5.same s26
            exact ⟨M6.s, M6.b, M6.d, M6.g, fv, nv', (ps ++ [e]), (⟨p, e.st, e.hd⟩ : Ent), es2, M6.l, M6.eL, M6.aes, M6.rt, M6.rn, M6.mok, M6.lps, _, _, _, _, rfl⟩
        · refine ⟨.inl ⟨rfl, _, sqL MX.eL⟩, by decide, fun t nt => ?_⟩
          obtain ⟨eA, AP⟩ := MX.app F nt
          refine ⟨es, eA, by have := MX.aes.len; have := MX.lps; omega, ?_⟩
          revert AP
          generalize upd (upd _ t (.tup [tv, nv', .str (tOf e.hd)])) L (.lst (es ++ [.ref t])) = HA
          intro AP
          generalize es ++ [V.ref t] = es2 at AP
          walk_at "n"
          refine ⟨by decide, fun u nu => ?_⟩
          obtain ⟨HB, h, sB, dB, eu, _⟩ := newE (S := S) (.lst [.str "x", .str "y"]) AP.d nu
          rw [h]; clear h
          have nub : u ≠ b := fun q => AP.d b F.mb (by rw [← q]; exact nu)
          refine ⟨b, .lst u, _, rfl, AP.b.same sB, trivial, fun H' k => sqL (k _ _ (by simpa using nub) eu), by decide, by (show 2 < 1000000; decide), fun HC i6 x6 kC hbC hx6 => ?_⟩
          obtain ⟨kk, hkk, rfl⟩ : ∃ kk : Nat, kk < 2 ∧ x6 = .str ⟨#[120 + kk]⟩ := by
            match i6, hx6 with
            | 0, hx => cases hx; exact ⟨0, by decide, rfl⟩
            | 1, hx => cases hx; exact ⟨1, by decide, rfl⟩
            | n + 2, hx => simp at hx
          have gC := (hid_same sB).trans (hid_kp kC (one_in F.mb))
          have me := MX.mok e (by simp)
          have dC := dB.box kC hbC
          walk_at "n"
          refine ⟨S, tv, nv', e.p, e.st, kk, 1 + 4 * j, rfl, AP.rt.up gC, AP.rn.up gC, me.ok.wf, me.ok.st, by omega, hkk, dC, fun HD rv sD rD => ?_⟩
          refine ⟨by rw [tOf_len]; show e.hd.length + 1 ≤ sizeLine; have := me.l; omega, ?_⟩
          rw [tOf_app]
          have dD := dC.same sD
          have gD := gC.trans (hid_same sD)
          have mt := me.take hkk
          obtain ⟨ra, rb, rfl, q1, q2'⟩ := id rD
          have rtD := AP.rt.up gD
          obtain ⟨pa, pa1, pa2, pvc, pvd, rfl, op⟩ := id rtD
          obtain ⟨ce, xs, rfl, ece, hxs⟩ := id op.d
          have hm' : (e.p.led e.st kk).1 < e.p.ends.length := by rw [mt.ok.wf.el]; exact mt.ok.st.m
          have hen := List.getElem?_eq_getElem hm'
          obtain ⟨ev, hev, he⟩ := hxs.at hen
          walk_at "n"
          refine ⟨.lst pa, rfl, _, hsqL op.a, trivial, _, rfl, .tup ra, rfl, _, hsqT q1, trivial, _, rfl, .lst ce, rfl, _, ((e.p.led e.st kk).1 : Int), rfl, hsqL ece, trivial, ev, atI_nat hev, .tup ra, rfl, _, hsqT q1, trivial, _, rfl, ?_⟩
          refine ⟨ev, _, rb, (e.p.led e.st kk).2, e.p.signs, rfl, he.up hid_le, hsqT q2', by rw [mt.ok.st.n]; exact mt.ok.wf.en _ (List.getElem_mem hm'), fun x hx => Nat.le_trans (mt.ok.st.t x hx).2 (by omega), ?_⟩
          walk_at "n"
          have lD := AP.l.kp ((Kp.of sB).trans (kC.trans (Kp.of sD))) (one_in F.mb) (by simpa using F.yb)
          obtain ⟨dxa, ta, esa, la⟩ := id lD
          refine ⟨_, _, la.y, rfl, ?_⟩
          refine ⟨S, y, ps, e, 1 + 4 * j, kk, rfl, lD, me.ok, by omega, by have := me.l; omega, hkk, by have := MX.lps; omega, F.my, dD, fun HE kE lE => ?_⟩
          have esh : e.p.shown (e.p.led e.st kk) = (e.p.ends[(e.p.led e.st kk).1]).map fun r => rowText (e.p.led e.st kk).2 r := by unfold Prg.shown; simp [List.getD_eq_getElem?_getD, hen]
          rw [← esh]
          refine ⟨scal_vO _ _, ite_f (by rw [decide_eq_true rfl] <;> rfl) ?_⟩
          have gE := gD.trans (hid_kp kE (one_in F.my))
          have kDE : Kp [b, y] HA HE := (((Kp.of sB).trans (kC.mono (by simp))).trans (Kp.of sD)).trans (kE.mono (by simp))
          have nLs : L ∉ [b, y] := by simp [F.Lb, F.yL.symm]
          have mk2 : ∀ x ∈ ps ++ [e] ++ [⟨e.p, e.p.led e.st kk, e.hd ++ [kk]⟩], MemOk p (j + 1) x := fun x hx => by
            rcases List.mem_append.mp hx with h | h
            · exact (MX.mok x h).up (by omega)
            · rw [List.mem_singleton.mp h]; exact mt
          have MT : LawMid K S H H11 b y L p (j + 1) HE (.ref pa) (.ref ra) (ps ++ [e]) ⟨e.p, e.p.led e.st kk, e.hd ++ [kk]⟩ es2 := ⟨Same.kp AP.s kDE (by intro m hm; simp at hm; rcases hm with rfl | rfl; exact F.fb; exact F.fy), (let ⟨g', s', eb', q'⟩ := hbC; ⟨g', s', kE _ _ (by simpa using fun q => F.yb q.symm) (sD _ _ eb'), q'⟩),
            dD.kp kE (fun z hz => by obtain ⟨dx, fs, e⟩ := lE.ins; rw [List.mem_singleton.mp hz, e]; exact fun q => by cases q), AP.g.trans gE, lE, kDE _ _ nLs AP.eL, AP.aes.mono fun _ _ z => z.up gE, AP.rt.up gE, (rD.up (hid_kp kE (one_in F.my))), mk2, by have := MX.lps; simp; omega⟩
          walk_at "n"
          have mE := MT.mok (⟨e.p, e.p.led e.st kk, e.hd ++ [kk]⟩ : Ent) (by simp)
          refine ⟨S, y, (V.ref pa), (V.ref ra), (ps ++ [e]), (⟨e.p, e.p.led e.st kk, e.hd ++ [kk]⟩ : Ent), 1 + 4 * (j + 1), rfl, MT.l, MT.rt, MT.rn, mE.ok, by omega, fun H21 s21 => ⟨true, rfl, ite_f rfl ?_⟩⟩
          have M1 := MT.same s21
          obtain ⟨dxb, tb, esb, lb⟩ := id M1.l
          have hl1 := M1.aes.len
          have hl2 := M1.lps
          refine ⟨_, _, lb.y, S, y, (ps ++ [e]) ++ [(⟨e.p, e.p.led e.st kk, e.hd ++ [kk]⟩ : Ent)], rfl, M1.l, by simp, fun H22 s22 => ?_⟩
          have M2 := M1.same s22
          refine ⟨_, rfl, by rw [List.length_append, List.length_singleton]; omega, .lst L, rfl, _, sqL M2.eL, trivial, rfl, ite_f (by rw [decide_eq_true (by rw [List.length_append, List.length_singleton]; omega)] <;> rfl) ?_⟩
          walk_at "n"
          obtain ⟨dxc, tc, esc, lc⟩ := id M2.l
          refine ⟨_, _, lc.y, rfl, S, y, (ps ++ [e]), (⟨e.p, e.p.led e.st kk, e.hd ++ [kk]⟩ : Ent), 1 + 4 * (j + 1), rfl, M2.l, mE.ok, by omega, by have := mE.l; omega, by omega, F.my, M2.d, fun H23 k23 l23 => ?_⟩
          refine ⟨true, rfl, ite_f rfl ?_⟩
          have M3 := M2.live F k23 l23
          walk_at "n"
          refine ⟨S, y, (V.ref pa), (V.ref ra), (ps ++ [e]), (⟨e.p, e.p.led e.st kk, e.hd ++ [kk]⟩ : Ent), 1 + 4 * (j + 1), rfl, M3.l, M3.rt, M3.rn, mE.ok, by omega, fun H24 s24 => ⟨true, rfl, ite_f rfl ?_⟩⟩
          have M4 := M3.same s24
          walk_at "n"
          obtain ⟨dxd, td, esd, ld⟩ := id M4.l
          refine ⟨_, _, ld.y, S, y, (ps ++ [e]), (⟨e.p, e.p.led e.st kk, e.hd ++ [kk]⟩ : Ent), rfl, M4.l, fun pv op4 => ?_⟩
          refine ⟨S, (V.ref pa), ((⟨e.p, e.p.led e.st kk, e.hd ++ [kk]⟩ : Ent)).p, rfl, M4.rt, mE.ok.wf, M4.d, fun H25 rv25 s25 or25 => ?_⟩
          have M5 := M4.same s25
          have op5 := op4.up (hid_same s25)
          obtain ⟨o1, o2, o3, o4, o5, rfl, p5⟩ := id op5
          obtain ⟨u1, u2, u3, u4, u5, rfl, r5⟩ := id or25
          refine ⟨o1, rfl, u1, rfl, o2, u2, _, hid_le _ _ p5.a, _, hid_le _ _ r5.a, ?_⟩
          refine ⟨_, _, ((⟨e.p, e.p.led e.st kk, e.hd ++ [kk]⟩ : Ent)).p, rfl, op5.up hid_le, or25.up hid_le, mE.ok.wf, fun H26 s26 => ⟨true, rfl, ite_f rfl ?_⟩⟩
          have M6 := M5.same s26
          exact ⟨M6.s, M6.b, M6.d, M6.g, (V.ref pa), (V.ref ra), (ps ++ [e]), (⟨e.p, e.p.led e.st kk, e.hd ++ [kk]⟩ : Ent), es2, M6.l, M6.eL, M6.aes, M6.rt, M6.rn, M6.mok, M6.lps, _, _, _, _, rfl⟩
      · have MX := M13

        refine ⟨rfl, ite2' (fun hc => ?_) (fun hc => ?_)⟩
        · refine ⟨.inl ⟨rfl, _, sqL MX.eL⟩, by decide, fun t nt => ?_⟩
          obtain ⟨eA, AP⟩ := MX.app F nt
          refine ⟨es, eA, by have := MX.aes.len; have := MX.lps; omega, ?_⟩
          revert AP
          generalize upd (upd _ t (.tup [tv, nv', .str (tOf e.hd)])) L (.lst (es ++ [.ref t])) = HA
          intro AP
          generalize es ++ [V.ref t] = es2 at AP
          walk_at "n"
          have me := MX.mok e (by simp)
          obtain ⟨d1, D1, S1⟩ := (hasD_prg (AP.rt.up hid_le) me.ok.wf).sh (by decide)
          have rp11 := (rp10.up (hid_same s11)).up AP.g
          have rq11 := (rq10.up (hid_same s11)).up AP.g
          obtain ⟨d2, D2, S2⟩ := (hasD_prg (rp11.up hid_le) wf).sh (by decide)
          have mk' : ∀ r, WF r → Kin p r → ∀ x ∈ ps ++ [e] ++ [⟨r, e.st, e.hd⟩], MemOk p (j + 1) x := fun r wr kr x hx => by
            rcases List.mem_append.mp hx with h | h
            · exact (MX.mok x h).up (by omega)
            · rw [List.mem_singleton.mp h]; exact (me.chg wr kr).up (by omega)
          refine ⟨d1, D1, d2, D2, S1, S2, ite2' (fun _ => ?_) (fun _ => ?_)⟩
          · walk_at "n"
            obtain ⟨dxa0, ta0, esa0, la0⟩ := id AP.l
            refine ⟨_, _, la0.y, rfl, ?_⟩
            refine ⟨S, gv, q2, rfl, rq11, wq, AP.d, fun HB rv sB oB => ?_⟩
            have lB := AP.l.same sB
            obtain ⟨dxa, ta, esa, la⟩ := id lB
            refine ⟨S, y, ps, e, rv, q2, rfl, lB, oB, Kin.two me.k kin, by have := MX.lps; omega, F.my, AP.d.same sB, fun HC kC lC => ?_⟩
            refine ite_f rfl ?_
            have gC := (hid_same sB).trans (hid_kp kC (one_in F.my))
            have MT : LawMid K S H H11 b y L p (j + 1) HC gv nv' (ps ++ [e]) ⟨q2, e.st, e.hd⟩ es2 := ⟨Same.kp (AP.s.trans sB) kC (by simpa using F.fy), (let ⟨g', s', eb', q'⟩ := AP.b; ⟨g', s', kC _ _ (by simpa using fun q => F.yb q.symm) (sB _ _ eb'), q'⟩),
              (AP.d.same sB).kp kC (fun z hz => by obtain ⟨dx, fs, e⟩ := lC.ins; rw [List.mem_singleton.mp hz, e]; exact fun q => by cases q), AP.g.trans gC, lC, kC _ _ (by simpa using F.yL.symm) (sB _ _ AP.eL), AP.aes.mono fun _ _ z => z.up gC, rq11.up gC, AP.rn.up gC, mk' _ wq kin, by have := MX.lps; simp; omega⟩
            walk_at "n"
            have mE := MT.mok (⟨q2, e.st, e.hd⟩ : Ent) (by simp)
            refine ⟨S, y, gv, nv', (ps ++ [e]), (⟨q2, e.st, e.hd⟩ : Ent), 1 + 4 * (j + 1), rfl, MT.l, MT.rt, MT.rn, mE.ok, by omega, fun H21 s21 => ⟨true, rfl, ite_f rfl ?_⟩⟩
            have M1 := MT.same s21
            obtain ⟨dxb, tb, esb, lb⟩ := id M1.l
            have hl1 := M1.aes.len
            have hl2 := M1.lps
            refine ⟨_, _, lb.y, S, y, (ps ++ [e]) ++ [(⟨q2, e.st, e.hd⟩ : Ent)], rfl, M1.l, by simp, fun H22 s22 => ?_⟩
            have M2 := M1.same s22
            refine ⟨_, rfl, by rw [List.length_append, List.length_singleton]; omega, .lst L, rfl, _, sqL M2.eL, trivial, rfl, ite_f (by rw [decide_eq_true (by rw [List.length_append, List.length_singleton]; omega)] <;> rfl) ?_⟩
            walk_at "n"
            obtain ⟨dxc, tc, esc, lc⟩ := id M2.l
            refine ⟨_, _, lc.y, rfl, S, y, (ps ++ [e]), (⟨q2, e.st, e.hd⟩ : Ent), 1 + 4 * (j + 1), rfl, M2.l, mE.ok, by omega, by have := mE.l; omega, by omega, F.my, M2.d, fun H23 k23 l23 => ?_⟩
            refine ⟨true, rfl, ite_f rfl ?_⟩
            have M3 := M2.live F k23 l23
            walk_at "n"
            refine ⟨S, y, gv, nv', (ps ++ [e]), (⟨q2, e.st, e.hd⟩ : Ent), 1 + 4 * (j + 1), rfl, M3.l, M3.rt, M3.rn, mE.ok, by omega, fun H24 s24 => ⟨true, rfl, ite_f rfl ?_⟩⟩
            have M4 := M3.same s24
            walk_at "n"
            obtain ⟨dxd, td, esd, ld⟩ := id M4.l
            refine ⟨_, _, ld.y, S, y, (ps ++ [e]), (⟨q2, e.st, e.hd⟩ : Ent), rfl, M4.l, fun pv op4 => ?_⟩
            refine ⟨S, gv, ((⟨q2, e.st, e.hd⟩ : Ent)).p, rfl, M4.rt, mE.ok.wf, M4.d, fun H25 rv25 s25 or25 => ?_⟩
            have M5 := M4.same s25
            have op5 := op4.up (hid_same s25)
            obtain ⟨o1, o2, o3, o4, o5, rfl, p5⟩ := id op5
            obtain ⟨u1, u2, u3, u4, u5, rfl, r5⟩ := id or25
            refine ⟨o1, rfl, u1, rfl, o2, u2, _, hid_le _ _ p5.a, _, hid_le _ _ r5.a, ?_⟩
            refine ⟨_, _, ((⟨q2, e.st, e.hd⟩ : Ent)).p, rfl, op5.up hid_le, or25.up hid_le, mE.ok.wf, fun H26 s26 => ⟨true, rfl, ite_f rfl ?_⟩⟩
            have M6 := M5.same s26
            exact ⟨M6.s, M6.b, M6.d, M6.g, gv, nv', (ps ++ [e]), (⟨q2, e.st, e.hd⟩ : Ent), es2, M6.l, M6.eL, M6.aes, M6.rt, M6.rn, M6.mok, M6.lps, _, _, _, _, rfl⟩
          · walk_at "n"
            obtain ⟨dxa0, ta0, esa0, la0⟩ := id AP.l
            refine ⟨_, _, la0.y, rfl, ?_⟩
            refine ⟨S, fv, p, rfl, rp11, wf, AP.d, fun HB rv sB oB => ?_⟩
            have lB := AP.l.same sB
            obtain ⟨dxa, ta, esa, la⟩ := id lB
            refine ⟨S, y, ps, e, rv, p, rfl, lB, oB, Kin.two me.k ⟨rfl, rfl, rfl, rfl⟩, by have := MX.lps; omega, F.my, AP.d.same sB, fun HC kC lC => ?_⟩
            refine ite_f rfl ?_
            have gC := (hid_same sB).trans (hid_kp kC (one_in F.my))
            have MT : LawMid K S H H11 b y L p (j + 1) HC fv nv' (ps ++ [e]) ⟨p, e.st, e.hd⟩ es2 := ⟨Same.kp (AP.s.trans sB) kC (by simpa using F.fy), (let ⟨g', s', eb', q'⟩ := AP.b; ⟨g', s', kC _ _ (by simpa using fun q => F.yb q.symm) (sB _ _ eb'), q'⟩),
              (AP.d.same sB).kp kC (fun z hz => by obtain ⟨dx, fs, e⟩ := lC.ins; rw [List.mem_singleton.mp hz, e]; exact fun q => by cases q), AP.g.trans gC, lC, kC _ _ (by simpa using F.yL.symm) (sB _ _ AP.eL), AP.aes.mono fun _ _ z => z.up gC, rp11.up gC, AP.rn.up gC, mk' _ wf ⟨rfl, rfl, rfl, rfl⟩, by have := MX.lps; simp; omega⟩
            walk_at "n"
            have mE := MT.mok (⟨p, e.st, e.hd⟩ : Ent) (by simp)
            refine ⟨S, y, fv, nv', (ps ++ [e]), (⟨p, e.st, e.hd⟩ : Ent), 1 + 4 * (j + 1), rfl, MT.l, MT.rt, MT.rn, mE.ok, by omega, fun H21 s21 => ⟨true, rfl, ite_f rfl ?_⟩⟩
            have M1 := MT.same s21
            obtain ⟨dxb, tb, esb, lb⟩ := id M1.l
            have hl1 := M1.aes.len
            have hl2 := M1.lps
            refine ⟨_, _, lb.y, S, y, (ps ++ [e]) ++ [(⟨p, e.st, e.hd⟩ : Ent)], rfl, M1.l, by simp, fun H22 s22 => ?_⟩
            have M2 := M1.same s22
            refine ⟨_, rfl, by rw [List.length_append, List.length_singleton]; omega, .lst L, rfl, _, sqL M2.eL, trivial, rfl, ite_f (by rw [decide_eq_true (by rw [List.length_append, List.length_singleton]; omega)] <;> rfl) ?_⟩
            walk_at "n"
            obtain ⟨dxc, tc, esc, lc⟩ := id M2.l
            refine ⟨_, _, lc.y, rfl, S, y, (ps ++ [e]), (⟨p, e.st, e.hd⟩ : Ent), 1 + 4 * (j + 1), rfl, M2.l, mE.ok, by omega, by have := mE.l; omega, by omega, F.my, M2.d, fun H23 k23 l23 => ?_⟩
            refine ⟨true, rfl, ite_f rfl ?_⟩
            have M3 := M2.live F k23 l23
            walk_at "n"
            refine ⟨S, y, fv, nv', (ps ++ [e]), (⟨p, e.st, e.hd⟩ : Ent), 1 + 4 * (j + 1), rfl, M3.l, M3.rt, M3.rn, mE.ok, by omega, fun H24 s24 => ⟨true, rfl, ite_f rfl ?_⟩⟩
            have M4 := M3.same s24
            walk_at "n"
            obtain ⟨dxd, td, esd, ld⟩ := id M4.l
            refine ⟨_, _, ld.y, S, y, (ps ++ [e]), (⟨p, e.st, e.hd⟩ : Ent), rfl, M4.l, fun pv op4 => ?_⟩
            refine ⟨S, fv, ((⟨p, e.st, e.hd⟩ : Ent)).p, rfl, M4.rt, mE.ok.wf, M4.d, fun H25 rv25 s25 or25 => ?_⟩
            have M5 := M4.same s25
            have op5 := op4.up (hid_same s25)
            obtain ⟨o1, o2, o3, o4, o5, rfl, p5⟩ := id op5
            obtain ⟨u1, u2, u3, u4, u5, rfl, r5⟩ := id or25
            refine ⟨o1, rfl, u1, rfl, o2, u2, _, hid_le _ _ p5.a, _, hid_le _ _ r5.a, ?_⟩
            refine ⟨_, _, ((⟨p, e.st, e.hd⟩ : Ent)).p, rfl, op5.up hid_le, or25.up hid_le, mE.ok.wf, fun H26 s26 => ⟨true, rfl, ite_f rfl ?_⟩⟩
            have M6 := M5.same s26
            exact ⟨M6.s, M6.b, M6.d, M6.g, fv, nv', (ps ++ [e]), (⟨p, e.st, e.hd⟩ : Ent), es2, M6.l, M6.eL, M6.aes, M6.rt, M6.rn, M6.mok, M6.lps, _, _, _, _, rfl⟩
        · refine ⟨.inl ⟨rfl, _, sqL MX.eL⟩, by decide, fun t nt => ?_⟩
          obtain ⟨eA, AP⟩ := MX.app F nt
          refine ⟨es, eA, by have := MX.aes.len; have := MX.lps; omega, ?_⟩
          revert AP
          generalize upd (upd _ t (.tup [tv, nv', .str (tOf e.hd)])) L (.lst (es ++ [.ref t])) = HA
          intro AP
          generalize es ++ [V.ref t] = es2 at AP
          walk_at "n"
          refine ⟨by decide, fun u nu => ?_⟩
          obtain ⟨HB, h, sB, dB, eu, _⟩ := newE (S := S) (.lst [.str "x", .str "y"]) AP.d nu
          rw [h]; clear h
          have nub : u ≠ b := fun q => AP.d b F.mb (by rw [← q]; exact nu)
          refine ⟨b, .lst u, _, rfl, AP.b.same sB, trivial, fun H' k => sqL (k _ _ (by simpa using nub) eu), by decide, by (show 2 < 1000000; decide), fun HC i6 x6 kC hbC hx6 => ?_⟩
          obtain ⟨kk, hkk, rfl⟩ : ∃ kk : Nat, kk < 2 ∧ x6 = .str ⟨#[120 + kk]⟩ := by
            match i6, hx6 with
            | 0, hx => cases hx; exact ⟨0, by decide, rfl⟩
            | 1, hx => cases hx; exact ⟨1, by decide, rfl⟩
            | n + 2, hx => simp at hx
          have gC := (hid_same sB).trans (hid_kp kC (one_in F.mb))
          have me := MX.mok e (by simp)
          have dC := dB.box kC hbC
          walk_at "n"
          refine ⟨S, tv, nv', e.p, e.st, kk, 1 + 4 * j, rfl, AP.rt.up gC, AP.rn.up gC, me.ok.wf, me.ok.st, by omega, hkk, dC, fun HD rv sD rD => ?_⟩
          refine ⟨by rw [tOf_len]; show e.hd.length + 1 ≤ sizeLine; have := me.l; omega, ?_⟩
          rw [tOf_app]
          have dD := dC.same sD
          have gD := gC.trans (hid_same sD)
          have mt := me.take hkk
          obtain ⟨ra, rb, rfl, q1, q2'⟩ := id rD
          have rtD := AP.rt.up gD
          obtain ⟨pa, pa1, pa2, pvc, pvd, rfl, op⟩ := id rtD
          obtain ⟨ce, xs, rfl, ece, hxs⟩ := id op.d
          have hm' : (e.p.led e.st kk).1 < e.p.ends.length := by rw [mt.ok.wf.el]; exact mt.ok.st.m
          have hen := List.getElem?_eq_getElem hm'
          obtain ⟨ev, hev, he⟩ := hxs.at hen
          walk_at "n"
          refine ⟨.lst pa, rfl, _, hsqL op.a, trivial, _, rfl, .tup ra, rfl, _, hsqT q1, trivial, _, rfl, .lst ce, rfl, _, ((e.p.led e.st kk).1 : Int), rfl, hsqL ece, trivial, ev, atI_nat hev, .tup ra, rfl, _, hsqT q1, trivial, _, rfl, ?_⟩
          refine ⟨ev, _, rb, (e.p.led e.st kk).2, e.p.signs, rfl, he.up hid_le, hsqT q2', by rw [mt.ok.st.n]; exact mt.ok.wf.en _ (List.getElem_mem hm'), fun x hx => Nat.le_trans (mt.ok.st.t x hx).2 (by omega), ?_⟩
          walk_at "n"
          have lD := AP.l.kp ((Kp.of sB).trans (kC.trans (Kp.of sD))) (one_in F.mb) (by simpa using F.yb)
          obtain ⟨dxa, ta, esa, la⟩ := id lD
          refine ⟨_, _, la.y, rfl, ?_⟩
          refine ⟨S, y, ps, e, 1 + 4 * j, kk, rfl, lD, me.ok, by omega, by have := me.l; omega, hkk, by have := MX.lps; omega, F.my, dD, fun HE kE lE => ?_⟩
          have esh : e.p.shown (e.p.led e.st kk) = (e.p.ends[(e.p.led e.st kk).1]).map fun r => rowText (e.p.led e.st kk).2 r := by unfold Prg.shown; simp [List.getD_eq_getElem?_getD, hen]
          rw [← esh]
          refine ⟨scal_vO _ _, ite_f (by rw [decide_eq_true rfl] <;> rfl) ?_⟩
          have gE := gD.trans (hid_kp kE (one_in F.my))
          have kDE : Kp [b, y] HA HE := (((Kp.of sB).trans (kC.mono (by simp))).trans (Kp.of sD)).trans (kE.mono (by simp))
          have nLs : L ∉ [b, y] := by simp [F.Lb, F.yL.symm]
          have mk2 : ∀ x ∈ ps ++ [e] ++ [⟨e.p, e.p.led e.st kk, e.hd ++ [kk]⟩], MemOk p (j + 1) x := fun x hx => by
            rcases List.mem_append.mp hx with h | h
            · exact (MX.mok x h).up (by omega)
            · rw [List.mem_singleton.mp h]; exact mt
          have MT : LawMid K S H H11 b y L p (j + 1) HE (.ref pa) (.ref ra) (ps ++ [e]) ⟨e.p, e.p.led e.st kk, e.hd ++ [kk]⟩ es2 := ⟨Same.kp AP.s kDE (by intro m hm; simp at hm; rcases hm with rfl | rfl; exact F.fb; exact F.fy), (let ⟨g', s', eb', q'⟩ := hbC; ⟨g', s', kE _ _ (by simpa using fun q => F.yb q.symm) (sD _ _ eb'), q'⟩),
            dD.kp kE (fun z hz => by obtain ⟨dx, fs, e⟩ := lE.ins; rw [List.mem_singleton.mp hz, e]; exact fun q => by cases q), AP.g.trans gE, lE, kDE _ _ nLs AP.eL, AP.aes.mono fun _ _ z => z.up gE, AP.rt.up gE, (rD.up (hid_kp kE (one_in F.my))), mk2, by have := MX.lps; simp; omega⟩
          walk_at "n"
          have mE := MT.mok (⟨e.p, e.p.led e.st kk, e.hd ++ [kk]⟩ : Ent) (by simp)
          refine ⟨S, y, (V.ref pa), (V.ref ra), (ps ++ [e]), (⟨e.p, e.p.led e.st kk, e.hd ++ [kk]⟩ : Ent), 1 + 4 * (j + 1), rfl, MT.l, MT.rt, MT.rn, mE.ok, by omega, fun H21 s21 => ⟨true, rfl, ite_f rfl ?_⟩⟩
          have M1 := MT.same s21
          obtain ⟨dxb, tb, esb, lb⟩ := id M1.l
          have hl1 := M1.aes.len
          have hl2 := M1.lps
          refine ⟨_, _, lb.y, S, y, (ps ++ [e]) ++ [(⟨e.p, e.p.led e.st kk, e.hd ++ [kk]⟩ : Ent)], rfl, M1.l, by simp, fun H22 s22 => ?_⟩
          have M2 := M1.same s22
          refine ⟨_, rfl, by rw [List.length_append, List.length_singleton]; omega, .lst L, rfl, _, sqL M2.eL, trivial, rfl, ite_f (by rw [decide_eq_true (by rw [List.length_append, List.length_singleton]; omega)] <;> rfl) ?_⟩
          walk_at "n"
          obtain ⟨dxc, tc, esc, lc⟩ := id M2.l
          refine ⟨_, _, lc.y, rfl, S, y, (ps ++ [e]), (⟨e.p, e.p.led e.st kk, e.hd ++ [kk]⟩ : Ent), 1 + 4 * (j + 1), rfl, M2.l, mE.ok, by omega, by have := mE.l; omega, by omega, F.my, M2.d, fun H23 k23 l23 => ?_⟩
          refine ⟨true, rfl, ite_f rfl ?_⟩
          have M3 := M2.live F k23 l23
          walk_at "n"
          refine ⟨S, y, (V.ref pa), (V.ref ra), (ps ++ [e]), (⟨e.p, e.p.led e.st kk, e.hd ++ [kk]⟩ : Ent), 1 + 4 * (j + 1), rfl, M3.l, M3.rt, M3.rn, mE.ok, by omega, fun H24 s24 => ⟨true, rfl, ite_f rfl ?_⟩⟩
          have M4 := M3.same s24
          walk_at "n"
          obtain ⟨dxd, td, esd, ld⟩ := id M4.l
          refine ⟨_, _, ld.y, S, y, (ps ++ [e]), (⟨e.p, e.p.led e.st kk, e.hd ++ [kk]⟩ : Ent), rfl, M4.l, fun pv op4 => ?_⟩
          refine ⟨S, (V.ref pa), ((⟨e.p, e.p.led e.st kk, e.hd ++ [kk]⟩ : Ent)).p, rfl, M4.rt, mE.ok.wf, M4.d, fun H25 rv25 s25 or25 => ?_⟩
          have M5 := M4.same s25
          have op5 := op4.up (hid_same s25)
          obtain ⟨o1, o2, o3, o4, o5, rfl, p5⟩ := id op5
          obtain ⟨u1, u2, u3, u4, u5, rfl, r5⟩ := id or25
          refine ⟨o1, rfl, u1, rfl, o2, u2, _, hid_le _ _ p5.a, _, hid_le _ _ r5.a, ?_⟩
          refine ⟨_, _, ((⟨e.p, e.p.led e.st kk, e.hd ++ [kk]⟩ : Ent)).p, rfl, op5.up hid_le, or25.up hid_le, mE.ok.wf, fun H26 s26 => ⟨true, rfl, ite_f rfl ?_⟩⟩
          have M6 := M5.same s26
          exact ⟨M6.s, M6.b, M6.d, M6.g, (V.ref pa), (V.ref ra), (ps ++ [e]), (⟨e.p, e.p.led e.st kk, e.hd ++ [kk]⟩ : Ent), es2, M6.l, M6.eL, M6.aes, M6.rt, M6.rn, M6.mok, M6.lps, _, _, _, _, rfl⟩
    · rintro σ H12 ⟨s12, hb12, d12, g12, tv, nv', ps, e, es, l12, eL12, aes, rt12, rn12, mok, lps, y11, y12, y13, y14, rfl⟩
      walk_at "n"
      walk_at "n"
      refine ⟨S, b, fv, tw, p, q3, dd, rfl, hb12, mb, d12, (rp10.up (hid_same s11)).up g12, (ot10.up (hid_same s11)).up g12, wf, wd, dbl, h0, fun HZ kZ hbZ => ⟨true, rfl, ite_f rfl ?_⟩⟩
      exact Same.kp s12 kZ (by simpa using nbH)
  · rintro σ H1 ⟨s1, x1, x2, x3, x4, x5, x6, x7, x8, x9, x10, x11, x12, x13, x14, rfl⟩
    walk_at "n"
    exact q _
end Gt

set_option Elab.async false
set_option linter.all false
set_option maxRecDepth 100000
set_option maxHeartbeats 2000000
namespace Gt
open PySem PySem.Spec PyProof.Rows L2 StX
theorem chain {P : Program} {w : World} {K : PySem.W.Frag} {mg : Str → Option Value} {base : Heap} (T : Glo K mg) {fL : Addr} {fdL : FuncData} {gR pR : Addr} {mc : Value} (rP : ClX.CRead K (cP K) mc) (kR : ClX.CMet K (cP K) mc "read" pR gR)
    (D_is_integer : Def K mg "is_integer" (top 23) ["value"])
    (D_is_number : Def K mg "is_number" (top 24) ["value"])
    (D_is_below : Def K mg "is_below" (top 28) ["value", "many"])
    (D_is_sequence : Def K mg "is_sequence" (top 25) ["value"])
    (D_is_text : Def K mg "is_text" (top 26) ["signs", "value"])
    (D_is_signs : Def K mg "is_signs" (top 27) ["value"])
    (D_number_in : Def K mg "number_in" (top 29) ["word"])
    (D_Setting_UinitU : Ini K mg "Setting" (cls_Setting K) "Setting.__init__" (inClass (top 31) 0) ["self", "source", "head", "tail", "is_turned"] [.str "", .bl false])
    (D_Setting_over : Mth K (cls_Setting K) "over" "Setting.over" (inClass (top 31) 2) ["self", "text"])
    (D_Setting_UstrU : Spc K (cls_Setting K) "__str__" "Setting.__str__" (inClass (top 31) 5) ["self"])
    (D_is_setting : Def K mg "is_setting" (top 33) ["signs", "value"])
    (D_setting_in : Def K mg "setting_in" (top 32) ["text"])
    (D_text_word : Def K mg "text_word" (top 43) ["text"])
    (D_part_text : Def K mg "part_text" (top 44) ["part"])
    (D_part_in : Def K mg "part_in" (top 45) ["word"])
    (D_is_part : Def K mg "is_part" (top 36) ["signs", "boxes", "value"])
    (D_is_way : Def K mg "is_way" (top 37) ["signs", "many", "value"])
    (D_is_begin : Def K mg "is_begin" (top 39) ["signs", "many", "value"])
    (D_are_ways : Def K mg "are_ways" (top 38) ["signs", "letters", "value"])
    (D_do_fit : Def K mg "do_fit" (top 40) ["boxes", "ways"])
    (D_are_ends : Def K mg "are_ends" (top 41) ["signs", "boxes", "many", "value"])
    (D_wrong_word : Def K mg "wrong_word" (top 42) ["signs", "letters", "begin", "ways", "ends"])
    (D_Program_UinitU : Ini K mg "Program" (cls_Program K) "Program.__init__" (inClass (top 46) 0) ["self", "signs", "letters", "begin", "ways", "ends"] [])
    (D_Program_UstrU : Spc K (cls_Program K) "__str__" "Program.__str__" (inClass (top 46) 5) ["self"])
    (D_Reader_UinitU : Ini K mg "Reader" (cls_Reader K) "Reader.__init__" (inClass (top 47) 0) ["self", "lines"] [])
    (D_Reader_need : Mth K (cls_Reader K) "need" "Reader.need" (inClass (top 47) 1) ["self", "is_fit"])
    (D_Reader_words : Mth K (cls_Reader K) "words" "Reader.words" (inClass (top 47) 2) ["self"])
    (D_Reader_first_line : Mth K (cls_Reader K) "first_line" "Reader.first_line" (inClass (top 47) 4) ["self"])
    (D_Reader_begin_line : Mth K (cls_Reader K) "begin_line" "Reader.begin_line" (inClass (top 47) 5) ["self"])
    (D_Reader_one_mode : Mth K (cls_Reader K) "one_mode" "Reader.one_mode" (inClass (top 47) 6) ["self"])
    (D_Reader_end_line : Mth K (cls_Reader K) "end_line" "Reader.end_line" (inClass (top 47) 7) ["self", "mode"])
    (D_Reader_all_lines : Mth K (cls_Reader K) "all_lines" "Reader.all_lines" (inClass (top 47) 3) ["self"])
    (D_Program_read : Adr K gR "read" "Program.read" (inClass (top 46) 1) ["cls", "text"])
    (D_Program_UeqU : Spc K (cls_Program K) "__eq__" "Program.__eq__" (inClass (top 46) 4) ["self", "other"])
    (D_need_input : Def K mg "need_input" (top 10) ["letters", "text"])
    (D_led : Def K mg "led" (top 11) ["program", "standing", "letter"])
    (D_stand : Def K mg "stand" (top 12) ["program", "text"])
    (D_row_text : Def K mg "row_text" (top 13) ["row", "texts"])
    (D_written_at : Def K mg "written_at" (top 14) ["program", "standing"])
    (D_write : Def K mg "write" (top 15) ["program", "text"])
    (D_unlike_word : Def K mg "unlike_word" (top 18) ["p", "q"])
    (D_behind : Def K mg "behind" (top 49) ["program", "text"])
    (D_Live_UinitU : Ini K mg "Live" (cls_Live K) "Live.__init__" (inClass (top 19) 0) ["self", "program"] [])
    (D_Live_program : Prp K (cls_Live K) "program" "Live.program" (inClass (top 19) 1) ["self"])
    (D_Live_spot : Prp K (cls_Live K) "spot" "Live.spot" (inClass (top 19) 2) ["self"])
    (D_Live_texts : Prp K (cls_Live K) "texts" "Live.texts" (inClass (top 19) 3) ["self"])
    (D_Live_heard : Prp K (cls_Live K) "heard" "Live.heard" (inClass (top 19) 4) ["self"])
    (D_Live_shown : Prp K (cls_Live K) "shown" "Live.shown" (inClass (top 19) 5) ["self"])
    (D_Live_is_letter : Mth K (cls_Live K) "is_letter" "Live.is_letter" (inClass (top 19) 6) ["self", "value"])
    (D_Live_go_on : Mth K (cls_Live K) "go_on" "Live.go_on" (inClass (top 19) 8) ["self", "letters"])
    (D_Live_take : Mth K (cls_Live K) "take" "Live.take" (inClass (top 19) 7) ["self", "letter"])
    (D_Live_several : Mth K (cls_Live K) "several" "Live.several" (inClass (top 19) 9) ["self", "letters"])
    (D_Live_change : Mth K (cls_Live K) "change" "Live.change" (inClass (top 19) 10) ["self", "program"])
    (D_Live_undo : Mth K (cls_Live K) "undo" "Live.undo" (inClass (top 19) 11) ["self"])
    (D_Live_UlenU : Spc K (cls_Live K) "__len__" "Live.__len__" (inClass (top 19) 13) ["self"])
    (D_Block_UinitU : Ini K mg "Block" (cls_Block K) "Block.__init__" (inClass (top 17) 0) ["self", "live"] [])
    (D_Block_UenterU : Spc K (cls_Block K) "__enter__" "Block.__enter__" (inClass (top 17) 1) ["self"])
    (D_Block_UexitU : Spc K (cls_Block K) "__exit__" "Block.__exit__" (inClass (top 17) 2) ["self", "kind", "value", "trace"])
    (D__law_worked : Adr K (aW K) "_law_worked" "_law_worked" (top 76) ["_law_inner"])
    (D_Live_within : Mth K (cls_Live K) "within" "Live.within" (inClass (top 19) 12) ["self", "work"])
    (D__law_seed : Def K mg "_law_seed" (top 51) ["_law_script", "_law_k"])
    (D__law_choose : Def K mg "_law_choose" (top 52) ["_law_box", "_law_many"])
    (D__law_one_of : Def K mg "_law_one_of" (top 53) ["_law_box", "_law_some"])
    (D__law_told : Def K mg "_law_told" (top 55) ["_law_box", "_law_marks", "_law_most"])
    (D__law_set : Def K mg "_law_set" (top 56) ["_law_box", "_law_marks", "_law_cells"])
    (D__law_close : Def K mg "_law_close" (top 57) ["_law_box", "_law_marks", "_law_cells"])
    (D__law_drawn : Def K mg "_law_drawn" (top 58) ["_law_box", "_law_moods", "_law_cells", "_law_keys"])
    (D__law_set_text : Def K mg "_law_set_text" (top 59) ["_law_one"])
    (D__law_part_text : Def K mg "_law_part_text" (top 60) ["_law_part"])
    (D__law_text : Def K mg "_law_text" (top 61) ["_law_told_here"])
    (D__law_made : Def K mg "_law_made" (top 62) ["_law_told_here"])
    (D__law_over : Def K mg "_law_over" (top 63) ["_law_one", "_law_cells"])
    (D__law_led : Def K mg "_law_led" (top 64) ["_law_told_here", "_law_now", "_law_key"])
    (D__law_stood : Def K mg "_law_stood" (top 65) ["_law_told_here", "_law_keys"])
    (D__law_closed : Def K mg "_law_closed" (top 66) ["_law_close_here", "_law_cells"])
    (D__law_doubled : Def K mg "_law_doubled" (top 72) ["_law_box", "_law_told_here"])
    (D__law_bent : Def K mg "_law_bent" (top 73) ["_law_box", "_law_told_here"])
    (D__law_is_right : Def K mg "_law_is_right" (top 74) ["_law_live", "_law_told_here", "_law_now", "_law_heard"])
    (D__law_are_twins : Def K mg "_law_are_twins" (top 75) ["_law_box", "_law_first", "_law_twin"])
    (D_law : FunD K "law" "law" (defArgs (top 77)) (defBody (top 77)) (defScope (top 77)) [] [] fL fdL) : FnOk P w K mg base CX0 12 fL fdL ["_law_script"] (sp_law K) := by
  have g_is_integer := ok_is_integer (P := P) (w := w) (base := base) D_is_integer T
  have g_is_number := ok_is_number (P := P) (w := w) (base := base) D_is_number T g_is_integer
  have g_is_below := ok_is_below (P := P) (w := w) (base := base) D_is_below T g_is_number
  have g_is_sequence := ok_is_sequence (P := P) (w := w) (base := base) D_is_sequence T
  have g_is_text := ok_is_text (P := P) (w := w) (base := base) D_is_text T
  have g_is_signs := ok_is_signs (P := P) (w := w) (base := base) D_is_signs T g_is_text
  have g_number_in := ok_number_in (P := P) (w := w) (base := base) D_number_in T
  have c2 := ok_Setting_UinitU (P := P) (w := w) (base := base) D_Setting_UinitU T g_is_number g_is_text
  have c_Setting4 := c2.1
  have c_Setting2 := c2.2
  have m_over := ok_Setting_over (P := P) (w := w) (base := base) D_Setting_over T
  have s_Setting := ok_Setting_UstrU (P := P) (w := w) (base := base) D_Setting_UstrU T
  have g_is_setting := ok_is_setting (P := P) (w := w) (base := base) D_is_setting T g_is_text
  have g_setting_in := ok_setting_in (P := P) (w := w) (base := base) D_setting_in T g_is_text c_Setting2 g_number_in c_Setting4
  have g_text_word := ok_text_word (P := P) (w := w) (base := base) D_text_word T
  have g_part_text := ok_part_text (P := P) (w := w) (base := base) D_part_text T
  have g_part_in := ok_part_in (P := P) (w := w) (base := base) D_part_in T g_is_text g_number_in
  have g_is_part := ok_is_part (P := P) (w := w) (base := base) D_is_part T g_is_text g_is_below
  have g_is_way := ok_is_way (P := P) (w := w) (base := base) D_is_way T g_is_below g_is_sequence g_is_setting
  have g_is_begin := ok_is_begin (P := P) (w := w) (base := base) D_is_begin T g_is_below g_is_sequence g_is_text
  have g_are_ways := ok_are_ways (P := P) (w := w) (base := base) D_are_ways T g_is_sequence g_is_way
  have g_do_fit := ok_do_fit (P := P) (w := w) (base := base) D_do_fit T
  have g_are_ends := ok_are_ends (P := P) (w := w) (base := base) D_are_ends T g_is_sequence g_is_part
  have g_wrong_word := ok_wrong_word (P := P) (w := w) (base := base) D_wrong_word T g_is_signs g_are_ways g_is_begin g_do_fit g_are_ends
  have c_Program := (ok_Program_UinitU (P := P) (w := w) (base := base) D_Program_UinitU T g_wrong_word).1
  have s_Program := ok_Program_UstrU (P := P) (w := w) (base := base) D_Program_UstrU T g_text_word s_Setting g_part_text
  have c_Reader := (ok_Reader_UinitU (P := P) (w := w) (base := base) D_Reader_UinitU T).1
  have m_need := ok_Reader_need (P := P) (w := w) (base := base) D_Reader_need T
  have m_words := ok_Reader_words (P := P) (w := w) (base := base) D_Reader_words T m_need
  have m_first_line := ok_Reader_first_line (P := P) (w := w) (base := base) D_Reader_first_line T m_words m_need g_is_text
  have m_begin_line := ok_Reader_begin_line (P := P) (w := w) (base := base) D_Reader_begin_line T m_words m_need g_number_in g_is_text
  have m_one_mode := ok_Reader_one_mode (P := P) (w := w) (base := base) D_Reader_one_mode T m_words m_need g_setting_in g_number_in
  have g_number_in2 := ok_number_in2 (P := P) (w := w) (base := base) D_number_in T
  have g_part_in2 := ok_part_in2 (P := P) (w := w) (base := base) D_part_in T g_is_text g_number_in2
  have m_end_line := ok_Reader_end_line (P := P) (w := w) (base := base) D_Reader_end_line T m_words m_need (GF.or g_part_in g_part_in2)
  have m_all_lines := ok_Reader_all_lines (P := P) (w := w) (base := base) D_Reader_all_lines T m_first_line m_begin_line m_one_mode m_end_line m_need
  have k_read := ok_Program_read (P := P) (w := w) (base := base) D_Program_read T c_Reader m_all_lines c_Program
  have e_Program := ok_Program_UeqU (P := P) (w := w) (base := base) D_Program_UeqU T s_Program
  have g_need_input := ok_need_input (P := P) (w := w) (base := base) D_need_input T
  have g_led := ok_led (P := P) (w := w) (base := base) D_led T m_over
  have g_stand := ok_stand (P := P) (w := w) (base := base) D_stand T g_need_input g_led
  have g_row_text := ok_row_text (P := P) (w := w) (base := base) D_row_text T
  have g_written_at := ok_written_at (P := P) (w := w) (base := base) D_written_at T g_row_text
  have g_write := ok_write (P := P) (w := w) (base := base) D_write T g_written_at g_stand
  have g_unlike_word := ok_unlike_word (P := P) (w := w) (base := base) D_unlike_word T
  have g_behind := ok_behind (P := P) (w := w) (base := base) D_behind T c_Program g_stand
  have c_Live := (ok_Live_UinitU (P := P) (w := w) (base := base) D_Live_UinitU T g_stand).1
  have p_program := ok_Live_program (P := P) (w := w) (base := base) D_Live_program T
  have p_spot := ok_Live_spot (P := P) (w := w) (base := base) D_Live_spot T
  have p_texts := ok_Live_texts (P := P) (w := w) (base := base) D_Live_texts T
  have p_heard := ok_Live_heard (P := P) (w := w) (base := base) D_Live_heard T
  have p_shown := ok_Live_shown (P := P) (w := w) (base := base) D_Live_shown T g_written_at p_program
  have m_is_letter := ok_Live_is_letter (P := P) (w := w) (base := base) D_Live_is_letter T p_program
  have m_go_on := ok_Live_go_on (P := P) (w := w) (base := base) D_Live_go_on T g_led g_written_at
  have m_take := ok_Live_take (P := P) (w := w) (base := base) D_Live_take T m_is_letter m_go_on p_shown
  have m_several := ok_Live_several (P := P) (w := w) (base := base) D_Live_several T m_is_letter m_go_on
  have m_change := ok_Live_change (P := P) (w := w) (base := base) D_Live_change T g_unlike_word p_program
  have m_undo := ok_Live_undo (P := P) (w := w) (base := base) D_Live_undo T
  have l_Live := ok_Live_UlenU (P := P) (w := w) (base := base) D_Live_UlenU T
  have c_Block := (ok_Block_UinitU (P := P) (w := w) (base := base) D_Block_UinitU T).1
  have n_Block := ok_Block_UenterU (P := P) (w := w) (base := base) D_Block_UenterU T
  have x_Block := ok_Block_UexitU (P := P) (w := w) (base := base) D_Block_UexitU T
  have w_worked := ok__law_worked (P := P) (w := w) (base := base) D__law_worked T m_take m_undo
  have m_within := ok_Live_within (P := P) (w := w) (base := base) D_Live_within T n_Block x_Block c_Block w_worked
  have g__law_seed := ok__law_seed (P := P) (w := w) (base := base) D__law_seed T
  have g__law_choose := ok__law_choose (P := P) (w := w) (base := base) D__law_choose T
  have g__law_one_of := ok__law_one_of (P := P) (w := w) (base := base) D__law_one_of T g__law_choose
  have g__law_told := ok__law_told (P := P) (w := w) (base := base) D__law_told T g__law_choose g__law_one_of
  have g__law_set := ok__law_set (P := P) (w := w) (base := base) D__law_set T g__law_choose g__law_told
  have g__law_close := ok__law_close (P := P) (w := w) (base := base) D__law_close T g__law_choose g__law_one_of g__law_told
  have g__law_drawn := ok__law_drawn (P := P) (w := w) (base := base) D__law_drawn T g__law_one_of g__law_choose g__law_told g__law_set g__law_close
  have g__law_set_text := ok__law_set_text (P := P) (w := w) (base := base) D__law_set_text T
  have g__law_part_text := ok__law_part_text (P := P) (w := w) (base := base) D__law_part_text T
  have g__law_text := ok__law_text (P := P) (w := w) (base := base) D__law_text T g__law_set_text g__law_part_text
  have g__law_made := ok__law_made (P := P) (w := w) (base := base) D__law_made T rP ⟨kR, k_read.1⟩ g__law_text
  have g__law_over := ok__law_over (P := P) (w := w) (base := base) D__law_over T
  have g__law_led := ok__law_led (P := P) (w := w) (base := base) D__law_led T g__law_over
  have g__law_stood := ok__law_stood (P := P) (w := w) (base := base) D__law_stood T g__law_led
  have g__law_closed := ok__law_closed (P := P) (w := w) (base := base) D__law_closed T
  have g__law_doubled := ok__law_doubled (P := P) (w := w) (base := base) D__law_doubled T g__law_choose
  have g__law_bent := ok__law_bent (P := P) (w := w) (base := base) D__law_bent T g__law_choose g__law_close g__law_set
  have g__law_is_right := ok__law_is_right (P := P) (w := w) (base := base) D__law_is_right T p_spot p_texts p_heard p_shown g__law_closed
  have g__law_are_twins := ok__law_are_twins (P := P) (w := w) (base := base) D__law_are_twins T c_Live g__law_made g__law_one_of m_take p_texts p_shown g_write p_program p_heard p_spot g_stand g_behind m_several
  exact ok_law (P := P) (w := w) (base := base) D_law T g__law_seed g__law_drawn g__law_bent g__law_made g__law_doubled c_Live g__law_stood g__law_choose m_undo m_change g__law_one_of g__law_led g__law_closed m_take g__law_is_right l_Live m_within p_program e_Program g__law_are_twins
end Gt
set_option Elab.async false
set_option linter.all false
set_option maxRecDepth 100000
set_option maxHeartbeats 0
namespace Gt
open PySem PySem.Spec PyProof.Rows L2 StX
/-! ### own facts of the classes -/
def prpB (K : PySem.W.Frag) (C : Addr) (m : Str) : Bool := He.eqO (PySem.W.findIn K (.ref C) m) (some (some (.ref (He.ma K C m)))) && (He.eqO (PySem.W.specialIn K (.ref (He.ma K C m)) "__get__") (some (some (.builtin "property.__get__"))) &&
  (decide (PySem.W.takesIn K (.ref (He.ma K C m)) = some true) && (match PySem.W.recIn K (He.ma K C m) "property" with
    | some (.ref _ :: _) => true
    | _ => false)))
theorem prpB_ok {K : PySem.W.Frag} {C : Addr} {m : Str} (h : prpB K C m = true) : PropOf K C m (He.ma K C m) (He5.wf K C "property" m) := by
  obtain ⟨h1, h⟩ := He.ba h
  obtain ⟨h2, h⟩ := He.ba h
  obtain ⟨h3, h4⟩ := He.ba h
  refine ⟨He.eqO_ok h1, He.eqO_ok h2, of_decide_eq_true h3, ?_⟩
  unfold He5.wf
  cases e : PySem.W.recIn K (He.ma K C m) "property" with
  | none => rw [e] at h4; cases h4
  | some l =>
    rw [e] at h4
    match l, h4 with
    | .ref f :: rest, _ => exact ⟨rest, rfl⟩
    | [], h => exact absurd h (by simp)
    | .none :: _, h => exact absurd h (by simp)
    | .type _ :: _, h => exact absurd h (by simp)
    | .builtin _ :: _, h => exact absurd h (by simp)
    | .str _ _ :: _, h => exact absurd h (by simp)
    | .int _ _ :: _, h => exact absurd h (by simp)
    | .bool _ :: _, h => exact absurd h (by simp)
def insB (K : PySem.W.Frag) (C : Addr) : Bool := He.eqO (PySem.W.findIn K (.ref C) "__class__") (some (some (.builtin "object.__class__"))) && (He.eqO (PySem.W.specialIn K (.builtin "object.__class__") "__get__") (some (some (.builtin "getset_descriptor.__get__"))) &&
  (decide (PySem.W.takesIn K (.builtin "object.__class__") = some true) && (decide (PySem.W.mroIn K C (.type "object") = some true) && decide (PySem.W.kitOne K (.ref C) (.ref C) = some true))))
structure InsF (K : PySem.W.Frag) (C : Addr) : Prop where
  c : PySem.W.findIn K (.ref C) "__class__" = some (some (.builtin "object.__class__"))
  g : PySem.W.specialIn K (.builtin "object.__class__") "__get__" = some (some (.builtin "getset_descriptor.__get__"))
  t : PySem.W.takesIn K (.builtin "object.__class__") = some true
  m : PySem.W.mroIn K C (.type "object") = some true
  k : PySem.W.kitOne K (.ref C) (.ref C) = some true
theorem insB_ok {K : PySem.W.Frag} {C : Addr} (h : insB K C = true) : InsF K C := by
  obtain ⟨h1, h⟩ := He.ba h
  obtain ⟨h2, h⟩ := He.ba h
  obtain ⟨h3, h⟩ := He.ba h
  obtain ⟨h4, h5⟩ := He.ba h
  exact ⟨He.eqO_ok h1, He.eqO_ok h2, of_decide_eq_true h3, of_decide_eq_true h4, of_decide_eq_true h5⟩
def exB (K : PySem.W.Frag) : Bool := He.tupB K "KINDS" [.str "box", .str "turned"] && (insB K (cS K) && (insB K (cP K) && (He.eqO (PySem.W.findIn K (.ref (cP K)) "__ne__") (some (some (.builtin "object.__ne__"))) &&
  (PySem.W.readsIn K (cP K) (.type "type") && (He.eqO (PySem.W.specialIn K (.ref (cP K)) "__getattribute__") (some (some (.builtin "type.__getattribute__"))) && (He5.wrapB K (cP K) "classmethod" "classmethod.__get__" "read" && (PySem.W.fnIn K (He5.wf K (cP K) "classmethod" "read") &&
  (["program", "spot", "texts", "heard", "shown"] : List Str).all fun m => prpB K (cL K) m)))))))
/-! ### the part of the heap that is looked at: a walk of few levels, nothing erased -/
def fnR (g : Addr → Option Obj) (a : Addr) : List Addr := match g a with
  | some ⟨_, _, .func fd, _⟩ => a :: (He.refV fd.code ++ He.refV fd.defaults)
  | _ => [a]
def memR (g : Addr → Option Obj) (a : Addr) : List Addr := match g a with
  | some ⟨_, _, .func fd, _⟩ => a :: (He.refV fd.code ++ He.refV fd.defaults)
  | some ⟨_, _, .fields vs, _⟩ => a :: vs.toList.flatMap fun v => (He.refV v).flatMap (fnR g)
  | _ => [a]
def topR (g : Addr → Option Obj) (a : Addr) : List Addr := match g a with
  | some ⟨_, _, .func fd, _⟩ => a :: (He.refV fd.code ++ He.refV fd.defaults)
  | some ⟨_, _, .cls cd, _⟩ => a :: cd.ns :: (match g cd.ns with
    | some ⟨_, _, .dict es _, _⟩ => es.toList.flatMap fun e => (He.refV e.val).flatMap (memR g)
    | _ => [])
  | _ => [a]
def asZ (g : Addr → Option Obj) : List Addr := mainGlobals :: PySem.cStatics :: (match g mainGlobals with
  | some ⟨_, _, .dict es _, _⟩ => es.toList.flatMap fun e => (He.refV e.val).flatMap (topR g)
  | _ => [])
/-! ### the hook -/
def obsZ (fa : List He.Fa) (fn : List He5.DefA) (K : PySem.W.Frag) : He.AlD × Bool := (He5.obsA fa fn K, exB K)
def hookZ (fa : List He.Fa) (fn : List He5.DefA) : PySem.W.Hook where
  α := He.AlD × Bool
  obs := fun s => obsZ fa fn (He.frG s.heap.get? (asZ s.heap.get?))
  val := fun _ => (He5.valA fn, true)
  says := fun _ h => ∃ K : PySem.W.Frag, K.In h ∧ obsZ fa fn K = (He5.valA fn, true)
  of := fun _ _ e => ⟨_, He.frG_in, e⟩
  keeps := fun _ _ _ ⟨K, hK, c⟩ k => ⟨K, PySem.W.Frag.In.keeps hK k, c⟩

def dd0 : He5.DefA := ⟨(fun K => He.ga K "is_integer"), "is_integer", "is_integer", defArgs (top 23), defBody (top 23), defScope (top 23), [], []⟩
def dd1 : He5.DefA := ⟨(fun K => He.ga K "is_number"), "is_number", "is_number", defArgs (top 24), defBody (top 24), defScope (top 24), [], []⟩
def dd2 : He5.DefA := ⟨(fun K => He.ga K "is_below"), "is_below", "is_below", defArgs (top 28), defBody (top 28), defScope (top 28), [], []⟩
def dd3 : He5.DefA := ⟨(fun K => He.ga K "is_sequence"), "is_sequence", "is_sequence", defArgs (top 25), defBody (top 25), defScope (top 25), [], []⟩
def dd4 : He5.DefA := ⟨(fun K => He.ga K "is_text"), "is_text", "is_text", defArgs (top 26), defBody (top 26), defScope (top 26), [], []⟩
def dd5 : He5.DefA := ⟨(fun K => He.ga K "is_signs"), "is_signs", "is_signs", defArgs (top 27), defBody (top 27), defScope (top 27), [], []⟩
def dd6 : He5.DefA := ⟨(fun K => He.ga K "number_in"), "number_in", "number_in", defArgs (top 29), defBody (top 29), defScope (top 29), [], []⟩
def dd7 : He5.DefA := ⟨(fun K => He.ma K (He.ga K "Setting") "__init__"), "__init__", "Setting.__init__", defArgs (inClass (top 31) 0), defBody (inClass (top 31) 0), defScope (inClass (top 31) 0), [.str "", .str "", .bl false], []⟩
def dd8 : He5.DefA := ⟨(fun K => He.ma K (He.ga K "Setting") "over"), "over", "Setting.over", defArgs (inClass (top 31) 2), defBody (inClass (top 31) 2), defScope (inClass (top 31) 2), [], []⟩
def dd9 : He5.DefA := ⟨(fun K => He.ma K (He.ga K "Setting") "__str__"), "__str__", "Setting.__str__", defArgs (inClass (top 31) 5), defBody (inClass (top 31) 5), defScope (inClass (top 31) 5), [], []⟩
def dd10 : He5.DefA := ⟨(fun K => He.ga K "is_setting"), "is_setting", "is_setting", defArgs (top 33), defBody (top 33), defScope (top 33), [], []⟩
def dd11 : He5.DefA := ⟨(fun K => He.ga K "setting_in"), "setting_in", "setting_in", defArgs (top 32), defBody (top 32), defScope (top 32), [], []⟩
def dd12 : He5.DefA := ⟨(fun K => He.ga K "text_word"), "text_word", "text_word", defArgs (top 43), defBody (top 43), defScope (top 43), [], []⟩
def dd13 : He5.DefA := ⟨(fun K => He.ga K "part_text"), "part_text", "part_text", defArgs (top 44), defBody (top 44), defScope (top 44), [], []⟩
def dd14 : He5.DefA := ⟨(fun K => He.ga K "part_in"), "part_in", "part_in", defArgs (top 45), defBody (top 45), defScope (top 45), [], []⟩
def dd15 : He5.DefA := ⟨(fun K => He.ga K "is_part"), "is_part", "is_part", defArgs (top 36), defBody (top 36), defScope (top 36), [], []⟩
def dd16 : He5.DefA := ⟨(fun K => He.ga K "is_way"), "is_way", "is_way", defArgs (top 37), defBody (top 37), defScope (top 37), [], []⟩
def dd17 : He5.DefA := ⟨(fun K => He.ga K "is_begin"), "is_begin", "is_begin", defArgs (top 39), defBody (top 39), defScope (top 39), [], []⟩
def dd18 : He5.DefA := ⟨(fun K => He.ga K "are_ways"), "are_ways", "are_ways", defArgs (top 38), defBody (top 38), defScope (top 38), [], []⟩
def dd19 : He5.DefA := ⟨(fun K => He.ga K "do_fit"), "do_fit", "do_fit", defArgs (top 40), defBody (top 40), defScope (top 40), [], []⟩
def dd20 : He5.DefA := ⟨(fun K => He.ga K "are_ends"), "are_ends", "are_ends", defArgs (top 41), defBody (top 41), defScope (top 41), [], []⟩
def dd21 : He5.DefA := ⟨(fun K => He.ga K "wrong_word"), "wrong_word", "wrong_word", defArgs (top 42), defBody (top 42), defScope (top 42), [], []⟩
def dd22 : He5.DefA := ⟨(fun K => He.ma K (He.ga K "Program") "__init__"), "__init__", "Program.__init__", defArgs (inClass (top 46) 0), defBody (inClass (top 46) 0), defScope (inClass (top 46) 0), [], []⟩
def dd23 : He5.DefA := ⟨(fun K => He.ma K (He.ga K "Program") "__str__"), "__str__", "Program.__str__", defArgs (inClass (top 46) 5), defBody (inClass (top 46) 5), defScope (inClass (top 46) 5), [], []⟩
def dd24 : He5.DefA := ⟨(fun K => He.ma K (He.ga K "Reader") "__init__"), "__init__", "Reader.__init__", defArgs (inClass (top 47) 0), defBody (inClass (top 47) 0), defScope (inClass (top 47) 0), [], []⟩
def dd25 : He5.DefA := ⟨(fun K => He.ma K (He.ga K "Reader") "need"), "need", "Reader.need", defArgs (inClass (top 47) 1), defBody (inClass (top 47) 1), defScope (inClass (top 47) 1), [], []⟩
def dd26 : He5.DefA := ⟨(fun K => He.ma K (He.ga K "Reader") "words"), "words", "Reader.words", defArgs (inClass (top 47) 2), defBody (inClass (top 47) 2), defScope (inClass (top 47) 2), [], []⟩
def dd27 : He5.DefA := ⟨(fun K => He.ma K (He.ga K "Reader") "first_line"), "first_line", "Reader.first_line", defArgs (inClass (top 47) 4), defBody (inClass (top 47) 4), defScope (inClass (top 47) 4), [], []⟩
def dd28 : He5.DefA := ⟨(fun K => He.ma K (He.ga K "Reader") "begin_line"), "begin_line", "Reader.begin_line", defArgs (inClass (top 47) 5), defBody (inClass (top 47) 5), defScope (inClass (top 47) 5), [], []⟩
def dd29 : He5.DefA := ⟨(fun K => He.ma K (He.ga K "Reader") "one_mode"), "one_mode", "Reader.one_mode", defArgs (inClass (top 47) 6), defBody (inClass (top 47) 6), defScope (inClass (top 47) 6), [], []⟩
def dd30 : He5.DefA := ⟨(fun K => He.ma K (He.ga K "Reader") "end_line"), "end_line", "Reader.end_line", defArgs (inClass (top 47) 7), defBody (inClass (top 47) 7), defScope (inClass (top 47) 7), [], []⟩
def dd31 : He5.DefA := ⟨(fun K => He.ma K (He.ga K "Reader") "all_lines"), "all_lines", "Reader.all_lines", defArgs (inClass (top 47) 3), defBody (inClass (top 47) 3), defScope (inClass (top 47) 3), [], []⟩
def dd32 : He5.DefA := ⟨(fun K => He5.wf K (He.ga K "Program") "classmethod" "read"), "read", "Program.read", defArgs (inClass (top 46) 1), defBody (inClass (top 46) 1), defScope (inClass (top 46) 1), [], []⟩
def dd33 : He5.DefA := ⟨(fun K => He.ma K (He.ga K "Program") "__eq__"), "__eq__", "Program.__eq__", defArgs (inClass (top 46) 4), defBody (inClass (top 46) 4), defScope (inClass (top 46) 4), [], []⟩
def dd34 : He5.DefA := ⟨(fun K => He.ga K "need_input"), "need_input", "need_input", defArgs (top 10), defBody (top 10), defScope (top 10), [], []⟩
def dd35 : He5.DefA := ⟨(fun K => He.ga K "led"), "led", "led", defArgs (top 11), defBody (top 11), defScope (top 11), [], []⟩
def dd36 : He5.DefA := ⟨(fun K => He.ga K "stand"), "stand", "stand", defArgs (top 12), defBody (top 12), defScope (top 12), [], []⟩
def dd37 : He5.DefA := ⟨(fun K => He.ga K "row_text"), "row_text", "row_text", defArgs (top 13), defBody (top 13), defScope (top 13), [], []⟩
def dd38 : He5.DefA := ⟨(fun K => He.ga K "written_at"), "written_at", "written_at", defArgs (top 14), defBody (top 14), defScope (top 14), [], []⟩
def dd39 : He5.DefA := ⟨(fun K => He.ga K "write"), "write", "write", defArgs (top 15), defBody (top 15), defScope (top 15), [], []⟩
def dd40 : He5.DefA := ⟨(fun K => He.ga K "unlike_word"), "unlike_word", "unlike_word", defArgs (top 18), defBody (top 18), defScope (top 18), [], []⟩
def dd41 : He5.DefA := ⟨(fun K => He.ga K "behind"), "behind", "behind", defArgs (top 49), defBody (top 49), defScope (top 49), [], []⟩
def dd42 : He5.DefA := ⟨(fun K => He.ma K (He.ga K "Live") "__init__"), "__init__", "Live.__init__", defArgs (inClass (top 19) 0), defBody (inClass (top 19) 0), defScope (inClass (top 19) 0), [], []⟩
def dd43 : He5.DefA := ⟨(fun K => He5.wf K (He.ga K "Live") "property" "program"), "program", "Live.program", defArgs (inClass (top 19) 1), defBody (inClass (top 19) 1), defScope (inClass (top 19) 1), [], []⟩
def dd44 : He5.DefA := ⟨(fun K => He5.wf K (He.ga K "Live") "property" "spot"), "spot", "Live.spot", defArgs (inClass (top 19) 2), defBody (inClass (top 19) 2), defScope (inClass (top 19) 2), [], []⟩
def dd45 : He5.DefA := ⟨(fun K => He5.wf K (He.ga K "Live") "property" "texts"), "texts", "Live.texts", defArgs (inClass (top 19) 3), defBody (inClass (top 19) 3), defScope (inClass (top 19) 3), [], []⟩
def dd46 : He5.DefA := ⟨(fun K => He5.wf K (He.ga K "Live") "property" "heard"), "heard", "Live.heard", defArgs (inClass (top 19) 4), defBody (inClass (top 19) 4), defScope (inClass (top 19) 4), [], []⟩
def dd47 : He5.DefA := ⟨(fun K => He5.wf K (He.ga K "Live") "property" "shown"), "shown", "Live.shown", defArgs (inClass (top 19) 5), defBody (inClass (top 19) 5), defScope (inClass (top 19) 5), [], []⟩
def dd48 : He5.DefA := ⟨(fun K => He.ma K (He.ga K "Live") "is_letter"), "is_letter", "Live.is_letter", defArgs (inClass (top 19) 6), defBody (inClass (top 19) 6), defScope (inClass (top 19) 6), [], []⟩
def dd49 : He5.DefA := ⟨(fun K => He.ma K (He.ga K "Live") "go_on"), "go_on", "Live.go_on", defArgs (inClass (top 19) 8), defBody (inClass (top 19) 8), defScope (inClass (top 19) 8), [], []⟩
def dd50 : He5.DefA := ⟨(fun K => He.ma K (He.ga K "Live") "take"), "take", "Live.take", defArgs (inClass (top 19) 7), defBody (inClass (top 19) 7), defScope (inClass (top 19) 7), [], []⟩
def dd51 : He5.DefA := ⟨(fun K => He.ma K (He.ga K "Live") "several"), "several", "Live.several", defArgs (inClass (top 19) 9), defBody (inClass (top 19) 9), defScope (inClass (top 19) 9), [], []⟩
def dd52 : He5.DefA := ⟨(fun K => He.ma K (He.ga K "Live") "change"), "change", "Live.change", defArgs (inClass (top 19) 10), defBody (inClass (top 19) 10), defScope (inClass (top 19) 10), [], []⟩
def dd53 : He5.DefA := ⟨(fun K => He.ma K (He.ga K "Live") "undo"), "undo", "Live.undo", defArgs (inClass (top 19) 11), defBody (inClass (top 19) 11), defScope (inClass (top 19) 11), [], []⟩
def dd54 : He5.DefA := ⟨(fun K => He.ma K (He.ga K "Live") "__len__"), "__len__", "Live.__len__", defArgs (inClass (top 19) 13), defBody (inClass (top 19) 13), defScope (inClass (top 19) 13), [], []⟩
def dd55 : He5.DefA := ⟨(fun K => He.ma K (He.ga K "Block") "__init__"), "__init__", "Block.__init__", defArgs (inClass (top 17) 0), defBody (inClass (top 17) 0), defScope (inClass (top 17) 0), [], []⟩
def dd56 : He5.DefA := ⟨(fun K => He.ma K (He.ga K "Block") "__enter__"), "__enter__", "Block.__enter__", defArgs (inClass (top 17) 1), defBody (inClass (top 17) 1), defScope (inClass (top 17) 1), [], []⟩
def dd57 : He5.DefA := ⟨(fun K => He.ma K (He.ga K "Block") "__exit__"), "__exit__", "Block.__exit__", defArgs (inClass (top 17) 2), defBody (inClass (top 17) 2), defScope (inClass (top 17) 2), [], []⟩
def dd58 : He5.DefA := ⟨(fun K => He.ga K "_law_worked"), "_law_worked", "_law_worked", defArgs (top 76), defBody (top 76), defScope (top 76), [], []⟩
def dd59 : He5.DefA := ⟨(fun K => He.ma K (He.ga K "Live") "within"), "within", "Live.within", defArgs (inClass (top 19) 12), defBody (inClass (top 19) 12), defScope (inClass (top 19) 12), [], []⟩
def dd60 : He5.DefA := ⟨(fun K => He.ga K "_law_seed"), "_law_seed", "_law_seed", defArgs (top 51), defBody (top 51), defScope (top 51), [], []⟩
def dd61 : He5.DefA := ⟨(fun K => He.ga K "_law_choose"), "_law_choose", "_law_choose", defArgs (top 52), defBody (top 52), defScope (top 52), [], []⟩
def dd62 : He5.DefA := ⟨(fun K => He.ga K "_law_one_of"), "_law_one_of", "_law_one_of", defArgs (top 53), defBody (top 53), defScope (top 53), [], []⟩
def dd63 : He5.DefA := ⟨(fun K => He.ga K "_law_told"), "_law_told", "_law_told", defArgs (top 55), defBody (top 55), defScope (top 55), [], []⟩
def dd64 : He5.DefA := ⟨(fun K => He.ga K "_law_set"), "_law_set", "_law_set", defArgs (top 56), defBody (top 56), defScope (top 56), [], []⟩
def dd65 : He5.DefA := ⟨(fun K => He.ga K "_law_close"), "_law_close", "_law_close", defArgs (top 57), defBody (top 57), defScope (top 57), [], []⟩
def dd66 : He5.DefA := ⟨(fun K => He.ga K "_law_drawn"), "_law_drawn", "_law_drawn", defArgs (top 58), defBody (top 58), defScope (top 58), [], []⟩
def dd67 : He5.DefA := ⟨(fun K => He.ga K "_law_set_text"), "_law_set_text", "_law_set_text", defArgs (top 59), defBody (top 59), defScope (top 59), [], []⟩
def dd68 : He5.DefA := ⟨(fun K => He.ga K "_law_part_text"), "_law_part_text", "_law_part_text", defArgs (top 60), defBody (top 60), defScope (top 60), [], []⟩
def dd69 : He5.DefA := ⟨(fun K => He.ga K "_law_text"), "_law_text", "_law_text", defArgs (top 61), defBody (top 61), defScope (top 61), [], []⟩
def dd70 : He5.DefA := ⟨(fun K => He.ga K "_law_made"), "_law_made", "_law_made", defArgs (top 62), defBody (top 62), defScope (top 62), [], []⟩
def dd71 : He5.DefA := ⟨(fun K => He.ga K "_law_over"), "_law_over", "_law_over", defArgs (top 63), defBody (top 63), defScope (top 63), [], []⟩
def dd72 : He5.DefA := ⟨(fun K => He.ga K "_law_led"), "_law_led", "_law_led", defArgs (top 64), defBody (top 64), defScope (top 64), [], []⟩
def dd73 : He5.DefA := ⟨(fun K => He.ga K "_law_stood"), "_law_stood", "_law_stood", defArgs (top 65), defBody (top 65), defScope (top 65), [], []⟩
def dd74 : He5.DefA := ⟨(fun K => He.ga K "_law_closed"), "_law_closed", "_law_closed", defArgs (top 66), defBody (top 66), defScope (top 66), [], []⟩
def dd75 : He5.DefA := ⟨(fun K => He.ga K "_law_doubled"), "_law_doubled", "_law_doubled", defArgs (top 72), defBody (top 72), defScope (top 72), [], []⟩
def dd76 : He5.DefA := ⟨(fun K => He.ga K "_law_bent"), "_law_bent", "_law_bent", defArgs (top 73), defBody (top 73), defScope (top 73), [], []⟩
def dd77 : He5.DefA := ⟨(fun K => He.ga K "_law_is_right"), "_law_is_right", "_law_is_right", defArgs (top 74), defBody (top 74), defScope (top 74), [], []⟩
def dd78 : He5.DefA := ⟨(fun K => He.ga K "_law_are_twins"), "_law_are_twins", "_law_are_twins", defArgs (top 75), defBody (top 75), defScope (top 75), [], []⟩
def dd79 : He5.DefA := ⟨(fun K => He.ga K "law"), "law", "law", defArgs (top 77), defBody (top 77), defScope (top 77), [], []⟩
def fnZ : List He5.DefA := [dd0, dd1, dd2, dd3, dd4, dd5, dd6, dd7, dd8, dd9, dd10, dd11, dd12, dd13, dd14, dd15, dd16, dd17, dd18, dd19, dd20, dd21, dd22, dd23, dd24, dd25, dd26, dd27, dd28, dd29, dd30, dd31, dd32, dd33, dd34, dd35, dd36, dd37, dd38, dd39, dd40, dd41, dd42, dd43, dd44, dd45, dd46, dd47, dd48, dd49, dd50, dd51, dd52, dd53, dd54, dd55, dd56, dd57, dd58, dd59, dd60, dd61, dd62, dd63, dd64, dd65, dd66, dd67, dd68, dd69, dd70, dd71, dd72, dd73, dd74, dd75, dd76, dd77, dd78, dd79]
def faZ : List He.Fa := [.glo "Block", .glo "KINDS", .glo "Live", .glo "Program", .glo "Reader", .glo "Setting", .glo "_law_are_twins", .glo "_law_bent", .glo "_law_choose", .glo "_law_close", .glo "_law_closed", .glo "_law_doubled", .glo "_law_drawn", .glo "_law_is_right", .glo "_law_led", .glo "_law_made", .glo "_law_one_of", .glo "_law_over", .glo "_law_part_text", .glo "_law_seed", .glo "_law_set", .glo "_law_set_text", .glo "_law_stood", .glo "_law_text", .glo "_law_told", .glo "_law_worked", .glo "are_ends", .glo "are_ways", .glo "behind", .glo "do_fit", .glo "is_begin", .glo "is_below", .glo "is_integer", .glo "is_number", .glo "is_part", .glo "is_sequence", .glo "is_setting", .glo "is_signs", .glo "is_text", .glo "is_way", .glo "law", .glo "led", .glo "need_input", .glo "number_in", .glo "part_in", .glo "part_text", .glo "row_text", .glo "setting_in", .glo "stand", .glo "text_word", .glo "unlike_word", .glo "write", .glo "written_at", .glo "wrong_word", .free "len", .free "isinstance", .free "str", .free "int", .free "list", .free "tuple", .free "bool", .free "range", .free "enumerate", .free "zip", .free "all", .free "any", .free "abs", .free "min", .free "max", .str "LOWER" "abcdefghijklmnopqrstuvwxyz", .str "DIGITS" "0123456789", .cls "Setting", .cls "Program", .cls "Reader", .cls "Live", .cls "Block", .noat "Setting" "source", .noat "Setting" "head", .noat "Setting" "tail", .noat "Setting" "is_turned", .noat "Program" "signs", .noat "Program" "letters", .noat "Program" "begin", .noat "Program" "ways", .noat "Program" "ends", .noat "Program" "modes", .noat "Program" "boxes", .noat "Reader" "lines", .noat "Reader" "line_at", .noat "Reader" "signs", .noat "Reader" "letters", .noat "Reader" "begin", .noat "Reader" "ways", .noat "Reader" "ends", .noat "Live" "past", .noat "Block" "live", .noat "Block" "kept", .meth "Setting" "over", .meth "Setting" "__str__", .meth "Program" "__str__", .meth "Reader" "need", .meth "Reader" "words", .meth "Reader" "first_line", .meth "Reader" "begin_line", .meth "Reader" "one_mode", .meth "Reader" "end_line", .meth "Reader" "all_lines", .meth "Program" "__eq__", .meth "Live" "is_letter", .meth "Live" "go_on", .meth "Live" "take", .meth "Live" "several", .meth "Live" "change", .meth "Live" "undo", .meth "Live" "__len__", .meth "Block" "__enter__", .meth "Block" "__exit__", .meth "Live" "within", .mkr "Setting", .mkr "Program", .mkr "Reader", .mkr "Live", .mkr "Block"]
abbrev RZ : PySem.W.OpenRow := PySem.W.OpenLaw.row PySem.Challenge.rw_growntexts_k85_whole_readers_and_functio
abbrev qZ : Program := PySem.W.view RZ.prog [77]
abbrev hkZ : PySem.W.Hook := hookZ faZ fnZ
def obZ (s : PySem.W.SharedT) : He.AlD × Bool := obsZ faZ fnZ (He.frG (HandSHeadRun.getT s) (asZ (HandSHeadRun.getT s)))
theorem obZ_eq (s : PySem.W.SharedT) : obZ s = hkZ.obs s.abs := by
  have e : HandSHeadRun.getT s = s.abs.heap.get? := funext (HandSHeadRun.getT_eq s)
  unfold obZ
  rw [e] <;> rfl
def names0 : List Str := ["GrowError", "InvalidSetting", "InvalidProgram", "InvalidText", "InvalidInput", "InvalidPair", "Refused", "NoMode", "need_input", "led", "stand", "row_text", "written_at", "write", "Block"]
def names1 : List Str := ["unlike_word", "Live", "LOWER", "DIGITS", "is_integer", "is_number", "is_sequence", "is_text", "is_signs", "is_below", "number_in", "Setting", "setting_in", "is_setting", "KINDS"]
def names2 : List Str := ["is_part", "is_way", "are_ways", "is_begin", "do_fit", "are_ends", "wrong_word", "text_word", "part_text", "part_in", "Program", "Reader", "behind", "_law_seed", "_law_choose"]
def names3 : List Str := ["_law_one_of", "_law_mixed", "_law_told", "_law_set", "_law_close", "_law_drawn", "_law_set_text", "_law_part_text", "_law_text", "_law_made", "_law_over", "_law_led", "_law_stood", "_law_closed", "_law_written"]
def names4 : List Str := ["_law_inputs", "_law_exchanged", "_law_back", "_law_backed", "_law_doubled", "_law_bent", "_law_is_right", "_law_are_twins", "_law_worked"]
def names : List Str := names0 ++ names1 ++ names2 ++ names3 ++ names4
theorem runZ (w : World) : HandSHeadRun.RunEq RZ qZ hkZ obZ 8000 names w := by
  intro os
  kernel_rfl
theorem factsZ {P : Program} {w : World} {K : PySem.W.Frag} {h : Heap} {mg : Str → Option Value} {f : Addr} (X : K.In h) (G : h.Ns mainGlobals mg) (hfa : mg ("law" : Str) = some (.ref f)) (c : obsZ faZ fnZ K = (He5.valA fnZ, true)) :
    ∃ fd : FuncData, (∀ (s : Shared) (v : Value), BindsTo s fd ⟨[v], []⟩ [("_law_script", v)]) ∧ ∀ base : Heap, K.In base → base.Ns mainGlobals mg → FnOk P w K mg base CX0 12 f fd ["_law_script"] (sp_law K) := by
  have c1 : He5.SaysA faZ fnZ K := congrArg (fun z : He.AlD × Bool => z.1) c
  have c2 : exB K = true := congrArg (fun z : He.AlD × Bool => z.2) c
  obtain ⟨x1, c2⟩ := He.ba c2
  obtain ⟨x2, c2⟩ := He.ba c2
  obtain ⟨x3, c2⟩ := He.ba c2
  obtain ⟨x4, c2⟩ := He.ba c2
  obtain ⟨x5, c2⟩ := He.ba c2
  obtain ⟨x6, c2⟩ := He.ba c2
  obtain ⟨x7, c2⟩ := He.ba c2
  obtain ⟨x8, x9⟩ := He.ba c2
  have iS := insB_ok x2
  have iP := insB_ok x3
  have F := fun (i : Nat) {f : He.Fa} (h : faZ[i]? = some f) => He5.SaysA.fact c1 i h
  have g_ok := fun {x : Str} (c : (He.Fa.glo x).ok K = true) => He.glo_ok X G c
  have D := fun (i : Nat) {d : He5.DefA} (h : fnZ[i]? = some d) => He5.SaysA.def_ c1 i h
  have pr := fun (m : Str) (hm : m ∈ (["program", "spot", "texts", "heard", "shown"] : List Str)) => prpB_ok (List.all_eq_true.mp x9 m hm)
  have T : Glo K mg := {
    b_len := He.free_ok X G (F 54 (f := .free "len") rfl)
    b_isinstance := He.free_ok X G (F 55 (f := .free "isinstance") rfl)
    b_str := He.free_ok X G (F 56 (f := .free "str") rfl)
    b_int := He.free_ok X G (F 57 (f := .free "int") rfl)
    b_list := He.free_ok X G (F 58 (f := .free "list") rfl)
    b_tuple := He.free_ok X G (F 59 (f := .free "tuple") rfl)
    b_bool := He.free_ok X G (F 60 (f := .free "bool") rfl)
    b_range := He.free_ok X G (F 61 (f := .free "range") rfl)
    b_enumerate := He.free_ok X G (F 62 (f := .free "enumerate") rfl)
    b_zip := He.free_ok X G (F 63 (f := .free "zip") rfl)
    b_all := He.free_ok X G (F 64 (f := .free "all") rfl)
    b_any := He.free_ok X G (F 65 (f := .free "any") rfl)
    b_abs := He.free_ok X G (F 66 (f := .free "abs") rfl)
    b_min := He.free_ok X G (F 67 (f := .free "min") rfl)
    b_max := He.free_ok X G (F 68 (f := .free "max") rfl)
    v_LOWER := (let ⟨t, e⟩ := He.str_ok X G (F 69 (f := .str "LOWER" "abcdefghijklmnopqrstuvwxyz") rfl); ⟨_, e, ⟨t, rfl⟩⟩)
    v_DIGITS := (let ⟨t, e⟩ := He.str_ok X G (F 70 (f := .str "DIGITS" "0123456789") rfl); ⟨_, e, ⟨t, rfl⟩⟩)
    v_KINDS := ⟨_, He.glo_ok X G (F 1 (f := .glo "KINDS") rfl), rfl⟩
    v__law_worked := ⟨_, He.glo_ok X G (F 25 (f := .glo "_law_worked") rfl), rfl⟩
    v_Setting := ⟨_, He.glo_ok X G (F 5 (f := .glo "Setting") rfl), rfl⟩
    v_Program := ⟨_, He.glo_ok X G (F 3 (f := .glo "Program") rfl), rfl⟩
    t_KINDS := He.tupB_ok x1
    cS := He.cls_ok (F 71 (f := .cls "Setting") rfl)
    cP := He.cls_ok (F 72 (f := .cls "Program") rfl)
    cR := He.cls_ok (F 73 (f := .cls "Reader") rfl)
    cL := He.cls_ok (F 74 (f := .cls "Live") rfl)
    cB := He.cls_ok (F 75 (f := .cls "Block") rfl)
    nS := fun f hf => by
      simp only [List.mem_cons, List.not_mem_nil, or_false] at hf
      first | (obtain rfl | rfl | rfl | rfl := hf) | skip
      · exact He.noat_ok (F 76 (f := .noat "Setting" "source") rfl)
      · exact He.noat_ok (F 77 (f := .noat "Setting" "head") rfl)
      · exact He.noat_ok (F 78 (f := .noat "Setting" "tail") rfl)
      · exact He.noat_ok (F 79 (f := .noat "Setting" "is_turned") rfl)
    nP := fun f hf => by
      simp only [List.mem_cons, List.not_mem_nil, or_false] at hf
      first | (obtain rfl | rfl | rfl | rfl | rfl | rfl | rfl := hf) | skip
      · exact He.noat_ok (F 80 (f := .noat "Program" "signs") rfl)
      · exact He.noat_ok (F 81 (f := .noat "Program" "letters") rfl)
      · exact He.noat_ok (F 82 (f := .noat "Program" "begin") rfl)
      · exact He.noat_ok (F 83 (f := .noat "Program" "ways") rfl)
      · exact He.noat_ok (F 84 (f := .noat "Program" "ends") rfl)
      · exact He.noat_ok (F 85 (f := .noat "Program" "modes") rfl)
      · exact He.noat_ok (F 86 (f := .noat "Program" "boxes") rfl)
    nR := fun f hf => by
      simp only [List.mem_cons, List.not_mem_nil, or_false] at hf
      first | (obtain rfl | rfl | rfl | rfl | rfl | rfl | rfl := hf) | skip
      · exact He.noat_ok (F 87 (f := .noat "Reader" "lines") rfl)
      · exact He.noat_ok (F 88 (f := .noat "Reader" "line_at") rfl)
      · exact He.noat_ok (F 89 (f := .noat "Reader" "signs") rfl)
      · exact He.noat_ok (F 90 (f := .noat "Reader" "letters") rfl)
      · exact He.noat_ok (F 91 (f := .noat "Reader" "begin") rfl)
      · exact He.noat_ok (F 92 (f := .noat "Reader" "ways") rfl)
      · exact He.noat_ok (F 93 (f := .noat "Reader" "ends") rfl)
    nL := fun f hf => by
      simp only [List.mem_cons, List.not_mem_nil, or_false] at hf
      first | (obtain rfl := hf) | skip
      · exact He.noat_ok (F 94 (f := .noat "Live" "past") rfl)
    nB := fun f hf => by
      simp only [List.mem_cons, List.not_mem_nil, or_false] at hf
      first | (obtain rfl | rfl := hf) | skip
      · exact He.noat_ok (F 95 (f := .noat "Block" "live") rfl)
      · exact He.noat_ok (F 96 (f := .noat "Block" "kept") rfl)
    iS := fun e => .base (.ins e (He.cls_ok (F 71 (f := .cls "Setting") rfl)) iS.c iS.g iS.t iS.m)
    iP := fun e => .base (.ins e (He.cls_ok (F 72 (f := .cls "Program") rfl)) iP.c iP.g iP.t iP.m)
    kS := iS.k
    kP := iP.k
    neP := He.eqO_ok x4
    mroP := iP.m
  }
  obtain ⟨fd0, F0⟩ := D 0 (d := dd0) rfl
  have D_is_integer : Def K mg "is_integer" (top 23) ["value"] := ⟨⟨_, _, F0, (F0.bindsN fun _ _ _ _ _ _ us hl => match us, hl with | [_], _ => rfl), He.glo_ok X G (F 32 (f := .glo "is_integer") rfl)⟩⟩
  obtain ⟨fd1, F1⟩ := D 1 (d := dd1) rfl
  have D_is_number : Def K mg "is_number" (top 24) ["value"] := ⟨⟨_, _, F1, (F1.bindsN fun _ _ _ _ _ _ us hl => match us, hl with | [_], _ => rfl), He.glo_ok X G (F 33 (f := .glo "is_number") rfl)⟩⟩
  obtain ⟨fd2, F2⟩ := D 2 (d := dd2) rfl
  have D_is_below : Def K mg "is_below" (top 28) ["value", "many"] := ⟨⟨_, _, F2, (F2.bindsN fun _ _ _ _ _ _ us hl => match us, hl with | [_, _], _ => rfl), He.glo_ok X G (F 31 (f := .glo "is_below") rfl)⟩⟩
  obtain ⟨fd3, F3⟩ := D 3 (d := dd3) rfl
  have D_is_sequence : Def K mg "is_sequence" (top 25) ["value"] := ⟨⟨_, _, F3, (F3.bindsN fun _ _ _ _ _ _ us hl => match us, hl with | [_], _ => rfl), He.glo_ok X G (F 35 (f := .glo "is_sequence") rfl)⟩⟩
  obtain ⟨fd4, F4⟩ := D 4 (d := dd4) rfl
  have D_is_text : Def K mg "is_text" (top 26) ["signs", "value"] := ⟨⟨_, _, F4, (F4.bindsN fun _ _ _ _ _ _ us hl => match us, hl with | [_, _], _ => rfl), He.glo_ok X G (F 38 (f := .glo "is_text") rfl)⟩⟩
  obtain ⟨fd5, F5⟩ := D 5 (d := dd5) rfl
  have D_is_signs : Def K mg "is_signs" (top 27) ["value"] := ⟨⟨_, _, F5, (F5.bindsN fun _ _ _ _ _ _ us hl => match us, hl with | [_], _ => rfl), He.glo_ok X G (F 37 (f := .glo "is_signs") rfl)⟩⟩
  obtain ⟨fd6, F6⟩ := D 6 (d := dd6) rfl
  have D_number_in : Def K mg "number_in" (top 29) ["word"] := ⟨⟨_, _, F6, (F6.bindsN fun _ _ _ _ _ _ us hl => match us, hl with | [_], _ => rfl), He.glo_ok X G (F 43 (f := .glo "number_in") rfl)⟩⟩
  obtain ⟨fd7, F7⟩ := D 7 (d := dd7) rfl
  have BS0 : Binds K fd7 ["self", "source", "head", "tail", "is_turned"] [] := by
    obtain ⟨ds, v, b⟩ := F7.binds1 (ps := ["self", "source", "head", "tail", "is_turned"]) 5 3 (by show ([V.str "", V.str "", V.bl false] : List V) ≠ []; simp) rfl fun _ _ _ _ _ _ _ us its hu hi => match us, its, hu, hi with | [_, _, _, _, _], [_, _, _], _, _ => ⟨_, rfl, rfl⟩
    cases (show Vals [] ds from v)
    exact b
  have BS2 : ∃ ds, Vals [.str "", .bl false] ds ∧ Binds K fd7 ["self", "source", "head", "tail", "is_turned"] ds := F7.binds1 (ps := ["self", "source", "head", "tail", "is_turned"]) 3 1 (by show ([V.str "", V.str "", V.bl false] : List V) ≠ []; simp) rfl fun _ _ _ _ _ _ _ us its hu hi => match us, its, hu, hi with | [_, _, _], [_, _, _], _, _ => ⟨_, rfl, rfl⟩
  have D_Setting_UinitU : Ini K mg "Setting" (cls_Setting K) "Setting.__init__" (inClass (top 31) 0) ["self", "source", "head", "tail", "is_turned"] [.str "", .bl false] := ⟨⟨_, _, _, F7, BS0, BS2, He.mkr_ok (F 118 (f := .mkr "Setting") rfl)⟩, He.glo_ok X G (F 5 (f := .glo "Setting") rfl)⟩
  obtain ⟨fd8, F8⟩ := D 8 (d := dd8) rfl
  have D_Setting_over : Mth K (cls_Setting K) "over" "Setting.over" (inClass (top 31) 2) ["self", "text"] := ⟨⟨_, _, F8, (F8.bindsN fun _ _ _ _ _ _ us hl => match us, hl with | [_, _], _ => rfl), He.meth_ok (F 97 (f := .meth "Setting" "over") rfl)⟩⟩
  obtain ⟨fd9, F9⟩ := D 9 (d := dd9) rfl
  have D_Setting_UstrU : Spc K (cls_Setting K) "__str__" "Setting.__str__" (inClass (top 31) 5) ["self"] := ⟨(let M := He.meth_ok (F 98 (f := .meth "Setting" "__str__") rfl); ⟨_, _, F9, (F9.bindsN fun _ _ _ _ _ _ us hl => match us, hl with | [_], _ => rfl), M.at_, M.fn⟩)⟩
  obtain ⟨fd10, F10⟩ := D 10 (d := dd10) rfl
  have D_is_setting : Def K mg "is_setting" (top 33) ["signs", "value"] := ⟨⟨_, _, F10, (F10.bindsN fun _ _ _ _ _ _ us hl => match us, hl with | [_, _], _ => rfl), He.glo_ok X G (F 36 (f := .glo "is_setting") rfl)⟩⟩
  obtain ⟨fd11, F11⟩ := D 11 (d := dd11) rfl
  have D_setting_in : Def K mg "setting_in" (top 32) ["text"] := ⟨⟨_, _, F11, (F11.bindsN fun _ _ _ _ _ _ us hl => match us, hl with | [_], _ => rfl), He.glo_ok X G (F 47 (f := .glo "setting_in") rfl)⟩⟩
  obtain ⟨fd12, F12⟩ := D 12 (d := dd12) rfl
  have D_text_word : Def K mg "text_word" (top 43) ["text"] := ⟨⟨_, _, F12, (F12.bindsN fun _ _ _ _ _ _ us hl => match us, hl with | [_], _ => rfl), He.glo_ok X G (F 49 (f := .glo "text_word") rfl)⟩⟩
  obtain ⟨fd13, F13⟩ := D 13 (d := dd13) rfl
  have D_part_text : Def K mg "part_text" (top 44) ["part"] := ⟨⟨_, _, F13, (F13.bindsN fun _ _ _ _ _ _ us hl => match us, hl with | [_], _ => rfl), He.glo_ok X G (F 45 (f := .glo "part_text") rfl)⟩⟩
  obtain ⟨fd14, F14⟩ := D 14 (d := dd14) rfl
  have D_part_in : Def K mg "part_in" (top 45) ["word"] := ⟨⟨_, _, F14, (F14.bindsN fun _ _ _ _ _ _ us hl => match us, hl with | [_], _ => rfl), He.glo_ok X G (F 44 (f := .glo "part_in") rfl)⟩⟩
  obtain ⟨fd15, F15⟩ := D 15 (d := dd15) rfl
  have D_is_part : Def K mg "is_part" (top 36) ["signs", "boxes", "value"] := ⟨⟨_, _, F15, (F15.bindsN fun _ _ _ _ _ _ us hl => match us, hl with | [_, _, _], _ => rfl), He.glo_ok X G (F 34 (f := .glo "is_part") rfl)⟩⟩
  obtain ⟨fd16, F16⟩ := D 16 (d := dd16) rfl
  have D_is_way : Def K mg "is_way" (top 37) ["signs", "many", "value"] := ⟨⟨_, _, F16, (F16.bindsN fun _ _ _ _ _ _ us hl => match us, hl with | [_, _, _], _ => rfl), He.glo_ok X G (F 39 (f := .glo "is_way") rfl)⟩⟩
  obtain ⟨fd17, F17⟩ := D 17 (d := dd17) rfl
  have D_is_begin : Def K mg "is_begin" (top 39) ["signs", "many", "value"] := ⟨⟨_, _, F17, (F17.bindsN fun _ _ _ _ _ _ us hl => match us, hl with | [_, _, _], _ => rfl), He.glo_ok X G (F 30 (f := .glo "is_begin") rfl)⟩⟩
  obtain ⟨fd18, F18⟩ := D 18 (d := dd18) rfl
  have D_are_ways : Def K mg "are_ways" (top 38) ["signs", "letters", "value"] := ⟨⟨_, _, F18, (F18.bindsN fun _ _ _ _ _ _ us hl => match us, hl with | [_, _, _], _ => rfl), He.glo_ok X G (F 27 (f := .glo "are_ways") rfl)⟩⟩
  obtain ⟨fd19, F19⟩ := D 19 (d := dd19) rfl
  have D_do_fit : Def K mg "do_fit" (top 40) ["boxes", "ways"] := ⟨⟨_, _, F19, (F19.bindsN fun _ _ _ _ _ _ us hl => match us, hl with | [_, _], _ => rfl), He.glo_ok X G (F 29 (f := .glo "do_fit") rfl)⟩⟩
  obtain ⟨fd20, F20⟩ := D 20 (d := dd20) rfl
  have D_are_ends : Def K mg "are_ends" (top 41) ["signs", "boxes", "many", "value"] := ⟨⟨_, _, F20, (F20.bindsN fun _ _ _ _ _ _ us hl => match us, hl with | [_, _, _, _], _ => rfl), He.glo_ok X G (F 26 (f := .glo "are_ends") rfl)⟩⟩
  obtain ⟨fd21, F21⟩ := D 21 (d := dd21) rfl
  have D_wrong_word : Def K mg "wrong_word" (top 42) ["signs", "letters", "begin", "ways", "ends"] := ⟨⟨_, _, F21, (F21.bindsN fun _ _ _ _ _ _ us hl => match us, hl with | [_, _, _, _, _], _ => rfl), He.glo_ok X G (F 53 (f := .glo "wrong_word") rfl)⟩⟩
  obtain ⟨fd22, F22⟩ := D 22 (d := dd22) rfl
  have D_Program_UinitU : Ini K mg "Program" (cls_Program K) "Program.__init__" (inClass (top 46) 0) ["self", "signs", "letters", "begin", "ways", "ends"] [] := ⟨⟨_, _, _, F22, (F22.bindsN fun _ _ _ _ _ _ us hl => match us, hl with | [_, _, _, _, _, _], _ => rfl), ⟨[], .nil, (F22.bindsN fun _ _ _ _ _ _ us hl => match us, hl with | [_, _, _, _, _, _], _ => rfl)⟩, He.mkr_ok (F 119 (f := .mkr "Program") rfl)⟩, He.glo_ok X G (F 3 (f := .glo "Program") rfl)⟩
  obtain ⟨fd23, F23⟩ := D 23 (d := dd23) rfl
  have D_Program_UstrU : Spc K (cls_Program K) "__str__" "Program.__str__" (inClass (top 46) 5) ["self"] := ⟨(let M := He.meth_ok (F 99 (f := .meth "Program" "__str__") rfl); ⟨_, _, F23, (F23.bindsN fun _ _ _ _ _ _ us hl => match us, hl with | [_], _ => rfl), M.at_, M.fn⟩)⟩
  obtain ⟨fd24, F24⟩ := D 24 (d := dd24) rfl
  have D_Reader_UinitU : Ini K mg "Reader" (cls_Reader K) "Reader.__init__" (inClass (top 47) 0) ["self", "lines"] [] := ⟨⟨_, _, _, F24, (F24.bindsN fun _ _ _ _ _ _ us hl => match us, hl with | [_, _], _ => rfl), ⟨[], .nil, (F24.bindsN fun _ _ _ _ _ _ us hl => match us, hl with | [_, _], _ => rfl)⟩, He.mkr_ok (F 120 (f := .mkr "Reader") rfl)⟩, He.glo_ok X G (F 4 (f := .glo "Reader") rfl)⟩
  obtain ⟨fd25, F25⟩ := D 25 (d := dd25) rfl
  have D_Reader_need : Mth K (cls_Reader K) "need" "Reader.need" (inClass (top 47) 1) ["self", "is_fit"] := ⟨⟨_, _, F25, (F25.bindsN fun _ _ _ _ _ _ us hl => match us, hl with | [_, _], _ => rfl), He.meth_ok (F 100 (f := .meth "Reader" "need") rfl)⟩⟩
  obtain ⟨fd26, F26⟩ := D 26 (d := dd26) rfl
  have D_Reader_words : Mth K (cls_Reader K) "words" "Reader.words" (inClass (top 47) 2) ["self"] := ⟨⟨_, _, F26, (F26.bindsN fun _ _ _ _ _ _ us hl => match us, hl with | [_], _ => rfl), He.meth_ok (F 101 (f := .meth "Reader" "words") rfl)⟩⟩
  obtain ⟨fd27, F27⟩ := D 27 (d := dd27) rfl
  have D_Reader_first_line : Mth K (cls_Reader K) "first_line" "Reader.first_line" (inClass (top 47) 4) ["self"] := ⟨⟨_, _, F27, (F27.bindsN fun _ _ _ _ _ _ us hl => match us, hl with | [_], _ => rfl), He.meth_ok (F 102 (f := .meth "Reader" "first_line") rfl)⟩⟩
  obtain ⟨fd28, F28⟩ := D 28 (d := dd28) rfl
  have D_Reader_begin_line : Mth K (cls_Reader K) "begin_line" "Reader.begin_line" (inClass (top 47) 5) ["self"] := ⟨⟨_, _, F28, (F28.bindsN fun _ _ _ _ _ _ us hl => match us, hl with | [_], _ => rfl), He.meth_ok (F 103 (f := .meth "Reader" "begin_line") rfl)⟩⟩
  obtain ⟨fd29, F29⟩ := D 29 (d := dd29) rfl
  have D_Reader_one_mode : Mth K (cls_Reader K) "one_mode" "Reader.one_mode" (inClass (top 47) 6) ["self"] := ⟨⟨_, _, F29, (F29.bindsN fun _ _ _ _ _ _ us hl => match us, hl with | [_], _ => rfl), He.meth_ok (F 104 (f := .meth "Reader" "one_mode") rfl)⟩⟩
  obtain ⟨fd30, F30⟩ := D 30 (d := dd30) rfl
  have D_Reader_end_line : Mth K (cls_Reader K) "end_line" "Reader.end_line" (inClass (top 47) 7) ["self", "mode"] := ⟨⟨_, _, F30, (F30.bindsN fun _ _ _ _ _ _ us hl => match us, hl with | [_, _], _ => rfl), He.meth_ok (F 105 (f := .meth "Reader" "end_line") rfl)⟩⟩
  obtain ⟨fd31, F31⟩ := D 31 (d := dd31) rfl
  have D_Reader_all_lines : Mth K (cls_Reader K) "all_lines" "Reader.all_lines" (inClass (top 47) 3) ["self"] := ⟨⟨_, _, F31, (F31.bindsN fun _ _ _ _ _ _ us hl => match us, hl with | [_], _ => rfl), He.meth_ok (F 106 (f := .meth "Reader" "all_lines") rfl)⟩⟩
  obtain ⟨fd32, F32⟩ := D 32 (d := dd32) rfl
  have D_Program_read : Adr K (He5.wf K (cP K) "classmethod" "read") "read" "Program.read" (inClass (top 46) 1) ["cls", "text"] := ⟨⟨_, F32, (F32.bindsN fun _ _ _ _ _ _ us hl => match us, hl with | [_, _], _ => rfl)⟩⟩
  obtain ⟨fd33, F33⟩ := D 33 (d := dd33) rfl
  have D_Program_UeqU : Spc K (cls_Program K) "__eq__" "Program.__eq__" (inClass (top 46) 4) ["self", "other"] := ⟨(let M := He.meth_ok (F 107 (f := .meth "Program" "__eq__") rfl); ⟨_, _, F33, (F33.bindsN fun _ _ _ _ _ _ us hl => match us, hl with | [_, _], _ => rfl), M.at_, M.fn⟩)⟩
  obtain ⟨fd34, F34⟩ := D 34 (d := dd34) rfl
  have D_need_input : Def K mg "need_input" (top 10) ["letters", "text"] := ⟨⟨_, _, F34, (F34.bindsN fun _ _ _ _ _ _ us hl => match us, hl with | [_, _], _ => rfl), He.glo_ok X G (F 42 (f := .glo "need_input") rfl)⟩⟩
  obtain ⟨fd35, F35⟩ := D 35 (d := dd35) rfl
  have D_led : Def K mg "led" (top 11) ["program", "standing", "letter"] := ⟨⟨_, _, F35, (F35.bindsN fun _ _ _ _ _ _ us hl => match us, hl with | [_, _, _], _ => rfl), He.glo_ok X G (F 41 (f := .glo "led") rfl)⟩⟩
  obtain ⟨fd36, F36⟩ := D 36 (d := dd36) rfl
  have D_stand : Def K mg "stand" (top 12) ["program", "text"] := ⟨⟨_, _, F36, (F36.bindsN fun _ _ _ _ _ _ us hl => match us, hl with | [_, _], _ => rfl), He.glo_ok X G (F 48 (f := .glo "stand") rfl)⟩⟩
  obtain ⟨fd37, F37⟩ := D 37 (d := dd37) rfl
  have D_row_text : Def K mg "row_text" (top 13) ["row", "texts"] := ⟨⟨_, _, F37, (F37.bindsN fun _ _ _ _ _ _ us hl => match us, hl with | [_, _], _ => rfl), He.glo_ok X G (F 46 (f := .glo "row_text") rfl)⟩⟩
  obtain ⟨fd38, F38⟩ := D 38 (d := dd38) rfl
  have D_written_at : Def K mg "written_at" (top 14) ["program", "standing"] := ⟨⟨_, _, F38, (F38.bindsN fun _ _ _ _ _ _ us hl => match us, hl with | [_, _], _ => rfl), He.glo_ok X G (F 52 (f := .glo "written_at") rfl)⟩⟩
  obtain ⟨fd39, F39⟩ := D 39 (d := dd39) rfl
  have D_write : Def K mg "write" (top 15) ["program", "text"] := ⟨⟨_, _, F39, (F39.bindsN fun _ _ _ _ _ _ us hl => match us, hl with | [_, _], _ => rfl), He.glo_ok X G (F 51 (f := .glo "write") rfl)⟩⟩
  obtain ⟨fd40, F40⟩ := D 40 (d := dd40) rfl
  have D_unlike_word : Def K mg "unlike_word" (top 18) ["p", "q"] := ⟨⟨_, _, F40, (F40.bindsN fun _ _ _ _ _ _ us hl => match us, hl with | [_, _], _ => rfl), He.glo_ok X G (F 50 (f := .glo "unlike_word") rfl)⟩⟩
  obtain ⟨fd41, F41⟩ := D 41 (d := dd41) rfl
  have D_behind : Def K mg "behind" (top 49) ["program", "text"] := ⟨⟨_, _, F41, (F41.bindsN fun _ _ _ _ _ _ us hl => match us, hl with | [_, _], _ => rfl), He.glo_ok X G (F 28 (f := .glo "behind") rfl)⟩⟩
  obtain ⟨fd42, F42⟩ := D 42 (d := dd42) rfl
  have D_Live_UinitU : Ini K mg "Live" (cls_Live K) "Live.__init__" (inClass (top 19) 0) ["self", "program"] [] := ⟨⟨_, _, _, F42, (F42.bindsN fun _ _ _ _ _ _ us hl => match us, hl with | [_, _], _ => rfl), ⟨[], .nil, (F42.bindsN fun _ _ _ _ _ _ us hl => match us, hl with | [_, _], _ => rfl)⟩, He.mkr_ok (F 121 (f := .mkr "Live") rfl)⟩, He.glo_ok X G (F 2 (f := .glo "Live") rfl)⟩
  obtain ⟨fd43, F43⟩ := D 43 (d := dd43) rfl
  have D_Live_program : Prp K (cls_Live K) "program" "Live.program" (inClass (top 19) 1) ["self"] := ⟨⟨_, _, _, F43, (F43.bindsN fun _ _ _ _ _ _ us hl => match us, hl with | [_], _ => rfl), pr "program" (by simp)⟩⟩
  obtain ⟨fd44, F44⟩ := D 44 (d := dd44) rfl
  have D_Live_spot : Prp K (cls_Live K) "spot" "Live.spot" (inClass (top 19) 2) ["self"] := ⟨⟨_, _, _, F44, (F44.bindsN fun _ _ _ _ _ _ us hl => match us, hl with | [_], _ => rfl), pr "spot" (by simp)⟩⟩
  obtain ⟨fd45, F45⟩ := D 45 (d := dd45) rfl
  have D_Live_texts : Prp K (cls_Live K) "texts" "Live.texts" (inClass (top 19) 3) ["self"] := ⟨⟨_, _, _, F45, (F45.bindsN fun _ _ _ _ _ _ us hl => match us, hl with | [_], _ => rfl), pr "texts" (by simp)⟩⟩
  obtain ⟨fd46, F46⟩ := D 46 (d := dd46) rfl
  have D_Live_heard : Prp K (cls_Live K) "heard" "Live.heard" (inClass (top 19) 4) ["self"] := ⟨⟨_, _, _, F46, (F46.bindsN fun _ _ _ _ _ _ us hl => match us, hl with | [_], _ => rfl), pr "heard" (by simp)⟩⟩
  obtain ⟨fd47, F47⟩ := D 47 (d := dd47) rfl
  have D_Live_shown : Prp K (cls_Live K) "shown" "Live.shown" (inClass (top 19) 5) ["self"] := ⟨⟨_, _, _, F47, (F47.bindsN fun _ _ _ _ _ _ us hl => match us, hl with | [_], _ => rfl), pr "shown" (by simp)⟩⟩
  obtain ⟨fd48, F48⟩ := D 48 (d := dd48) rfl
  have D_Live_is_letter : Mth K (cls_Live K) "is_letter" "Live.is_letter" (inClass (top 19) 6) ["self", "value"] := ⟨⟨_, _, F48, (F48.bindsN fun _ _ _ _ _ _ us hl => match us, hl with | [_, _], _ => rfl), He.meth_ok (F 108 (f := .meth "Live" "is_letter") rfl)⟩⟩
  obtain ⟨fd49, F49⟩ := D 49 (d := dd49) rfl
  have D_Live_go_on : Mth K (cls_Live K) "go_on" "Live.go_on" (inClass (top 19) 8) ["self", "letters"] := ⟨⟨_, _, F49, (F49.bindsN fun _ _ _ _ _ _ us hl => match us, hl with | [_, _], _ => rfl), He.meth_ok (F 109 (f := .meth "Live" "go_on") rfl)⟩⟩
  obtain ⟨fd50, F50⟩ := D 50 (d := dd50) rfl
  have D_Live_take : Mth K (cls_Live K) "take" "Live.take" (inClass (top 19) 7) ["self", "letter"] := ⟨⟨_, _, F50, (F50.bindsN fun _ _ _ _ _ _ us hl => match us, hl with | [_, _], _ => rfl), He.meth_ok (F 110 (f := .meth "Live" "take") rfl)⟩⟩
  obtain ⟨fd51, F51⟩ := D 51 (d := dd51) rfl
  have D_Live_several : Mth K (cls_Live K) "several" "Live.several" (inClass (top 19) 9) ["self", "letters"] := ⟨⟨_, _, F51, (F51.bindsN fun _ _ _ _ _ _ us hl => match us, hl with | [_, _], _ => rfl), He.meth_ok (F 111 (f := .meth "Live" "several") rfl)⟩⟩
  obtain ⟨fd52, F52⟩ := D 52 (d := dd52) rfl
  have D_Live_change : Mth K (cls_Live K) "change" "Live.change" (inClass (top 19) 10) ["self", "program"] := ⟨⟨_, _, F52, (F52.bindsN fun _ _ _ _ _ _ us hl => match us, hl with | [_, _], _ => rfl), He.meth_ok (F 112 (f := .meth "Live" "change") rfl)⟩⟩
  obtain ⟨fd53, F53⟩ := D 53 (d := dd53) rfl
  have D_Live_undo : Mth K (cls_Live K) "undo" "Live.undo" (inClass (top 19) 11) ["self"] := ⟨⟨_, _, F53, (F53.bindsN fun _ _ _ _ _ _ us hl => match us, hl with | [_], _ => rfl), He.meth_ok (F 113 (f := .meth "Live" "undo") rfl)⟩⟩
  obtain ⟨fd54, F54⟩ := D 54 (d := dd54) rfl
  have D_Live_UlenU : Spc K (cls_Live K) "__len__" "Live.__len__" (inClass (top 19) 13) ["self"] := ⟨(let M := He.meth_ok (F 114 (f := .meth "Live" "__len__") rfl); ⟨_, _, F54, (F54.bindsN fun _ _ _ _ _ _ us hl => match us, hl with | [_], _ => rfl), M.at_, M.fn⟩)⟩
  obtain ⟨fd55, F55⟩ := D 55 (d := dd55) rfl
  have D_Block_UinitU : Ini K mg "Block" (cls_Block K) "Block.__init__" (inClass (top 17) 0) ["self", "live"] [] := ⟨⟨_, _, _, F55, (F55.bindsN fun _ _ _ _ _ _ us hl => match us, hl with | [_, _], _ => rfl), ⟨[], .nil, (F55.bindsN fun _ _ _ _ _ _ us hl => match us, hl with | [_, _], _ => rfl)⟩, He.mkr_ok (F 122 (f := .mkr "Block") rfl)⟩, He.glo_ok X G (F 0 (f := .glo "Block") rfl)⟩
  obtain ⟨fd56, F56⟩ := D 56 (d := dd56) rfl
  have D_Block_UenterU : Spc K (cls_Block K) "__enter__" "Block.__enter__" (inClass (top 17) 1) ["self"] := ⟨(let M := He.meth_ok (F 115 (f := .meth "Block" "__enter__") rfl); ⟨_, _, F56, (F56.bindsN fun _ _ _ _ _ _ us hl => match us, hl with | [_], _ => rfl), M.at_, M.fn⟩)⟩
  obtain ⟨fd57, F57⟩ := D 57 (d := dd57) rfl
  have D_Block_UexitU : Spc K (cls_Block K) "__exit__" "Block.__exit__" (inClass (top 17) 2) ["self", "kind", "value", "trace"] := ⟨(let M := He.meth_ok (F 116 (f := .meth "Block" "__exit__") rfl); ⟨_, _, F57, (F57.bindsN fun _ _ _ _ _ _ us hl => match us, hl with | [_, _, _, _], _ => rfl), M.at_, M.fn⟩)⟩
  obtain ⟨fd58, F58⟩ := D 58 (d := dd58) rfl
  have D__law_worked : Adr K (aW K) "_law_worked" "_law_worked" (top 76) ["_law_inner"] := ⟨⟨_, F58, (F58.bindsN fun _ _ _ _ _ _ us hl => match us, hl with | [_], _ => rfl)⟩⟩
  obtain ⟨fd59, F59⟩ := D 59 (d := dd59) rfl
  have D_Live_within : Mth K (cls_Live K) "within" "Live.within" (inClass (top 19) 12) ["self", "work"] := ⟨⟨_, _, F59, (F59.bindsN fun _ _ _ _ _ _ us hl => match us, hl with | [_, _], _ => rfl), He.meth_ok (F 117 (f := .meth "Live" "within") rfl)⟩⟩
  obtain ⟨fd60, F60⟩ := D 60 (d := dd60) rfl
  have D__law_seed : Def K mg "_law_seed" (top 51) ["_law_script", "_law_k"] := ⟨⟨_, _, F60, (F60.bindsN fun _ _ _ _ _ _ us hl => match us, hl with | [_, _], _ => rfl), He.glo_ok X G (F 19 (f := .glo "_law_seed") rfl)⟩⟩
  obtain ⟨fd61, F61⟩ := D 61 (d := dd61) rfl
  have D__law_choose : Def K mg "_law_choose" (top 52) ["_law_box", "_law_many"] := ⟨⟨_, _, F61, (F61.bindsN fun _ _ _ _ _ _ us hl => match us, hl with | [_, _], _ => rfl), He.glo_ok X G (F 8 (f := .glo "_law_choose") rfl)⟩⟩
  obtain ⟨fd62, F62⟩ := D 62 (d := dd62) rfl
  have D__law_one_of : Def K mg "_law_one_of" (top 53) ["_law_box", "_law_some"] := ⟨⟨_, _, F62, (F62.bindsN fun _ _ _ _ _ _ us hl => match us, hl with | [_, _], _ => rfl), He.glo_ok X G (F 16 (f := .glo "_law_one_of") rfl)⟩⟩
  obtain ⟨fd63, F63⟩ := D 63 (d := dd63) rfl
  have D__law_told : Def K mg "_law_told" (top 55) ["_law_box", "_law_marks", "_law_most"] := ⟨⟨_, _, F63, (F63.bindsN fun _ _ _ _ _ _ us hl => match us, hl with | [_, _, _], _ => rfl), He.glo_ok X G (F 24 (f := .glo "_law_told") rfl)⟩⟩
  obtain ⟨fd64, F64⟩ := D 64 (d := dd64) rfl
  have D__law_set : Def K mg "_law_set" (top 56) ["_law_box", "_law_marks", "_law_cells"] := ⟨⟨_, _, F64, (F64.bindsN fun _ _ _ _ _ _ us hl => match us, hl with | [_, _, _], _ => rfl), He.glo_ok X G (F 20 (f := .glo "_law_set") rfl)⟩⟩
  obtain ⟨fd65, F65⟩ := D 65 (d := dd65) rfl
  have D__law_close : Def K mg "_law_close" (top 57) ["_law_box", "_law_marks", "_law_cells"] := ⟨⟨_, _, F65, (F65.bindsN fun _ _ _ _ _ _ us hl => match us, hl with | [_, _, _], _ => rfl), He.glo_ok X G (F 9 (f := .glo "_law_close") rfl)⟩⟩
  obtain ⟨fd66, F66⟩ := D 66 (d := dd66) rfl
  have D__law_drawn : Def K mg "_law_drawn" (top 58) ["_law_box", "_law_moods", "_law_cells", "_law_keys"] := ⟨⟨_, _, F66, (F66.bindsN fun _ _ _ _ _ _ us hl => match us, hl with | [_, _, _, _], _ => rfl), He.glo_ok X G (F 12 (f := .glo "_law_drawn") rfl)⟩⟩
  obtain ⟨fd67, F67⟩ := D 67 (d := dd67) rfl
  have D__law_set_text : Def K mg "_law_set_text" (top 59) ["_law_one"] := ⟨⟨_, _, F67, (F67.bindsN fun _ _ _ _ _ _ us hl => match us, hl with | [_], _ => rfl), He.glo_ok X G (F 21 (f := .glo "_law_set_text") rfl)⟩⟩
  obtain ⟨fd68, F68⟩ := D 68 (d := dd68) rfl
  have D__law_part_text : Def K mg "_law_part_text" (top 60) ["_law_part"] := ⟨⟨_, _, F68, (F68.bindsN fun _ _ _ _ _ _ us hl => match us, hl with | [_], _ => rfl), He.glo_ok X G (F 18 (f := .glo "_law_part_text") rfl)⟩⟩
  obtain ⟨fd69, F69⟩ := D 69 (d := dd69) rfl
  have D__law_text : Def K mg "_law_text" (top 61) ["_law_told_here"] := ⟨⟨_, _, F69, (F69.bindsN fun _ _ _ _ _ _ us hl => match us, hl with | [_], _ => rfl), He.glo_ok X G (F 23 (f := .glo "_law_text") rfl)⟩⟩
  obtain ⟨fd70, F70⟩ := D 70 (d := dd70) rfl
  have D__law_made : Def K mg "_law_made" (top 62) ["_law_told_here"] := ⟨⟨_, _, F70, (F70.bindsN fun _ _ _ _ _ _ us hl => match us, hl with | [_], _ => rfl), He.glo_ok X G (F 15 (f := .glo "_law_made") rfl)⟩⟩
  obtain ⟨fd71, F71⟩ := D 71 (d := dd71) rfl
  have D__law_over : Def K mg "_law_over" (top 63) ["_law_one", "_law_cells"] := ⟨⟨_, _, F71, (F71.bindsN fun _ _ _ _ _ _ us hl => match us, hl with | [_, _], _ => rfl), He.glo_ok X G (F 17 (f := .glo "_law_over") rfl)⟩⟩
  obtain ⟨fd72, F72⟩ := D 72 (d := dd72) rfl
  have D__law_led : Def K mg "_law_led" (top 64) ["_law_told_here", "_law_now", "_law_key"] := ⟨⟨_, _, F72, (F72.bindsN fun _ _ _ _ _ _ us hl => match us, hl with | [_, _, _], _ => rfl), He.glo_ok X G (F 14 (f := .glo "_law_led") rfl)⟩⟩
  obtain ⟨fd73, F73⟩ := D 73 (d := dd73) rfl
  have D__law_stood : Def K mg "_law_stood" (top 65) ["_law_told_here", "_law_keys"] := ⟨⟨_, _, F73, (F73.bindsN fun _ _ _ _ _ _ us hl => match us, hl with | [_, _], _ => rfl), He.glo_ok X G (F 22 (f := .glo "_law_stood") rfl)⟩⟩
  obtain ⟨fd74, F74⟩ := D 74 (d := dd74) rfl
  have D__law_closed : Def K mg "_law_closed" (top 66) ["_law_close_here", "_law_cells"] := ⟨⟨_, _, F74, (F74.bindsN fun _ _ _ _ _ _ us hl => match us, hl with | [_, _], _ => rfl), He.glo_ok X G (F 10 (f := .glo "_law_closed") rfl)⟩⟩
  obtain ⟨fd75, F75⟩ := D 75 (d := dd75) rfl
  have D__law_doubled : Def K mg "_law_doubled" (top 72) ["_law_box", "_law_told_here"] := ⟨⟨_, _, F75, (F75.bindsN fun _ _ _ _ _ _ us hl => match us, hl with | [_, _], _ => rfl), He.glo_ok X G (F 11 (f := .glo "_law_doubled") rfl)⟩⟩
  obtain ⟨fd76, F76⟩ := D 76 (d := dd76) rfl
  have D__law_bent : Def K mg "_law_bent" (top 73) ["_law_box", "_law_told_here"] := ⟨⟨_, _, F76, (F76.bindsN fun _ _ _ _ _ _ us hl => match us, hl with | [_, _], _ => rfl), He.glo_ok X G (F 7 (f := .glo "_law_bent") rfl)⟩⟩
  obtain ⟨fd77, F77⟩ := D 77 (d := dd77) rfl
  have D__law_is_right : Def K mg "_law_is_right" (top 74) ["_law_live", "_law_told_here", "_law_now", "_law_heard"] := ⟨⟨_, _, F77, (F77.bindsN fun _ _ _ _ _ _ us hl => match us, hl with | [_, _, _, _], _ => rfl), He.glo_ok X G (F 13 (f := .glo "_law_is_right") rfl)⟩⟩
  obtain ⟨fd78, F78⟩ := D 78 (d := dd78) rfl
  have D__law_are_twins : Def K mg "_law_are_twins" (top 75) ["_law_box", "_law_first", "_law_twin"] := ⟨⟨_, _, F78, (F78.bindsN fun _ _ _ _ _ _ us hl => match us, hl with | [_, _, _], _ => rfl), He.glo_ok X G (F 6 (f := .glo "_law_are_twins") rfl)⟩⟩
  obtain ⟨fdL, FL⟩ := D 79 (d := dd79) rfl
  have e := hfa.symm.trans (He.glo_ok X G (F 40 (f := .glo "law") rfl))
  cases e
  have b := FunD.bindsA (ps := ["_law_script"]) FL fun _ _ _ _ _ _ us hl => match us, hl with | [_], _ => rfl
  refine ⟨fdL, fun s v => b s [v] rfl, fun base _ _ => ?_⟩
  exact chain T ⟨x5, He.eqO_ok x6⟩ (He5.cmet_of x7 x8) D_is_integer D_is_number D_is_below D_is_sequence D_is_text D_is_signs D_number_in D_Setting_UinitU D_Setting_over D_Setting_UstrU D_is_setting D_setting_in D_text_word D_part_text D_part_in D_is_part D_is_way D_is_begin D_are_ways D_do_fit D_are_ends D_wrong_word D_Program_UinitU D_Program_UstrU D_Reader_UinitU D_Reader_need D_Reader_words D_Reader_first_line D_Reader_begin_line D_Reader_one_mode D_Reader_end_line D_Reader_all_lines D_Program_read D_Program_UeqU D_need_input D_led D_stand D_row_text D_written_at D_write D_unlike_word D_behind D_Live_UinitU D_Live_program D_Live_spot D_Live_texts D_Live_heard D_Live_shown D_Live_is_letter D_Live_go_on D_Live_take D_Live_several D_Live_change D_Live_undo D_Live_UlenU D_Block_UinitU D_Block_UenterU D_Block_UexitU D__law_worked D_Live_within D__law_seed D__law_choose D__law_one_of D__law_told D__law_set D__law_close D__law_drawn D__law_set_text D__law_part_text D__law_text D__law_made D__law_over D__law_led D__law_stood D__law_closed D__law_doubled D__law_bent D__law_is_right D__law_are_twins FL
end Gt
open PySem PySem.W PySem.Calls PyProof.Rows
theorem PySem.Challenge.cw_growntexts_k85_whole_readers_and_functio_holds : PySem.Challenge.rw_growntexts_k85_whole_readers_and_functio.Holds := by
  w_on; o_law
  refine HandSHeadRun.head_any (r := Gt.RZ) (q := Gt.qZ) (H := Gt.hkZ) (ob := Gt.obZ) (M := 8000) (loose := Gt.names) (d := HandSHeadRun.topDef Gt.RZ.prog 77) (kwd := []) Gt.obZ_eq
    (by kernel_rfl) (fun s => by kernel_rfl) Gt.runZ (by kernel_rfl) (by kernel_rfl) (by kernel_rfl) (by rfl) (by first | assumption | decide +kernel) (by decide +kernel) ⟨rfl, rfl, rfl, rfl, rfl, by decide +kernel⟩ ?hw ?hc
  case hw => w_witness2
  case hc =>
    refine L2.walk_ofE (l := PySem.Challenge.rw_growntexts_k85_whole_readers_and_functio) (n := 63) (k := 12) (x := "_law_script") (CX := L2.CX0) rfl (by decide) (by kernel_rfl) ⟨rfl, by decide, by decide⟩ ?F (fun _ _ _ _ z => z)
    intro w mg fa h Y G hmg0
    obtain ⟨K, KX, c⟩ := Y
    have hmg : mg ("law" : PySem.Str) = some (.ref fa) := by
      have e : (HandSHeadRun.topDef Gt.RZ.prog 77).name = ("law" : PySem.Str) := by kernel_rfl
      rw [← e]
      exact hmg0
    obtain ⟨fd, hb, hF⟩ := Gt.factsZ (P := (PySem.Challenge.rw_growntexts_k85_whole_readers_and_functio).prog) (w := w) KX G hmg c
    exact ⟨K, fd, Gt.sp_law K, KX, hb, fun H a ns hl _ hS => ⟨a, ns, rfl, hS, by omega, fun _ => rfl⟩, hF⟩
