import PyProof.Rows.All
import Wide.All
import OpenK.AllK
import Wide.FinOn
import HandS.ForMost
import HandS.Zip
import KE.GoesMore
import KE.GoesEnum
import KE.GoesZip
import HandS.TupAny
import HandS.Wide
import HandS.Deep
import HandS.TupLe
import HandS.IsInst
import HandS.FStr
import HandS.SortInts
import HandS.Codes
import HandS.IntHex
import HandS.NoneIn
import HandS.Style
import HandS.More
import HandS.SortKw
import HandS.WideBits
import KE.SortData
import KE.BitLaws
import KE.OsArith
import PySem.Challenge.RW_wholecircuits_k83_codes_and_what_they_se
set_option Elab.async false
set_option linter.all false
set_option maxRecDepth 100000
namespace WC
open PySem PySem.Spec PyProof.Rows L2
set_option maxHeartbeats 1000000 in
theorem meets_enum1 {v : Value} {o : Obj} {H : Heap → Prop} (B : PySem.Begins v o H) :
    Meets (Builtin.«enumerate.__new__» ⟨[.type "enumerate", v], []⟩) (fun _ R s => H s.heap ∧
      R (.ok (.ret (.ref (s.heap.push o).objs.size))) { s with heap := (s.heap.push o).push { cls := .type "enumerate", data := .fields #[.none, .bool false, .ref s.heap.objs.size, rawInt 0, .none, .none] } }) :=
  .of_wp fun prog w A R s h => by
    obtain ⟨hp, g, d, tk, os⟩ := s; obtain ⟨h1, h⟩ := h
    have hsub := sub_enumerate
    have q1 : ∀ {A' : Around} {E : Value → Shared → Prop} {Q : Value → Shared → Prop}, Q (.ref hp.objs.size) ⟨hp.push o, g, d, tk, os⟩ → wpAny (model prog w) A' (pyIter v) Q E ⟨hp, g, d, tk, os⟩ :=
      fun q => B.iter prog w _ _ ⟨hp, g, d, tk, os⟩ _ h1 q
    wp_walk using q1
    refine wpAny_stack_any fun st => wpAny_pure ?_
    split
    · rename_i c _ _ _ _ _
      cases (c == Value.type "enumerate")
      · wp_walk using q1
        exact ⟨_, rfl, h⟩
      · wp_walk using q1
        exact ⟨_, rfl, h⟩
    · wp_walk using q1
      exact ⟨_, rfl, h⟩
theorem call_enum1 {prog : Program} {w : World} {A : Around} {E : Value → Shared → Prop} {s : Shared} {v : Value} {o : Obj} {H : Heap → Prop} {Q : Value → Shared → Prop} (B : PySem.Begins v o H) (h1 : H s.heap)
    (h : ∀ h', IsEnum h' (s.heap.objs.size + 1) s.heap.objs.size 0 .none → h'.get? s.heap.objs.size = some o → h'.objs.size = s.heap.objs.size + 2 →
      (∀ b o, s.heap.get? b = some o → h'.get? b = some o) → Q (.ref (s.heap.objs.size + 1)) { s with heap := h' }) :
    wpAny (model prog w) A (call (.type "enumerate") [v]) Q E s := by
  refine callType_new F.called_enumerate (by decide) (F.typeCall_enumerate_1 _) (F.newCall_enumerate_1 _) (fun obj => F.args_object_init_2 obj _) F.entry_enumerate_new
    (meets_enum1 B) ⟨h1, ?_⟩
  have hz : (s.heap.push o).objs.size = s.heap.objs.size + 1 := Heap.size_push ..
  show _ ∧ _
  rw [hz]
  have he : IsEnum ((s.heap.push o).push { cls := .type "enumerate", data := .fields #[.none, .bool false, .ref s.heap.objs.size, rawInt 0, .none, .none] }) (s.heap.objs.size + 1) s.heap.objs.size 0 .none := by
    have := Heap.get?_push_size (s.heap.push o) (o := { cls := .type "enumerate", data := .fields #[.none, .bool false, .ref s.heap.objs.size, rawInt 0, .none, .none] }) rfl
    rw [hz] at this; exact this
  exact ⟨⟨_, he, rfl⟩, h _ he (Heap.get?_push_of_some _ (Heap.get?_push_size _ B.free)) (by rw [Heap.size_push, hz]) fun b o x => Heap.get?_push_of_some _ (Heap.get?_push_of_some _ x)⟩
def IteT (K : PySem.W.Frag) (a : Addr) : It :=
  ⟨fun i H => ∃ (xs : List V) (x : V), SqT K H a xs ∧ xs[i]? = some x, fun i H v H' => ∃ T x, v = .ref T ∧ H T = none ∧ H' = upd H T (.tup [.int (i : Nat), x]) ∧ ∀ xs, SqT K H a xs → xs[i]? = some x, fun i H => ∃ xs : List V, SqT K H a xs ∧ xs.length ≤ i⟩
theorem turn_enumT {P : Program} {w : World} {K : PySem.W.Frag} {elts : List Expr} {kk : Nat} {tpos : Pos} (a e it : Addr) (n : Nat) :
    Turn P w K (.Tuple elts kk tpos) (IteT K a) [e, it] e (fun i h => (∃ old, IsEnum h e it ((i : Nat) : Int) old) ∧ h.IsTupleIter it a i ∧ e ≠ it ∧ a ≠ it ∧ a ≠ e) where
  mem := by simp
  obj := fun i h st b hb => by
    obtain ⟨⟨old, he⟩, ⟨o, ho, hc, hd⟩, _⟩ := st
    have e' : b = e ∨ b = it := by simpa using hb
    rcases e' with z | z
    · rw [z]; exact ⟨_, he, fun v q => nomatch q⟩
    · rw [z]; exact ⟨o, ho, fun v q => by rw [hd] at q; cases q⟩
  keep := fun i h h' st k => let ⟨⟨old, he⟩, hi, hne⟩ := st; ⟨⟨old, k e (by simp) _ he⟩, hi.at fun o q => k it (by simp) o q, hne⟩
  item := by
    intro X hP hw hK hc i pins s σ H E I hf st hg
    subst hP hw hK
    obtain ⟨⟨old, he⟩, hit, hne, ha1, ha2⟩ := st
    obtain ⟨xs, x, hq, hx⟩ := hg
    obtain ⟨its, rv, p, hz⟩ := I.tuple hq
    obtain ⟨u, hu, ru⟩ := rv.get hx
    have hel : e < s.heap.objs.size := Heap.lt_size he
    have hil : it < s.heap.objs.size := by obtain ⟨_, q, _⟩ := hit; exact Heap.lt_size q
    have hlt : i < its.toArray.size := by
      have := (List.getElem?_eq_some_iff.mp hu).1
      simpa using this
    refine wpAny_pyNext_enum_itemD (Draws.tuple (prog := X.prog) (w := X.w) (A := X.A.in1) (I.ok.hd hc) it a ha1 its.toArray) he ⟨hit, p⟩ hlt hne (by simp; exact ⟨hne, Ne.symm ha2⟩) fun x' h' tk hx' ho ⟨hit', ht'⟩ hT hsz hk => ?_
    obtain rfl : x' = u := by
      have h1 : its.toArray[i]? = some x' := hx'
      rw [List.getElem?_toArray, hu] at h1
      exact (Option.some.inj h1).symm
    refine ⟨_, rfl, wpAny_letOwnedTupleGo_enum (s := { s with heap := h', toks := tk + 1 }) ho fun h'' he' sb => ?_⟩
    have hT2 : h''.get? s.heap.objs.size = some { cls := .type "tuple", data := .seq #[.int i tk, x'] } := (sb.2 _ (Nat.ne_of_gt hel)).trans hT
    have new : ObjOk X.prog X.w (upd H s.heap.objs.size (.tup [.int (i : Nat), x])) h'' s.heap.objs.size (.tup [.int (i : Nat), x]) :=
      ⟨by show 2 ≤ sizeLine; decide, [.int i tk, x'], .cons ⟨_, rfl⟩ (.cons ru .nil), ⟨_, hT2, rfl, _, rfl⟩⟩
    have I1 : Inv X pins σ (upd H s.heap.objs.size (.tup [.int (i : Nat), x])) { s with heap := h'', toks := tk + 1 } :=
      I.turnedNew (ch := [e, it]) (fun b ob hb q => (sb.2 b (fun z => hb (by simp [z]))).trans (hk b ob (fun z => hb (by simp [z])) (fun z => hb (by simp [z])) q)) hf (Nat.le_refl _) new
    refine ⟨.ref s.heap.objs.size, _, I1, rfl, ⟨_, x, rfl, I.hok.fresh (Nat.le_refl _), rfl, fun ys hy => by rw [I.tuple_inj hy hq]; exact hx⟩, ⟨⟨x', ?_⟩, hit'.at fun o q => (sb.2 it (Ne.symm hne)).trans q, hne, ha1, ha2⟩, fun b hb => ?_⟩
    · have e1 : ((i + 1 : Nat) : Int) = (i : Int) + 1 := by omega
      rw [e1]; exact he'
    · have hb' : b < s.heap.objs.size := by
        have e' : b = e ∨ b = it := by simpa using hb
        rcases e' with z | z
        · rw [z]; exact hel
        · rw [z]; exact hil
      rw [upd_ne (Nat.ne_of_lt hb')]
      exact (hf b hb).1
  done := by
    intro X hP hw hK hc i pins s σ H E I hf st hg
    subst hP hw hK
    obtain ⟨⟨old, he⟩, hit, hne, ha1, ha2⟩ := st
    obtain ⟨xs, hq, hx⟩ := hg
    obtain ⟨its, rv, p, hz⟩ := I.tuple hq
    obtain ⟨f0, f1, f2, f3, f4, f5⟩ := hf it (by simp)
    have hl := rv.length
    have hT : s.TypeIs (.ref e) "enumerate" := ⟨_, he, rfl⟩
    unfold pyNext
    refine wpAny_bind (wpAny_attempt (wpAny_callSpecial?_slot (name := Str.ofString "__next__") hT PySem.F.slot_enumerate_next
      (wpAny_call_entry PySem.F.slot_enumerate_next hT PySem.F.entry_enumerate_next ?_ (PySem.F.args_enumerate_next_1 _))))
    show wpAny _ _ (field (.ref e) 2 >>= _) _ _ _
    refine wpAny_bind (wpAny_field he rfl (x := .ref it) rfl ?_)
    refine wpAny_bind (wpAny_nextOf_tuple_end (I.ok.hd hc) hit p (by simp; omega) fun h' x he' hx' => ?_)
    obtain ⟨o, ho, hc'⟩ := hx'
    refine wpAny_bind (wpAny_isInstance (T := "StopIteration") (b := true) ⟨o, ho, hc'⟩ isSubtype_stop ?_)
    exact wpAny_pure ⟨rfl, I.turned (t' := s.toks) (fun b o hb q => he' b o hb q) f0 f1 f3 f4 f5⟩
  self := fun A i s Q E st h => let ⟨⟨_, he⟩, _⟩ := st; wpAny_pyIter_enum he h
def iEnumT (K : PySem.W.Frag) (ta : TA) : TI := fun σ H R => ta σ H fun vs H1 => ∃ a xs, vs = [.ref a] ∧ SqT K H1 a xs ∧ R (IteT K a) H1
theorem pi_enumT {X : Cx} {e : Expr} {ta : TA} {p pos tpos : Pos} {elts : List Expr} {kk : Nat} (hg : Gl X "enumerate") (hm : X.mg "enumerate" = none) (ha : PA X [e] ta) (hs : starEach [e] X.env = [(false, eval e X.env)]) :
    PI X (.Tuple elts kk tpos) (.Call (.Name "enumerate" p) [e] [] pos) (iEnumT X.K ta) := by
  refine ⟨fun pins s σ H R I h => ?_⟩
  refine Call_ (ld_blt I hg hm boot_enumerate (PyProof.Rows.callWith_type1 (thn (ha.run pos pins s σ H _ I h) fun us s1 ⟨vs, H1, I1, r1, q1⟩ => ?_) hs rfl))
  obtain ⟨a, xs, ex, hq, q⟩ := q1
  subst ex
  cases r1 with
  | cons r rr =>
    cases rr
    cases r
    obtain ⟨its, rv, p', hz⟩ := I1.tuple hq
    have hal : a < s1.heap.objs.size := by obtain ⟨o, ho, _⟩ := p'; exact Heap.lt_size ho
    refine call_enum1 (begins_tuple a its.toArray) p' fun h' he hit hsz hk => wpAny_pyIter_enum he ?_
    have I2 : Inv X pins σ H1 { s1 with heap := h' } := I1.kept (t' := s1.toks) hk
    refine ⟨s1.heap.objs.size + 1, [s1.heap.objs.size + 1, s1.heap.objs.size], _, _, H1, rfl, I2, turn_enumT a (s1.heap.objs.size + 1) s1.heap.objs.size 0, ⟨⟨.none, he⟩, ⟨_, hit, rfl, rfl⟩, Nat.succ_ne_self _, Nat.ne_of_lt hal, Nat.ne_of_lt (Nat.lt_succ_of_lt hal)⟩, fun b hb => ?_, q⟩
    have e' : b = s1.heap.objs.size + 1 ∨ b = s1.heap.objs.size := by simpa using hb
    have hle : s1.heap.objs.size ≤ b := by
      rcases e' with z | z
      · rw [z]; exact Nat.le_add_right _ _
      · rw [z]; exact Nat.le_refl _
    exact I1.fpOk hle (I1.hok.fresh hle)
def Itzs (x y : Str) : It :=
  ⟨fun i H => i < x.cps.size ∧ i < y.cps.size, fun i H v H' => ∃ T c d, v = .ref T ∧ H T = none ∧ H' = upd H T (.tup [.str ⟨#[c]⟩, .str ⟨#[d]⟩]) ∧ x.cps[i]? = some c ∧ y.cps[i]? = some d, fun i H => x.cps.size ≤ i ∨ y.cps.size ≤ i⟩
theorem turn_zipS {P : Program} {w : World} {K : PySem.W.Frag} {elts : List Expr} {kk : Nat} {tpos : Pos} {x y : Str} {t u : Tok} {z TI TO i1 i2 : Addr} (S : PySem.ZipSep2 z TI TO i1 i2 [i1] [i2]) :
    Turn P w K (.Tuple elts kk tpos) (Itzs x y) [z, TI, TO, i1, i2] z (fun i h => IsZip h z TI TO .none ∧ PySem.IsTupOf2 h TI (.ref i1) (.ref i2) ∧ (∃ a b, PySem.IsTupOf2 h TO a b) ∧ h.IsStrIter i1 (strIterType x) x t i ∧ h.IsStrIter i2 (strIterType y) y u i ∧ i ≤ x.cps.size ∧ i ≤ y.cps.size) where
  mem := by simp
  obj := fun i h st c hc => by
    obtain ⟨hz, hTI, ⟨a, b, hTO⟩, ⟨o1, e1, _, d1⟩, ⟨o2, e2, _, d2⟩, _⟩ := st
    have e' : c = z ∨ c = TI ∨ c = TO ∨ c = i1 ∨ c = i2 := by simpa using hc
    rcases e' with q | q | q | q | q
    · rw [q]; exact ⟨_, hz, fun v q => nomatch q⟩
    · rw [q]; exact ⟨_, hTI, fun v q => nomatch q⟩
    · rw [q]; exact ⟨_, hTO, fun v q => nomatch q⟩
    · rw [q]; exact ⟨o1, e1, fun v q => by rw [d1] at q; cases q⟩
    · rw [q]; exact ⟨o2, e2, fun v q => by rw [d2] at q; cases q⟩
  keep := fun i h h' st k => by
    obtain ⟨hz, hTI, ⟨a, b, hTO⟩, ⟨o1, e1, r1⟩, ⟨o2, e2, r2⟩, l⟩ := st
    exact ⟨k z (by simp) _ hz, k TI (by simp) _ hTI, ⟨a, b, k TO (by simp) _ hTO⟩, ⟨o1, k i1 (by simp) o1 e1, r1⟩, ⟨o2, k i2 (by simp) o2 e2, r2⟩, l⟩
  item := by
    intro X hP hw hK hc i pins s σ H E I hf st hg
    subst hP hw hK
    obtain ⟨hz, hTI, ⟨a0, b0, hTO⟩, h1, h2, l1, l2⟩ := st
    obtain ⟨g1, g2⟩ := hg
    have hzl : z < s.heap.objs.size := Heap.lt_size hz
    have n1 : z ≠ i1 := S.zi1
    have n2 : z ≠ i2 := S.zi2
    refine wpAny_pyNext_zipD2_item S (Draws.text (prog := X.prog) (w := X.w) (A := X.A.in1) (I.ok.hd hc) i1 x t) (Draws.text (prog := X.prog) (w := X.w) (A := X.A.in1) (I.ok.hd hc) i2 y u) hz hTI hTO h1 h2 g1 g2 fun x1 x2 h' tk p1 p2 z' TO' h1' h2' hT hsz hk => ?_
    obtain ⟨c, t1, ec, rfl⟩ := p1
    obtain ⟨d, t2, ed, rfl⟩ := p2
    refine ⟨_, rfl, wpAny_letOwnedTupleGo_zip (s := { s with heap := h', toks := tk }) z' fun h'' z'' sb => ?_⟩
    have hT2 : h''.get? s.heap.objs.size = some { cls := .type "tuple", data := .seq #[.str ⟨#[c]⟩ t1, .str ⟨#[d]⟩ t2] } := (sb.2 _ (Nat.ne_of_gt hzl)).trans hT
    have new : ObjOk X.prog X.w (upd H s.heap.objs.size (.tup [.str ⟨#[c]⟩, .str ⟨#[d]⟩])) h'' s.heap.objs.size (.tup [.str ⟨#[c]⟩, .str ⟨#[d]⟩]) :=
      ⟨by show 2 ≤ sizeLine; decide, [.str ⟨#[c]⟩ t1, .str ⟨#[d]⟩ t2], .cons ⟨_, rfl⟩ (.cons ⟨_, rfl⟩ .nil), ⟨_, hT2, rfl, _, rfl⟩⟩
    have I1 : Inv X pins σ (upd H s.heap.objs.size (.tup [.str ⟨#[c]⟩, .str ⟨#[d]⟩])) { s with heap := h'', toks := tk } :=
      I.turnedNew (ch := [z, TI, TO, i1, i2]) (fun c o hb q => (sb.2 c (fun q' => hb (by simp [q']))).trans (hk c o (fun q' => hb (by simp [q'])) (fun q' => hb (by simp [q'])) (fun q' => hb (by simp [q'])) (fun q' => hb (by simp [q'])) q)) hf (Nat.le_refl _) new
    refine ⟨.ref s.heap.objs.size, _, I1, rfl, ⟨_, c, d, rfl, I.hok.fresh (Nat.le_refl _), rfl, ec, ed⟩, ⟨z'', ?_, ⟨.str ⟨#[c]⟩ t1, .str ⟨#[d]⟩ t2, ?_⟩, ?_, ?_, g1, g2⟩, fun c hcm => ?_⟩
    · exact (sb.2 _ S.TIz).trans (hk _ _ S.TIz S.TITO S.TIi1 S.TIi2 hTI)
    · exact (sb.2 _ S.TOz).trans TO'
    · obtain ⟨o, e, r⟩ := h1'
      exact ⟨o, (sb.2 _ (Ne.symm n1)).trans e, r⟩
    · obtain ⟨o, e, r⟩ := h2'
      exact ⟨o, (sb.2 _ (Ne.symm n2)).trans e, r⟩
    · have hlt : c < s.heap.objs.size := by
        have e' : c = z ∨ c = TI ∨ c = TO ∨ c = i1 ∨ c = i2 := by simpa using hcm
        rcases e' with q | q | q | q | q
        · rw [q]; exact hzl
        · rw [q]; exact Heap.lt_size hTI
        · rw [q]; exact Heap.lt_size hTO
        · rw [q]; obtain ⟨_, e1, _⟩ := h1; exact Heap.lt_size e1
        · rw [q]; obtain ⟨_, e2, _⟩ := h2; exact Heap.lt_size e2
      rw [upd_ne (Nat.ne_of_lt hlt)]
      exact (hf c hcm).1
  done := by
    intro X hP hw hK hc i pins s σ H E I hf st hg
    subst hP hw hK
    obtain ⟨hz, hTI, ⟨a0, b0, hTO⟩, h1, h2, l1, l2⟩ := st
    have he : i = x.cps.size ∨ i = y.cps.size := by
      have hg : x.cps.size ≤ i ∨ y.cps.size ≤ i := hg
      omega
    exact wpAny_pyNext_zipD2_end S (Draws.text (prog := X.prog) (w := X.w) (A := X.A.in1) (I.ok.hd hc) i1 x t) (Draws.text (prog := X.prog) (w := X.w) (A := X.A.in1) (I.ok.hd hc) i2 y u) hz hTI hTO h1 h2 l1 l2 he fun h' tk hk => ⟨rfl, I.turnedL (t' := tk) (ch := [z, TI, TO, i1, i2]) (fun c o hb q =>
      hk c o (fun q' => hb (by simp [q'])) (fun q' => hb (by simp [q'])) (fun q' => hb (by simp [q'])) (fun q' => hb (by simp [q'])) q) hf⟩
  self := fun A i s Q E st h => wpAny_pyIter_zip st.1 h
def iZipS (ta : TA) : TI := fun σ H R => ta σ H fun vs H1 => ∃ x y, vs = [.str x, .str y] ∧ R (Itzs x y) H1
theorem pi_zipS {X : Cx} {e e2 : Expr} {ta : TA} {p pos tpos : Pos} {elts : List Expr} {kk : Nat} (hg : Gl X "zip") (hm : X.mg "zip" = none) (ha : PA X [e, e2] ta)
    (hs : starEach [e, e2] X.env = (false, eval e X.env) :: starEach [e2] X.env) (hpl : (backTo pos (starEach [e2] X.env)).any (·.1) = false) :
    PI X (.Tuple elts kk tpos) (.Call (.Name "zip" p) [e, e2] [] pos) (iZipS ta) := by
  refine ⟨fun pins s σ H R I h => ?_⟩
  refine Call_ (ld_blt I hg hm PyProof.Rows.boot_zip (PyProof.Rows.callWith_type1 (thn (ha.run pos pins s σ H _ I h) fun us s1 ⟨vs, H1, I1, r1, q1⟩ => ?_) hs hpl))
  obtain ⟨x, y, ex, q⟩ := q1
  subst ex
  cases r1 with
  | cons r rr =>
    cases rr with
    | cons r' rr =>
      cases rr
      obtain ⟨t, rfl⟩ := r
      obtain ⟨u, rfl⟩ := r'
      refine zip_begins2 (begins_text x t) (begins_text y u) trivial trivial fun h' hz hTI hTO h1 h2 hsz hk => wpAny_pyIter_zip hz ?_
      have I2 : Inv X pins σ H1 { s1 with heap := h' } := I1.kept (t' := s1.toks) hk
      refine ⟨s1.heap.objs.size + 4, [s1.heap.objs.size + 4, s1.heap.objs.size + 2, s1.heap.objs.size + 3, s1.heap.objs.size, s1.heap.objs.size + 1], _, _, H1, rfl, I2, turn_zipS (zip_sep2 (fp1 := []) (fp2 := []) (by simp) (by simp)), ⟨hz, hTI, ⟨_, _, hTO⟩, ⟨_, h1, rfl, rfl⟩, ⟨_, h2, rfl, rfl⟩, Nat.zero_le _, Nat.zero_le _⟩, fun c hcm => ?_, q⟩
      have e' : c = s1.heap.objs.size + 4 ∨ c = s1.heap.objs.size + 2 ∨ c = s1.heap.objs.size + 3 ∨ c = s1.heap.objs.size ∨ c = s1.heap.objs.size + 1 := by simpa using hcm
      have hle : s1.heap.objs.size ≤ c := by
        rcases e' with z | z | z | z | z
        · rw [z]; exact Nat.le_add_right _ _
        · rw [z]; exact Nat.le_add_right _ _
        · rw [z]; exact Nat.le_add_right _ _
        · rw [z]; exact Nat.le_refl _
        · rw [z]; exact Nat.le_add_right _ _
      exact I1.fpOk hle (I1.hok.fresh hle)
theorem foldl_app (a : Array Nat) : ∀ (n : Nat) (b : Array Nat), ((List.replicate n a).foldl (· ++ ·) b).toList = b.toList ++ (List.replicate n a.toList).flatten
  | 0, b => by simp
  | n + 1, b => by
    rw [List.replicate_succ, List.foldl_cons, foldl_app a n, List.replicate_succ, List.flatten_cons]
    simp
def rRepS : R2 := fun x y H Q => ∃ a k, x = .str a ∧ y = .int k ∧ 0 ≤ k ∧ k ≤ 1000 ∧ a.length ≤ 1000 ∧ ∀ z : Str, z.cps.toList = (List.replicate k.toNat a.cps.toList).flatten → Q (.str z) H
theorem op_repS {X : Cx} : OpR X (binaryOp .Mult) rRepS := by
  intro pins s σ H x y v u Q I rx ry h
  obtain ⟨a, k, rfl, rfl, k0, k1, hl, q⟩ := h
  obtain ⟨t, rfl⟩ := rx
  obtain ⟨t', rfl⟩ := ry
  refine PySem.P.mul_str ?_ (fun h1 _ => ?_) (fun h1 _ => ?_) ?_
  · rw [decide_eq_false (by omega), decide_eq_false (by omega)]; rfl
  · have h2 : (a.length : Int) * k ≤ 1000 * 1000 := Int.mul_le_mul (by omega) k1 k0 (by decide)
    have h3 : (a.length : Int) ≤ (2 ^ 63 - 1) / k := (Int.le_ediv_iff_mul_le (by omega)).mpr (by omega)
    omega
  · have : a.length * k.toNat ≤ 1000 * 1000 := Nat.mul_le_mul hl (by omega)
    show decide (a.length * k.toNat > sizeLine) = false
    rw [decide_eq_false]
    rw [sizeLine_eq]
    omega
  · split
    · rename_i h1
      have : k = 0 := by omega
      subst this
      exact ⟨by decide, .str Str.empty, H, I.tok _, ⟨_, rfl⟩, q _ (by simp [Str.empty])⟩
    · split
      · rename_i h2
        refine ⟨.str a, H, I, ⟨_, rfl⟩, q _ ?_⟩
        rw [Bool.or_eq_true] at h2
        rcases h2 with h2 | h2
        · have : k = 1 := by simpa using h2
          subst this
          simp
        · have : a.cps.toList = [] := by
            have h3 : a.length = 0 := by simpa using h2
            have h4 : a.cps.toList.length = 0 := by rw [Array.length_toList]; exact h3
            exact List.eq_nil_of_length_eq_zero h4
          rw [this]
          simp
      · have hlen : (⟨(List.replicate k.toNat a.cps).foldl (· ++ ·) #[]⟩ : Str).length ≤ sizeLine := by
          have e := foldl_app a.cps k.toNat #[]
          have e2 := congrArg List.length e
          rw [Array.length_toList] at e2
          show ((List.replicate k.toNat a.cps).foldl (· ++ ·) #[]).size ≤ sizeLine
          rw [e2]
          simp
          rw [sizeLine_eq]
          have : k.toNat * a.length ≤ 1000 * 1000 := Nat.mul_le_mul (by omega) hl
          have h5 : k.toNat * a.cps.size ≤ 1000 * 1000 := this
          omega
        exact ⟨hlen, .str _, H, I.tok _, ⟨_, rfl⟩, q _ (by rw [foldl_app]; simp)⟩
end WC
set_option Elab.async false
set_option linter.all false
set_option maxRecDepth 100000
namespace WC
open PySem PySem.Spec PyProof.Rows L2

inductive D where
  | non | bl (b : Bool) | int (i : Int) | str (s : List Nat) | tup (xs : List D) | lst (xs : List D) | dct (kvs : List (D × D)) | ref (n : Nat) | scr (xs : List D)
  deriving Inhabited
inductive Sl where
  | no | val (d : D) | own (xs : List D) | ownd (kvs : List (D × D)) | lent (xs : List D)
  deriving Inhabited
inductive Ob where
  | lst (xs : List D) | dct (kvs : List (D × D)) | ins (c : Nat) (fs : List (Str × Sl))
  deriving Inhabited
abbrev Sv := List (Option V)
abbrev Sg := List Sl
abbrev Hs := List Ob

inductive R (α : Type) where
  | ok (a : α) (h : Hs)
  | bad
def R.bind {α β : Type} (r : R α) (f : α → Hs → R β) : R β := match r with
  | .ok a h => f a h
  | .bad => .bad
@[simp] theorem R.bind_ok {α β : Type} (a : α) (h : Hs) (f : α → Hs → R β) : (R.ok a h).bind f = f a h := rfl
@[simp] theorem R.bind_bad {α β : Type} (f : α → Hs → R β) : (R.bad : R α).bind f = .bad := rfl
abbrev EM := Sg → Hs → R D
abbrev AM := Sg → Hs → R (List D)
inductive RS where
  | nx (σ : Sg) (h : Hs) | rt (d : D) (h : Hs) | bk (σ : Sg) (h : Hs) | ct (σ : Sg) (h : Hs) | bad
abbrev SM := Sg → Hs → RS

structure Lay where
  F : Hp
  ob : List (Addr × List Addr)
def Lay.M (L : Lay) (p : Addr) : Prop := ∃ q ∈ L.ob, p = q.1 ∨ p ∈ q.2
def Lay.at (L : Lay) (n : Nat) : Option Addr := (L.ob[n]?).map (·.1)

def keyD : Key → D
  | .inl i => .int i
  | .inr s => .str s.cps.toList
def keyOk : Key → Prop
  | .inl _ => True
  | .inr s => ∀ c ∈ s.cps.toList, c < 0x110000
def DG (F : Hp) (a : Addr) (ks : List D) (vs : List V) : Prop :=
  (∃ kvs : List (Key × V), Rd F a (.dK kvs) ∧ ks = kvs.map (fun p => keyD p.1) ∧ vs = kvs.map (·.2) ∧ ∀ p ∈ kvs, keyOk p.1) ∨
  (∃ kvs : List (List Key × V), F a = some (.dT kvs) ∧ ks = kvs.map (fun p => .tup (p.1.map keyD)) ∧ vs = kvs.map (·.2) ∧ ∀ p ∈ kvs, ∀ k ∈ p.1, keyOk k)

mutual
inductive Rep (K : PySem.W.Frag) (L : Lay) : V → D → Prop where
  | non : Rep K L .non .non
  | bl (b : Bool) : Rep K L (.bl b) (.bl b)
  | int (i : Int) : Rep K L (.int i) (.int i)
  | str (s : Str) (h : ∀ c ∈ s.cps.toList, c < 0x110000) : Rep K L (.str s) (.str s.cps.toList)
  | tup {a : Addr} {vs : List V} {xs : List D} : SqT K L.F a vs → Reps K L vs xs → Rep K L (.ref a) (.tup xs)
  | lst {a : Addr} {vs : List V} {xs : List D} : L.F a = some (.lst vs) → Reps K L vs xs → Rep K L (.ref a) (.lst xs)
  | scr {a : Addr} {vs : List V} {xs : List D} : SqL K L.F a vs → Reps K L vs xs → Rep K L (.ref a) (.scr xs)
  | dct {a : Addr} {ks : List D} {vs : List V} {xs : List D} : DG L.F a ks vs → Reps K L vs xs → Rep K L (.ref a) (.dct (ks.zip xs))
  | ref {a : Addr} {n : Nat} : L.at n = some a → Rep K L (.ref a) (.ref n)
inductive Reps (K : PySem.W.Frag) (L : Lay) : List V → List D → Prop where
  | nil : Reps K L [] []
  | cons {v : V} {d : D} {vs : List V} {ds : List D} : Rep K L v d → Reps K L vs ds → Reps K L (v :: vs) (d :: ds)
end

structure Le (O : Addr → Prop) (L : Lay) (H : Hp) (L' : Lay) (H' : Hp) : Prop where
  F : ∀ p o, L.F p = some o → L'.F p = some o
  Fn : ∀ p, L'.F p ≠ none → L.F p ≠ none ∨ H p = none ∨ O p
  ob : ∀ n a, L.at n = some a → L'.at n = some a
  M : ∀ p, L'.M p → L.M p ∨ H p = none ∨ O p
  fr : ∀ p o, H p = some o → ¬ L.M p → ¬ O p → H' p = some o
  th : ∀ p, H p ≠ none → H' p ≠ none
abbrev Le0 := Le fun _ => False

section
variable {O O' : Addr → Prop} {L L' L1 L2 : Lay} {H H' H1 H2 : Hp} {K : PySem.W.Frag}
theorem Le.refl : Le O L H L H := ⟨fun _ _ h => h, fun _ h => .inl h, fun _ _ h => h, fun _ h => .inl h, fun _ _ h _ _ => h, fun _ h => h⟩
theorem Le.trans (a : Le O L H L1 H1) (b : Le O' L1 H1 L2 H2) (hO : ∀ p, O' p → O p ∨ H p = none) : Le O L H L2 H2 where
  F p o h := b.F p o (a.F p o h)
  Fn p h := by
    rcases b.Fn p h with q | q | q
    · exact a.Fn p q
    · exact .inr (.inl (Classical.byContradiction fun z => a.th p z q))
    · rcases hO p q with r | r
      · exact .inr (.inr r)
      · exact .inr (.inl r)
  ob n x h := b.ob n x (a.ob n x h)
  M p h := by
    rcases b.M p h with q | q | q
    · exact a.M p q
    · exact .inr (.inl (Classical.byContradiction fun z => a.th p z q))
    · rcases hO p q with r | r
      · exact .inr (.inr r)
      · exact .inr (.inl r)
  fr p o h n m := by
    have e := a.fr p o h n m
    refine b.fr p o e (fun z => ?_) (fun z => ?_)
    · rcases a.M p z with q | q | q
      · exact n q
      · rw [h] at q; cases q
      · exact m q
    · rcases hO p z with q | q
      · exact m q
      · rw [h] at q; cases q
  th p h := b.th p (a.th p h)
theorem Le.trans0 (a : Le O L H L1 H1) (b : Le0 L1 H1 L2 H2) : Le O L H L2 H2 := a.trans b fun _ z => z.elim
theorem Le.up (a : Le O L H L1 H1) (h : ∀ p, O p → O' p) : Le O' L H L1 H1 :=
  ⟨a.F, fun p q => (a.Fn p q).imp_right (Or.imp_right (h p)), a.ob, fun p q => (a.M p q).imp_right (Or.imp_right (h p)), fun p o e n m => a.fr p o e n fun z => m (h p z), a.th⟩
theorem Le0.any (a : Le0 L H L1 H1) : Le O L H L1 H1 := a.up fun _ z => z.elim

theorem rd_mono {F F' : Hp} {a : Addr} {u : HO} (h : ∀ p o, F p = some o → F' p = some o) (r : Rd F a u) : Rd F' a u := by
  rcases r with r | ⟨o, r⟩
  · exact .inl (h _ _ r)
  · exact .inr ⟨o, h _ _ r⟩
theorem sqT_mono {F F' : Hp} {a : Addr} {vs : List V} (h : ∀ p o, F p = some o → F' p = some o) (r : SqT K F a vs) : SqT K F' a vs := r.imp_left (rd_mono h)
theorem sqL_mono {F F' : Hp} {a : Addr} {vs : List V} (h : ∀ p o, F p = some o → F' p = some o) (r : SqL K F a vs) : SqL K F' a vs := r.imp_left (rd_mono h)
theorem dg_mono {F F' : Hp} {a : Addr} {ks : List D} {vs : List V} (h : ∀ p o, F p = some o → F' p = some o) (r : DG F a ks vs) : DG F' a ks vs := by
  rcases r with ⟨kvs, r, e⟩ | ⟨kvs, r, e⟩
  · exact .inl ⟨kvs, rd_mono h r, e⟩
  · exact .inr ⟨kvs, h _ _ r, e⟩
mutual
theorem Rep.mono (hF : ∀ p o, L.F p = some o → L'.F p = some o) (ho : ∀ n a, L.at n = some a → L'.at n = some a) : ∀ {v : V} {d : D}, Rep K L v d → Rep K L' v d
  | _, _, .non => .non
  | _, _, .bl b => .bl b
  | _, _, .int i => .int i
  | _, _, .str s h => .str s h
  | _, _, .tup h r => .tup (sqT_mono hF h) (Reps.mono hF ho r)
  | _, _, .lst h r => .lst (hF _ _ h) (Reps.mono hF ho r)
  | _, _, .scr h r => .scr (sqL_mono hF h) (Reps.mono hF ho r)
  | _, _, .dct h r => .dct (dg_mono hF h) (Reps.mono hF ho r)
  | _, _, .ref h => .ref (ho _ _ h)
theorem Reps.mono (hF : ∀ p o, L.F p = some o → L'.F p = some o) (ho : ∀ n a, L.at n = some a → L'.at n = some a) : ∀ {vs : List V} {ds : List D}, Reps K L vs ds → Reps K L' vs ds
  | _, _, .nil => .nil
  | _, _, .cons r t => .cons (Rep.mono hF ho r) (Reps.mono hF ho t)
end
theorem Rep.le {v : V} {d : D} (r : Rep K L v d) (l : Le O L H L' H') : Rep K L' v d := r.mono l.F l.ob
theorem Reps.le {v : List V} {d : List D} (r : Reps K L v d) (l : Le O L H L' H') : Reps K L' v d := r.mono l.F l.ob
theorem Reps.length {vs : List V} {ds : List D} (r : Reps K L vs ds) : vs.length = ds.length := by
  induction ds generalizing vs with
  | nil => cases r; rfl
  | cons d ds ih => cases r with | cons a b => simp [ih b]
theorem Reps.get {vs : List V} {ds : List D} (r : Reps K L vs ds) {i : Nat} {d : D} (h : ds[i]? = some d) : ∃ v, vs[i]? = some v ∧ Rep K L v d := by
  induction ds generalizing vs i with
  | nil => simp at h
  | cons e ds ih =>
    cases r with
    | cons a b =>
      cases i with
      | zero => simp at h; subst h; exact ⟨_, rfl, a⟩
      | succ i => simpa using ih b (by simpa using h)
theorem Reps.getV {vs : List V} {ds : List D} (r : Reps K L vs ds) {i : Nat} {v : V} (h : vs[i]? = some v) : ∃ d, ds[i]? = some d ∧ Rep K L v d := by
  have hl := r.length
  have hi : i < ds.length := by rw [← hl]; exact (List.getElem?_eq_some_iff.mp h).1
  obtain ⟨w, e, q⟩ := r.get (List.getElem?_eq_getElem hi)
  rw [h] at e; cases e
  exact ⟨_, List.getElem?_eq_getElem hi, q⟩
theorem Reps.of {vs : List V} {ds : List D} (hl : vs.length = ds.length) (h : ∀ (i : Nat) (v : V) (d : D), vs[i]? = some v → ds[i]? = some d → Rep K L v d) : Reps K L vs ds := by
  induction ds generalizing vs with
  | nil => cases vs with
    | nil => exact .nil
    | cons _ _ => simp at hl
  | cons d ds ih => cases vs with
    | nil => simp at hl
    | cons v vs => exact .cons (h 0 v d rfl rfl) (ih (by simpa using hl) fun i v d a b => h (i + 1) v d (by simpa using a) (by simpa using b))
theorem Reps.append {vs ws : List V} {ds es : List D} (a : Reps K L vs ds) (b : Reps K L ws es) : Reps K L (vs ++ ws) (ds ++ es) := by
  induction ds generalizing vs with
  | nil => cases a; exact b
  | cons d ds ih => cases a with | cons p q => exact .cons p (ih q)
theorem Reps.set {vs : List V} {ds : List D} {v : V} {d : D} (r : Reps K L vs ds) (q : Rep K L v d) (i : Nat) : Reps K L (vs.set i v) (ds.set i d) := by
  induction ds generalizing vs i with
  | nil => cases r; exact .nil
  | cons e ds ih => cases r with
    | cons a b => cases i with
      | zero => exact .cons q b
      | succ i => exact .cons a (ih b i)
theorem Reps.drop {vs : List V} {ds : List D} (r : Reps K L vs ds) (n : Nat) : Reps K L (vs.drop n) (ds.drop n) := by
  induction n generalizing vs ds with
  | zero => exact r
  | succ n ih => cases r with
    | nil => exact .nil
    | cons a b => exact ih b
theorem Reps.take {vs : List V} {ds : List D} (r : Reps K L vs ds) (n : Nat) : Reps K L (vs.take n) (ds.take n) := by
  induction n generalizing vs ds with
  | zero => exact .nil
  | succ n ih => cases r with
    | nil => exact .nil
    | cons a b => exact .cons a (ih b)
end

def RepOb (K : PySem.W.Frag) (L : Lay) (H : Hp) (a : Addr) (as : List Addr) : Ob → Prop
  | .lst xs => as = [] ∧ ∃ vs, H a = some (.lst vs) ∧ Reps K L vs xs
  | .dct _ => False
  | .ins _ _ => False
structure HRel (K : PySem.W.Frag) (L : Lay) (H : Hp) (h : Hs) : Prop where
  sub : ∀ p o, L.F p = some o → H p = some o
  nm : ∀ p, L.M p → L.F p = none
  mt : ∀ p, L.M p → H p ≠ none
  nd : (L.ob.flatMap fun (q : Addr × List Addr) => q.1 :: q.2).Nodup
  len : L.ob.length = h.length
  ob : ∀ (n : Nat) (q : Addr × List Addr) (o : Ob), L.ob[n]? = some q → h[n]? = some o → RepOb K L H q.1 q.2 o
def RepSl (K : PySem.W.Frag) (L : Lay) (H : Hp) (x : Option V) : Sl → Prop
  | .no => True
  | .val d => ∃ v, x = some v ∧ Rep K L v d
  | .own xs => ∃ p vs, x = some (.ref p) ∧ H p = some (.lst vs) ∧ L.F p = none ∧ ¬ L.M p ∧ Reps K L vs xs
  | .lent xs => ∃ p vs, x = some (.ref p) ∧ H p = some (.lst vs) ∧ L.F p = none ∧ ¬ L.M p ∧ Reps K L vs xs
  | .ownd kvs => ∃ p ks vs, x = some (.ref p) ∧ (∃ o, H p = some o ∧ Mut (some o)) ∧ DG H p ks vs ∧ L.F p = none ∧ ¬ L.M p ∧ ∃ ds, Reps K L vs ds ∧ kvs = ks.zip ds
def Sl.owned : Sl → Bool
  | .own _ => true
  | .ownd _ => true
  | .lent _ => true
  | _ => false
def Sl.free : Sl → Bool
  | .own _ => true
  | .ownd _ => true
  | _ => false
def Own (σV : Sv) (σ : Sg) (p : Addr) : Prop := ∃ (i : Nat) (s : Sl), σ[i]? = some s ∧ s.free = true ∧ σV[i]? = some (some (.ref p))
structure SRel (K : PySem.W.Frag) (L : Lay) (H : Hp) (σV : Sv) (σ : Sg) : Prop where
  len : σV.length = σ.length
  sl : ∀ (i : Nat) (s : Sl), σ[i]? = some s → ∃ x, σV[i]? = some x ∧ RepSl K L H x s
  ap : ∀ (i j : Nat) (s t : Sl) (p : Addr), σ[i]? = some s → σ[j]? = some t → s.owned = true → t.owned = true → σV[i]? = some (some (.ref p)) → σV[j]? = some (some (.ref p)) → i = j
section
variable {O O' : Addr → Prop} {L L' L1 L2 : Lay} {H H' H1 H2 : Hp} {K : PySem.W.Frag} {h h' : Hs} {σV : Sv} {σ : Sg}
theorem RepSl.le {x : Option V} {s : Sl} (l : Le O L H L' H') (r : RepSl K L H x s) (hO : ∀ p, s.owned = true → x = some (.ref p) → ¬ O p) : RepSl K L' H' x s := by
  cases s with
  | no => trivial
  | val d =>
    obtain ⟨v, e, r⟩ := r
    exact ⟨v, e, r.le l⟩
  | own xs =>
    obtain ⟨p, vs, rfl, e, f, m, r⟩ := r
    have no := hO p rfl rfl
    refine ⟨p, vs, rfl, l.fr p _ e m no, ?_, fun z => ?_, r.le l⟩
    · refine Classical.byContradiction fun z => ?_
      rcases l.Fn p z with q | q | q
      · exact q f
      · rw [e] at q; cases q
      · exact no q
    · rcases l.M p z with q | q | q
      · exact m q
      · rw [e] at q; cases q
      · exact no q
  | lent xs =>
    obtain ⟨p, vs, rfl, e, f, m, r⟩ := r
    have no := hO p rfl rfl
    refine ⟨p, vs, rfl, l.fr p _ e m no, ?_, fun z => ?_, r.le l⟩
    · refine Classical.byContradiction fun z => ?_
      rcases l.Fn p z with q | q | q
      · exact q f
      · rw [e] at q; cases q
      · exact no q
    · rcases l.M p z with q | q | q
      · exact m q
      · rw [e] at q; cases q
      · exact no q
  | ownd kvs =>
    obtain ⟨p, ks, vs, rfl, ⟨o, e, mu⟩, dg, f, m, ds, r, ek⟩ := r
    have no := hO p rfl rfl
    have e' := l.fr p _ e m no
    refine ⟨p, ks, vs, rfl, ⟨o, e', mu⟩, ?_, ?_, fun z => ?_, ds, r.le l, ek⟩
    · rcases dg with ⟨kv, r, q⟩ | ⟨kv, r, q⟩
      · refine .inl ⟨kv, ?_, q⟩
        rcases r with r | ⟨o', r⟩
        · rw [e] at r; cases r; exact .inl e'
        · rw [e] at r; cases r; exact .inr ⟨o', e'⟩
      · refine .inr ⟨kv, ?_, q⟩
        rw [e] at r; cases r; exact e'
    · refine Classical.byContradiction fun z => ?_
      rcases l.Fn p z with q | q | q
      · exact q f
      · rw [e] at q; cases q
      · exact no q
    · rcases l.M p z with q | q | q
      · exact m q
      · rw [e] at q; cases q
      · exact no q
theorem SRel.le (s : SRel K L H σV σ) (l : Le0 L H L' H') : SRel K L' H' σV σ :=
  ⟨s.len, fun i t e => let ⟨x, ex, r⟩ := s.sl i t e; ⟨x, ex, r.le l fun _ _ _ z => z⟩, s.ap⟩
def Lay.put (L : Lay) (p : Addr) (o : HO) : Lay := { L with F := upd L.F p o }
theorem Lay.put_M {p q : Addr} {o : HO} : (L.put p o).M q ↔ L.M q := Iff.rfl
theorem le_put {p : Addr} {o : HO} (s : HRel K L H h) (hp : H p = none) : Le0 L H (L.put p o) (upd H p o) := by
  have hF : L.F p = none := by
    cases e : L.F p with
    | none => rfl
    | some u => rw [s.sub p u e] at hp; cases hp
  refine ⟨fun q u e => ?_, fun q e => ?_, fun _ _ e => e, fun q e => .inl e, fun q u e _ _ => ?_, fun q e => ?_⟩
  · show upd L.F p o q = some u
    rw [upd_ne (ne_of_none e hF)]; exact e
  · by_cases z : q = p
    · subst z; exact .inr (.inl hp)
    · refine .inl ?_
      have e' : upd L.F p o q ≠ none := e
      rw [upd_ne z] at e'; exact e'
  · rw [upd_ne (ne_of_none e hp)]; exact e
  · by_cases z : q = p
    · subst z; rw [upd_same]; intro w; cases w
    · rw [upd_ne z]; exact e
theorem RepOb.le {a : Addr} {as : List Addr} {o : Ob} (r : RepOb K L H a as o) (hF : ∀ p o, L.F p = some o → L'.F p = some o) (ho : ∀ n a, L.at n = some a → L'.at n = some a)
    (hH : ∀ p u, (p = a ∨ p ∈ as) → H p = some u → H' p = some u) : RepOb K L' H' a as o := by
  cases o with
  | lst xs =>
    obtain ⟨e, vs, e2, r⟩ := r
    exact ⟨e, vs, hH _ _ (.inl rfl) e2, r.mono hF ho⟩
  | dct _ => exact r
  | ins _ _ => exact r
theorem HRel.put {p : Addr} {o : HO} (s : HRel K L H h) (hp : H p = none) : HRel K (L.put p o) (upd H p o) h := by
  have l := le_put (o := o) s hp
  refine ⟨fun q u e => ?_, fun q m => ?_, fun q m => l.th q (s.mt q m), s.nd, s.len, fun n q ob e1 e2 => ?_⟩
  · have e' : upd L.F p o q = some u := e
    by_cases z : q = p
    · subst z; rw [upd_same] at e' ⊢; exact e'
    · rw [upd_ne z] at e' ⊢; exact s.sub q u e'
  · show upd L.F p o q = none
    have m' : L.M q := m
    have z : q ≠ p := fun z => by subst z; exact s.mt q m' hp
    rw [upd_ne z]; exact s.nm q m'
  · refine (s.ob n q ob e1 e2).le l.F l.ob fun b u _ e => ?_
    rw [upd_ne (ne_of_none e hp)]; exact e
theorem put_sqL {p : Addr} {vs : List V} : SqL K (L.put p (.lst vs)).F p vs := .inl (.inl upd_same)
theorem put_sqT {p : Addr} {vs : List V} : SqT K (L.put p (.tup vs)).F p vs := .inl (.inl upd_same)
theorem HRel.sqL {a : Addr} {vs : List V} (s : HRel K L H h) (r : SqL K L.F a vs) : SqL K H a vs := sqL_mono s.sub r
theorem HRel.sqT {a : Addr} {vs : List V} (s : HRel K L H h) (r : SqT K L.F a vs) : SqT K H a vs := sqT_mono s.sub r
end
end WC
set_option Elab.async false
set_option linter.all false
set_option maxRecDepth 100000
namespace WC
open PySem PySem.Spec PyProof.Rows L2

theorem weakE {X : Cx} {e : Expr} {t t' : TE} (h : PE X e t) (w : ∀ σ H Q, t' σ H Q → t σ H Q) : PE X e t' := ⟨fun pins s σ H Q I q => h.run pins s σ H Q I (w _ _ _ q)⟩
theorem weakT {X : Cx} {e : Expr} {t t' : TT} (h : PT X e t) (w : ∀ σ H Q, t' σ H Q → t σ H Q) : PT X e t' := ⟨fun pins s σ H Q I q => h.run pins s σ H Q I (w _ _ _ q)⟩
theorem weakW {X : Cx} {e : Expr} {t t' : TT} (h : PW X e t) (w : ∀ σ H Q, t' σ H Q → t σ H Q) : PW X e t' := ⟨fun wh pins s σ H Q I q => h.run wh pins s σ H Q I (w _ _ _ q)⟩
theorem weakA {X : Cx} {e : List Expr} {t t' : TA} (h : PA X e t) (w : ∀ σ H Q, t' σ H Q → t σ H Q) : PA X e t' := ⟨fun p pins s σ H Q I q => h.run p pins s σ H Q I (w _ _ _ q)⟩
theorem weakK {X : Cx} {e : List Keyword} {t t' : TA} (h : PK X e t) (w : ∀ σ H Q, t' σ H Q → t σ H Q) : PK X e t' := ⟨fun p pins s σ H Q I q => h.run p pins s σ H Q I (w _ _ _ q)⟩
theorem weakO {X : Cx} {e : Option Expr} {t t' : TO} (h : PO X e t) (w : ∀ σ H Q, t' σ H Q → t σ H Q) : PO X e t' := ⟨fun pins s σ H Q I q => h.run pins s σ H Q I (w _ _ _ q)⟩
theorem weakS {X : Cx} {e : Stmt} {t t' : TS} (h : PS X e t) (w : ∀ D σ H, t' D σ H → t D σ H) : PS X e t' := ⟨fun pins s σ H D I q => h.run pins s σ H D I (w _ _ _ q)⟩
theorem weakB {X : Cx} {e : List Stmt} {t t' : TS} (h : PSs X e t) (w : ∀ D σ H, t' D σ H → t D σ H) : PSs X e t' := ⟨fun pins s σ H D I q => h.run pins s σ H D I (w _ _ _ q)⟩

def RepO (K : PySem.W.Frag) (L : Lay) (H : Hp) (v : V) (d : D) : Prop :=
  Rep K L v d ∨ (∃ xs, d = .lst xs ∧ RepSl K L H (some v) (.own xs)) ∨ (∃ kvs, d = .dct kvs ∧ RepSl K L H (some v) (.ownd kvs))
def RepOs (K : PySem.W.Frag) (L : Lay) (H : Hp) : List V → List D → Prop := Paired (RepO K L H)
section
variable {K : PySem.W.Frag} {L L' : Lay} {H H' : Hp} {h : Hs} {v : V} {d : D} {σV : Sv} {σ : Sg}
theorem RepO.le (r : RepO K L H v d) (l : Le0 L H L' H') : RepO K L' H' v d := by
  rcases r with r | ⟨xs, e, r⟩ | ⟨xs, e, r⟩
  · exact .inl (r.le l)
  · exact .inr (.inl ⟨xs, e, r.le l fun _ _ _ z => z⟩)
  · exact .inr (.inr ⟨xs, e, r.le l fun _ _ _ z => z⟩)
theorem RepOs.le {vs : List V} {ds : List D} (r : RepOs K L H vs ds) (l : Le0 L H L' H') : RepOs K L' H' vs ds := Paired.mapP r fun _ _ q => q.le l
theorem Reps.os {vs : List V} {ds : List D} (r : Reps K L vs ds) : RepOs K L H vs ds := by
  induction ds generalizing vs with
  | nil => cases r; exact .nil
  | cons d ds ih => cases r with | cons a b => exact .cons (.inl a) (ih b)
theorem RepOs.length {vs : List V} {ds : List D} (r : RepOs K L H vs ds) : vs.length = ds.length := Paired.length r

def asL (h : Hs) : D → Option (List D)
  | .lst xs => some xs
  | .ref n => match h[n]? with
    | some (.lst xs) => some xs
    | _ => none
  | _ => none
theorem asL_ok {xs : List D} (s : HRel K L H h) (r : RepO K L H v d) (e : asL h d = some xs) : ∃ p vs, v = .ref p ∧ H p = some (.lst vs) ∧ Reps K L vs xs := by
  cases d with
  | lst ys =>
    cases e
    rcases r with r | ⟨zs, e, r⟩ | ⟨zs, e, r⟩
    · cases r with | lst q r => exact ⟨_, _, rfl, s.sub _ _ q, r⟩
    · cases e
      obtain ⟨p, vs, e1, e2, _, _, r⟩ := r
      cases e1
      exact ⟨p, vs, rfl, e2, r⟩
    · cases e
  | ref n =>
    rcases r with r | ⟨zs, e', r⟩ | ⟨zs, e', r⟩
    · cases r with
      | ref q =>
        unfold asL at e
        obtain ⟨q', e1, e2⟩ := Option.map_eq_some_iff.mp q
        cases e3 : h[n]? with
        | none => simp [e3] at e
        | some o =>
          cases o with
          | lst ys =>
            simp [e3] at e
            subst e
            obtain ⟨_, vs, e4, r⟩ := s.ob n q' _ e1 e3
            subst e2
            exact ⟨_, vs, rfl, e4, r⟩
          | dct _ => simp [e3] at e
          | ins _ _ => simp [e3] at e
    · cases e'
    · cases e'
  | _ => simp [asL] at e
theorem RepO.tup {xs : List D} (s : HRel K L H h) (r : RepO K L H v (.tup xs)) : ∃ p vs, v = .ref p ∧ SqT K L.F p vs ∧ SqT K H p vs ∧ Reps K L vs xs := by
  rcases r with r | ⟨_, e, _⟩ | ⟨_, e, _⟩
  · cases r with | tup q r => exact ⟨_, _, rfl, q, s.sqT q, r⟩
  · cases e
  · cases e
theorem RepO.int {i : Int} (r : RepO K L H v (.int i)) : v = .int i := by
  rcases r with r | ⟨_, e, _⟩ | ⟨_, e, _⟩
  · cases r; rfl
  · cases e
  · cases e
theorem RepO.bl {b : Bool} (r : RepO K L H v (.bl b)) : v = .bl b := by
  rcases r with r | ⟨_, e, _⟩ | ⟨_, e, _⟩
  · cases r; rfl
  · cases e
  · cases e
theorem RepO.non (r : RepO K L H v .non) : v = .non := by
  rcases r with r | ⟨_, e, _⟩ | ⟨_, e, _⟩
  · cases r; rfl
  · cases e
  · cases e
theorem RepO.str {l : List Nat} (r : RepO K L H v (.str l)) : ∃ s : Str, v = .str s ∧ s.cps.toList = l ∧ s.length = l.length ∧ ∀ c ∈ l, c < 0x110000 := by
  rcases r with r | ⟨_, e, _⟩ | ⟨_, e, _⟩
  · cases r with | str s h => exact ⟨s, rfl, rfl, by simp [Str.length], h⟩
  · cases e
  · cases e
theorem Rep.str' {s : Str} {l : List Nat} (e : s.cps.toList = l) (h : ∀ c ∈ l, c < 0x110000) : Rep K L (.str s) (.str l) := by subst e; exact .str s h
end

def RdE (K : PySem.W.Frag) (m : EM) : TE := fun σV H Q => ∃ (L : Lay) (σ : Sg) (h : Hs) (d : D) (h' : Hs), HRel K L H h ∧ SRel K L H σV σ ∧ m σ h = .ok d h' ∧
  ∀ L' H' v, Le0 L H L' H' → HRel K L' H' h' → Rep K L' v d → Q v H'
def RdO (K : PySem.W.Frag) (m : EM) : TE := fun σV H Q => ∃ (L : Lay) (σ : Sg) (h : Hs) (d : D) (h' : Hs), HRel K L H h ∧ SRel K L H σV σ ∧ m σ h = .ok d h' ∧
  ∀ L' H' v, Le0 L H L' H' → HRel K L' H' h' → RepO K L' H' v d → Q v H'
def RdA (K : PySem.W.Frag) (m : AM) : TA := fun σV H Q => ∃ (L : Lay) (σ : Sg) (h : Hs) (d : List D) (h' : Hs), HRel K L H h ∧ SRel K L H σV σ ∧ m σ h = .ok d h' ∧
  ∀ L' H' v, Le0 L H L' H' → HRel K L' H' h' → Reps K L' v d → Q v H'
def RdAO (K : PySem.W.Frag) (m : AM) : TA := fun σV H Q => ∃ (L : Lay) (σ : Sg) (h : Hs) (d : List D) (h' : Hs), HRel K L H h ∧ SRel K L H σV σ ∧ m σ h = .ok d h' ∧
  ∀ L' H' v, Le0 L H L' H' → HRel K L' H' h' → RepOs K L' H' v d → Q v H'
abbrev TM := Sg → Hs → R Bool
def RdT (K : PySem.W.Frag) (m : TM) : TT := fun σV H Q => ∃ (L : Lay) (σ : Sg) (h : Hs) (d : Bool) (h' : Hs), HRel K L H h ∧ SRel K L H σV σ ∧ m σ h = .ok d h' ∧
  ∀ L' H', Le0 L H L' H' → HRel K L' H' h' → Q d H'
def SndE (X : Cx) (e : Expr) (m : EM) : Prop := PE X e (RdE X.K m)
def SndO (X : Cx) (e : Expr) (m : EM) : Prop := PE X e (RdO X.K m)
def SndA (X : Cx) (e : List Expr) (m : AM) : Prop := PA X e (RdA X.K m)
def SndAO (X : Cx) (e : List Expr) (m : AM) : Prop := PA X e (RdAO X.K m)
def SndT (X : Cx) (e : Expr) (m : TM) : Prop := PT X e (RdT X.K m)
def SndW (X : Cx) (e : Expr) (m : TM) : Prop := PW X e (RdT X.K m)

def eBad : EM := fun _ _ => .bad
def aBad : AM := fun _ _ => .bad
def tBad : TM := fun _ _ => .bad

section
variable {X : Cx} {e a b c : Expr} {es : List Expr} {pos : Pos}
theorem snd_bad : SndE X e eBad := ⟨fun _ _ _ _ _ _ ⟨_, _, _, _, _, _, _, e, _⟩ => by cases e⟩
theorem sndO_bad : SndO X e eBad := ⟨fun _ _ _ _ _ _ ⟨_, _, _, _, _, _, _, e, _⟩ => by cases e⟩
theorem sndA_bad : SndA X es aBad := ⟨fun _ _ _ _ _ _ _ ⟨_, _, _, _, _, _, _, e, _⟩ => by cases e⟩
theorem sndAO_bad : SndAO X es aBad := ⟨fun _ _ _ _ _ _ _ ⟨_, _, _, _, _, _, _, e, _⟩ => by cases e⟩
theorem sndT_bad : SndT X e tBad := ⟨fun _ _ _ _ _ _ ⟨_, _, _, _, _, _, _, e, _⟩ => by cases e⟩
theorem sndW_bad : SndW X e tBad := ⟨fun _ _ _ _ _ _ _ ⟨_, _, _, _, _, _, _, e, _⟩ => by cases e⟩
theorem SndE.o {m : EM} (h : SndE X e m) : SndO X e m := weakE h fun σ H Q ⟨L, σ', hs, d, h', hr, sr, em, k⟩ => ⟨L, σ', hs, d, h', hr, sr, em, fun L' H' v l r q => k L' H' v l r (.inl q)⟩

def eC (d : D) : EM := fun _ h => .ok d h
theorem rdC {d : D} {v : V} {H : Hp} {Q : VK} {σV : Sv} (hd : ∀ L, Rep X.K L v d) (q : RdE X.K (eC d) σV H Q) : Q v H := by
  obtain ⟨L, σ, h, d', h', hr, sr, em, k⟩ := q
  cases em
  exact k L H v Le.refl hr (hd L)
theorem snd_int {i : Int} {k : Nat} : SndE X (.Constant (.int i) k pos) (eC (.int i)) := weakE pe_int fun _ _ _ q => rdC (fun _ => .int i) q
theorem snd_bl {b : Bool} {k : Nat} : SndE X (.Constant (.bool b) k pos) (eC (.bl b)) := weakE pe_bl fun _ _ _ q => rdC (fun _ => .bl b) q
theorem snd_non {k : Nat} : SndE X (.Constant .none k pos) (eC .non) := weakE pe_non fun _ _ _ q => rdC (fun _ => .non) q
theorem snd_str {s : Str} {k : Nat} {l : List Nat} (e : s.cps.toList = l) (h : ∀ c ∈ l, c < 0x110000) : SndE X (.Constant (.str s) k pos) (eC (.str l)) := weakE pe_str fun _ _ _ q => rdC (fun _ => .str' e h) q
def eVar (i : Nat) : EM := fun σ h => match σ[i]? with
  | some (.val d) => .ok d h
  | _ => .bad
def oVar (i : Nat) : EM := fun σ h => match σ[i]? with
  | some (.val d) => .ok d h
  | some (.own xs) => .ok (.lst xs) h
  | some (.ownd kvs) => .ok (.dct kvs) h
  | some (.lent xs) => .ok (.lst xs) h
  | _ => .bad
theorem snd_var {i : Nat} {x : Str} (hN : X.N[i]? = some x) (hv : Vis X.env.scope x) (hd : (x == ("__debug__" : Str)) = false) (hcd : (x == ("__classdict__" : Str)) = false) : SndE X (.Name x pos) (eVar i) := by
  refine weakE (pe_var hN hv hd hcd) fun σV H Q ⟨L, σ, h, d, h', hr, sr, em, k⟩ => ?_
  unfold eVar at em
  cases e : σ[i]? with
  | none => simp [e] at em
  | some s =>
    cases s with
    | val d' =>
      simp [e] at em
      obtain ⟨rfl, rfl⟩ := em
      obtain ⟨x, ex, v, rfl, r⟩ := sr.sl i _ e
      exact ⟨v, ex, k L H v Le.refl hr r⟩
    | no => simp [e] at em
    | own _ => simp [e] at em
    | ownd _ => simp [e] at em
    | lent _ => simp [e] at em
theorem sndO_var {i : Nat} {x : Str} (hN : X.N[i]? = some x) (hv : Vis X.env.scope x) (hd : (x == ("__debug__" : Str)) = false) (hcd : (x == ("__classdict__" : Str)) = false) : SndO X (.Name x pos) (oVar i) := by
  refine weakE (pe_var hN hv hd hcd) fun σV H Q ⟨L, σ, h, d, h', hr, sr, em, k⟩ => ?_
  unfold oVar at em
  cases e : σ[i]? with
  | none => simp [e] at em
  | some s =>
    obtain ⟨x, ex, r⟩ := sr.sl i _ e
    cases s with
    | val d' =>
      simp [e] at em
      obtain ⟨rfl, rfl⟩ := em
      obtain ⟨v, rfl, r⟩ := r
      exact ⟨v, ex, k L H v Le.refl hr (.inl r)⟩
    | no => simp [e] at em
    | own xs =>
      simp [e] at em
      obtain ⟨rfl, rfl⟩ := em
      have r0 := r
      obtain ⟨p, vs, rfl, r⟩ := r
      exact ⟨_, ex, k L H _ Le.refl hr (.inr (.inl ⟨xs, rfl, r0⟩))⟩
    | ownd kvs =>
      simp [e] at em
      obtain ⟨rfl, rfl⟩ := em
      have r0 := r
      obtain ⟨p, vs, ks, rfl, r⟩ := r
      exact ⟨_, ex, k L H _ Le.refl hr (.inr (.inr ⟨kvs, rfl, r0⟩))⟩
    | lent xs =>
      simp [e] at em
      obtain ⟨rfl, rfl⟩ := em
      have r0 := r
      obtain ⟨p, vs, rfl, r⟩ := r
      exact ⟨_, ex, k L H _ Le.refl hr (.inr (.inl ⟨xs, rfl, r0⟩))⟩
theorem snd_glob {x : Str} {v : V} {u : Value} {d : D} (hg : Gl X x) (hm : X.mg x = some u) (r : RelV v u) (hd : (x == ("__debug__" : Str)) = false) (hr : ∀ L, Rep X.K L v d) : SndE X (.Name x pos) (eC d) :=
  weakE (pe_glob hg hm r hd) fun _ _ _ q => rdC hr q

def aNil : AM := fun _ h => .ok [] h
def aCons (m : EM) (ms : AM) : AM := fun σ h => (m σ h).bind fun x h1 => (ms σ h1).bind fun xs h2 => .ok (x :: xs) h2
theorem bind_some {α β : Type} {r : R α} {f : α → Hs → R β} {y : β} {h : Hs} (e : r.bind f = .ok y h) : ∃ x h1, r = .ok x h1 ∧ f x h1 = .ok y h := by
  cases r with
  | ok x h1 => exact ⟨x, h1, rfl, e⟩
  | bad => cases e
theorem sndA_nil : SndA X [] aNil := weakA pa_nil fun σV H Q ⟨L, σ, h, d, h', hr, sr, em, k⟩ => by cases em; exact k L H [] Le.refl hr .nil
theorem sndAO_nil : SndAO X [] aNil := weakA pa_nil fun σV H Q ⟨L, σ, h, d, h', hr, sr, em, k⟩ => by cases em; exact k L H [] Le.refl hr .nil
theorem sndA_cons {m : EM} {ms : AM} (he : SndE X e m) (hes : SndA X es ms) (hs : starEach (e :: es) X.env = (false, eval e X.env) :: starEach es X.env) : SndA X (e :: es) (aCons m ms) := by
  refine weakA (pa_cons he hes hs) fun σV H Q ⟨L, σ, h, d, h', hr, sr, em, k⟩ => ?_
  obtain ⟨x, h1, e1, em⟩ := bind_some em
  obtain ⟨xs, h2, e2, em⟩ := bind_some em
  cases em
  refine ⟨L, σ, h, x, h1, hr, sr, e1, fun L1 H1 v1 l1 r1 q1 => ⟨L1, σ, h1, xs, h', r1, sr.le l1, e2, fun L2 H2 vs l2 r2 q2 => ?_⟩⟩
  exact k L2 H2 (v1 :: vs) (l1.trans0 l2) r2 (.cons (q1.le l2) q2)
theorem sndAO_cons {m : EM} {ms : AM} (he : SndO X e m) (hes : SndAO X es ms) (hs : starEach (e :: es) X.env = (false, eval e X.env) :: starEach es X.env) : SndAO X (e :: es) (aCons m ms) := by
  refine weakA (pa_cons he hes hs) fun σV H Q ⟨L, σ, h, d, h', hr, sr, em, k⟩ => ?_
  obtain ⟨x, h1, e1, em⟩ := bind_some em
  obtain ⟨xs, h2, e2, em⟩ := bind_some em
  cases em
  refine ⟨L, σ, h, x, h1, hr, sr, e1, fun L1 H1 v1 l1 r1 q1 => ⟨L1, σ, h1, xs, h', r1, sr.le l1, e2, fun L2 H2 vs l2 r2 q2 => ?_⟩⟩
  exact k L2 H2 (v1 :: vs) (l1.trans0 l2) r2 (.cons (q1.le l2) q2)
def eTup (ms : AM) : EM := fun σ h => (ms σ h).bind fun xs h1 => if xs.length ≤ sizeLine then .ok (.tup xs) h1 else .bad
def eLst (ms : AM) : EM := fun σ h => (ms σ h).bind fun xs h1 => if xs.length ≤ sizeLine then .ok (.lst xs) h1 else .bad
theorem ite_ok {α : Type} {p : Prop} [Decidable p] {x y : α} {h h' : Hs} (e : (if p then R.ok x h else .bad) = .ok y h') : p ∧ x = y ∧ h = h' := by
  by_cases hp : p
  · rw [if_pos hp] at e; cases e; exact ⟨hp, rfl, rfl⟩
  · rw [if_neg hp] at e; cases e
theorem snd_tup {ms : AM} {k : Nat} (h : SndA X es ms) : SndE X (.Tuple es k pos) (eTup ms) := by
  refine weakE (pe_tup h) fun σV H Q ⟨L, σ, h, d, h', hr, sr, em, k⟩ => ?_
  obtain ⟨xs, h1, e1, em⟩ := bind_some em
  obtain ⟨hz, e, e'⟩ := ite_ok em
  subst e; subst e'
  refine ⟨L, σ, h, xs, h1, hr, sr, e1, fun L1 H1 vs l1 r1 q1 => ⟨by rw [q1.length]; exact hz, fun p hp => ?_⟩⟩
  exact k _ _ _ (l1.trans0 (le_put r1 hp)) (r1.put hp) (.tup put_sqT (q1.le (le_put r1 hp)))
theorem snd_lst {ms : AM} (h : SndA X es ms) : SndE X (.List es pos) (eLst ms) := by
  refine weakE (pe_lst h) fun σV H Q ⟨L, σ, h, d, h', hr, sr, em, k⟩ => ?_
  obtain ⟨xs, h1, e1, em⟩ := bind_some em
  obtain ⟨hz, e, e'⟩ := ite_ok em
  subst e; subst e'
  refine ⟨L, σ, h, xs, h1, hr, sr, e1, fun L1 H1 vs l1 r1 q1 => ⟨by rw [q1.length]; exact hz, fun p hp => ?_⟩⟩
  exact k _ _ _ (l1.trans0 (le_put r1 hp)) (r1.put hp) (.lst upd_same (q1.le (le_put r1 hp)))

abbrev G2 := Hs → D → D → Option D
def OpS (X : Cx) (f : Value → Value → Sem Value) (g : G2) : Prop :=
  ∃ r : R2, OpR X f r ∧ ∀ (L : Lay) (H : Hp) (h : Hs) (x y : D) (v u : V) (d : D) (Q : VK), HRel X.K L H h → RepO X.K L H v x → RepO X.K L H u y → g h x y = some d →
    (∀ L' H' w, Le0 L H L' H' → HRel X.K L' H' h → Rep X.K L' w d → Q w H') → r v u H Q
def optR {α : Type} (o : Option α) (h : Hs) : R α := match o with
  | some d => .ok d h
  | none => .bad
theorem optR_ok {α : Type} {o : Option α} {h h' : Hs} {d : α} (e : optR o h = .ok d h') : o = some d ∧ h = h' := by
  cases o with
  | none => cases e
  | some x => cases e; exact ⟨rfl, rfl⟩
def eOp (g : G2) (ma mb : EM) : EM := fun σ h => (ma σ h).bind fun x h1 => (mb σ h1).bind fun y h2 => optR (g h2 x y) h2
theorem OpS.rd {f : Value → Value → Sem Value} {g : G2} {ma mb : EM} (ho : OpS X f g) : ∃ r : R2, OpR X f r ∧ ∀ σV H Q, RdE X.K (eOp g ma mb) σV H Q → tOp r (RdO X.K ma) (RdO X.K mb) σV H Q := by
  obtain ⟨r, hr, hs⟩ := ho
  refine ⟨r, hr, fun σV H Q ⟨L, σ, h, d, h', hr, sr, em, k⟩ => ?_⟩
  obtain ⟨x, h1, e1, em⟩ := bind_some em
  obtain ⟨y, h2, e2, em⟩ := bind_some em
  obtain ⟨em2, eh⟩ := optR_ok em
  subst eh
  refine ⟨L, σ, h, x, h1, hr, sr, e1, fun L1 H1 v1 l1 r1 q1 => ⟨L1, σ, h1, y, h2, r1, sr.le l1, e2, fun L2 H2 v2 l2 r2 q2 => ?_⟩⟩
  exact hs L2 H2 h2 x y v1 v2 d Q r2 (q1.le l2) q2 em2 fun L3 H3 w l3 r3 q3 => k L3 H3 w ((l1.trans0 l2).trans0 l3) r3 q3
theorem snd_op {op : Operator} {g : G2} {ma mb : EM} (ho : OpS X (binaryOp op) g) (ha : SndO X a ma) (hb : SndO X b mb) : SndE X (.BinOp a op b pos) (eOp g ma mb) := by
  obtain ⟨r, hr, w⟩ := ho.rd (ma := ma) (mb := mb)
  exact weakE (pe_op hr ha hb) w
theorem OpS.or {f : Value → Value → Sem Value} {g g' : G2} (h : OpS X f g) (h' : OpS X f g') : OpS X f (fun s x y => (g s x y).or (g' s x y)) := by
  obtain ⟨r, hr, w⟩ := h
  obtain ⟨r', hr', w'⟩ := h'
  refine ⟨_, hr.or hr', fun L H h x y v u d Q s p q e k => ?_⟩
  have e : (g h x y).or (g' h x y) = some d := e
  cases e1 : g h x y with
  | some z => rw [e1] at e; cases e; exact .inl (w L H h x y v u _ Q s p q e1 k)
  | none => rw [e1] at e; exact .inr (w' L H h x y v u _ Q s p q e k)
def gI (c : Int → Int → Bool) (f : Int → Int → D) : G2 := fun _ x y => match x, y with
  | .int i, .int j => if c i j then some (f i j) else none
  | _, _ => none
theorem gI_some {c : Int → Int → Bool} {f : Int → Int → D} {h : Hs} {x y d : D} (e : gI c f h x y = some d) : ∃ i j, x = .int i ∧ y = .int j ∧ c i j = true ∧ d = f i j := by
  unfold gI at e
  split at e
  · split at e
    · cases e; exact ⟨_, _, rfl, rfl, by assumption, rfl⟩
    · cases e
  · cases e
theorem opsI {f : Value → Value → Sem Value} {C : Int → Int → Prop} {g : Int → Int → V} {c : Int → Int → Bool} {g' : Int → Int → D} (ho : OpR X f (rI C g)) (hc : ∀ i j, c i j = true → C i j) (hg : ∀ i j L, c i j = true → Rep X.K L (g i j) (g' i j)) : OpS X f (gI c g') := by
  refine ⟨_, ho, fun L H h x y v u d Q s p q e k => ?_⟩
  obtain ⟨i, j, rfl, rfl, cc, rfl⟩ := gI_some e
  exact ⟨i, j, p.int, q.int, hc i j cc, k L H _ Le.refl s (hg i j L cc)⟩
theorem rI_of0 {f : Value → Value → Sem Value} {g : Int → Int → V} (h : OpR X f (rI0 g)) : OpR X f (rI (fun _ _ => True) g) := by
  intro pins s σ H x y v u Q I rx ry q
  obtain ⟨i, j, e1, e2, _, q⟩ := q
  exact h pins s σ H x y v u Q I rx ry ⟨i, j, e1, e2, q⟩
def cT : Int → Int → Bool := fun _ _ => true
def gAddI : G2 := gI cT fun i j => .int (i + j)
def gSub : G2 := gI cT fun i j => .int (i - j)
def cMul (i j : Int) : Bool := decide (i.natAbs < 2 ^ 64) || decide (j.natAbs < 2 ^ 64) || (decide (i.natAbs < 2 ^ 100000) && decide (j.natAbs < 2 ^ 100000))
def gMulI : G2 := gI cMul fun i j => .int (i * j)
def gFdiv : G2 := gI (fun _ j => decide (0 < j) && decide (j.natAbs.log2 < 9000)) fun i j => .int (i / j)
def gMod : G2 := gI (fun _ j => decide (0 < j)) fun i j => .int (i % j)
def cPow (i j : Int) : Bool := decide (0 ≤ j) && decide (j ≤ 1000000) && decide (i.natAbs < 2 ^ 64)
def gPow : G2 := gI cPow fun i j => .int (i ^ j.toNat)
def gShl : G2 := gI cPow fun i j => .int (i * 2 ^ j.toNat)
def gShr : G2 := gI (fun _ j => decide (0 ≤ j)) fun i j => .int (i / 2 ^ j.toNat)
def gAnd : G2 := gI cT fun i j => .int (Builtin.bitAnd i j)
def gOr : G2 := gI cT fun i j => .int (Builtin.bitOr i j)
def gXor : G2 := gI cT fun i j => .int (Builtin.bitXor i j)
theorem ops_addI : OpS X (binaryOp .Add) gAddI := opsI (rI_of0 op_add) (fun _ _ _ => trivial) fun _ _ _ _ => .int _
theorem ops_sub : OpS X (binaryOp .Sub) gSub := opsI (rI_of0 op_sub) (fun _ _ _ => trivial) fun _ _ _ _ => .int _
theorem ops_fdiv : OpS X (binaryOp .FloorDiv) gFdiv := opsI op_fdivW (fun i j c => by
  rw [Bool.and_eq_true, decide_eq_true_eq, decide_eq_true_eq] at c; exact ⟨c.1, c.2⟩) fun _ _ _ _ => .int _
theorem ops_mod : OpS X (binaryOp .Mod) gMod := opsI op_mod (fun i j c => of_decide_eq_true c) fun _ _ _ _ => .int _
theorem cPow_ok {i j : Int} (c : cPow i j = true) : CPow i j := by
  unfold cPow at c
  rw [Bool.and_eq_true, Bool.and_eq_true, decide_eq_true_eq, decide_eq_true_eq, decide_eq_true_eq] at c
  exact ⟨c.1.1, c.1.2, c.2⟩
theorem ops_pow : OpS X (binaryOp .Pow) gPow := opsI op_pow (fun _ _ c => cPow_ok c) fun _ _ _ _ => .int _
theorem ops_shl : OpS X (binaryOp .LShift) gShl := opsI op_shl (fun _ _ c => cPow_ok c) fun _ _ _ _ => .int _
theorem ops_shr : OpS X (binaryOp .RShift) gShr := opsI op_shr (fun i j c => of_decide_eq_true c) fun _ _ _ _ => .int _
theorem ops_and : OpS X (binaryOp .BitAnd) gAnd := opsI (rI_of0 op_and) (fun _ _ _ => trivial) fun _ _ _ _ => .int _
theorem ops_or : OpS X (binaryOp .BitOr) gOr := opsI (rI_of0 op_or) (fun _ _ _ => trivial) fun _ _ _ _ => .int _
theorem ops_xor : OpS X (binaryOp .BitXor) gXor := opsI (rI_of0 op_xor) (fun _ _ _ => trivial) fun _ _ _ _ => .int _
theorem ops_mulI : OpS X (binaryOp .Mult) gMulI := by
  refine ⟨_, op_mul.or op_mulW, fun L H h x y v u d Q s p q e k => ?_⟩
  obtain ⟨i, j, rfl, rfl, c, rfl⟩ := gI_some e
  unfold cMul at c
  simp only [Bool.or_eq_true, Bool.and_eq_true, decide_eq_true_eq] at c
  have fin : Q (.int (i * j)) H := k L H _ Le.refl s (.int _)
  rcases c with (c | c) | c
  · exact .inl ⟨i, j, p.int, q.int, .inl ⟨by omega, by omega⟩, fin⟩
  · exact .inl ⟨i, j, p.int, q.int, .inr ⟨by omega, by omega⟩, fin⟩
  · exact .inr ⟨i, j, p.int, q.int, wide_mul (a := 100000) (b := 100000) c.1 c.2 (by decide) (by decide) (by decide), fin⟩
def gCat : G2 := fun h x y => match x, y with
  | .str a, .str b => if a.length + b.length ≤ sizeLine then some (.str (a ++ b)) else none
  | .tup a, .tup b => if a.length + b.length ≤ sizeLine then some (.tup (a ++ b)) else none
  | x, y => match asL h x, asL h y with
    | some a, some b => if a.length + b.length ≤ sizeLine then some (.lst (a ++ b)) else none
    | _, _ => none
theorem ops_cat : OpS X (binaryOp .Add) gCat := by
  refine ⟨_, op_add_str.or (op_catA.or op_cat), fun L H h x y v u d Q s p q e k => ?_⟩
  unfold gCat at e
  split at e
  · rename_i a b
    split at e
    · cases e
      obtain ⟨s1, rfl, e1, n1, o1⟩ := p.str
      obtain ⟨s2, rfl, e2, n2, o2⟩ := q.str
      refine .inl ⟨s1, s2, rfl, rfl, by rw [n1, n2]; assumption, k L H _ Le.refl s (.str' ?_ ?_)⟩
      · show (s1.cps ++ s2.cps).toList = a ++ b
        rw [Array.toList_append, e1, e2]
      · intro c hc
        rcases List.mem_append.mp hc with hc | hc
        · exact o1 c hc
        · exact o2 c hc
    · cases e
  · rename_i a b
    split at e
    · cases e
      obtain ⟨p1, v1, rfl, f1, t1, r1⟩ := p.tup s
      obtain ⟨p2, v2, rfl, f2, t2, r2⟩ := q.tup s
      refine .inr (.inl ⟨p1, p2, v1, v2, rfl, rfl, t1, t2, by rw [r1.length, r2.length]; assumption, fun z => ?_, fun _ z => ?_, fun _ _ pp hp => ?_⟩)
      · subst z
        cases r1
        exact k L H _ Le.refl s (.tup f2 r2)
      · subst z
        cases r2
        exact k L H _ Le.refl s (by rw [List.append_nil]; exact .tup f1 r1)
      · exact k _ _ _ (le_put s hp) (s.put hp) (.tup put_sqT ((r1.append r2).le (le_put s hp)))
    · cases e
  · split at e
    · rename_i a b ea eb
      split at e
      · cases e
        obtain ⟨p1, v1, rfl, t1, r1⟩ := asL_ok s p ea
        obtain ⟨p2, v2, rfl, t2, r2⟩ := asL_ok s q eb
        refine .inr (.inr ⟨p1, p2, v1, v2, rfl, rfl, t1, t2, by rw [r1.length, r2.length]; assumption, fun pp hp => ?_⟩)
        exact k _ _ _ (le_put s hp) (s.put hp) (.lst upd_same ((r1.append r2).le (le_put s hp)))
      · cases e
    · cases e
def gAdd : G2 := fun s x y => (gAddI s x y).or (gCat s x y)
theorem ops_add : OpS X (binaryOp .Add) gAdd := ops_addI.or ops_cat
def gRep : G2 := fun h x y => match asL h x, y with
  | some xs, .int k => if k < 2 ^ 63 ∧ -(2 ^ 63) ≤ k ∧ xs.length * k.toNat ≤ sizeLine then some (.lst (List.replicate k.toNat xs).flatten) else none
  | _, _ => none
theorem Reps.rep {K : PySem.W.Frag} {L : Lay} {vs : List V} {ds : List D} (r : Reps K L vs ds) : ∀ n : Nat, Reps K L (List.replicate n vs).flatten (List.replicate n ds).flatten
  | 0 => .nil
  | n + 1 => by
    rw [List.replicate_succ, List.replicate_succ, List.flatten_cons, List.flatten_cons]
    exact r.append (Reps.rep r n)
theorem ops_rep : OpS X (binaryOp .Mult) gRep := by
  refine ⟨_, op_rep, fun L H h x y v u d Q s p q e k => ?_⟩
  unfold gRep at e
  split at e
  · rename_i xs kk ex
    split at e
    · rename_i hk
      cases e
      obtain ⟨p1, v1, rfl, t1, r1⟩ := asL_ok s p ex
      exact ⟨p1, kk, v1, rfl, q.int, t1, hk.2.1, hk.1, by rw [r1.length]; exact hk.2.2, fun pp hp => k _ _ _ (le_put s hp) (s.put hp) (.lst upd_same ((r1.rep _).le (le_put s hp)))⟩
    · cases e
  · cases e
def gRepS : G2 := fun h x y => match x, y with
  | .str l, .int k => if 0 ≤ k ∧ k ≤ 1000 ∧ l.length ≤ 1000 then some (.str (List.replicate k.toNat l).flatten) else none
  | _, _ => none
theorem ops_repS : OpS X (binaryOp .Mult) gRepS := by
  refine ⟨_, op_repS, fun L H h x y v u d Q s p q e k => ?_⟩
  unfold gRepS at e
  split at e
  · rename_i l i
    split at e
    · rename_i hk
      cases e
      obtain ⟨z, rfl, ez, nz, oz⟩ := p.str
      refine ⟨z, i, rfl, q.int, hk.1, hk.2.1, by rw [nz]; exact hk.2.2, fun z' ez' => ?_⟩
      have : z'.cps.toList = (List.replicate i.toNat l).flatten := by rw [ez', ez]
      refine k L H _ Le.refl s (this ▸ Rep.str z' fun c hc => ?_)
      rw [this] at hc
      obtain ⟨l', hl', hc'⟩ := List.mem_flatten.mp hc
      rw [(List.mem_replicate.mp hl').2] at hc'
      exact oz c hc'
    · cases e
  · cases e
def gMul : G2 := fun s x y => ((gMulI s x y).or (gRep s x y)).or (gRepS s x y)
theorem ops_mul : OpS X (binaryOp .Mult) gMul := (ops_mulI.or ops_rep).or ops_repS
end
end WC
set_option Elab.async false
set_option linter.all false
set_option maxRecDepth 100000
namespace WC
open PySem PySem.Spec PyProof.Rows L2

mutual
def pyEq : D → D → Bool
  | .non, .non => true
  | .bl a, .bl b => a == b
  | .bl a, .int j => (if a then 1 else 0) == j
  | .int i, .bl b => i == (if b then 1 else 0)
  | .int i, .int j => i == j
  | .str x, .str y => x == y
  | .lst xs, .lst ys => pyEqs xs ys
  | .tup xs, .tup ys => pyEqs xs ys
  | _, _ => false
def pyEqs : List D → List D → Bool
  | [], [] => true
  | x :: xs, y :: ys => pyEq x y && pyEqs xs ys
  | _, _ => false
end
mutual
def depD : D → Option Nat
  | .non => some 0
  | .bl _ => some 0
  | .int _ => some 0
  | .str _ => some 0
  | .lst xs => (depDs xs).map (· + 1)
  | .tup xs => (depDs xs).map (· + 1)
  | _ => none
def depDs : List D → Option Nat
  | [] => some 0
  | x :: xs => match depD x, depDs xs with
    | some a, some b => some (max a b)
    | _, _ => none
end
def eqOk (d : D) : Bool := match depD d with
  | some n => decide (n ≤ 60)
  | none => false
mutual
def toP : D → PyData
  | .non => .none
  | .bl b => .bool b
  | .int i => .int i
  | .str l => .str ⟨l.toArray⟩
  | .lst xs => .list (toPs xs)
  | .tup xs => .tuple (toPs xs)
  | _ => .none
def toPs : List D → List PyData
  | [] => []
  | x :: xs => toP x :: toPs xs
end
mutual
theorem eqv_toP : ∀ (x y : D) (m n : Nat), depD x = some m → depD y = some n → PyData.eqv (toP x) (toP y) = pyEq x y
  | .non, y, _, _, _, h => by cases y <;> simp_all [depD, toP, pyEq, PyData.eqv]
  | .bl _, y, _, _, _, h => by cases y <;> simp_all [depD, toP, pyEq, PyData.eqv]
  | .int _, y, _, _, _, h => by cases y <;> simp_all [depD, toP, pyEq, PyData.eqv]
  | .str a, y, _, _, _, h => by
    cases y with
    | str b =>
      simp only [toP, pyEq, PyData.eqv]
      by_cases e : a = b
      · subst e; simp
      · have : ¬ (Str.mk a.toArray = Str.mk b.toArray) := fun z => e (by simpa using z)
        rw [beq_eq_false_iff_ne.mpr this, beq_eq_false_iff_ne.mpr e]
    | _ => simp_all [depD, toP, pyEq, PyData.eqv]
  | .lst xs, y, m, n, h1, h => by
    cases y with
    | lst ys =>
      simp only [depD, Option.map_eq_some_iff] at h1 h
      obtain ⟨a, h1, _⟩ := h1
      obtain ⟨b, h, _⟩ := h
      simp only [toP, pyEq, PyData.eqv]
      exact eqvs_toP xs ys a b h1 h
    | _ => simp_all [depD, toP, pyEq, PyData.eqv]
  | .tup xs, y, m, n, h1, h => by
    cases y with
    | tup ys =>
      simp only [depD, Option.map_eq_some_iff] at h1 h
      obtain ⟨a, h1, _⟩ := h1
      obtain ⟨b, h, _⟩ := h
      simp only [toP, pyEq, PyData.eqv]
      exact eqvs_toP xs ys a b h1 h
    | _ => simp_all [depD, toP, pyEq, PyData.eqv]
  | .dct _, _, _, _, h, _ => by simp [depD] at h
  | .ref _, _, _, _, h, _ => by simp [depD] at h
  | .scr _, _, _, _, h, _ => by simp [depD] at h
theorem eqvs_toP : ∀ (xs ys : List D) (m n : Nat), depDs xs = some m → depDs ys = some n → PyData.eqvAll (toPs xs) (toPs ys) = pyEqs xs ys
  | [], ys, _, _, _, h => by cases ys <;> simp [toPs, pyEqs, PyData.eqvAll]
  | x :: xs, [], _, _, _, h => by simp [toPs, pyEqs, PyData.eqvAll]
  | x :: xs, y :: ys, m, n, h1, h2 => by
    unfold depDs at h1 h2
    split at h1
    · rename_i a1 b1 e1 e2
      split at h2
      · rename_i a2 b2 e3 e4
        simp only [toPs, pyEqs, PyData.eqvAll, eqv_toP x y _ _ e1 e3, eqvs_toP xs ys _ _ e2 e4]
      · cases h2
    · cases h1
end
mutual
theorem depth_toP : ∀ (x : D) (m : Nat), depD x = some m → (toP x).depth = m
  | .non, m, h => by simp [depD] at h; simp [toP, PyData.depth, ← h]
  | .bl _, m, h => by simp [depD] at h; simp [toP, PyData.depth, ← h]
  | .int _, m, h => by simp [depD] at h; simp [toP, PyData.depth, ← h]
  | .str _, m, h => by simp [depD] at h; simp [toP, PyData.depth, ← h]
  | .lst xs, m, h => by
    simp only [depD, Option.map_eq_some_iff] at h
    obtain ⟨a, h1, rfl⟩ := h
    simp only [toP, PyData.depth, depths_toP xs a h1] <;> omega
  | .tup xs, m, h => by
    simp only [depD, Option.map_eq_some_iff] at h
    obtain ⟨a, h1, rfl⟩ := h
    simp only [toP, PyData.depth, depths_toP xs a h1] <;> omega
  | .dct _, m, h => by simp [depD] at h
  | .ref _, m, h => by simp [depD] at h
  | .scr _, m, h => by simp [depD] at h
theorem depths_toP : ∀ (xs : List D) (m : Nat), depDs xs = some m → PyData.depthAll (toPs xs) = m
  | [], m, h => by simp [depDs] at h; simp [toPs, PyData.depthAll, ← h]
  | x :: xs, m, h => by
    unfold depDs at h
    split at h
    · rename_i a b e1 e2
      cases h
      simp only [toPs, PyData.depthAll, depth_toP x a e1, depths_toP xs b e2]
    · cases h
end
section
variable {K : PySem.W.Frag} {L : Lay} {H : Hp} {h : Hs}
mutual
theorem rep_dp (s : HRel K L H h) : ∀ (d : D) (v : V) (m : Nat), Rep K L v d → depD d = some m → Dp K H v (toP d) ∧ (toP d).canLay0 = true
  | .non, v, m, r, e => by cases r; exact ⟨.non, rfl⟩
  | .bl b, v, m, r, e => by cases r; exact ⟨.bl b, rfl⟩
  | .int i, v, m, r, e => by cases r; exact ⟨.int i, rfl⟩
  | .str l, v, m, r, e => by
    cases r with
    | str s ok =>
      refine ⟨by simpa [toP] using Dp.str s, ?_⟩
      simp only [toP, PyData.canLay0, PyData.strOk]
      have ok' : ∀ (i : Nat) (hi : i < s.cps.size), s.cps[i] < 0x110000 := fun i hi => ok _ (by simp)
      simpa using ok'
  | .lst xs, v, m, r, e => by
    simp only [depD, Option.map_eq_some_iff] at e
    obtain ⟨a, e, _⟩ := e
    cases r with
    | lst f r =>
      obtain ⟨q1, q2⟩ := reps_dp s xs _ a r e
      exact ⟨.lst (.of (s.sub _ _ f)) q1, by simpa only [toP, PyData.canLay0] using q2⟩
  | .tup xs, v, m, r, e => by
    simp only [depD, Option.map_eq_some_iff] at e
    obtain ⟨a, e, _⟩ := e
    cases r with
    | tup f r =>
      obtain ⟨q1, q2⟩ := reps_dp s xs _ a r e
      exact ⟨.tup (s.sqT f) q1, by simpa only [toP, PyData.canLay0] using q2⟩
  | .dct _, _, _, _, e => by simp [depD] at e
  | .ref _, _, _, _, e => by simp [depD] at e
  | .scr _, _, _, _, e => by simp [depD] at e
theorem reps_dp (s : HRel K L H h) : ∀ (ds : List D) (vs : List V) (m : Nat), Reps K L vs ds → depDs ds = some m → DpAll K H vs (toPs ds) ∧ PyData.canLayAll0 (toPs ds) = true
  | [], v, m, r, e => by cases r; exact ⟨.nil, rfl⟩
  | d :: ds, v, m, r, e => by
    unfold depDs at e
    split at e
    · rename_i a b e1 e2
      cases r with
      | cons p q =>
        obtain ⟨x1, x2⟩ := rep_dp s d _ a p e1
        obtain ⟨y1, y2⟩ := reps_dp s ds _ b q e2
        exact ⟨.cons x1 y1, by simp [toPs, PyData.canLayAll0, x2, y2]⟩
    · cases e
end
def asV (h : Hs) (d : D) : D := match asL h d with
  | some xs => .lst xs
  | none => d
theorem repO_dp (s : HRel K L H h) {d : D} {v : V} (r : RepO K L H v d) (e : eqOk (asV h d) = true) : Dp K H v (toP (asV h d)) ∧ SeqAt.shaped (toP (asV h d)) = true ∧ ∃ m, depD (asV h d) = some m := by
  unfold eqOk at e
  split at e
  · rename_i n en
    have hn : n ≤ 60 := of_decide_eq_true e
    have key : Dp K H v (toP (asV h d)) ∧ (toP (asV h d)).canLay0 = true := by
      unfold asV at en ⊢
      cases ea : asL h d with
      | some xs =>
        rw [ea] at en
        simp only at en
        obtain ⟨p, vs, rfl, t, r1⟩ := asL_ok s r ea
        simp only [depD, Option.map_eq_some_iff] at en
        obtain ⟨a, en, _⟩ := en
        obtain ⟨q1, q2⟩ := reps_dp s xs _ a r1 en
        exact ⟨.lst (.of t) q1, by simpa only [toP, PyData.canLay0] using q2⟩
      | none =>
        rw [ea] at en
        simp only at en
        rcases r with r | ⟨xs, rfl, r⟩ | ⟨kvs, rfl, r⟩
        · exact rep_dp s d v n r en
        · simp [asL] at ea
        · simp [depD] at en
    refine ⟨key.1, ?_, n, en⟩
    unfold SeqAt.shaped
    rw [key.2, depth_toP _ n en, Bool.true_and]
    exact decide_eq_true (by omega)
  · cases e
end

section
variable {X : Cx} {a b c : Expr} {pos : Pos}
def gEq : G2 := fun h x y => if eqOk (asV h x) && eqOk (asV h y) then some (.bl (pyEq (asV h x) (asV h y))) else none
def gNe : G2 := fun h x y => if eqOk (asV h x) && eqOk (asV h y) then some (.bl (!pyEq (asV h x) (asV h y))) else none
theorem ops_eq (hu : X.A.units + 64 < cLine) : OpS X (compareOp .Eq) gEq := by
  refine ⟨_, op_eqD hu, fun L H h x y v u d Q s p q e k => ?_⟩
  unfold gEq at e
  split at e
  · rename_i hh
    rw [Bool.and_eq_true] at hh
    obtain ⟨p1, p2, m, p3⟩ := repO_dp s p hh.1
    obtain ⟨q1, q2, n, q3⟩ := repO_dp s q hh.2
    cases e
    refine ⟨_, _, p1, q1, p2, q2, ?_⟩
    rw [eqv_toP _ _ _ _ p3 q3]
    exact k L H _ Le.refl s (.bl _)
  · cases e
theorem ops_ne (hu : X.A.units + 64 < cLine) : OpS X (compareOp .NotEq) gNe := by
  refine ⟨_, op_neD hu, fun L H h x y v u d Q s p q e k => ?_⟩
  unfold gNe at e
  split at e
  · rename_i hh
    rw [Bool.and_eq_true] at hh
    obtain ⟨p1, p2, m, p3⟩ := repO_dp s p hh.1
    obtain ⟨q1, q2, n, q3⟩ := repO_dp s q hh.2
    cases e
    refine ⟨_, _, p1, q1, p2, q2, ?_⟩
    rw [eqv_toP _ _ _ _ p3 q3]
    exact k L H _ Le.refl s (.bl _)
  · cases e
def toInts : List D → Option (List Int)
  | [] => some []
  | .int i :: r => (toInts r).map (i :: ·)
  | _ :: _ => none
theorem toInts_ok {K : PySem.W.Frag} {L : Lay} : ∀ {ds : List D} {vs : List V} {ns : List Int}, Reps K L vs ds → toInts ds = some ns → vs = ns.map V.int
  | [], _, _, r, e => by cases r; cases e; rfl
  | d :: ds, _, ns, r, e => by
    cases r with
    | cons p q =>
      cases d with
      | int i =>
        simp only [toInts, Option.map_eq_some_iff] at e
        obtain ⟨ms, e, rfl⟩ := e
        cases p
        rw [toInts_ok q e]
        rfl
      | _ => simp [toInts] at e
def gLtI : G2 := gI cT fun i j => .bl (decide (i < j))
def gLeI : G2 := gI cT fun i j => .bl (decide (i ≤ j))
def gGt : G2 := gI cT fun i j => .bl (decide (j < i))
def gGe : G2 := gI cT fun i j => .bl (decide (j ≤ i))
theorem ops_ltI : OpS X (compareOp .Lt) gLtI := opsI (rI_of0 op_lt) (fun _ _ _ => trivial) fun _ _ _ _ => .bl _
theorem ops_leI : OpS X (compareOp .LtE) gLeI := opsI (rI_of0 op_le) (fun _ _ _ => trivial) fun _ _ _ _ => .bl _
theorem ops_gt : OpS X (compareOp .Gt) gGt := opsI (rI_of0 op_gt) (fun _ _ _ => trivial) fun _ _ _ _ => .bl _
theorem ops_ge : OpS X (compareOp .GtE) gGe := opsI (rI_of0 op_ge) (fun _ _ _ => trivial) fun _ _ _ _ => .bl _
def gLtS : G2 := fun _ x y => match x, y with
  | .str a, .str b => some (.bl (decide (a < b)))
  | .tup a, .tup b => match toInts a, toInts b with
    | some ns, some ms => some (.bl (HT.lexLt ns ms))
    | _, _ => none
  | _, _ => none
theorem ops_ltS (hu : X.A.units < cLine) : OpS X (compareOp .Lt) gLtS := by
  refine ⟨_, op_lt_str.or (op_ltT hu), fun L H h x y v u d Q s p q e k => ?_⟩
  unfold gLtS at e
  split at e
  · cases e
    obtain ⟨s1, rfl, e1, n1, o1⟩ := p.str
    obtain ⟨s2, rfl, e2, n2, o2⟩ := q.str
    subst e1; subst e2
    exact .inl ⟨s1, s2, rfl, rfl, k L H _ Le.refl s (.bl _)⟩
  · split at e
    · rename_i ns ms en em
      cases e
      obtain ⟨p1, v1, rfl, f1, t1, r1⟩ := p.tup s
      obtain ⟨p2, v2, rfl, f2, t2, r2⟩ := q.tup s
      have e1 := toInts_ok r1 en
      have e2 := toInts_ok r2 em
      subst e1; subst e2
      exact .inr ⟨p1, p2, ns, ms, rfl, rfl, t1, t2, k L H _ Le.refl s (.bl _)⟩
    · cases e
  · cases e
def gLt : G2 := fun s x y => (gLtI s x y).or (gLtS s x y)
theorem ops_lt (hu : X.A.units < cLine) : OpS X (compareOp .Lt) gLt := ops_ltI.or (ops_ltS hu)
def isN : D → Bool
  | .non => true
  | _ => false
def gIsN : G2 := fun _ x y => match y with
  | .non => some (.bl (isN x))
  | _ => none
def gNotN : G2 := fun _ x y => match y with
  | .non => some (.bl (!isN x))
  | _ => none
theorem isN_ok {K : PySem.W.Frag} {L : Lay} {H : Hp} {v : V} {x : D} (r : RepO K L H v x) : decide (v = .non) = isN x := by
  rcases r with r | ⟨xs, rfl, r⟩ | ⟨xs, rfl, r⟩
  · cases r <;> rfl
  · obtain ⟨p, vs, e, _⟩ := r
    cases e; rfl
  · obtain ⟨p, vs, _, e, _⟩ := r
    cases e; rfl
theorem ops_is : OpS X (compareOp .Is) gIsN := by
  refine ⟨_, op_isN, fun L H h x y v u d Q s p q e k => ?_⟩
  unfold gIsN at e
  split at e
  · cases e
    refine ⟨q.non, ?_⟩
    rw [isN_ok p]
    exact k L H _ Le.refl s (.bl _)
  · cases e
theorem ops_isnot : OpS X (compareOp .IsNot) gNotN := by
  refine ⟨_, op_notN, fun L H h x y v u d Q s p q e k => ?_⟩
  unfold gNotN at e
  split at e
  · cases e
    refine ⟨q.non, ?_⟩
    rw [isN_ok p]
    exact k L H _ Le.refl s (.bl _)
  · cases e
def rInU (K : PySem.W.Frag) : R2 := fun x y H Q => ∃ d ds, Dp K H x d ∧ Dp K H y (.tuple ds) ∧ SeqAt.shaped d = true ∧ SeqAt.shaped (.tuple ds) = true ∧ Q (.bl (ds.any fun z => PyData.eqv z d)) H
def rNotInU (K : PySem.W.Frag) : R2 := fun x y H Q => ∃ d ds, Dp K H x d ∧ Dp K H y (.tuple ds) ∧ SeqAt.shaped d = true ∧ SeqAt.shaped (.tuple ds) = true ∧ Q (.bl (!ds.any fun z => PyData.eqv z d)) H
theorem op_inU (hu : X.A.units + 65 < cLine) : OpR X (compareOp .In) (rInU X.K) := by
  intro pins s σ H x y v u Q I rx ry h
  obtain ⟨d, ds, hd, he, sd, se, q⟩ := h
  obtain ⟨as, r1⟩ := Dp.reads I d x v hd rx
  obtain ⟨bs, r2⟩ := Dp.reads I (.tuple ds) y u he ry
  exact SeqAt.in_tuple_reads r2 r1 (SeqAt.canLay_of_shaped se) (SeqAt.canLay_of_shaped sd) (room_in_shaped sd hu) ⟨.bl _, H, I, rfl, q⟩
theorem op_notInU (hu : X.A.units + 65 < cLine) : OpR X (compareOp .NotIn) (rNotInU X.K) := by
  intro pins s σ H x y v u Q I rx ry h
  obtain ⟨d, ds, hd, he, sd, se, q⟩ := h
  obtain ⟨as, r1⟩ := Dp.reads I d x v hd rx
  obtain ⟨bs, r2⟩ := Dp.reads I (.tuple ds) y u he ry
  exact SeqAt.notIn_tuple_reads r2 r1 (SeqAt.canLay_of_shaped se) (SeqAt.canLay_of_shaped sd) (room_in_shaped sd hu) ⟨.bl _, H, I, rfl, q⟩
def inS (x : D) (xs : List D) : Bool := xs.any fun z => pyEq z x
theorem any_toP : ∀ {xs : List D} {x : D} {m n : Nat}, depDs xs = some m → depD x = some n → ((toPs xs).any fun z => PyData.eqv z (toP x)) = inS x xs
  | [], _, _, _, _, _ => rfl
  | z :: xs, x, m, n, h, e => by
    unfold depDs at h
    split at h
    · rename_i a b e1 e2
      show (PyData.eqv (toP z) (toP x) || (toPs xs).any fun z => PyData.eqv z (toP x)) = _
      rw [eqv_toP _ _ _ _ e1 e, any_toP e2 e]
      rfl
    · cases h
def inD (h : Hs) (x y : D) : Option Bool := match asV h y with
  | .lst xs => if eqOk x && eqOk (.lst xs) then some (inS x xs) else none
  | .tup xs => if eqOk x && eqOk (.tup xs) then some (inS x xs) else none
  | .str l => match x with
    | .str [c] => some (decide (c ∈ l))
    | _ => none
  | _ => none
def gIn : G2 := fun h x y => (inD h x y).map .bl
def gNotIn : G2 := fun h x y => (inD h x y).map fun b => .bl (!b)
theorem eqOk_dep {d : D} (e : eqOk d = true) : ∃ m, depD d = some m := by
  unfold eqOk at e
  split at e
  · exact ⟨_, by assumption⟩
  · cases e
theorem asV_of {h : Hs} {d : D} {m : Nat} (e : depD d = some m) : asV h d = d := by
  cases d <;> first | rfl | simp [depD] at e
theorem asV_tup {h : Hs} {y : D} {xs : List D} (e : asV h y = .tup xs) : y = .tup xs := by
  unfold asV at e
  split at e
  · cases e
  · exact e
theorem asV_str {h : Hs} {y : D} {xs : List Nat} (e : asV h y = .str xs) : y = .str xs := by
  unfold asV at e
  split at e
  · cases e
  · exact e
theorem one_str {s : Str} {c : Nat} (e : s.cps.toList = [c]) : s = ⟨#[c]⟩ := by
  cases s with
  | mk cps =>
    have e' : cps.toList = [c] := e
    congr 1
    rw [← Array.toArray_toList (xs := cps), e']
theorem inD_case {K : PySem.W.Frag} {L : Lay} {H : Hp} {h : Hs} {x y : D} {v u : V} {w : Bool} (s : HRel K L H h) (p : RepO K L H v x) (q : RepO K L H u y) (e : inD h x y = some w) :
    (∃ d ds, Dp K H v d ∧ Dp K H u (.list ds) ∧ SeqAt.shaped d = true ∧ SeqAt.shaped (.list ds) = true ∧ (ds.any fun z => PyData.eqv z d) = w) ∨
    (∃ d ds, Dp K H v d ∧ Dp K H u (.tuple ds) ∧ SeqAt.shaped d = true ∧ SeqAt.shaped (.tuple ds) = true ∧ (ds.any fun z => PyData.eqv z d) = w) ∨
    (∃ (c : Nat) (z : Str), v = .str ⟨#[c]⟩ ∧ u = .str z ∧ decide (c ∈ z.cps.toList) = w) := by
  unfold inD at e
  split at e
  · rename_i xs ex
    split at e
    · rename_i hh
      rw [Bool.and_eq_true] at hh
      cases e
      obtain ⟨m, em⟩ := eqOk_dep hh.1
      have p' := repO_dp s p (by rw [asV_of em]; exact hh.1)
      rw [asV_of em] at p'
      have q' := repO_dp s q (by rw [ex]; exact hh.2)
      rw [ex] at q'
      obtain ⟨n, en⟩ := eqOk_dep hh.2
      simp only [depD, Option.map_eq_some_iff] at en
      obtain ⟨n', en, _⟩ := en
      simp only [toP] at q'
      exact .inl ⟨_, _, p'.1, q'.1, p'.2.1, q'.2.1, any_toP en em⟩
    · cases e
  · rename_i xs ex
    split at e
    · rename_i hh
      rw [Bool.and_eq_true] at hh
      cases e
      obtain ⟨m, em⟩ := eqOk_dep hh.1
      have p' := repO_dp s p (by rw [asV_of em]; exact hh.1)
      rw [asV_of em] at p'
      have q' := repO_dp s q (by rw [ex]; exact hh.2)
      rw [ex] at q'
      obtain ⟨n, en⟩ := eqOk_dep hh.2
      simp only [depD, Option.map_eq_some_iff] at en
      obtain ⟨n', en, _⟩ := en
      simp only [toP] at q'
      exact .inr (.inl ⟨_, _, p'.1, q'.1, p'.2.1, q'.2.1, any_toP en em⟩)
    · cases e
  · rename_i l ex
    split at e
    · rename_i c
      cases e
      have ey := asV_str ex
      subst ey
      obtain ⟨s1, rfl, e1, _, _⟩ := p.str
      obtain ⟨s2, rfl, e2, _, _⟩ := q.str
      refine .inr (.inr ⟨c, s2, by rw [one_str e1], rfl, by rw [e2]⟩)
    · cases e
  · cases e
theorem ops_in (hu : X.A.units + 65 < cLine) : OpS X (compareOp .In) gIn := by
  refine ⟨_, (op_inD hu).or ((op_inU hu).or op_in_sign), fun L H h x y v u d Q s p q e k => ?_⟩
  obtain ⟨w, e2, rfl⟩ := Option.map_eq_some_iff.mp e
  have fin := k L H _ Le.refl s (.bl w)
  rcases inD_case s p q e2 with ⟨d, ds, h1, h2, h3, h4, h5⟩ | ⟨d, ds, h1, h2, h3, h4, h5⟩ | ⟨c, z, h1, h2, h3⟩
  · exact .inl ⟨d, ds, h1, h2, h3, h4, by rw [h5]; exact fin⟩
  · exact .inr (.inl ⟨d, ds, h1, h2, h3, h4, by rw [h5]; exact fin⟩)
  · exact .inr (.inr ⟨c, z, h1, h2, by rw [h3]; exact fin⟩)
theorem ops_notin (hu : X.A.units + 65 < cLine) : OpS X (compareOp .NotIn) gNotIn := by
  refine ⟨_, (op_notInD hu).or ((op_notInU hu).or op_notIn_sign), fun L H h x y v u d Q s p q e k => ?_⟩
  obtain ⟨w, e2, rfl⟩ := Option.map_eq_some_iff.mp e
  have fin := k L H _ Le.refl s (.bl (!w))
  rcases inD_case s p q e2 with ⟨d, ds, h1, h2, h3, h4, h5⟩ | ⟨d, ds, h1, h2, h3, h4, h5⟩ | ⟨c, z, h1, h2, h3⟩
  · exact .inl ⟨d, ds, h1, h2, h3, h4, by rw [h5]; exact fin⟩
  · exact .inr (.inl ⟨d, ds, h1, h2, h3, h4, by rw [h5]; exact fin⟩)
  · exact .inr (.inr ⟨c, z, h1, h2, by rw [h3]; exact fin⟩)

theorem snd_cmp {op : CmpOp} {g : G2} {ma mb : EM} (ho : OpS X (compareOp op) g) (ha : SndO X a ma) (hb : SndO X b mb) (hm : behindInMarks op b = false) : SndE X (.Compare a [op] [b] pos) (eOp g ma mb) := by
  obtain ⟨r, hr, w⟩ := ho.rd (ma := ma) (mb := mb)
  exact weakE (pe_cmpR hr ha hb hm) w
def tB (m : EM) : TM := fun σ h => (m σ h).bind fun d h1 => match d with
  | .bl b => .ok b h1
  | _ => .bad
theorem tB_ok {m : EM} {σ : Sg} {h h' : Hs} {b : Bool} (e : tB m σ h = .ok b h') : m σ h = .ok (.bl b) h' := by
  obtain ⟨d, h1, e1, e2⟩ := bind_some e
  cases d with
  | bl c => cases e2; exact e1
  | _ => cases e2
theorem rdT_of {K : PySem.W.Frag} {m : EM} {σV : Sv} {H : Hp} {Q : Bool → Hp → Prop} (q : RdT K (tB m) σV H Q) : RdE K m σV H fun x H' => ∃ k, x = .bl k ∧ Q k H' := by
  obtain ⟨L, σ, h, d, h', hr, sr, em, k⟩ := q
  exact ⟨L, σ, h, _, h', hr, sr, tB_ok em, fun L' H' v l r q => by cases q; exact ⟨d, rfl, k L' H' l r⟩⟩
theorem sndT_cmp {op : CmpOp} {g : G2} {ma mb : EM} (ho : OpS X (compareOp op) g) (ha : SndO X a ma) (hb : SndO X b mb) (hm : behindInMarks op b = false) : SndT X (.Compare a [op] [b] pos) (tB (eOp g ma mb)) := by
  obtain ⟨r, hr, w⟩ := ho.rd (ma := ma) (mb := mb)
  exact weakT (pt_cmpR hr ha hb hm) fun σV H Q q => w _ _ _ (rdT_of q)
theorem sndT_val {e : Expr} {m : EM} (h : SndE X e m) (he : ∀ whole, isTrue e X.env whole = (do let v ← whole; standAt e.pos; holding [v] (truthy v))) : SndT X e (tB m) := weakT (pt_val h he) fun σV H Q q => rdT_of q
def eChain (g g' : G2) (ma mb mc : EM) : EM := fun σ h => (ma σ h).bind fun x h1 => (mb σ h1).bind fun y h2 => (optR (g h2 x y) h2).bind fun z h3 => match z with
  | .bl true => (mc σ h3).bind fun w h4 => optR (g' h4 y w) h4
  | .bl false => .ok (.bl false) h3
  | _ => .bad
theorem chain_rd {op op' : CmpOp} {g g' : G2} {ma mb mc : EM} (ho : OpS X (compareOp op) g) (ho' : OpS X (compareOp op') g') : ∃ r r' : R2, OpR X (compareOp op) r ∧ OpR X (compareOp op') r' ∧
    ∀ σV H Q, RdE X.K (eChain g g' ma mb mc) σV H Q → tChain r r' (RdO X.K ma) (RdO X.K mb) (RdO X.K mc) σV H Q := by
  obtain ⟨r, hr, hs⟩ := ho
  obtain ⟨r', hr', hs'⟩ := ho'
  refine ⟨r, r', hr, hr', fun σV H Q ⟨L, σ, h, d, h', hr, sr, em, k⟩ => ?_⟩
  obtain ⟨x, h1, e1, em⟩ := bind_some em
  obtain ⟨y, h2, e2, em⟩ := bind_some em
  obtain ⟨z, h3, e3, em⟩ := bind_some em
  obtain ⟨e3, eh⟩ := optR_ok e3
  refine ⟨L, σ, h, x, h1, hr, sr, e1, fun L1 H1 v1 l1 r1 q1 => ⟨L1, σ, h1, y, h2, r1, sr.le l1, e2, fun L2 H2 v2 l2 r2 q2 => ?_⟩⟩
  refine hs L2 H2 h2 x y v1 v2 z _ r2 (q1.le l2) q2 e3 fun L3 H3 w l3 r3 q3 => ?_
  cases z with
  | bl bb =>
    cases q3
    refine ⟨bb, rfl, ?_⟩
    subst eh
    cases bb with
    | false =>
      cases em
      exact k L3 H3 _ ((l1.trans0 l2).trans0 l3) r3 (.bl false)
    | true =>
      obtain ⟨w, h4, e4, em⟩ := bind_some em
      refine ⟨L3, σ, h2, w, h4, r3, ((sr.le l1).le l2).le l3, e4, fun L4 H4 v4 l4 r4 q4 => ?_⟩
      obtain ⟨em2, eh⟩ := optR_ok em
      subst eh
      exact hs' L4 H4 h4 _ _ v2 v4 d Q r4 ((q2.le l3).le l4) q4 em2 fun L5 H5 w l5 r5 q5 => k L5 H5 w ((((l1.trans0 l2).trans0 l3).trans0 l4).trans0 l5) r5 q5
  | _ => cases em
theorem snd_chain {op op' : CmpOp} {g g' : G2} {ma mb mc : EM} (ho : OpS X (compareOp op) g) (ho' : OpS X (compareOp op') g') (ha : SndO X a ma) (hb : SndO X b mb) (hc : SndO X c mc) (hm : lastMarks [op, op'] [b, c] = false) :
    SndE X (.Compare a [op, op'] [b, c] pos) (eChain g g' ma mb mc) := by
  obtain ⟨r, r', hr, hr', w⟩ := chain_rd (X := X) (ma := ma) (mb := mb) (mc := mc) ho ho'
  exact weakE (pe_chain hr hr' ha hb hc hm) w
theorem sndT_chain {op op' : CmpOp} {g g' : G2} {ma mb mc : EM} (ho : OpS X (compareOp op) g) (ho' : OpS X (compareOp op') g') (ha : SndO X a ma) (hb : SndO X b mb) (hc : SndO X c mc) (hm : lastMarks [op, op'] [b, c] = false) :
    SndT X (.Compare a [op, op'] [b, c] pos) (tB (eChain g g' ma mb mc)) := by
  obtain ⟨r, r', hr, hr', w⟩ := chain_rd (X := X) (ma := ma) (mb := mb) (mc := mc) ho ho'
  exact weakT (pt_chain hr hr' ha hb hc hm) fun σV H Q q => w _ _ _ (rdT_of q)

variable {rest : List Expr}
def tAnd (t u : TM) : TM := fun σ h => (t σ h).bind fun b h1 => match b with
  | true => u σ h1
  | false => .ok false h1
def tOr (t u : TM) : TM := fun σ h => (t σ h).bind fun b h1 => match b with
  | true => .ok true h1
  | false => u σ h1
def tNot (t : TM) : TM := fun σ h => (t σ h).bind fun b h1 => .ok (!b) h1
theorem sndW_and1 {t : TM} (ha : SndT X a t) : SndW X (.BoolOp .And [a] pos) t := pw_and1 ha
theorem sndW_or1 {t : TM} (ha : SndT X a t) : SndW X (.BoolOp .Or [a] pos) t := pw_or1 ha
theorem sndW_and {t u : TM} (ha : SndT X a t) (hb : SndW X (.BoolOp .And (b :: rest) pos) u) : SndW X (.BoolOp .And (a :: b :: rest) pos) (tAnd t u) := by
  refine weakW (pw_and ha hb) fun σV H Q ⟨L, σ, h, d, h', hr, sr, em, k⟩ => ?_
  obtain ⟨x, h1, e1, em⟩ := bind_some em
  refine ⟨L, σ, h, x, h1, hr, sr, e1, fun L1 H1 l1 r1 => ?_⟩
  cases x with
  | true => exact ⟨L1, σ, h1, d, h', r1, sr.le l1, em, fun L2 H2 l2 r2 => k L2 H2 (l1.trans0 l2) r2⟩
  | false => cases em; exact k L1 H1 l1 r1
theorem sndW_or {t u : TM} (ha : SndT X a t) (hb : SndW X (.BoolOp .Or (b :: rest) pos) u) : SndW X (.BoolOp .Or (a :: b :: rest) pos) (tOr t u) := by
  refine weakW (pw_or ha hb) fun σV H Q ⟨L, σ, h, d, h', hr, sr, em, k⟩ => ?_
  obtain ⟨x, h1, e1, em⟩ := bind_some em
  refine ⟨L, σ, h, x, h1, hr, sr, e1, fun L1 H1 l1 r1 => ?_⟩
  cases x with
  | false => exact ⟨L1, σ, h1, d, h', r1, sr.le l1, em, fun L2 H2 l2 r2 => k L2 H2 (l1.trans0 l2) r2⟩
  | true => cases em; exact k L1 H1 l1 r1
theorem SndW.t {e : Expr} {t : TM} (h : SndW X e t) : SndT X e t := PW.pt h
theorem sndT_not {t : TM} (ha : SndT X a t) : SndT X (.UnaryOp .Not a pos) (tNot t) := by
  refine weakT (pt_not ha) fun σV H Q ⟨L, σ, h, d, h', hr, sr, em, k⟩ => ?_
  obtain ⟨x, h1, e1, em⟩ := bind_some em
  cases em
  exact ⟨L, σ, h, x, _, hr, sr, e1, fun L1 H1 l1 r1 => k L1 H1 l1 r1⟩
def eAnd (m n : EM) : EM := fun σ h => (m σ h).bind fun d h1 => match d with
  | .bl true => n σ h1
  | .bl false => .ok (.bl false) h1
  | _ => .bad
def eOr (m n : EM) : EM := fun σ h => (m σ h).bind fun d h1 => match d with
  | .bl false => n σ h1
  | .bl true => .ok (.bl true) h1
  | _ => .bad
def eNot (m : EM) : EM := fun σ h => (m σ h).bind fun d h1 => match d with
  | .bl b => .ok (.bl (!b)) h1
  | _ => .bad
theorem snd_one {op : BoolOp} {m : EM} (h : SndE X a m) : SndE X (.BoolOp op [a] pos) m := pe_one h
theorem snd_and {m n : EM} (ha : SndE X a m) (hb : SndE X (.BoolOp .And (b :: rest) pos) n) : SndE X (.BoolOp .And (a :: b :: rest) pos) (eAnd m n) := by
  refine weakE (pe_and ha hb) fun σV H Q ⟨L, σ, h, d, h', hr, sr, em, k⟩ => ?_
  obtain ⟨x, h1, e1, em⟩ := bind_some em
  refine ⟨L, σ, h, x, h1, hr, sr, e1, fun L1 H1 v1 l1 r1 q1 => ?_⟩
  cases x with
  | bl c =>
    cases q1
    refine ⟨c, rfl, ?_⟩
    cases c with
    | true => exact ⟨L1, σ, h1, d, h', r1, sr.le l1, em, fun L2 H2 v2 l2 r2 q2 => k L2 H2 v2 (l1.trans0 l2) r2 q2⟩
    | false => cases em; exact k L1 H1 _ l1 r1 (.bl false)
  | _ => cases em
theorem snd_or {m n : EM} (ha : SndE X a m) (hb : SndE X (.BoolOp .Or (b :: rest) pos) n) : SndE X (.BoolOp .Or (a :: b :: rest) pos) (eOr m n) := by
  refine weakE (pe_or ha hb) fun σV H Q ⟨L, σ, h, d, h', hr, sr, em, k⟩ => ?_
  obtain ⟨x, h1, e1, em⟩ := bind_some em
  refine ⟨L, σ, h, x, h1, hr, sr, e1, fun L1 H1 v1 l1 r1 q1 => ?_⟩
  cases x with
  | bl c =>
    cases q1
    refine ⟨c, rfl, ?_⟩
    cases c with
    | false => exact ⟨L1, σ, h1, d, h', r1, sr.le l1, em, fun L2 H2 v2 l2 r2 q2 => k L2 H2 v2 (l1.trans0 l2) r2 q2⟩
    | true => cases em; exact k L1 H1 _ l1 r1 (.bl true)
  | _ => cases em
theorem snd_not {m : EM} (ha : SndE X a m) : SndE X (.UnaryOp .Not a pos) (eNot m) := by
  refine weakE (pe_not ha) fun σV H Q ⟨L, σ, h, d, h', hr, sr, em, k⟩ => ?_
  obtain ⟨x, h1, e1, em⟩ := bind_some em
  refine ⟨L, σ, h, x, h1, hr, sr, e1, fun L1 H1 v1 l1 r1 q1 => ?_⟩
  cases x with
  | bl c => cases q1; cases em; exact ⟨c, rfl, k L1 H1 _ l1 r1 (.bl _)⟩
  | _ => cases em
def eIf (t : TM) (m n : EM) : EM := fun σ h => (t σ h).bind fun b h1 => match b with
  | true => m σ h1
  | false => n σ h1
theorem snd_if {t : TM} {m n : EM} (hc : SndT X c t) (ha : SndE X a m) (hb : SndE X b n) : SndE X (.IfExp c a b pos) (eIf t m n) := by
  refine weakE (pe_ifExp hc ha hb) fun σV H Q ⟨L, σ, h, d, h', hr, sr, em, k⟩ => ?_
  obtain ⟨x, h1, e1, em⟩ := bind_some em
  refine ⟨L, σ, h, x, h1, hr, sr, e1, fun L1 H1 l1 r1 => ?_⟩
  cases x with
  | true => exact ⟨L1, σ, h1, d, h', r1, sr.le l1, em, fun L2 H2 v2 l2 r2 q2 => k L2 H2 v2 (l1.trans0 l2) r2 q2⟩
  | false => exact ⟨L1, σ, h1, d, h', r1, sr.le l1, em, fun L2 H2 v2 l2 r2 q2 => k L2 H2 v2 (l1.trans0 l2) r2 q2⟩
def eNeg (m : EM) : EM := fun σ h => (m σ h).bind fun d h1 => match d with
  | .int i => .ok (.int (-i)) h1
  | _ => .bad
theorem snd_neg {m : EM} (ha : SndE X a m) : SndE X (.UnaryOp .USub a pos) (eNeg m) := by
  refine weakE (pe_un un_neg ha) fun σV H Q ⟨L, σ, h, d, h', hr, sr, em, k⟩ => ?_
  obtain ⟨x, h1, e1, em⟩ := bind_some em
  refine ⟨L, σ, h, x, h1, hr, sr, e1, fun L1 H1 v1 l1 r1 q1 => ?_⟩
  cases x with
  | int c => cases q1; cases em; exact ⟨c, rfl, k L1 H1 _ l1 r1 (.int _)⟩
  | _ => cases em
end
end WC
set_option Elab.async false
set_option linter.all false
set_option maxRecDepth 100000
namespace WC
open PySem PySem.Spec PyProof.Rows L2

abbrev GL := Hs → List D → Option D
section
variable {X : Cx} {e o a b : Expr} {es : List Expr} {pos : Pos}
def CallS (X : Cx) (f : Value) (g : GL) : Prop :=
  ∃ r : List V → Hp → VK → Prop, CallR X f r ∧ ∀ (L : Lay) (H : Hp) (h : Hs) (xs : List D) (vs : List V) (d : D) (Q : VK), HRel X.K L H h → RepOs X.K L H vs xs → g h xs = some d →
    (∀ L' H' w, Le0 L H L' H' → HRel X.K L' H' h → Rep X.K L' w d → Q w H') → r vs H Q
theorem CallS.or {f : Value} {g g' : GL} (h : CallS X f g) (h' : CallS X f g') : CallS X f (fun s x => (g s x).or (g' s x)) := by
  obtain ⟨r, hr, w⟩ := h
  obtain ⟨r', hr', w'⟩ := h'
  refine ⟨fun xs H Q => r xs H Q ∨ r' xs H Q, fun pins s σ H xs us Q I rv q => ?_, fun L H h x v d Q s p e k => ?_⟩
  · rcases q with q | q
    · exact hr pins s σ H xs us Q I rv q
    · exact hr' pins s σ H xs us Q I rv q
  · have e : (g h x).or (g' h x) = some d := e
    cases e1 : g h x with
    | some z => rw [e1] at e; cases e; exact .inl (w L H h x v _ Q s p e1 k)
    | none => rw [e1] at e; exact .inr (w' L H h x v d Q s p e k)
def eCall (g : GL) (ms : AM) : EM := fun σ h => (ms σ h).bind fun xs h1 => optR (g h1 xs) h1
theorem CallS.rd {f : Value} {g : GL} {ms : AM} (ho : CallS X f g) : ∃ r, CallR X f r ∧ ∀ σV H Q, RdE X.K (eCall g ms) σV H Q → tCB r (RdAO X.K ms) σV H Q := by
  obtain ⟨r, hr, hs⟩ := ho
  refine ⟨r, hr, fun σV H Q ⟨L, σ, h, d, h', hr, sr, em, k⟩ => ?_⟩
  obtain ⟨x, h1, e1, em⟩ := bind_some em
  obtain ⟨em2, eh⟩ := optR_ok em
  subst eh
  exact ⟨L, σ, h, x, h1, hr, sr, e1, fun L1 H1 v1 l1 r1 q1 => hs L1 H1 h1 x v1 d Q r1 q1 em2 fun L3 H3 w l3 r3 q3 => k L3 H3 w (l1.trans0 l3) r3 q3⟩
theorem snd_callB {id : String} {x : Str} {p : Pos} {g : GL} {ms : AM} (hc : CallS X (.builtin id) g) (hg : Gl X x) (hm : X.mg x = none) (hv : bootBuiltins x = some (.builtin id)) (ha : SndAO X (e :: es) ms) (hn : x ≠ "__name__") (hdb : (x == ("__debug__" : Str)) = false)
    (he : starEach (e :: es) X.env = (false, eval e X.env) :: starEach es X.env) (hpl : (backTo pos (starEach es X.env)).any (·.1) = false) : SndE X (.Call (.Name x p) (e :: es) [] pos) (eCall g ms) := by
  obtain ⟨r, hr, w⟩ := hc.rd (ms := ms)
  exact weakE (pe_callB hr hg hm hv ha hn hdb he hpl) w
theorem snd_callTy {T : String} {x : Str} {p : Pos} {g : GL} {ms : AM} (hc : CallS X (.type T) g) (hg : Gl X x) (hm : X.mg x = none) (hv : bootBuiltins x = some (.type T)) (ha : SndAO X (e :: es) ms) (hn : x ≠ "__name__") (hdb : (x == ("__debug__" : Str)) = false)
    (he : starEach (e :: es) X.env = (false, eval e X.env) :: starEach es X.env) (hpl : (backTo pos (starEach es X.env)).any (·.1) = false) : SndE X (.Call (.Name x p) (e :: es) [] pos) (eCall g ms) := by
  obtain ⟨r, hr, w⟩ := hc.rd (ms := ms)
  exact weakE (pe_callTy hr hg hm hv ha hn hdb he hpl) w
theorem ro1 {K : PySem.W.Frag} {L : Lay} {H : Hp} {vs : List V} {x : D} (r : RepOs K L H vs [x]) : ∃ v, vs = [v] ∧ RepO K L H v x := by
  cases r with | cons a b => cases b; exact ⟨_, rfl, a⟩
theorem ro2 {K : PySem.W.Frag} {L : Lay} {H : Hp} {vs : List V} {x y : D} (r : RepOs K L H vs [x, y]) : ∃ v u, vs = [v, u] ∧ RepO K L H v x ∧ RepO K L H u y := by
  cases r with | cons a b => cases b with | cons b c => cases c; exact ⟨_, _, rfl, a, b⟩

def asT : D → Option (List D)
  | .tup xs => some xs
  | _ => none
def asS (h : Hs) (d : D) : Option (List D) := match asT d with
  | some xs => some xs
  | none => asL h d
theorem asS_ok {K : PySem.W.Frag} {L : Lay} {H : Hp} {h : Hs} {v : V} {d : D} {xs : List D} (s : HRel K L H h) (r : RepO K L H v d) (e : asS h d = some xs) :
    ∃ p vs, v = .ref p ∧ ((d = .tup xs ∧ SqT K L.F p vs ∧ SqT K H p vs) ∨ (SqL K H p vs ∧ H p = some (.lst vs))) ∧ Reps K L vs xs := by
  unfold asS at e
  split at e
  · rename_i ys ey
    cases e
    cases d with
    | tup zs =>
      cases ey
      obtain ⟨p, vs, e1, f, t, rr⟩ := r.tup s
      exact ⟨p, vs, e1, .inl ⟨rfl, f, t⟩, rr⟩
    | _ => cases ey
  · obtain ⟨p, vs, e1, t, rr⟩ := asL_ok s r e
    exact ⟨p, vs, e1, .inr ⟨.of t, t⟩, rr⟩
def gLen : GL := fun h xs => match xs with
  | [.str l] => if l.length ≤ sizeLine then some (.int l.length) else none
  | [x] => (asS h x).map fun ys => .int ys.length
  | _ => none
theorem calls_len : CallS X (.builtin "len") gLen := by
  refine ⟨_, call_len, fun L H h xs vs d Q s p e k => ?_⟩
  unfold gLen at e
  split at e
  · split at e
    · cases e
      obtain ⟨v, rfl, r⟩ := ro1 p
      obtain ⟨z, rfl, e1, n1, _⟩ := r.str
      refine ⟨_, z.length, rfl, ⟨by rw [n1]; assumption, rfl⟩, ?_⟩
      rw [n1]
      exact k L H _ Le.refl s (.int _)
    · cases e
  · obtain ⟨ys, e9, e8⟩ := Option.map_eq_some_iff.mp e; subst e8; clear e; have e := e9
    obtain ⟨v, rfl, r⟩ := ro1 p
    obtain ⟨q, vs, rfl, h1, rr⟩ := asS_ok s r e
    refine ⟨_, ys.length, rfl, ?_, k L H _ Le.refl s (.int _)⟩
    rcases h1 with ⟨_, _, h1⟩ | ⟨h1, _⟩
    · exact .inr ⟨vs, h1, rr.length.symm⟩
    · exact .inl ⟨vs, h1, rr.length.symm⟩
  · cases e
def gInt : GL := fun _ xs => match xs with
  | [.int i] => some (.int i)
  | [.bl b] => some (.int (if b then 1 else 0))
  | _ => none
theorem calls_intI : CallS X (.type "int") gInt := by
  refine ⟨_, call_int1, fun L H h xs vs d Q s p e k => ?_⟩
  unfold gInt at e
  split at e
  · cases e
    obtain ⟨v, rfl, r⟩ := ro1 p
    exact .inl ⟨_, by rw [r.int], k L H _ Le.refl s (.int _)⟩
  · cases e
    obtain ⟨v, rfl, r⟩ := ro1 p
    exact .inr ⟨_, by rw [r.bl], k L H _ Le.refl s (.int _)⟩
  · cases e
def gIntS : GL := fun _ xs => match xs with
  | [.str l] => if l.length ≤ 640 then (PySem.intText? ⟨l.toArray⟩).map .int else none
  | _ => none
theorem calls_intS : CallS X (.type "int") gIntS := by
  refine ⟨_, call_int_str, fun L H h xs vs d Q s p e k => ?_⟩
  unfold gIntS at e
  split at e
  · split at e
    · obtain ⟨n, e9, e8⟩ := Option.map_eq_some_iff.mp e; subst e8; clear e; have e := e9
      obtain ⟨v, rfl, r⟩ := ro1 p
      obtain ⟨z, rfl, e1, n1, _⟩ := r.str
      refine ⟨z, n, rfl, ?_, by rw [n1]; assumption, k L H _ Le.refl s (.int _)⟩
      rw [← e1] at e
      simpa using e
    · cases e
  · cases e
def strI (i : Int) : List Nat := (toString i).toList.map Char.toNat
def gStrI : GL := fun _ xs => match xs with
  | [.int i] => if i.natAbs.log2 < 1920 then some (.str (strI i)) else none
  | _ => none
theorem cps_str (z : String) : (Str.ofString z).cps.toList = z.toList.map Char.toNat := by rw [Str.ofString_eq_toList]
theorem char_ok (z : String) : ∀ c ∈ z.toList.map Char.toNat, c < 0x110000 := by
  intro c hc
  obtain ⟨ch, _, rfl⟩ := List.mem_map.mp hc
  have := ch.valid
  have h2 : ch.toNat = ch.val.toNat := rfl
  rcases this with h | h
  · have : ch.val.toNat < 55296 := h
    omega
  · have : ch.val.toNat < 1114112 := h.2
    omega
theorem calls_strI : CallS X (.type "str") gStrI := by
  refine ⟨_, call_str_int, fun L H h xs vs d Q s p e k => ?_⟩
  unfold gStrI at e
  split at e
  · split at e
    · cases e
      obtain ⟨v, rfl, r⟩ := ro1 p
      exact ⟨_, by rw [r.int], by assumption, k L H _ Le.refl s (.str' (cps_str _) (char_ok _))⟩
    · cases e
  · cases e
def gMin2 : GL := fun _ xs => match xs with
  | [.int i, .int j] => some (.int (if j < i then j else i))
  | _ => none
def gMax2 : GL := fun _ xs => match xs with
  | [.int i, .int j] => some (.int (if j > i then j else i))
  | _ => none
theorem calls_min2 (hc : X.calm = true) : CallS X (.builtin "min") gMin2 := by
  refine ⟨_, call_min2 hc, fun L H h xs vs d Q s p e k => ?_⟩
  unfold gMin2 at e
  split at e
  · cases e
    obtain ⟨v, u, rfl, r, r'⟩ := ro2 p
    exact ⟨_, _, by rw [r.int, r'.int], k L H _ Le.refl s (.int _)⟩
  · cases e
theorem calls_max2 (hc : X.calm = true) : CallS X (.builtin "max") gMax2 := by
  refine ⟨_, call_max2 hc, fun L H h xs vs d Q s p e k => ?_⟩
  unfold gMax2 at e
  split at e
  · cases e
    obtain ⟨v, u, rfl, r, r'⟩ := ro2 p
    exact ⟨_, _, by rw [r.int, r'.int], k L H _ Le.refl s (.int _)⟩
  · cases e
def gSum : GL := fun h xs => match xs with
  | [x] => ((asL h x).bind toInts).map fun ns => .int ns.sum
  | _ => none
theorem asInts_ok {K : PySem.W.Frag} {L : Lay} {H : Hp} {h : Hs} {v : V} {d : D} {ns : List Int} (s : HRel K L H h) (r : RepO K L H v d) (e : (asL h d).bind toInts = some ns) : ∃ p, v = .ref p ∧ SqL K H p (ns.map V.int) := by
  cases e1 : asL h d with
  | none => rw [e1] at e; cases e
  | some ys =>
    rw [e1] at e
    obtain ⟨p, vs, rfl, t, rr⟩ := asL_ok s r e1
    have := toInts_ok rr e
    subst this
    exact ⟨p, rfl, .of t⟩
theorem calls_sum (hc : X.calm = true) : CallS X (.builtin "sum") gSum := by
  refine ⟨_, cr_sum hc, fun L H h xs vs d Q s p e k => ?_⟩
  unfold gSum at e
  split at e
  · obtain ⟨ns, e9, e8⟩ := Option.map_eq_some_iff.mp e; subst e8; clear e; have e := e9
    obtain ⟨v, rfl, r⟩ := ro1 p
    obtain ⟨q, rfl, t⟩ := asInts_ok s r e
    exact ⟨q, ns, rfl, t, k L H _ Le.refl s (.int _)⟩
  · cases e
def toBls : List D → Option (List Bool)
  | [] => some []
  | .bl i :: r => (toBls r).map (i :: ·)
  | _ :: _ => none
theorem toBls_ok {K : PySem.W.Frag} {L : Lay} : ∀ {ds : List D} {vs : List V} {ns : List Bool}, Reps K L vs ds → toBls ds = some ns → vs = ns.map V.bl
  | [], _, _, r, e => by cases r; cases e; rfl
  | d :: ds, _, ns, r, e => by
    cases r with
    | cons p q =>
      cases d with
      | bl i =>
        simp only [toBls, Option.map_eq_some_iff] at e
        obtain ⟨ms, e, rfl⟩ := e
        cases p
        rw [toBls_ok q e]
        rfl
      | _ => simp [toBls] at e
theorem asBls_ok {K : PySem.W.Frag} {L : Lay} {H : Hp} {h : Hs} {v : V} {d : D} {ns : List Bool} (s : HRel K L H h) (r : RepO K L H v d) (e : (asL h d).bind toBls = some ns) : ∃ p, v = .ref p ∧ SqL K H p (ns.map V.bl) := by
  cases e1 : asL h d with
  | none => rw [e1] at e; cases e
  | some ys =>
    rw [e1] at e
    obtain ⟨p, vs, rfl, t, rr⟩ := asL_ok s r e1
    have := toBls_ok rr e
    subst this
    exact ⟨p, rfl, .of t⟩
def gAll : GL := fun h xs => match xs with
  | [x] => ((asL h x).bind toBls).map fun ns => .bl (ns.all id)
  | _ => none
def gAny : GL := fun h xs => match xs with
  | [x] => ((asL h x).bind toBls).map fun ns => .bl (ns.any id)
  | _ => none
theorem calls_all (hc : X.calm = true) : CallS X (.builtin "all") gAll := by
  refine ⟨_, cr_all hc, fun L H h xs vs d Q s p e k => ?_⟩
  unfold gAll at e
  split at e
  · obtain ⟨ns, e9, e8⟩ := Option.map_eq_some_iff.mp e; subst e8; clear e; have e := e9
    obtain ⟨v, rfl, r⟩ := ro1 p
    obtain ⟨q, rfl, t⟩ := asBls_ok s r e
    exact ⟨q, ns, rfl, t, k L H _ Le.refl s (.bl _)⟩
  · cases e
theorem calls_any (hc : X.calm = true) : CallS X (.builtin "any") gAny := by
  refine ⟨_, cr_any hc, fun L H h xs vs d Q s p e k => ?_⟩
  unfold gAny at e
  split at e
  · obtain ⟨ns, e9, e8⟩ := Option.map_eq_some_iff.mp e; subst e8; clear e; have e := e9
    obtain ⟨v, rfl, r⟩ := ro1 p
    obtain ⟨q, rfl, t⟩ := asBls_ok s r e
    exact ⟨q, ns, rfl, t, k L H _ Le.refl s (.bl _)⟩
  · cases e
def gTuple : GL := fun h xs => match xs with
  | [x] => (asS h x).map .tup
  | _ => none
theorem calls_tuple : CallS X (.type "tuple") gTuple := by
  refine ⟨_, call_tuple_of, fun L H h xs vs d Q s p e k => ?_⟩
  unfold gTuple at e
  split at e
  · obtain ⟨ys, e9, e8⟩ := Option.map_eq_some_iff.mp e; subst e8; clear e; have e := e9
    obtain ⟨v, rfl, r⟩ := ro1 p
    obtain ⟨q, vs, rfl, h1, rr⟩ := asS_ok s r e
    refine ⟨q, vs, rfl, ?_⟩
    rcases h1 with ⟨rfl, h0, h1⟩ | ⟨h1, _⟩
    · exact .inr ⟨h1, k L H _ Le.refl s (.tup h0 rr)⟩
    · exact .inl ⟨h1, fun l hl => k _ _ _ (le_put s hl) (s.put hl) (.tup put_sqT (rr.le (le_put s hl)))⟩
  · cases e
def gList : GL := fun h xs => match xs with
  | [.scr ys] => some (.lst ys)
  | [x] => (asS h x).map .lst
  | _ => none
theorem calls_list : CallS X (.type "list") gList := by
  refine ⟨_, call_list_of, fun L H h xs vs d Q s p e k => ?_⟩
  unfold gList at e
  split at e
  · cases e
    obtain ⟨v, rfl, r⟩ := ro1 p
    rcases r with r | ⟨_, e, _⟩ | ⟨_, e, _⟩
    · cases r with
      | scr f r => exact ⟨_, _, rfl, .inl (s.sqL f), fun l hl => k _ _ _ (le_put s hl) (s.put hl) (.lst upd_same (r.le (le_put s hl)))⟩
    · cases e
    · cases e
  · obtain ⟨ys, e9, e8⟩ := Option.map_eq_some_iff.mp e; subst e8; clear e; have e := e9
    obtain ⟨v, rfl, r⟩ := ro1 p
    obtain ⟨q, vs, rfl, h1, rr⟩ := asS_ok s r e
    refine ⟨q, vs, rfl, ?_, fun l hl => k _ _ _ (le_put s hl) (s.put hl) (.lst upd_same (rr.le (le_put s hl)))⟩
    rcases h1 with ⟨_, _, h1⟩ | ⟨h1, _⟩
    · exact .inr h1
    · exact .inl h1
  · cases e

def atD (h : Hs) (x y : D) : Option D := match y with
  | .int i => match x with
    | .str l => if l.length ≤ sizeLine then (atI l i).map fun c => .str [c] else none
    | x => (asS h x).bind fun xs => atI xs i
  | _ => none
def IxS (X : Cx) (g : G2) : Prop :=
  ∃ r : R2, IxR X r ∧ ∀ (L : Lay) (H : Hp) (h : Hs) (x y : D) (v u : V) (d : D) (Q : VK), HRel X.K L H h → RepO X.K L H v x → RepO X.K L H u y → g h x y = some d →
    (∀ L' H' w, Le0 L H L' H' → HRel X.K L' H' h → Rep X.K L' w d → Q w H') → r v u H Q
theorem atI_reps {K : PySem.W.Frag} {L : Lay} {vs : List V} {ds : List D} {d : D} {i : Int} (r : Reps K L vs ds) (e : atI ds i = some d) : ∃ v, atI vs i = some v ∧ Rep K L v d := by
  unfold atI at e ⊢
  rw [r.length]
  cases e1 : ixN ds.length i with
  | none => rw [e1] at e; cases e
  | some j =>
    rw [e1] at e
    obtain ⟨v, e2, q⟩ := r.get (show ds[j]? = some d from e)
    exact ⟨v, e2, q⟩
theorem atI_mem {α : Type} {xs : List α} {i : Int} {v : α} (h : atI xs i = some v) : v ∈ xs := by
  obtain ⟨j, _, e, _⟩ := atI_get h
  exact List.mem_of_getElem? e
theorem ixs_seq : IxS X atD := by
  refine ⟨_, ix_seq, fun L H h x y v u d Q s p q e k => ?_⟩
  unfold atD at e
  split at e
  · rename_i i
    split at e
    · rename_i l
      split at e
      · obtain ⟨c, e9, e8⟩ := Option.map_eq_some_iff.mp e; subst e8; clear e; have e := e9
        obtain ⟨z, rfl, e1, n1, o1⟩ := p.str
        refine .inr (.inr ⟨z, i, c, rfl, q.int, by rw [n1]; assumption, by rw [e1]; exact e, k L H _ Le.refl s (.str' rfl ?_)⟩)
        intro c' hc
        have : c' = c := by simpa using hc
        subst this
        exact o1 _ (atI_mem e)
      · cases e
    · cases e1 : asS h x with
      | none => rw [e1] at e; cases e
      | some xs =>
        rw [e1] at e
        obtain ⟨q', vs, rfl, h1, rr⟩ := asS_ok s p e1
        obtain ⟨w, e2, r2⟩ := atI_reps rr e
        have fin := k L H w Le.refl s r2
        rcases h1 with ⟨_, _, h1⟩ | ⟨h1, _⟩
        · exact .inr (.inl ⟨q', vs, i, w, rfl, q.int, h1, e2, fin⟩)
        · exact .inl ⟨q', vs, i, w, rfl, q.int, h1, e2, fin⟩
  · cases e
theorem snd_ix {g : G2} {ma mb : EM} (ho : IxS X g) (ha : SndO X a ma) (hb : SndO X b mb) (hp : PlainIx b) : SndE X (.Subscript a b pos) (eOp g ma mb) := by
  obtain ⟨r, hr, hs⟩ := ho
  refine weakE (pe_ix hr ha hb hp) fun σV H Q ⟨L, σ, h, d, h', hr, sr, em, k⟩ => ?_
  obtain ⟨x, h1, e1, em⟩ := bind_some em
  obtain ⟨y, h2, e2, em⟩ := bind_some em
  obtain ⟨em2, eh⟩ := optR_ok em
  subst eh
  refine ⟨L, σ, h, x, h1, hr, sr, e1, fun L1 H1 v1 l1 r1 q1 => ⟨L1, σ, h1, y, h2, r1, sr.le l1, e2, fun L2 H2 v2 l2 r2 q2 => ?_⟩⟩
  exact hs L2 H2 h2 x y v1 v2 d Q r2 (q1.le l2) q2 em2 fun L3 H3 w l3 r3 q3 => k L3 H3 w ((l1.trans0 l2).trans0 l3) r3 q3

def cutL {α : Type} (xs : List α) (lo hi : Option Int) : List α := (xs.drop (HT.sIx xs.length 0 lo)).take (HT.sIx xs.length xs.length hi - HT.sIx xs.length 0 lo)
abbrev OM := Sg → Hs → R (Option Int)
def oNone : OM := fun _ h => .ok none h
def oSome (m : EM) : OM := fun σ h => (m σ h).bind fun d h1 => match d with
  | .int i => .ok (some i) h1
  | _ => .bad
def RdP (K : PySem.W.Frag) (m : OM) : TO := fun σV H Q => ∃ (L : Lay) (σ : Sg) (h : Hs) (d : Option Int) (h' : Hs), HRel K L H h ∧ SRel K L H σV σ ∧ m σ h = .ok d h' ∧
  ∀ L' H', Le0 L H L' H' → HRel K L' H' h' → Q d H'
def SndP (X : Cx) (e : Option Expr) (m : OM) : Prop := PO X e (RdP X.K m)
theorem sndP_none : SndP X none oNone := weakO po_none fun σV H Q ⟨L, σ, h, d, h', hr, sr, em, k⟩ => by cases em; exact k L H Le.refl hr
theorem sndP_some {m : EM} (h : SndE X e m) : SndP X (some e) (oSome m) := by
  refine weakO (po_some h) fun σV H Q ⟨L, σ, h, d, h', hr, sr, em, k⟩ => ?_
  obtain ⟨x, h1, e1, em⟩ := bind_some em
  refine ⟨L, σ, h, x, h1, hr, sr, e1, fun L1 H1 v1 l1 r1 q1 => ?_⟩
  cases x with
  | int i => cases q1; cases em; exact ⟨i, rfl, k L1 H1 l1 r1⟩
  | _ => cases em
def sliceD (h : Hs) (x : D) (lo hi : Option Int) : Option D := match x with
  | .str l => if l.length ≤ sizeLine then some (.str (cutL l lo hi)) else none
  | .tup xs => some (.tup (cutL xs lo hi))
  | x => (asL h x).map fun xs => .lst (cutL xs lo hi)
def eSlice (m : EM) (lo hi : OM) : EM := fun σ h => (m σ h).bind fun x h1 => (lo σ h1).bind fun l h2 => (hi σ h2).bind fun u h3 => optR (sliceD h3 x l u) h3
theorem cut_reps {K : PySem.W.Frag} {L : Lay} {vs : List V} {ds : List D} (r : Reps K L vs ds) (lo hi : Option Int) : Reps K L (cutV vs lo hi) (cutL ds lo hi) := by
  unfold cutV cutL
  rw [r.length]
  exact (r.drop _).take _
theorem cut_whole {α : Type} {xs : List α} {lo hi : Option Int} (h : HT.sIx xs.length 0 lo = 0 ∧ HT.sIx xs.length xs.length hi = xs.length) : cutL xs lo hi = xs := by
  unfold cutL
  rw [h.1, h.2]
  simp
theorem cutS_list (z : Str) (lo hi : Option Int) : (cutS z lo hi).cps.toList = cutL z.cps.toList lo hi := by
  unfold cutS cutL
  simp [Str.length]
theorem snd_slice {lo hi : Option Expr} {m : EM} {ml mh : OM} {p2 : Pos} (he : SndO X e m) (hl : SndP X lo ml) (hu : SndP X hi mh) : SndE X (.Subscript e (.Slice lo hi none p2) pos) (eSlice m ml mh) := by
  refine weakE (pe_slice (sl_list.or (sl_tupA.or sl_str)) he hl hu) fun σV H Q ⟨L, σ, h, d, h', hr, sr, em, k⟩ => ?_
  obtain ⟨x, h1, e1, em⟩ := bind_some em
  obtain ⟨l, h2, e2, em⟩ := bind_some em
  obtain ⟨u, h3, e3, em⟩ := bind_some em
  obtain ⟨em2, eh⟩ := optR_ok em
  subst eh
  refine ⟨L, σ, h, x, h1, hr, sr, e1, fun L1 H1 v1 l1 r1 q1 => ⟨L1, σ, h1, l, h2, r1, sr.le l1, e2, fun L2 H2 l2 r2 => ⟨L2, σ, h2, u, h3, r2, (sr.le l1).le l2, e3, fun L3 H3 l3 r3 => ?_⟩⟩⟩
  have q3 := (q1.le l2).le l3
  have ll := (l1.trans0 l2).trans0 l3
  unfold sliceD at em2
  split at em2
  · split at em2
    · cases em2
      obtain ⟨z, rfl, e1, n1, o1⟩ := q3.str
      refine .inr (.inr ⟨z, rfl, by rw [n1]; assumption, k L3 H3 _ ll r3 (.str' (by rw [cutS_list, e1]) fun c hc => o1 c ?_)⟩)
      exact List.mem_of_mem_drop (List.mem_of_mem_take hc)
    · cases em2
  · cases em2
    obtain ⟨p, vs, rfl, f, t, rr⟩ := q3.tup r3
    refine .inr (.inl ⟨p, vs, rfl, t, fun w => ?_, fun _ pp hp => ?_⟩)
    · rw [rr.length] at w
      exact k L3 H3 _ ll r3 (by rw [cut_whole w]; exact .tup f rr)
    · exact k _ _ _ (ll.trans0 (le_put r3 hp)) (r3.put hp) (.tup put_sqT ((cut_reps rr _ _).le (le_put r3 hp)))
  · obtain ⟨xs, ex, e8⟩ := Option.map_eq_some_iff.mp em2; subst e8
    obtain ⟨p, vs, rfl, t, rr⟩ := asL_ok r3 q3 ex
    exact .inl ⟨p, vs, rfl, .of t, fun pp hp => k _ _ _ (ll.trans0 (le_put r3 hp)) (r3.put hp) (.lst upd_same ((cut_reps rr _ _).le (le_put r3 hp)))⟩

inductive Ty where
  | int | bool | str | tuple | list
  deriving DecidableEq
def Ty.name : Ty → String
  | .int => "int"
  | .bool => "bool"
  | .str => "str"
  | .tuple => "tuple"
  | .list => "list"
def isTy : Ty → D → Bool
  | .int, .int _ => true
  | .int, .bl _ => true
  | .bool, .bl _ => true
  | .str, .str _ => true
  | .tuple, .tup _ => true
  | .list, .lst _ => true
  | _, _ => false
def tyOk : D → Bool
  | .ref _ => false
  | .scr _ => false
  | _ => true
def tyN : D → String
  | .non => "NoneType"
  | .bl _ => "bool"
  | .int _ => "int"
  | .str _ => "str"
  | .tup _ => "tuple"
  | .lst _ => "list"
  | .dct _ => "dict"
  | _ => ""
theorem kit_tbl : ∀ (T : Ty), kitB "NoneType" T.name = some false ∧ kitB "bool" T.name = some (T == .int || T == .bool) ∧ kitB "int" T.name = some (T == .int) ∧ kitB "str" T.name = some (T == .str) ∧
    kitB "tuple" T.name = some (T == .tuple) ∧ kitB "list" T.name = some (T == .list) ∧ kitB "dict" T.name = some false := by
  intro T
  cases T <;> decide +kernel
theorem kit_is {d : D} (T : Ty) (h : tyOk d = true) : kitB (tyN d) T.name = some (isTy T d) := by
  obtain ⟨h1, h2, h3, h4, h5, h6, h7⟩ := kit_tbl T
  cases d <;> first | (simp [tyOk] at h; done) | skip
  · rw [show tyN .non = "NoneType" from rfl, h1]; cases T <;> rfl
  · rw [show tyN (.bl _) = "bool" from rfl, h2]; cases T <;> rfl
  · rw [show tyN (.int _) = "int" from rfl, h3]; cases T <;> rfl
  · rw [show tyN (.str _) = "str" from rfl, h4]; cases T <;> rfl
  · rw [show tyN (.tup _) = "tuple" from rfl, h5]; cases T <;> rfl
  · rw [show tyN (.lst _) = "list" from rfl, h6]; cases T <;> rfl
  · rw [show tyN (.dct _) = "dict" from rfl, h7]; cases T <;> rfl
theorem rd_ty {K : PySem.W.Frag} {L : Lay} {H : Hp} {h : Hs} {v : V} {d : D} (s : HRel K L H h) (r : RepO K L H v d) (e : tyOk d = true) : TyX K H v (.type (tyN d)) := by
  rcases r with r | ⟨xs, rfl, r⟩ | ⟨kvs, rfl, r⟩
  · cases r with
    | non => exact .base .non
    | bl b => exact .base (.bl b)
    | int i => exact .base (.int i)
    | str s _ => exact .base (.str s)
    | tup f r =>
      rcases s.sqT f with (f | ⟨o, f⟩) | ⟨o, _, _, hk, hc, _⟩
      · exact .base (.tup f)
      · exact .fTuple f
      · exact .kTuple hk hc
    | lst f r => exact .base (.lst (s.sub _ _ f))
    | dct f r =>
      rcases f with ⟨kvs, f | ⟨o, f⟩, _⟩ | ⟨kvs, f, _⟩
      · exact .base (.dK (s.sub _ _ f))
      · exact .fDict (s.sub _ _ f)
      · exact .base (.dT (s.sub _ _ f))
    | ref _ => cases e
    | scr _ _ => cases e
  · obtain ⟨p, vs, e1, f, _⟩ := r
    cases e1
    exact .base (.lst f)
  · obtain ⟨p, ks, vs, e1, ⟨o, e2, mu⟩, f, _⟩ := r
    cases e1
    rcases f with ⟨kvs, f | ⟨o', f⟩, _⟩ | ⟨kvs, f, _⟩
    · exact .base (.dK f)
    · exact .fDict f
    · exact .base (.dT f)
end
end WC
set_option Elab.async false
set_option linter.all false
set_option maxRecDepth 100000
namespace WC
open PySem PySem.Spec PyProof.Rows L2
section
variable {X : Cx} {e o a b : Expr} {es : List Expr} {pos : Pos}

def eIsI (Ts : List Ty) (m : EM) : EM := fun σ h => (m σ h).bind fun d h1 => if tyOk d then .ok (.bl (Ts.any fun T => isTy T d)) h1 else .bad
theorem rd_isi {Ts : List Ty} {m : EM} {σV : Sv} {H : Hp} {Q : VK} (q : RdE X.K (eIsI Ts m) σV H Q) : RdO X.K m σV H fun v H1 => ∃ d, tyOk d = true ∧ ∀ H2, (H2 = H1 ∨ ∃ p o, H1 p = none ∧ H2 = upd H1 p o) → TyX X.K H2 v (.type (tyN d)) ∧ Q (.bl (Ts.any fun T => isTy T d)) H2 := by
  obtain ⟨L, σ, h, d, h', hr, sr, em, k⟩ := q
  obtain ⟨x, h1, e1, em⟩ := bind_some em
  obtain ⟨ht, e2, e3⟩ := ite_ok em
  subst e2; subst e3
  refine ⟨L, σ, h, x, h1, hr, sr, e1, fun L1 H1 v1 l1 r1 q1 => ⟨x, ht, fun H2 hh => ?_⟩⟩
  rcases hh with rfl | ⟨p, ob, hp, rfl⟩
  · exact ⟨rd_ty r1 q1 ht, k L1 H2 _ l1 r1 (.bl _)⟩
  · exact ⟨rd_ty (r1.put hp) (q1.le (le_put r1 hp)) ht, k _ _ _ (l1.trans0 (le_put r1 hp)) (r1.put hp) (.bl _)⟩
theorem snd_isi1 {T : Ty} {m : EM} {x y : Str} {p p2 : Pos} (he : SndO X e m) (hg : Gl X x) (hm : X.mg x = none) (hx : x = ("isinstance" : Str)) (hg2 : Gl X y) (hm2 : X.mg y = none) (hy : bootBuiltins y = some (.type T.name)) (hn : y ≠ "__name__") (hd : (y == ("__debug__" : Str)) = false)
    (hs : starEach [e, .Name y p2] X.env = [(false, eval e X.env), (false, eval (.Name y p2) X.env)]) : SndE X (.Call (.Name x p) [e, .Name y p2] [] pos) (eIsI [T] m) := by
  subst hx
  have hs2 : starEach [Expr.Name y p2] X.env = [(false, eval (.Name y p2) X.env)] := rfl
  refine weakE (pe_callB call_isi hg hm (by decide +kernel) (pa_cons he (pa_cons (pe_bltn hg2 hm2 hy (v := .ty T.name) rfl hn hd) pa_nil) (by rw [hs, hs2])) (by decide) (by decide) (by rw [hs, hs2]) (by rw [hs2]; rfl)) fun σV H Q q => ?_
  obtain ⟨L, σ, h, d, h', hr, sr, em, k⟩ := rd_isi q
  refine ⟨L, σ, h, d, h', hr, sr, em, fun L1 H1 v1 l1 r1 q1 => ?_⟩
  obtain ⟨d1, ok, fin⟩ := k L1 H1 v1 l1 r1 q1
  obtain ⟨ty, fin⟩ := fin H1 (.inl rfl)
  refine ⟨v1, .ty T.name, _, .type T.name, isTy T d1, rfl, .ty _, ty, kit_ty (kit_is T ok), ?_⟩
  simpa using fin
theorem snd_isi2 {T T' : Ty} {m : EM} {x y z : Str} {p p2 p3 pt : Pos} {k : Nat} (he : SndO X e m) (hg : Gl X x) (hm : X.mg x = none) (hx : x = ("isinstance" : Str)) (hg2 : Gl X y) (hm2 : X.mg y = none) (hy : bootBuiltins y = some (.type T.name)) (hn : y ≠ "__name__") (hd : (y == ("__debug__" : Str)) = false)
    (hg3 : Gl X z) (hm3 : X.mg z = none) (hz : bootBuiltins z = some (.type T'.name)) (hn3 : z ≠ "__name__") (hd3 : (z == ("__debug__" : Str)) = false)
    (hs : starEach [e, .Tuple [.Name y p2, .Name z p3] k pt] X.env = [(false, eval e X.env), (false, eval (.Tuple [.Name y p2, .Name z p3] k pt) X.env)]) : SndE X (.Call (.Name x p) [e, .Tuple [.Name y p2, .Name z p3] k pt] [] pos) (eIsI [T, T'] m) := by
  subst hx
  have hs2 : starEach [Expr.Tuple [.Name y p2, .Name z p3] k pt] X.env = [(false, eval (.Tuple [.Name y p2, .Name z p3] k pt) X.env)] := rfl
  refine weakE (pe_callB call_isiT hg hm (by decide +kernel) (pa_cons he (pa_cons (pe_tup (pa_cons (pe_bltn hg2 hm2 hy (v := .ty T.name) rfl hn hd) (pa_cons (pe_bltn hg3 hm3 hz (v := .ty T'.name) rfl hn3 hd3) pa_nil))) pa_nil) (by rw [hs, hs2])) (by decide) (by decide) (by rw [hs, hs2]) (by rw [hs2]; rfl)) fun σV H Q q => ?_
  obtain ⟨L, σ, h, d, h', hr, sr, em, k⟩ := rd_isi q
  refine ⟨L, σ, h, d, h', hr, sr, em, fun L1 H1 v1 l1 r1 q1 => ?_⟩
  obtain ⟨d1, ok, fin⟩ := k L1 H1 v1 l1 r1 q1
  refine ⟨by show 2 ≤ sizeLine; decide, fun pp hp => ?_⟩
  obtain ⟨ty', fin⟩ := fin (upd H1 pp (.tup [.ty T.name, .ty T'.name])) (.inr ⟨pp, _, hp, rfl⟩)
  refine ⟨v1, pp, _, _, [.type T.name, .type T'.name], isTy T d1 || isTy T' d1, rfl, upd_same, .cons (.ty _) (.cons (.ty _) .nil), ty', kitAny_cons (kit_ty (kit_is T ok)) (fun e => ?_) (fun e => by rw [e]; rfl), ?_⟩
  · rw [e, Bool.false_or]
    exact kitAny_cons (kit_ty (kit_is T' ok)) (fun e => by rw [e]; exact kitAny_nil) (fun e => e)
  · simpa using fin

def fmtD : D → Option (List Nat)
  | .int i => if i.natAbs.log2 < 1920 then some (strI i) else none
  | .str l => if l.length ≤ sizeLine then some l else none
  | _ => none
def eFmt (m : EM) : EM := fun σ h => (m σ h).bind fun d h1 => optR ((fmtD d).map .str) h1
theorem snd_fmt {m : EM} (h : SndE X e m) : SndE X (.FormattedValue e (-1) none pos) (eFmt m) := by
  refine weakE (pe_fmt h) fun σV H Q ⟨L, σ, h, d, h', hr, sr, em, k⟩ => ?_
  obtain ⟨x, h1, e1, em⟩ := bind_some em
  obtain ⟨em2, eh⟩ := optR_ok em
  subst eh
  refine ⟨L, σ, h, x, h1, hr, sr, e1, fun L1 H1 v1 l1 r1 q1 => ?_⟩
  obtain ⟨l, e9, e8⟩ := Option.map_eq_some_iff.mp em2
  subst e8
  cases x with
  | int i =>
    simp only [fmtD] at e9
    split at e9
    · cases e9; cases q1
      exact .inr ⟨i, rfl, by assumption, k L1 H1 _ l1 r1 (.str' (cps_str _) (char_ok _))⟩
    · cases e9
  | str z =>
    simp only [fmtD] at e9
    split at e9
    · rename_i hz
      cases e9
      cases q1 with
      | str s ok => exact .inl ⟨s, rfl, by simpa [Str.length] using hz, k L1 H1 _ l1 r1 (.str s ok)⟩
    · cases e9
  | _ => simp [fmtD] at e9
def eParts : List EM → List Nat → Sg → Hs → R (List Nat)
  | [], acc, _, h => .ok acc h
  | m :: ms, acc, σ, h => (m σ h).bind fun d h1 => match d with
    | .str l => if acc.length + l.length ≤ sizeLine then eParts ms (acc ++ l) σ h1 else .bad
    | _ => .bad
inductive SndJ (X : Cx) : List Expr → List EM → Prop where
  | nil : SndJ X [] []
  | cons {e : Expr} {m : EM} {es : List Expr} {ms : List EM} (h : SndE X e m) (r : SndJ X es ms) : SndJ X (e :: es) (m :: ms)
theorem SndJ.pj {ms : List EM} (h : SndJ X es ms) : PJ X es (ms.map (RdE X.K)) := by
  induction h with
  | nil => exact .nil
  | cons h r ih => exact .cons h ih
theorem parts_rd : ∀ (ms : List EM) (acc : Str) (L : Lay) (σV : Sv) (σ : Sg) (H : Hp) (h h' : Hs) (out : List Nat) (Q : Str → Hp → Prop), HRel X.K L H h → SRel X.K L H σV σ → (∀ c ∈ acc.cps.toList, c < 0x110000) → eParts ms acc.cps.toList σ h = .ok out h' →
    (∀ L' H' z, Le0 L H L' H' → HRel X.K L' H' h' → z.cps.toList = out → (∀ c ∈ out, c < 0x110000) → Q z H') → tJs (ms.map (RdE X.K)) acc σV H Q
  | [], acc, L, σV, σ, H, h, h', out, Q, hr, sr, ok, em, k => by
    cases em
    exact k L H acc Le.refl hr rfl ok
  | m :: ms, acc, L, σV, σ, H, h, h', out, Q, hr, sr, ok, em, k => by
    obtain ⟨x, h1, e1, em⟩ := bind_some em
    refine ⟨L, σ, h, x, h1, hr, sr, e1, fun L1 H1 v1 l1 r1 q1 => ?_⟩
    cases x with
    | str l =>
      have em : (if acc.cps.toList.length + l.length ≤ sizeLine then eParts ms (acc.cps.toList ++ l) σ h1 else R.bad) = .ok out h' := em
      by_cases hz : acc.cps.toList.length + l.length ≤ sizeLine
      · rw [if_pos hz] at em
        cases q1 with
        | str s ok2 =>
          have ea : (acc ++ s).cps.toList = acc.cps.toList ++ s.cps.toList := by show (acc.cps ++ s.cps).toList = _; simp
          refine ⟨s, rfl, by rw [show (acc ++ s).length = (acc ++ s).cps.toList.length by simp [Str.length], ea, List.length_append]; exact hz, ?_⟩
          refine parts_rd ms (acc ++ s) L1 σV σ H1 h1 h' out Q r1 (sr.le l1) (fun c hc => ?_) (by rw [ea]; exact em) fun L' H' z l' r' e' o' => k L' H' z (l1.trans0 l') r' e' o'
          rw [ea] at hc
          rcases List.mem_append.mp hc with hc | hc
          · exact ok c hc
          · exact ok2 c hc
      · rw [if_neg hz] at em; cases em
    | _ => cases em
def eJoined (ms : List EM) : EM := fun σ h => (eParts ms [] σ h).bind fun l h1 => .ok (.str l) h1
theorem snd_joined {v1 v2 : Expr} {rest : List Expr} {ms : List EM} (h : SndJ X (v1 :: v2 :: rest) ms) : SndE X (.JoinedStr (v1 :: v2 :: rest) pos) (eJoined ms) := by
  refine weakE (pe_joined h.pj) fun σV H Q ⟨L, σ, h, d, h', hr, sr, em, k⟩ => ?_
  obtain ⟨l, h1, e1, em⟩ := bind_some em
  cases em
  exact parts_rd ms Str.empty L σV σ H h h' l _ hr sr (by simp [Str.empty]) (by simpa [Str.empty] using e1) fun L' H' z l' r' e' o' => k L' H' _ l' r' (.str' e' o')
theorem snd_joined1 {m : EM} (h : SndE X e m) : SndE X (.JoinedStr [e] pos) m := pe_joined1 h

abbrev GM := Hs → D → List D → Option D
inductive MT where
  | str | int | list | dict
def MT.name : MT → String
  | .str => "str"
  | .int => "int"
  | .list => "list"
  | .dict => "dict"
def tyM (T : MT) (h : Hs) (x : D) : Bool := match T with
  | .str => (match x with | .str _ => true | _ => false)
  | .int => (match x with | .int _ => true | _ => false)
  | .list => (asL h x).isSome
  | .dict => false
theorem tyM_ok {K : PySem.W.Frag} {L : Lay} {H : Hp} {h : Hs} {v : V} {x : D} {T : MT} (s : HRel K L H h) (r : RepO K L H v x) (e : tyM T h x = true) : tyV K T.name v H := by
  cases T with
  | str =>
    cases x <;> first | (simp [tyM] at e; done) | skip
    obtain ⟨z, rfl, _⟩ := r.str
    rfl
  | int =>
    cases x <;> first | (simp [tyM] at e; done) | skip
    rw [r.int]
    rfl
  | list =>
    obtain ⟨xs, e⟩ := Option.isSome_iff_exists.mp (show (asL h x).isSome = true from e)
    obtain ⟨p, vs, rfl, t, _⟩ := asL_ok s r e
    exact .inl ⟨rfl, vs, .of t⟩
  | dict => simp [tyM] at e
def MtS (X : Cx) (id : String) (g : GM) : Prop :=
  ∃ r : V → List V → Hp → VK → Prop, MtR X id r ∧ ∀ (L : Lay) (H : Hp) (h : Hs) (x : D) (v : V) (xs : List D) (d : D) (vs : List V) (Q : VK), HRel X.K L H h → RepO X.K L H v x → RepOs X.K L H vs xs → g h x xs = some d →
    (∀ L' H' w, Le0 L H L' H' → HRel X.K L' H' h → Rep X.K L' w d → Q w H') → r v vs H Q
def eMeth (T : MT) (g : GM) (mo : EM) (ms : AM) : EM := fun σ h => (mo σ h).bind fun x h1 => if tyM T h1 x then (ms σ h1).bind fun xs h2 => optR (g h2 x xs) h2 else .bad
theorem eMeth_rd {T : MT} {g : GM} {mo : EM} {ms : AM} {id : String} (hm : MtS X id g) : ∃ r, MtR X id r ∧ ∀ σV H Q, RdE X.K (eMeth T g mo ms) σV H Q → tBM X.K T.name r (RdO X.K mo) (RdAO X.K ms) σV H Q := by
  obtain ⟨r, hr, hs⟩ := hm
  refine ⟨r, hr, fun σV H Q ⟨L, σ, h, d, h', hr, sr, em, k⟩ => ?_⟩
  obtain ⟨x, h1, e1, em⟩ := bind_some em
  by_cases hT : tyM T h1 x = true
  · rw [if_pos hT] at em
    obtain ⟨xs, h2, e2, em⟩ := bind_some em
    obtain ⟨em2, eh⟩ := optR_ok em
    subst eh
    refine ⟨L, σ, h, x, h1, hr, sr, e1, fun L1 H1 v1 l1 r1 q1 => ⟨tyM_ok r1 q1 hT, L1, σ, h1, xs, h2, r1, sr.le l1, e2, fun L2 H2 vs l2 r2 q2 => ?_⟩⟩
    exact hs L2 H2 h2 x v1 xs d vs Q r2 (q1.le l2) q2 em2 fun L3 H3 w l3 r3 q3 => k L3 H3 w ((l1.trans0 l2).trans0 l3) r3 q3
  · rw [if_neg hT] at em; cases em
theorem snd_meth {T : MT} {id : String} {name : Str} {apos cpos : Pos} {g : GM} {mo : EM} {ms : AM} (pa : PlainAttrs T.name) (slot : Slot T.name name id) (hty : typeOf (.builtin id) = pure (.type "method_descriptor")) (hm : MtS X id g) (ho : SndO X o mo) (ha : SndAO X (e :: es) ms)
    (hbase : attributeBase o name X.env (eval o X.env) = eval o X.env)
    (hfew : ((backTo cpos (starEach (e :: es) X.env)).all (fun x => !x.1) && (backToKw cpos (keywordEach [] X.env)).all (fun x => x.1.isSome)
      && decide ((e :: es).length + ([] : List Keyword).length + (if ([] : List Keyword).isEmpty then 0 else 1) < 30)) = true)
    (hline : (apos.endLine == cpos.line) = true) (hs : starEach (e :: es) X.env = (false, eval e X.env) :: starEach es X.env) (hplain : (backTo cpos (starEach es X.env)).any (·.1) = false) :
    SndE X (.Call (.Attribute o name apos) (e :: es) [] cpos) (eMeth T g mo ms) := by
  obtain ⟨r, hr, w⟩ := eMeth_rd (T := T) (mo := mo) (ms := ms) hm
  exact weakE (pe_bm pa slot hty hr ho ha hbase hfew hline hs hplain) w
def eMeth0 (T : MT) (g : GM) (mo : EM) : EM := fun σ h => (mo σ h).bind fun x h1 => if tyM T h1 x then optR (g h1 x []) h1 else .bad
theorem snd_meth0 {T : MT} {id : String} {name : Str} {apos cpos : Pos} {g : GM} {mo : EM} (pa : PlainAttrs T.name) (slot : Slot T.name name id) (hty : typeOf (.builtin id) = pure (.type "method_descriptor")) (hm : MtS X id g) (ho : SndO X o mo)
    (hbase : attributeBase o name X.env (eval o X.env) = eval o X.env) (hline : (apos.endLine == cpos.line) = true) : SndE X (.Call (.Attribute o name apos) [] [] cpos) (eMeth0 T g mo) := by
  obtain ⟨r, hr, hs⟩ := hm
  refine weakE (pe_bm0 pa slot hty hr ho hbase hline) fun σV H Q ⟨L, σ, h, d, h', hr, sr, em, k⟩ => ?_
  obtain ⟨x, h1, e1, em⟩ := bind_some em
  by_cases hT : tyM T h1 x = true
  · rw [if_pos hT] at em
    obtain ⟨em2, eh⟩ := optR_ok em
    subst eh
    exact ⟨L, σ, h, x, h1, hr, sr, e1, fun L1 H1 v1 l1 r1 q1 => ⟨tyM_ok r1 q1 hT, hs L1 H1 h1 x v1 [] d [] Q r1 q1 .nil em2 fun L3 H3 w l3 r3 q3 => k L3 H3 w (l1.trans0 l3) r3 q3⟩⟩
  · rw [if_neg hT] at em; cases em
def joinD (S : List Nat) : List (List Nat) → List Nat
  | [] => []
  | [p] => p
  | p :: q :: r => p ++ (S ++ joinD S (q :: r))
theorem joinD_eq (S : List Nat) : ∀ ps, TL.joinL S ps = joinD S ps
  | [] => rfl
  | [_] => rfl
  | p :: q :: r => by
    show p ++ (S ++ TL.joinL S (q :: r)) = p ++ (S ++ joinD S (q :: r))
    rw [joinD_eq S (q :: r)]
def toStrs : List D → Option (List (List Nat))
  | [] => some []
  | .str i :: r => (toStrs r).map (i :: ·)
  | _ :: _ => none
theorem toStrs_ok {K : PySem.W.Frag} {L : Lay} : ∀ {ds : List D} {vs : List V} {ns : List (List Nat)}, Reps K L vs ds → toStrs ds = some ns → vs = (ns.map SX.S).map V.str ∧ ∀ l ∈ ns, ∀ c ∈ l, c < 0x110000
  | [], _, _, r, e => by cases r; cases e; exact ⟨rfl, by simp⟩
  | d :: ds, _, ns, r, e => by
    cases r with
    | cons p q =>
      cases d with
      | str i =>
        simp only [toStrs, Option.map_eq_some_iff] at e
        obtain ⟨ms, e, rfl⟩ := e
        obtain ⟨e1, e2⟩ := toStrs_ok q e
        cases p with
        | str s ok =>
          refine ⟨by rw [e1]; simp [SX.S], fun l hl => ?_⟩
          rcases List.mem_cons.mp hl with rfl | hl
          · exact ok
          · exact e2 l hl
      | _ => simp [toStrs] at e
def gJoin : GM := fun h x xs => match x, xs with
  | .str a, [y] => ((asS h y).bind toStrs).bind fun ps => if (ps.map (·.length)).sum + ps.length * a.length ≤ 16777216 then some (.str (joinD a ps)) else none
  | _, _ => none
theorem joinD_mem {S : List Nat} {c : Nat} : ∀ {ps : List (List Nat)}, c ∈ joinD S ps → c ∈ S ∨ ∃ p ∈ ps, c ∈ p
  | [], h => by simp [joinD] at h
  | [p], h => .inr ⟨p, by simp, h⟩
  | p :: q :: r, h => by
    have h : c ∈ p ++ (S ++ joinD S (q :: r)) := h
    rcases List.mem_append.mp h with h | h
    · exact .inr ⟨p, by simp, h⟩
    · rcases List.mem_append.mp h with h | h
      · exact .inl h
      · rcases joinD_mem h with h | ⟨z, hz, hc⟩
        · exact .inl h
        · exact .inr ⟨z, List.mem_cons_of_mem _ hz, hc⟩
theorem mts_join : MtS X "str.join" gJoin := by
  refine ⟨_, mt_join, fun L H h x v xs d vs Q s p q e k => ?_⟩
  unfold gJoin at e
  split at e
  · rename_i a y
    obtain ⟨ps, e1, e⟩ := Option.bind_eq_some_iff.mp e
    obtain ⟨ys, e0, e1⟩ := Option.bind_eq_some_iff.mp e1
    split at e
    · rename_i hz
      cases e
      obtain ⟨z, rfl, ez, nz, oz⟩ := p.str
      obtain ⟨w, rfl, rw'⟩ := ro1 q
      obtain ⟨pp, us, rfl, t, rr⟩ := asS_ok s rw' e0
      obtain ⟨eu, ou⟩ := toStrs_ok rr e1
      subst eu
      have ez' : z = SX.S a := by
        rw [← ez]
      subst ez'
      refine ⟨SX.S a, pp, ps.map SX.S, rfl, rfl, ?_, ?_, ?_⟩
      · rcases t with ⟨_, _, t⟩ | ⟨t, _⟩
        · exact .inr t
        · exact .inl t
      · rw [List.length_map, SX.S_len, List.map_map]
        have : ((fun z : Str => z.length) ∘ SX.S) = fun l : List Nat => l.length := by funext l; exact SX.S_len l
        rw [this]
        exact hz
      · rw [SX.join_S, joinD_eq]
        refine k L H _ Le.refl s (.str' (by simp [SX.S]) fun c hc => ?_)
        rcases joinD_mem hc with hc | ⟨l, hl, hc⟩
        · exact oz c hc
        · exact ou l hl c hc
    · cases e
  · cases e
end
end WC
set_option Elab.async false
set_option linter.all false
set_option maxRecDepth 100000
namespace WC
open PySem PySem.Spec PyProof.Rows L2
namespace Bn
open PySem.NumText PySem.Calls
def Is2 (c : Nat) : Prop := c = 48 ∨ c = 49
instance (c : Nat) : Decidable (Is2 c) := by unfold Is2; infer_instance
theorem Is2.hex {c : Nat} (b : Is2 c) : Hx.IsHex c := by unfold Is2 at b; unfold Hx.IsHex; omega
theorem Is2.rng {c : Nat} (b : Is2 c) : 48 ≤ c ∧ c ≤ 49 := by unfold Is2 at b; omega
def num2 (l : List Nat) : Nat := l.foldl (fun a c => a * 2 + (c - 48)) 0
theorem step2 {ds : Array Nat} {y : Bool} {c : Nat} (b : Is2 c) : PySem.NumText.step 2 (ds, y) c = some (ds.push (c - 48), true) := by
  have := b.rng
  have e : Hx.hv c = c - 48 := if_pos (by omega)
  unfold PySem.NumText.step
  rw [if_neg (by rw [beq_iff_eq]; omega), Hx.digit_hex b.hex, e]
  exact if_pos (by omega)
theorem fold2 : ∀ (l : List Nat) (ds : Array Nat), (∀ c ∈ l, Is2 c) → l.foldlM (PySem.NumText.step 2) (ds, true) = some (l.foldl (fun a c => a.push (c - 48)) ds, true)
  | [], _, _ => rfl
  | c :: l, ds, b => by
    rw [List.foldlM_cons, step2 (b c (List.mem_cons_self ..))]
    exact fold2 l (ds.push (c - 48)) fun d m => b d (List.mem_cons_of_mem _ m)
theorem digits2 {l : List Nat} (b : ∀ c ∈ l, Is2 c) (n0 : l ≠ []) : digits? 2 l = some (l.foldl (fun a c => a.push (c - 48)) #[]) := by
  cases l with
  | nil => exact absurd rfl n0
  | cons c l =>
    unfold digits?
    rw [List.foldlM_cons, step2 (b c (List.mem_cons_self ..))]
    show (l.foldlM (PySem.NumText.step 2) ((#[] : Array Nat).push (c - 48), true)).bind _ = _
    rw [fold2 l _ fun d m => b d (List.mem_cons_of_mem _ m)]
    rfl
theorem push2 : ∀ (l : List Nat) (ds : Array Nat), (l.foldl (fun a c => a.push (c - 48)) ds).foldl (fun a d => a * 2 + d) 0 = l.foldl (fun a c => a * 2 + (c - 48)) (ds.foldl (fun a d => a * 2 + d) 0)
  | [], _ => rfl
  | c :: l, ds => by
    rw [List.foldl_cons, push2 l (ds.push (c - 48)), List.foldl_cons]
    congr 1
    simp
theorem based2 {l : List Nat} (b : ∀ c ∈ l, Is2 c) : based 2 l = (2, false, l) := by
  match l, b with
  | [], _ => rfl
  | [a], b =>
    rcases b a (List.mem_cons_self ..) with e | e <;> subst e <;> rfl
  | a :: c :: r, b =>
    rcases b a (List.mem_cons_self ..) with e | e <;> subst e <;> rcases b c (List.mem_cons_of_mem _ (List.mem_cons_self ..)) with e | e <;> subst e <;> rfl
theorem read2 {l : List Nat} (b : ∀ c ∈ l, Is2 c) (n0 : l ≠ []) : (int_private% "readNumeral") 0 2 l = (int_private% "Numeral.value") ((num2 l : Nat) : Int) := by
  have bx : ∀ c ∈ l, Hx.IsHex c := fun c m => (b c m).hex
  have br : ∀ c ∈ l.reverse, Hx.IsHex c := fun c m => bx c (List.mem_reverse.mp m)
  have eb := based2 b
  refine (readNumeral_eq 0 2 l).trans ?_
  rw [Hx.dropB bx, Hx.signH bx]
  show judge 0 false (based 2 l).1 (based 2 l).2.1 (digits? (based 2 l).1 (((based 2 l).2.2.reverse.dropWhile blank).reverse)) = _
  rw [eb]
  show judge 0 false 2 false (digits? 2 ((l.reverse.dropWhile blank).reverse)) = _
  rw [Hx.dropB br, List.reverse_reverse, digits2 b n0]
  show (int_private% "Numeral.value") (((l.foldl (fun a c => a.push (c - 48)) (#[] : Array Nat)).foldl (fun a d => a * 2 + d) 0 : Nat) : Int) = _
  rw [push2]
  rfl
set_option maxHeartbeats 4000000 in
theorem gives2 {x : PySem.Str} {u t : Tok} (hl : x.length ≤ 640) (b : ∀ c ∈ x.cps.toList, Is2 c) (n0 : x.cps.toList ≠ []) : Gives (Builtin.«int.__new__» ⟨[.type "int", .str x u, .int 2 t], []⟩) (.int ((num2 x.cps.toList : Nat) : Int)) :=
  .of_wp fun M A E s Q hQ => by
    obtain ⟨h1, g1, d1, k1, o1⟩ := s
    have q1 := F.conv_sub_int
    have q2 := F.madeHere_int
    have q3 : typeOf (.str x u) = pure (.type "str") := rfl
    obtain ⟨e1, e2⟩ := Hx.seen_hex (x := x) fun c m => (b c m).hex
    have s1 : (numSeenOf x).length ≤ 640 := by
      rw [e2]
      rw [Array.length_toList]; exact hl
    have s2 : (int_private% "readNumeral") 0 2 (numSeenOf x) = (int_private% "Numeral.value") ((num2 x.cps.toList : Nat) : Int) := by
      rw [e2]
      exact read2 b n0
    have s3 : ((numSeenOf x).length == (numTextOf x).length) = true := by
      rw [e1, e2]
      simp
    have kk := Hx.Hid.mk (And.intro s1 (And.intro s2 s3))
    clear s1 s2 s3 e1 e2 hl n0 b
    repeat (any_goals (first
      | assumption
      | ((with_reducible show wpAny _ _ ((int_private% "intFromText") _ _ _) _ _ _); refine Hx.wp_textB kk.out.1 kk.out.2.1 kk.out.2.2 ?_)
      | wp_step))
    all_goals first | exact ⟨_, rfl, hQ⟩ | skip
theorem call2 {prog : Program} {w : World} {A : Around} {E : Value → Shared → Prop} {s : Shared} {Q : Value → Shared → Prop} {x : PySem.Str} {u t : Tok} (hl : x.length ≤ 640) (b : ∀ c ∈ x.cps.toList, Is2 c) (n0 : x.cps.toList ≠ [])
    (q : Q (.int ((num2 x.cps.toList : Nat) : Int) s.toks) { s with toks := s.toks + 1 }) : wpAny (model prog w) A (call (.type "int") [.str x u, .int 2 t]) Q E s :=
  callType_new F.called_int F.newNe_int (Hx.typeCall_int_2 _ _) (Hx.newCall_int_2 _ _) (fun obj => F.initArgs_range_2 obj _ _) F.entry_int_new (gives2 hl b n0).meets (show (Made.int ((num2 x.cps.toList : Nat) : Int)).post _ s from ⟨rfl, q⟩)
end Bn
def gInt2 : GL := fun _ xs => match xs with
  | [.str l, .int 2] => if l.length ≤ 640 ∧ l ≠ [] ∧ (∀ c ∈ l, Bn.Is2 c) then some (.int (Bn.num2 l)) else none
  | _ => none
def rInt2 : List V → Hp → VK → Prop := fun xs H Q => ∃ z : Str, xs = [.str z, .int 2] ∧ z.length ≤ 640 ∧ z.cps.toList ≠ [] ∧ (∀ c ∈ z.cps.toList, Bn.Is2 c) ∧ Q (.int ((Bn.num2 z.cps.toList : Nat) : Int)) H
theorem call_int2 {X : Cx} : CallR X (.type "int") rInt2 := by
  intro pins s σ H xs us Q I r h
  obtain ⟨z, rfl, hl, n0, b, q⟩ := h
  obtain ⟨u1, u2, rfl, p1, p2⟩ := vals2 r
  obtain ⟨t1, rfl⟩ := p1
  obtain ⟨t2, rfl⟩ := p2
  exact Bn.call2 hl b n0 ⟨.int ((Bn.num2 z.cps.toList : Nat) : Int), H, I.tok _, ⟨_, rfl⟩, q⟩
theorem calls_int2 {X : Cx} : CallS X (.type "int") gInt2 := by
  refine ⟨_, call_int2, fun L H h xs vs d Q s p e k => ?_⟩
  unfold gInt2 at e
  split at e
  · rename_i l
    split at e
    · rename_i hc
      cases e
      obtain ⟨v1, v2, rfl, r1, r2⟩ := ro2 p
      obtain ⟨z, rfl, e1, n1, _⟩ := r1.str
      have := r2.int
      subst this
      subst e1
      exact ⟨z, rfl, by rw [n1]; exact hc.1, hc.2.1, hc.2.2, k L H _ Le.refl s (.int _)⟩
    · cases e
  · cases e
end WC
set_option Elab.async false
set_option linter.all false
set_option maxRecDepth 100000
namespace WC
open PySem PySem.Spec PyProof.Rows L2

abbrev IM := Sg → Hs → R (List D)
def Walks (K : PySem.W.Frag) (O : Addr → Prop) (L : Lay) (H : Hp) (J : It) (xs : List D) : Prop :=
  ∀ (L' : Lay) (H' : Hp) (h : Hs), Le O L H L' H' → HRel K L' H' h → ∀ i : Nat,
    (∀ d, xs[i]? = some d → J.go i H' ∧ ∀ v H'', J.yld i H' v H'' → ∃ L'', Le0 L' H' L'' H'' ∧ HRel K L'' H'' h ∧ Rep K L'' v d) ∧ (xs.length ≤ i → J.stop i H')
def Lend (σV : Sv) (σ : Sg) (bs : List Nat) (O : Addr → Prop) : Prop := ∀ i ∈ bs, ∀ (s : Sl) (q : Addr), σ[i]? = some s → s.owned = true → σV[i]? = some (some (.ref q)) → ¬ O q
def RdI (K : PySem.W.Frag) (bs : List Nat) (m : IM) : TI := fun σV H Rr => ∃ (L : Lay) (σ : Sg) (h : Hs) (xs : List D) (h' : Hs), HRel K L H h ∧ SRel K L H σV σ ∧ m σ h = .ok xs h' ∧
  ∀ L' H' J, Le0 L H L' H' → HRel K L' H' h' → (∀ O, Lend σV σ bs O → Walks K O L' H' J xs) → Rr J H'
def SndI (X : Cx) (tg e : Expr) (bs : List Nat) (m : IM) : Prop := PI X tg e (RdI X.K bs m)
theorem weakI {X : Cx} {tg e : Expr} {t t' : TI} (h : PI X tg e t) (w : ∀ σ H R, t' σ H R → t σ H R) : PI X tg e t' := ⟨fun pins s σ H Rr I q => h.run pins s σ H Rr I (w _ _ _ q)⟩
theorem orI {X : Cx} {tg e : Expr} {t t' : TI} (h : PI X tg e t) (h' : PI X tg e t') : PI X tg e (fun σ H Rr => t σ H Rr ∨ t' σ H Rr) := ⟨fun pins s σ H Rr I q => by
  rcases q with q | q
  · exact h.run pins s σ H Rr I q
  · exact h'.run pins s σ H Rr I q⟩
def itemsD : D → Option (List D)
  | .lst xs => some xs
  | .tup xs => some xs
  | .str l => some (l.map fun c => .str [c])
  | _ => none
section
variable {K : PySem.W.Frag} {L : Lay} {H : Hp} {h : Hs} {O : Addr → Prop}
theorem walks_list {a : Addr} {vs : List V} {xs : List D} (e : H a = some (.lst vs)) (r : Reps K L vs xs) (st : ∀ L' H' h', Le O L H L' H' → HRel K L' H' h' → H' a = some (.lst vs)) : Walks K O L H (Itl K a) xs := by
  intro L' H' h' l hr i
  have e' := st L' H' h' l hr
  have rr := r.le l
  refine ⟨fun d hd => ?_, fun hi => ⟨vs, .of e', by rw [rr.length]; exact hi⟩⟩
  obtain ⟨v, hv, q⟩ := rr.get hd
  refine ⟨⟨vs, v, .of e', hv⟩, fun v' H'' y => ?_⟩
  obtain ⟨rfl, y⟩ := y
  have := y vs (.of e')
  rw [hv] at this; cases this
  exact ⟨L', Le.refl, hr, q⟩
theorem walks_tup {a : Addr} {vs : List V} {xs : List D} (f : SqT K L.F a vs) (r : Reps K L vs xs) : Walks K O L H (Itt K a) xs := by
  intro L' H' h' l hr i
  have e' : SqT K H' a vs := hr.sqT (sqT_mono l.F f)
  have rr := r.le l
  refine ⟨fun d hd => ?_, fun hi => ⟨vs, e', by rw [rr.length]; exact hi⟩⟩
  obtain ⟨v, hv, q⟩ := rr.get hd
  refine ⟨⟨vs, v, e', hv⟩, fun v' H'' y => ?_⟩
  obtain ⟨rfl, y⟩ := y
  have := y vs e'
  rw [hv] at this; cases this
  exact ⟨L', Le.refl, hr, q⟩
theorem walks_str {s : Str} {l : List Nat} (e : s.cps.toList = l) (o : ∀ c ∈ l, c < 0x110000) : Walks K O L H (Its s) (l.map fun c => .str [c]) := by
  intro L' H' h' _ hr i
  have hl : s.cps.size = l.length := by rw [← e]; simp
  refine ⟨fun d hd => ?_, fun hi => by rw [List.length_map] at hi; show s.cps.size ≤ i; omega⟩
  rw [List.getElem?_map, Option.map_eq_some_iff] at hd
  obtain ⟨c, hc, rfl⟩ := hd
  have hi : i < l.length := (List.getElem?_eq_some_iff.mp hc).1
  refine ⟨by show i < s.cps.size; omega, fun v H'' y => ?_⟩
  obtain ⟨rfl, c', hc', rfl⟩ := y
  have e2 : s.cps[i]? = some c := by rw [← hc, ← e]; simp
  rw [hc'] at e2; cases e2
  refine ⟨L', Le.refl, hr, .str' (by simp) fun x hx => ?_⟩
  have : x = c := by simpa using hx
  subst this
  exact o _ (List.mem_of_getElem? hc)
theorem walks_range {lo : Int} {n : Nat} : Walks K O L H (Itr lo n) ((List.range n).map fun (i : Nat) => .int (lo + i)) := by
  intro L' H' h' _ hr i
  refine ⟨fun d hd => ?_, fun hi => by show n ≤ i; simpa using hi⟩
  rw [List.getElem?_map, Option.map_eq_some_iff] at hd
  obtain ⟨c, hc, rfl⟩ := hd
  obtain ⟨hi, e⟩ := List.getElem?_eq_some_iff.mp hc
  rw [List.length_range] at hi
  rw [List.getElem_range] at e
  subst e
  refine ⟨hi, fun v H'' y => ?_⟩
  obtain ⟨rfl, rfl⟩ := y
  exact ⟨L', Le.refl, hr, .int _⟩
end
section
variable {X : Cx} {tg e a b : Expr} {pos : Pos}
def iVal (m : EM) : IM := fun σ h => (m σ h).bind fun d h1 => optR (itemsD d) h1
theorem sndI_val {m : EM} (he : SndE X e m) : SndI X tg e [] (iVal m) := by
  refine weakI (orI (pi_list he) (orI (pi_tup he) (pi_str he))) fun σV H Rr ⟨L, σ, h, xs, h', hr, sr, em, k⟩ => ?_
  obtain ⟨d, h1, e1, em⟩ := bind_some em
  obtain ⟨em2, eh⟩ := optR_ok em
  subst eh
  cases d <;> first | (simp [itemsD] at em2; done) | skip
  · refine .inr (.inr ⟨L, σ, h, _, h1, hr, sr, e1, fun L1 H1 v1 l1 r1 q1 => ?_⟩)
    cases em2
    cases q1 with
    | str s o => exact ⟨s, rfl, k L1 H1 _ l1 r1 fun O _ => walks_str rfl o⟩
  · refine .inr (.inl ⟨L, σ, h, _, h1, hr, sr, e1, fun L1 H1 v1 l1 r1 q1 => ?_⟩)
    cases em2
    cases q1 with
    | tup f r => exact ⟨_, rfl, ⟨_, r1.sqT f⟩, k L1 H1 _ l1 r1 fun O _ => walks_tup f r⟩
  · refine .inl ⟨L, σ, h, _, h1, hr, sr, e1, fun L1 H1 v1 l1 r1 q1 => ?_⟩
    cases em2
    cases q1 with
    | lst f r => exact ⟨_, rfl, ⟨_, .of (r1.sub _ _ f)⟩, k L1 H1 _ l1 r1 fun O _ => walks_list (r1.sub _ _ f) r fun L' H' h' l r' => r'.sub _ _ (l.F _ _ f)⟩
theorem sndI_var {i : Nat} {x : Str} (hN : X.N[i]? = some x) (hv : Vis X.env.scope x) (hd : (x == ("__debug__" : Str)) = false) (hcd : (x == ("__classdict__" : Str)) = false) : SndI X tg (.Name x pos) [i] (iVal (oVar i)) := by
  refine weakI (orI (pi_list (pe_var hN hv hd hcd)) (orI (pi_tup (pe_var hN hv hd hcd)) (pi_str (pe_var hN hv hd hcd)))) fun σV H Rr ⟨L, σ, h, xs, h', hr, sr, em, k⟩ => ?_
  obtain ⟨d, h1, e1, em⟩ := bind_some em
  obtain ⟨em2, eh⟩ := optR_ok em
  subst eh
  unfold oVar at e1
  cases e : σ[i]? with
  | none => simp [e] at e1
  | some s =>
    obtain ⟨x, ex, r⟩ := sr.sl i _ e
    cases s with
    | no => simp [e] at e1
    | val d' =>
      simp [e] at e1
      obtain ⟨rfl, rfl⟩ := e1
      obtain ⟨v, rfl, r⟩ := r
      cases d' <;> first | (simp [itemsD] at em2; done) | skip
      · cases em2
        cases r with
        | str s o => exact .inr (.inr ⟨_, ex, s, rfl, k L H _ Le.refl hr fun O _ => walks_str rfl o⟩)
      · cases em2
        cases r with
        | tup f r => exact .inr (.inl ⟨_, ex, _, rfl, ⟨_, hr.sqT f⟩, k L H _ Le.refl hr fun O _ => walks_tup f r⟩)
      · cases em2
        cases r with
        | lst f r => exact .inl ⟨_, ex, _, rfl, ⟨_, .of (hr.sub _ _ f)⟩, k L H _ Le.refl hr fun O _ => walks_list (hr.sub _ _ f) r fun L' H' h' l r' => r'.sub _ _ (l.F _ _ f)⟩
    | own ys =>
      simp [e] at e1
      obtain ⟨rfl, rfl⟩ := e1
      cases em2
      obtain ⟨p, vs, rfl, e2, f, m, r⟩ := r
      exact .inl ⟨_, ex, _, rfl, ⟨_, .of e2⟩, k L H _ Le.refl hr fun O ln => walks_list e2 r fun L' H' h' l r' => l.fr _ _ e2 m (ln i (by simp) _ p e rfl ex)⟩
    | lent ys =>
      simp [e] at e1
      obtain ⟨rfl, rfl⟩ := e1
      cases em2
      obtain ⟨p, vs, rfl, e2, f, m, r⟩ := r
      exact .inl ⟨_, ex, _, rfl, ⟨_, .of e2⟩, k L H _ Le.refl hr fun O ln => walks_list e2 r fun L' H' h' l r' => l.fr _ _ e2 m (ln i (by simp) _ p e rfl ex)⟩
    | ownd kvs =>
      simp [e] at e1
      obtain ⟨rfl, rfl⟩ := e1
      cases em2
def rangeD (lo : Int) (n : Nat) : List D := (List.range n).map fun (i : Nat) => .int (lo + i)
def iRange1 (ms : AM) : IM := fun σ h => (ms σ h).bind fun xs h1 => match xs with
  | [.int j] => if -(2 ^ 62) ≤ j ∧ j < 2 ^ 62 then .ok (rangeD 0 j.toNat) h1 else .bad
  | _ => .bad
def iRange2 (ms : AM) : IM := fun σ h => (ms σ h).bind fun xs h1 => match xs with
  | [.int i, .int j] => if -(2 ^ 62) ≤ i ∧ i < 2 ^ 62 ∧ -(2 ^ 62) ≤ j ∧ j < 2 ^ 62 then .ok (rangeD i (j - i).toNat) h1 else .bad
  | _ => .bad
theorem ra1 {K : PySem.W.Frag} {L : Lay} {vs : List V} {x : D} (r : Reps K L vs [x]) : ∃ v, vs = [v] ∧ Rep K L v x := by
  cases r with | cons a b => cases b; exact ⟨_, rfl, a⟩
theorem ra2 {K : PySem.W.Frag} {L : Lay} {vs : List V} {x y : D} (r : Reps K L vs [x, y]) : ∃ v u, vs = [v, u] ∧ Rep K L v x ∧ Rep K L u y := by
  cases r with | cons a b => cases b with | cons b c => cases c; exact ⟨_, _, rfl, a, b⟩
theorem ra3 {K : PySem.W.Frag} {L : Lay} {vs : List V} {x y z : D} (r : Reps K L vs [x, y, z]) : ∃ v u w, vs = [v, u, w] ∧ Rep K L v x ∧ Rep K L u y ∧ Rep K L w z := by
  cases r with | cons a b => cases b with | cons b c => cases c with | cons c d => cases d; exact ⟨_, _, _, rfl, a, b, c⟩
theorem sndI_range1 {ms : AM} {p : Pos} {x : Str} (hx : x = ("range" : Str)) (hg : Gl X x) (hm : X.mg x = none) (ha : SndA X [a] ms) (hs : starEach [a] X.env = [(false, eval a X.env)]) : SndI X tg (.Call (.Name x p) [a] [] pos) [] (iRange1 ms) := by
  subst hx
  refine weakI (pi_range1 hg hm ha hs) fun σV H Rr ⟨L, σ, h, xs, h', hr, sr, em, k⟩ => ?_
  obtain ⟨ds, h1, e1, em⟩ := bind_some em
  refine ⟨L, σ, h, ds, h1, hr, sr, e1, fun L1 H1 vs l1 r1 q1 => ?_⟩
  split at em
  · rename_i j
    obtain ⟨hb, e2, e3⟩ := ite_ok em
    subst e2; subst e3
    obtain ⟨v, rfl, q⟩ := ra1 q1
    cases q
    exact ⟨j, rfl, hb.1, hb.2, k L1 H1 _ l1 r1 fun O _ => walks_range⟩
  · cases em
theorem sndI_range2 {ms : AM} {p : Pos} {x : Str} (hx : x = ("range" : Str)) (hg : Gl X x) (hm : X.mg x = none) (ha : SndA X [a, b] ms) (hs : starEach [a, b] X.env = [(false, eval a X.env), (false, eval b X.env)]) (hs2 : starEach [b] X.env = [(false, eval b X.env)]) : SndI X tg (.Call (.Name x p) [a, b] [] pos) [] (iRange2 ms) := by
  subst hx
  refine weakI (pi_range2 hg hm ha hs hs2) fun σV H Rr ⟨L, σ, h, xs, h', hr, sr, em, k⟩ => ?_
  obtain ⟨ds, h1, e1, em⟩ := bind_some em
  refine ⟨L, σ, h, ds, h1, hr, sr, e1, fun L1 H1 vs l1 r1 q1 => ?_⟩
  split at em
  · rename_i i j
    obtain ⟨hb, e2, e3⟩ := ite_ok em
    subst e2; subst e3
    obtain ⟨v, u, rfl, q, q'⟩ := ra2 q1
    cases q; cases q'
    exact ⟨i, j, rfl, hb, k L1 H1 _ l1 r1 fun O _ => walks_range⟩
  · cases em
def enumD (xs : List D) : List D := (List.range xs.length).zipWith (fun (i : Nat) x => .tup [.int i, x]) xs
theorem enumD_get {xs : List D} {i : Nat} : (enumD xs)[i]? = (xs[i]?).map fun x => .tup [.int (i : Nat), x] := by
  unfold enumD
  rw [List.getElem?_zipWith]
  cases e : xs[i]? with
  | none => cases (List.range xs.length)[i]? <;> rfl
  | some x =>
    have hi : i < xs.length := (List.getElem?_eq_some_iff.mp e).1
    rw [List.getElem?_range hi]
    rfl
theorem enumD_length (xs : List D) : (enumD xs).length = xs.length := by simp [enumD]
theorem put_pair {K : PySem.W.Frag} {L : Lay} {H : Hp} {h : Hs} {T : Addr} {x y : V} {c d : D} (hr : HRel K L H h) (hT : H T = none) (q : Rep K L x c) (q' : Rep K L y d) :
    ∃ L'', Le0 L H L'' (upd H T (.tup [x, y])) ∧ HRel K L'' (upd H T (.tup [x, y])) h ∧ Rep K L'' (.ref T) (.tup [c, d]) :=
  ⟨_, le_put hr hT, hr.put hT, .tup put_sqT (.cons (q.le (le_put hr hT)) (.cons (q'.le (le_put hr hT)) .nil))⟩
def iEnumL (ms : AM) : IM := fun σ h => (ms σ h).bind fun xs h1 => match xs with
  | [.lst ys] => .ok (enumD ys) h1
  | [.tup ys] => .ok (enumD ys) h1
  | _ => .bad
theorem sndI_enumL {ms : AM} {p tpos : Pos} {elts : List Expr} {kk : Nat} {x : Str} (hx : x = ("enumerate" : Str)) (hg : Gl X x) (hm : X.mg x = none) (ha : SndA X [a] ms) (hs : starEach [a] X.env = [(false, eval a X.env)]) : SndI X (.Tuple elts kk tpos) (.Call (.Name x p) [a] [] pos) [] (iEnumL ms) := by
  subst hx
  refine weakI (orI (pi_enum hg hm ha hs) (pi_enumT hg hm ha hs)) fun σV H Rr ⟨L, σ, h, xs, h', hr, sr, em, k⟩ => ?_
  obtain ⟨ds, h1, e1, em⟩ := bind_some em
  split at em
  · rename_i ys
    cases em
    refine .inl ⟨L, σ, h, _, _, hr, sr, e1, fun L1 H1 vs l1 r1 q1 => ?_⟩
    obtain ⟨v, rfl, q⟩ := ra1 q1
    cases q with
    | lst f r =>
      rename_i p vs
      refine ⟨p, vs, rfl, .of (r1.sub _ _ f), k L1 H1 _ l1 r1 fun O _ => ?_⟩
      intro L' H' h' l hr' i
      have e' := hr'.sub _ _ (l.F _ _ f)
      have rr := r.le l
      refine ⟨fun d hd => ?_, fun hi => ⟨vs, .of e', by rw [rr.length, ← enumD_length]; exact hi⟩⟩
      rw [enumD_get, Option.map_eq_some_iff] at hd
      obtain ⟨x, hx, rfl⟩ := hd
      obtain ⟨v, hv, qv⟩ := rr.get hx
      refine ⟨⟨vs, v, .of e', hv⟩, fun v' H'' y => ?_⟩
      obtain ⟨T, x', rfl, hT, rfl, y⟩ := y
      have := y vs (.of e')
      rw [hv] at this; cases this
      exact put_pair hr' hT (.int _) qv
  · rename_i ys
    cases em
    refine .inr ⟨L, σ, h, _, _, hr, sr, e1, fun L1 H1 vs l1 r1 q1 => ?_⟩
    obtain ⟨v, rfl, q⟩ := ra1 q1
    cases q with
    | tup f r =>
      rename_i p vs
      refine ⟨p, vs, rfl, r1.sqT f, k L1 H1 _ l1 r1 fun O _ => ?_⟩
      intro L' H' h' l hr' i
      have e' := hr'.sqT (sqT_mono l.F f)
      have rr := r.le l
      refine ⟨fun d hd => ?_, fun hi => ⟨vs, e', by rw [rr.length, ← enumD_length]; exact hi⟩⟩
      rw [enumD_get, Option.map_eq_some_iff] at hd
      obtain ⟨x, hx, rfl⟩ := hd
      obtain ⟨v, hv, qv⟩ := rr.get hx
      refine ⟨⟨vs, v, e', hv⟩, fun v' H'' y => ?_⟩
      obtain ⟨T, x', rfl, hT, rfl, y⟩ := y
      have := y vs e'
      rw [hv] at this; cases this
      exact put_pair hr' hT (.int _) qv
  · cases em
def zipD (xs ys : List D) : List D := xs.zipWith (fun x y => .tup [x, y]) ys
def iZipD (ms : AM) : IM := fun σ h => (ms σ h).bind fun xs h1 => match xs with
  | [.lst ys, .lst zs] => .ok (zipD ys zs) h1
  | [.tup ys, .tup zs] => .ok (zipD ys zs) h1
  | [.str x, .str y] => .ok (zipD (x.map fun c => .str [c]) (y.map fun c => .str [c])) h1
  | _ => .bad
theorem zip_get {xs ys : List D} {i : Nat} {d : D} (h : (zipD xs ys)[i]? = some d) : ∃ x y, xs[i]? = some x ∧ ys[i]? = some y ∧ d = .tup [x, y] := by
  unfold zipD at h
  rw [List.getElem?_zipWith] at h
  cases e : xs[i]? with
  | none => rw [e] at h; cases h
  | some x => cases e2 : ys[i]? with
    | none => rw [e, e2] at h; cases h
    | some y => rw [e, e2] at h; cases h; exact ⟨x, y, rfl, rfl, rfl⟩
theorem zip_stop {xs ys : List D} {i : Nat} (h : (zipD xs ys).length ≤ i) : xs.length ≤ i ∨ ys.length ≤ i := by
  unfold zipD at h
  rw [List.length_zipWith] at h
  omega
theorem sndI_zip {ms : AM} {p tpos : Pos} {elts : List Expr} {kk : Nat} {x : Str} (hx : x = ("zip" : Str)) (hg : Gl X x) (hm : X.mg x = none) (ha : SndA X [a, b] ms) (hs : starEach [a, b] X.env = (false, eval a X.env) :: starEach [b] X.env) (hpl : (backTo pos (starEach [b] X.env)).any (·.1) = false) :
    SndI X (.Tuple elts kk tpos) (.Call (.Name x p) [a, b] [] pos) [] (iZipD ms) := by
  subst hx
  refine weakI (orI (RZ.pi_zipA hg hm ha hs hpl) (pi_zipS hg hm ha hs hpl)) fun σV H Rr ⟨L, σ, h, xs, h', hr, sr, em, k⟩ => ?_
  obtain ⟨ds, h1, e1, em⟩ := bind_some em
  split at em
  · rename_i ys zs
    cases em
    refine .inl ⟨L, σ, h, _, _, hr, sr, e1, fun L1 H1 vs l1 r1 q1 => ?_⟩
    obtain ⟨v, u, rfl, q, q'⟩ := ra2 q1
    cases q with
    | lst f r =>
      cases q' with
      | lst f' r' =>
        refine ⟨_, _, _, _, rfl, .inl ⟨.of (r1.sub _ _ f), .of (r1.sub _ _ f'), k L1 H1 _ l1 r1 fun O _ => ?_⟩⟩
        intro L' H' h' l hr' i
        have e := hr'.sub _ _ (l.F _ _ f)
        have e' := hr'.sub _ _ (l.F _ _ f')
        have rr := r.le l
        have rr' := r'.le l
        refine ⟨fun d hd => ?_, fun hi => ⟨_, _, .of e, .of e', by rw [rr.length, rr'.length]; exact zip_stop hi⟩⟩
        obtain ⟨x, y, hx, hy, rfl⟩ := zip_get hd
        obtain ⟨v, hv, qv⟩ := rr.get hx
        obtain ⟨u, hu, qu⟩ := rr'.get hy
        refine ⟨⟨_, _, v, u, .of e, .of e', hv, hu⟩, fun v' H'' y => ?_⟩
        obtain ⟨T, x1, x2, rfl, hT, rfl, y1, y2⟩ := y
        have z1 := y1 _ (.of e)
        have z2 := y2 _ (.of e')
        rw [hv] at z1; rw [hu] at z2; cases z1; cases z2
        exact put_pair hr' hT qv qu
  · rename_i ys zs
    cases em
    refine .inl ⟨L, σ, h, _, _, hr, sr, e1, fun L1 H1 vs l1 r1 q1 => ?_⟩
    obtain ⟨v, u, rfl, q, q'⟩ := ra2 q1
    cases q with
    | tup f r =>
      cases q' with
      | tup f' r' =>
        refine ⟨_, _, _, _, rfl, .inr ⟨r1.sqT f, r1.sqT f', k L1 H1 _ l1 r1 fun O _ => ?_⟩⟩
        intro L' H' h' l hr' i
        have e := hr'.sqT (sqT_mono l.F f)
        have e' := hr'.sqT (sqT_mono l.F f')
        have rr := r.le l
        have rr' := r'.le l
        refine ⟨fun d hd => ?_, fun hi => ⟨_, _, e, e', by rw [rr.length, rr'.length]; exact zip_stop hi⟩⟩
        obtain ⟨x, y, hx, hy, rfl⟩ := zip_get hd
        obtain ⟨v, hv, qv⟩ := rr.get hx
        obtain ⟨u, hu, qu⟩ := rr'.get hy
        refine ⟨⟨_, _, v, u, e, e', hv, hu⟩, fun v' H'' y => ?_⟩
        obtain ⟨T, x1, x2, rfl, hT, rfl, y1, y2⟩ := y
        have z1 := y1 _ e
        have z2 := y2 _ e'
        rw [hv] at z1; rw [hu] at z2; cases z1; cases z2
        exact put_pair hr' hT qv qu
  · rename_i x y
    cases em
    refine .inr ⟨L, σ, h, _, _, hr, sr, e1, fun L1 H1 vs l1 r1 q1 => ?_⟩
    obtain ⟨v, u, rfl, q, q'⟩ := ra2 q1
    obtain ⟨a, rfl, ea, na, oa⟩ := (show RepO X.K L1 H1 _ _ from .inl q).str
    obtain ⟨b, rfl, eb, nb, ob⟩ := (show RepO X.K L1 H1 _ _ from .inl q').str
    subst ea eb
    refine ⟨a, b, rfl, k L1 H1 _ l1 r1 fun O _ => ?_⟩
    intro L' H' h' l hr' i
    refine ⟨fun d hd => ?_, fun hi => ?_⟩
    · obtain ⟨p, q, hp, hq, rfl⟩ := zip_get hd
      rw [List.getElem?_map, Option.map_eq_some_iff] at hp hq
      obtain ⟨c, hc, rfl⟩ := hp
      obtain ⟨e, he, rfl⟩ := hq
      have hc' : a.cps[i]? = some c := by rw [← Array.getElem?_toList]; exact hc
      have he' : b.cps[i]? = some e := by rw [← Array.getElem?_toList]; exact he
      refine ⟨⟨(Array.getElem?_eq_some_iff.mp hc').1, (Array.getElem?_eq_some_iff.mp he').1⟩, fun v' H'' y => ?_⟩
      obtain ⟨T, c', e', rfl, hT, rfl, y1, y2⟩ := y
      rw [hc'] at y1; cases y1
      rw [he'] at y2; cases y2
      exact put_pair hr' hT (.str ⟨#[c]⟩ (by intro z hz; have : z = c := by simpa using hz
                                             rw [this]; exact oa c (List.mem_of_getElem? hc))) (.str ⟨#[e]⟩ (by intro z hz; have : z = e := by simpa using hz
                                                                                                                rw [this]; exact ob e (List.mem_of_getElem? he)))
    · have := zip_stop hi
      rw [List.length_map, List.length_map, Array.length_toList, Array.length_toList] at this
      exact this
  · cases em

abbrev GT := D → Sg → Option Sg
def setS (σ : Sg) (i : Nat) (s : Sl) : Option Sg := match σ[i]? with
  | some (.lent _) => none
  | some _ => some (σ.set i s)
  | none => none
def tgName (i : Nat) : GT := fun d σ => setS σ i (.val d)
def tgs : List GT → List D → Sg → Option Sg
  | [], [], σ => some σ
  | t :: ts, d :: ds, σ => (t d σ).bind fun σ' => tgs ts ds σ'
  | _, _, _ => none
def tgTup (ts : List GT) : GT := fun d σ => match d with
  | .tup ds => tgs ts ds σ
  | .lst ds => tgs ts ds σ
  | _ => none
structure TgR (vs : List Nat) (σV : Sv) (σ : Sg) (σV' : Sv) (σ' : Sg) : Prop where
  len : σV'.length = σV.length
  len' : σ'.length = σ.length
  out : ∀ i, i ∉ vs → σV'[i]? = σV[i]?
  own : ∀ p, Own σV' σ' p → Own σV σ p
  kp : ∀ (i : Nat) (xs : List D), σ[i]? = some (.lent xs) → σ'[i]? = some (.lent xs) ∧ σV'[i]? = σV[i]?
theorem TgR.refl {vs : List Nat} {σV : Sv} {σ : Sg} : TgR vs σV σ σV σ := ⟨rfl, rfl, fun _ _ => rfl, fun _ h => h, fun _ _ h => ⟨h, rfl⟩⟩
theorem TgR.trans {vs : List Nat} {σV σ1 σ2 : Sv} {σ τ1 τ2 : Sg} (a : TgR vs σV σ σ1 τ1) (b : TgR vs σ1 τ1 σ2 τ2) : TgR vs σV σ σ2 τ2 :=
  ⟨b.len.trans a.len, b.len'.trans a.len', fun i h => (b.out i h).trans (a.out i h), fun p h => a.own p (b.own p h), fun i xs h => let ⟨h1, h2⟩ := a.kp i xs h; let ⟨h3, h4⟩ := b.kp i xs h1; ⟨h3, h4.trans h2⟩⟩
def RdG (K : PySem.W.Frag) (vs : List Nat) (t : GT) : TG := fun v σV H Q => ∃ (L : Lay) (σ : Sg) (d : D) (σ' : Sg), SRel K L H σV σ ∧ Rep K L v d ∧ (∀ p o, L.F p = some o → H p = some o) ∧ t d σ = some σ' ∧
  ∀ σV', SRel K L H σV' σ' → TgR vs σV σ σV' σ' → Q σV' H
def SndG (X : Cx) (e : Expr) (vs : List Nat) (t : GT) : Prop := PG X e (RdG X.K vs t)
theorem weakG {X : Cx} {e : Expr} {t t' : TG} (h : PG X e t) (w : ∀ v σ H Q, t' v σ H Q → t v σ H Q) : PG X e t' := ⟨fun pins s σ H v u Q I r q => h.run pins s σ H v u Q I r (w _ _ _ _ q)⟩
section
variable {K : PySem.W.Frag} {L : Lay} {H : Hp} {σV : Sv} {σ σ' : Sg} {i : Nat}
theorem setS_ok {s : Sl} (e : setS σ i s = some σ') : σ' = σ.set i s ∧ i < σ.length ∧ ∀ xs, σ[i]? ≠ some (.lent xs) := by
  unfold setS at e
  cases e1 : σ[i]? with
  | none => rw [e1] at e; cases e
  | some t =>
    have hi := (List.getElem?_eq_some_iff.mp e1).1
    cases t <;> rw [e1] at e <;> first | (cases e; done) | (cases e; exact ⟨rfl, hi, fun xs z => by cases z⟩)
theorem SRel.set {v : V} {s : Sl} (sr : SRel K L H σV σ) (hi : i < σ.length) (r : RepSl K L H (some v) s) (ap : ∀ p, s.owned = true → v = .ref p → ∀ (j : Nat) (t : Sl), j ≠ i → σ[j]? = some t → t.owned = true → σV[j]? ≠ some (some (.ref p))) : SRel K L H (σV.set i (some v)) (σ.set i s) := by
  refine ⟨by simp [sr.len], fun j t e => ?_, fun j k t u p e1 e2 o1 o2 z1 z2 => ?_⟩
  · by_cases hj : i = j
    · subst hj
      rw [List.getElem?_set_self hi] at e; cases e
      exact ⟨_, List.getElem?_set_self (by rw [sr.len]; exact hi), r⟩
    · rw [List.getElem?_set_ne hj] at e
      obtain ⟨x, ex, rr⟩ := sr.sl j t e
      exact ⟨x, by rw [List.getElem?_set_ne hj]; exact ex, rr⟩
  · by_cases hj : i = j
    · subst hj
      rw [List.getElem?_set_self hi] at e1; cases e1
      rw [List.getElem?_set_self (by rw [sr.len]; exact hi)] at z1
      by_cases hk : i = k
      · exact hk
      · rw [List.getElem?_set_ne hk] at e2 z2
        exact absurd z2 (ap p o1 (by simpa using z1) k u (Ne.symm hk) e2 o2)
    · rw [List.getElem?_set_ne hj] at e1 z1
      by_cases hk : i = k
      · subst hk
        rw [List.getElem?_set_self hi] at e2; cases e2
        rw [List.getElem?_set_self (by rw [sr.len]; exact hi)] at z2
        exact absurd z1 (ap p o2 (by simpa using z2) j t (Ne.symm hj) e1 o1)
      · rw [List.getElem?_set_ne hk] at e2 z2
        exact sr.ap j k t u p e1 e2 o1 o2 z1 z2
theorem SRel.val {v : V} {d : D} (sr : SRel K L H σV σ) (hi : i < σ.length) (r : Rep K L v d) : SRel K L H (σV.set i (some v)) (σ.set i (.val d)) :=
  sr.set hi ⟨v, rfl, r⟩ fun _ z => by cases z
theorem tgR_val {v : V} {d : D} {vs : List Nat} (sr : SRel K L H σV σ) (e : setS σ i (.val d) = some σ') (hv : i ∈ vs) : TgR vs σV σ (σV.set i (some v)) σ' := by
  obtain ⟨rfl, hi, nl⟩ := setS_ok e
  refine ⟨by simp, by simp, fun j hj => ?_, fun p ⟨j, s, e1, f, e2⟩ => ?_, fun j xs hj => ?_⟩
  · have : i ≠ j := fun z => hj (z ▸ hv)
    rw [List.getElem?_set_ne this]
  · by_cases z : i = j
    · subst z
      rw [List.getElem?_set_self hi] at e1; cases e1; cases f
    · rw [List.getElem?_set_ne z] at e1 e2
      exact ⟨j, s, e1, f, e2⟩
  · have z : i ≠ j := fun z => by subst z; exact nl xs hj
    rw [List.getElem?_set_ne z, List.getElem?_set_ne z]
    exact ⟨hj, rfl⟩
end
theorem sndG_name {i : Nat} {x : Str} {vs : List Nat} (hN : X.N.Nodup) (hi : X.N[i]? = some x) (hx : Loc X.env.scope x) (hf : X.fn x = true ∨ X.env.scope.names.lookup x = some .local) (hv : i ∈ vs) : SndG X (.Name x pos) vs (tgName i) := by
  refine weakG (pg_name hN hi hx hf) fun v σV H Q ⟨L, σ, d, σ', sr, r, sub, e, k⟩ => ?_
  obtain ⟨e1, hl, _⟩ := setS_ok e
  refine k _ ?_ (tgR_val sr e hv)
  rw [e1]
  exact sr.val hl r
def RdGs (K : PySem.W.Frag) (vs : List Nat) (ts : List GT) : TGs := fun v σV H Q => ∃ (L : Lay) (σ : Sg) (ds : List D) (σ' : Sg), SRel K L H σV σ ∧ Reps K L v ds ∧ (∀ p o, L.F p = some o → H p = some o) ∧ tgs ts ds σ = some σ' ∧
  ∀ σV', SRel K L H σV' σ' → TgR vs σV σ σV' σ' → Q σV' H
def SndGs (X : Cx) (es : List Expr) (vs : List Nat) (ts : List GT) : Prop := PGs X es (RdGs X.K vs ts)
theorem weakGs {X : Cx} {e : List Expr} {t t' : TGs} (h : PGs X e t) (w : ∀ v σ H Q, t' v σ H Q → t v σ H Q) : PGs X e t' := ⟨fun pins s σ H v u Q I r q => h.run pins s σ H v u Q I r (w _ _ _ _ q)⟩
theorem sndGs_nil {vs : List Nat} : SndGs X [] vs [] := by
  refine weakGs pgs_nil fun v σV H Q ⟨L, σ, ds, σ', sr, r, sub, e, k⟩ => ?_
  cases ds with
  | nil => cases r; cases e; exact ⟨rfl, k σV sr TgR.refl⟩
  | cons _ _ => cases e
theorem sndGs_cons {es : List Expr} {t : GT} {ts : List GT} {vs : List Nat} (h1 : SndG X e vs t) (h2 : SndGs X es vs ts) (hs : (assignEach (e :: es) X.env).map (·.2) = assign e X.env :: (assignEach es X.env).map (·.2)) : SndGs X (e :: es) vs (t :: ts) := by
  refine weakGs (pgs_cons h1 h2 hs) fun v σV H Q ⟨L, σ, ds, σ', sr, r, sub, e, k⟩ => ?_
  cases ds with
  | nil => cases e
  | cons d ds =>
    obtain ⟨σ1, e1, e2⟩ := Option.bind_eq_some_iff.mp e
    cases r with
    | cons r rr =>
      exact ⟨_, _, rfl, L, σ, d, σ1, sr, r, sub, e1, fun σV1 sr1 t1 => ⟨L, σ1, ds, σ', sr1, rr, sub, e2, fun σV2 sr2 t2 => k σV2 sr2 (t1.trans t2)⟩⟩
theorem orG {X : Cx} {e : Expr} {t t' : TG} (h : PG X e t) (h' : PG X e t') : PG X e (fun v σ H Q => t v σ H Q ∨ t' v σ H Q) := ⟨fun pins s σ H v u Q I r q => q.elim (h.run pins s σ H v u Q I r) (h'.run pins s σ H v u Q I r)⟩
theorem sndG_tup {es : List Expr} {ts : List GT} {vs : List Nat} {kk : Nat} (hc : X.calm = true) (h : SndGs X es vs ts) (hn : (assignEach es X.env).length = ts.length) (hst : (assignEach es X.env).findIdx? (·.1) = none) : SndG X (.Tuple es kk pos) vs (tgTup ts) := by
  refine weakG (orG (pg_tup hc h hn hst) (pg_unl hc h hn hst)) fun v σV H Q ⟨L, σ, d, σ', sr, r, sub, e, k⟩ => ?_
  unfold tgTup at e
  split at e
  · rename_i ds
    cases r with
    | tup f r =>
      refine .inl ⟨_, _, rfl, sqT_mono sub f, ?_, L, σ, ds, σ', sr, r, sub, e, k⟩
      rw [r.length]
      exact tgs_len e
  · rename_i ds
    cases r with
    | lst f r =>
      refine .inr ⟨_, _, rfl, .inl (.inl (sub _ _ f)), ?_, L, σ, ds, σ', sr, r, sub, e, k⟩
      rw [r.length]
      exact tgs_len e
  · cases e
where tgs_len : ∀ {ts : List GT} {ds : List D} {σ σ' : Sg}, tgs ts ds σ = some σ' → ds.length = ts.length
  | [], [], _, _, _ => rfl
  | [], _ :: _, _, _, e => by cases e
  | _ :: _, [], _, _, e => by cases e
  | t :: ts, d :: ds, σ, σ', e => by
    obtain ⟨σ1, e1, e2⟩ := Option.bind_eq_some_iff.mp e
    simp [tgs_len e2]
end
end WC
set_option Elab.async false
set_option linter.all false
set_option maxRecDepth 100000
namespace WC
open PySem PySem.Spec PyProof.Rows L2

def wipeS (σ : Sg) : List Nat → Sg
  | [] => σ
  | v :: vs => (wipeS σ vs).set v .no
theorem wipeS_len (σ : Sg) : ∀ vs : List Nat, (wipeS σ vs).length = σ.length
  | [] => rfl
  | v :: vs => by unfold wipeS; rw [List.length_set, wipeS_len σ vs]
theorem wipe_eq {σ σ' : Sv} (hl : σ'.length = σ.length) : ∀ {vs : List Nat}, (∀ i, i ∉ vs → σ'[i]? = σ[i]?) → wipe σ' vs = wipe σ vs
  | [], h => List.ext_getElem? fun i => h i (by simp)
  | v :: vs, h => by
    have key : ∀ i, (wipe σ' (v :: vs))[i]? = (wipe σ (v :: vs))[i]? := fun i => by
      by_cases hi : i ∈ v :: vs
      · have a1 : ∀ (τ : Sv), τ.length = σ.length → ∀ us : List Nat, i ∈ us → (wipe τ us)[i]? = if i < σ.length then some none else none := fun τ ht us => by
          induction us with
          | nil => intro h; simp at h
          | cons u us ih =>
            intro hu
            unfold wipe
            by_cases z : u = i
            · subst z
              by_cases hl2 : u < σ.length
              · rw [List.getElem?_set_self (by rw [wipe_length, ht]; exact hl2), if_pos hl2]
              · rw [List.getElem?_eq_none (by rw [List.length_set, wipe_length, ht]; omega), if_neg hl2]
            · rw [List.getElem?_set_ne z]
              exact ih (by rcases List.mem_cons.mp hu with q | q; exact absurd q.symm z; exact q)
        rw [a1 σ' hl _ hi, a1 σ rfl _ hi]
      · rw [wipe_out hi, wipe_out hi]
        exact h i hi
    exact List.ext_getElem? key
section
variable {K : PySem.W.Frag} {L : Lay} {H : Hp} {σV : Sv} {σ : Sg}
theorem SRel.no (sr : SRel K L H σV σ) {i : Nat} (x : Option V) : SRel K L H (σV.set i x) (σ.set i .no) := by
  by_cases hi : i < σ.length
  · refine ⟨by simp [sr.len], fun j t e => ?_, fun j k t u p e1 e2 o1 o2 z1 z2 => ?_⟩
    · by_cases hj : i = j
      · subst hj
        rw [List.getElem?_set_self hi] at e; cases e
        exact ⟨_, List.getElem?_set_self (by rw [sr.len]; exact hi), trivial⟩
      · rw [List.getElem?_set_ne hj] at e
        obtain ⟨y, ex, rr⟩ := sr.sl j t e
        exact ⟨y, by rw [List.getElem?_set_ne hj]; exact ex, rr⟩
    · have n1 : i ≠ j := fun z => by subst z; rw [List.getElem?_set_self hi] at e1; cases e1; cases o1
      have n2 : i ≠ k := fun z => by subst z; rw [List.getElem?_set_self hi] at e2; cases e2; cases o2
      rw [List.getElem?_set_ne n1] at e1 z1
      rw [List.getElem?_set_ne n2] at e2 z2
      exact sr.ap j k t u p e1 e2 o1 o2 z1 z2
  · have hl := sr.len
    rw [List.set_eq_of_length_le (show σ.length ≤ i by omega), List.set_eq_of_length_le (show σV.length ≤ i by omega)]
    exact sr
theorem SRel.wiped (sr : SRel K L H σV σ) : ∀ vs : List Nat, SRel K L H (wipe σV vs) (wipeS σ vs)
  | [] => sr
  | v :: vs => (SRel.wiped sr vs).no none
end
def lcGo (t : GT) (tt : TM) (te : EM) (σ : Sg) : List D → Hs → R (List D)
  | [], h => .ok [] h
  | x :: xs, h => match t x σ with
    | none => .bad
    | some σ2 => (tt σ2 h).bind fun b h1 => match b with
      | true => (te σ2 h1).bind fun y h2 => (lcGo t tt te σ xs h2).bind fun ys h3 => .ok (y :: ys) h3
      | false => lcGo t tt te σ xs h1
def lcL (m : IM) (t : GT) (tt : TM) (te : EM) (vs : List Nat) : Sg → Hs → R (List D) := fun σ h => (m σ h).bind fun xs h1 => if xs.length ≤ sizeLine then lcGo t tt te (wipeS σ vs) xs h1 else .bad
def tYesM : TM := fun _ h => .ok true h
def SndTs (X : Cx) (e : List Expr) (m : TM) : Prop := PTs X e (RdT X.K m)
theorem sndTs_nil {X : Cx} : SndTs X [] tYesM := ⟨fun pins s σ H Q I ⟨L, σ', h, d, h', hr, sr, em, k⟩ => by cases em; exact pts_nil.run pins s σ H Q I (k L H Le.refl hr)⟩
theorem sndTs_one {X : Cx} {c : Expr} {m : TM} (h : SndT X c m) : SndTs X [c] m := pts_one h

section
variable {O : Addr → Prop} {K : PySem.W.Frag} {L L1 : Lay} {H H1 : Hp} {h : Hs} {p : Addr} {o u : HO}
theorem HRel.upd (s : HRel K L H h) (f : L.F p = none) (m : ¬ L.M p) : HRel K L (L2.upd H p o) h := by
  have ne : ∀ q, L.M q → q ≠ p := fun q hq z => m (z ▸ hq)
  refine ⟨fun q w e => ?_, s.nm, fun q hq => ?_, s.nd, s.len, fun n q ob e1 e2 => ?_⟩
  · rw [upd_ne (ne_of_none e f)]; exact s.sub q w e
  · rw [upd_ne (ne q hq)]; exact s.mt q hq
  · refine (s.ob n q ob e1 e2).le (fun _ _ e => e) (fun _ _ e => e) fun b w hb e => ?_
    have : L.M b := ⟨q, List.mem_of_getElem? e1, by rcases hb with hb | hb; exact .inl hb; exact .inr hb⟩
    rw [upd_ne (ne b this)]; exact e
theorem Le.upd (l : Le O L1 H1 L H) (hp : H1 p = none) : Le O L1 H1 L (L2.upd H p o) := by
  refine ⟨l.F, l.Fn, l.ob, l.M, fun q w e n m => ?_, fun q e => ?_⟩
  · rw [upd_ne (ne_of_none e hp)]; exact l.fr q w e n m
  · by_cases z : q = p
    · subst z; rw [upd_same]; intro w; cases w
    · rw [upd_ne z]; exact l.th q e
theorem HRel.freeze (s : HRel K L H h) (e : H p = some o) (f : L.F p = none) (m : ¬ L.M p) : HRel K (L.put p o) H h := by
  refine ⟨fun q w e' => ?_, fun q hq => ?_, s.mt, s.nd, s.len, fun n q ob e1 e2 => ?_⟩
  · have e' : L2.upd L.F p o q = some w := e'
    by_cases z : q = p
    · subst z; rw [upd_same] at e'; cases e'; exact e
    · rw [upd_ne z] at e'; exact s.sub q w e'
  · have hq : L.M q := hq
    show L2.upd L.F p o q = none
    rw [upd_ne (fun z => by subst z; exact m hq)]; exact s.nm q hq
  · refine (s.ob n q ob e1 e2).le (fun q w e => ?_) (fun _ _ e => e) fun b w hb e => e
    show L2.upd L.F p o q = some w
    rw [upd_ne (ne_of_none e f)]; exact e
theorem Le.freeze (l : Le O L1 H1 L H) (f : L.F p = none) (hp : H1 p = none ∨ O p) : Le O L1 H1 (L.put p o) H := by
  refine ⟨fun q w e => ?_, fun q e => ?_, l.ob, l.M, l.fr, l.th⟩
  · show L2.upd L.F p o q = some w
    have := l.F q w e
    rw [upd_ne (ne_of_none this f)]; exact this
  · have e : L2.upd L.F p o q ≠ none := e
    by_cases z : q = p
    · subst z; exact .inr hp
    · rw [upd_ne z] at e; exact l.Fn q e
theorem Le.keepF (l : Le (fun _ => False) L1 H1 L H) (e : H1 p = some u) (f : L1.F p = none) : L.F p = none := by
  refine Classical.byContradiction fun z => ?_
  rcases l.Fn p z with q | q | q
  · exact q f
  · rw [e] at q; cases q
  · exact q
theorem Le.keepM (l : Le (fun _ => False) L1 H1 L H) (e : H1 p = some u) (m : ¬ L1.M p) : ¬ L.M p := fun z => by
  rcases l.M p z with q | q | q
  · exact m q
  · rw [e] at q; cases q
  · exact q
end
section
variable {X : Cx} {e : Expr}
abbrev LM := Sg → Hs → R (List D)
def RdL (K : PySem.W.Frag) (m : LM) : TE := fun σV H Q => ∃ (L : Lay) (σ : Sg) (h : Hs) (xs : List D) (h' : Hs), HRel K L H h ∧ SRel K L H σV σ ∧ m σ h = .ok xs h' ∧
  ∀ L' H' p vs, Le0 L H L' H' → HRel K L' H' h' → H p = none → L'.F p = none → ¬ L'.M p → H' p = some (.lst vs) → Reps K L' vs xs → Q (.ref p) H'
def SndL (X : Cx) (e : Expr) (m : LM) : Prop := PE X e (RdL X.K m)
def eFrz (m : LM) : EM := fun σ h => (m σ h).bind fun xs h1 => .ok (.lst xs) h1
theorem SndL.toE {m : LM} (h : SndL X e m) : SndE X e (eFrz m) := by
  refine weakE h fun σV H Q ⟨L, σ, h, s, h', hr, sr, em, k⟩ => ?_
  obtain ⟨x, h1, e1, em⟩ := bind_some em
  cases em
  refine ⟨L, σ, h, x, _, hr, sr, e1, fun L1 H1 p vs l1 r1 hp f m e r => k _ _ _ (l1.freeze f (.inl hp)) (r1.freeze e f m) (.lst upd_same (Reps.mono (L := L1) (L' := L1.put p (HO.lst vs)) (fun q w e => ?_) (fun _ _ e => e) r))⟩
  show L2.upd L1.F p _ q = some w
  rw [upd_ne (ne_of_none e f)]; exact e
end
theorem wipe_idem {σ : Sv} {vs : List Nat} : wipe (wipe σ vs) vs = wipe σ vs := wipe_eq (wipe_length σ vs) fun i hi => wipe_out hi
theorem lc_rd {X : Cx} {m : IM} {t : GT} {tt : TM} {te : EM} {vs bs : List Nat} {σV : Sv} {H : Hp} {Q : VK} (q : RdL X.K (lcL m t tt te vs) σV H Q) : tLc (RdI X.K bs m) (RdG X.K vs t) (RdT X.K tt) (RdE X.K te) vs σV H Q := by
  obtain ⟨L, σ, h, out, h', hr, sr, em, k⟩ := q
  obtain ⟨xs, h1, e1, em⟩ := bind_some em
  by_cases hz : xs.length ≤ sizeLine
  · rw [if_pos hz] at em
    have e2 := em
    refine ⟨L, σ, h, xs, h1, hr, sr, e1, fun L1 H1 J l1 r1 wk A0 hA => ?_⟩
    have wk := wk (fun _ => False) (fun _ _ _ _ _ _ _ z => z)
    have f1 : L1.F A0 = none := by
      cases e : L1.F A0 with
      | none => rfl
      | some w => rw [r1.sub _ _ e] at hA; cases hA
    have m1 : ¬ L1.M A0 := fun z => r1.mt _ z hA
    -- the invariant: the layout has come so far, A0 holds what is made, the rest is still to be evaluated
    let W : Nat → Nat → Hp → Prop := fun i n H' => n = xs.length - i ∧ i ≤ xs.length ∧ ∃ (L' : Lay) (hh : Hs) (ds : List D) (us : List V) (rest : List D),
      Le0 L1 H1 L' H' ∧ HRel X.K L' H' hh ∧ L'.F A0 = none ∧ (¬ L'.M A0) ∧ H' A0 = some (.lst us) ∧ Reps X.K L' us ds ∧ ds.length ≤ i ∧ lcGo t tt te (wipeS σ vs) (xs.drop i) hh = .ok rest h' ∧ out = ds ++ rest
    refine ⟨W, ⟨xs.length, rfl, Nat.zero_le _, L1, h1, [], [], out, (Le.refl (L := L1) (H := H1)).upd hA, r1.upd f1 m1, f1, m1, upd_same, .nil, Nat.zero_le _, e2, rfl⟩, ?_⟩
    rintro i n H' ⟨hn, hi, L', hh, ds, us, rest, l', r', fA, mA, eA, rp, hd, eg, eo⟩
    by_cases hlt : i < xs.length
    · refine .inr ?_
      obtain ⟨hgo, hy⟩ := (wk L' H' hh l' r' i).1 xs[i] (List.getElem?_eq_getElem hlt)
      refine ⟨hgo, W (i + 1) (xs.length - (i + 1)), fun H'' w => ⟨_, by omega, w⟩, fun v H'' y => ?_⟩
      obtain ⟨La, l2, r2, q2⟩ := hy v H'' y
      rw [List.drop_eq_getElem_cons hlt] at eg
      unfold lcGo at eg
      cases et : t xs[i] (wipeS σ vs) with
      | none => rw [et] at eg; cases eg
      | some σ2 =>
        rw [et] at eg
        obtain ⟨b, h3, e3, eg⟩ := bind_some eg
        have lt2 := (l1.trans0 l').trans0 l2
        refine ⟨La, wipeS σ vs, xs[i], σ2, (sr.wiped vs).le lt2, q2, r2.sub, et, fun σV2 sr2 tg => ⟨(wipe_eq tg.len tg.out).trans wipe_idem, ?_⟩⟩
        refine ⟨La, σ2, hh, b, h3, r2, sr2, e3, fun L3 H3 l3 r3 => ?_⟩
        have l23 := l2.trans0 l3
        cases b with
        | false =>
          show W (i + 1) (xs.length - (i + 1)) H3
          exact ⟨rfl, hlt, L3, h3, ds, us, rest, l'.trans0 l23, r3, l23.keepF eA fA, l23.keepM eA mA, l23.fr _ _ eA mA (fun z => z), rp.le l23, by omega, eg, eo⟩
        | true =>
          show RdE X.K te σV2 H3 fun y H4 => ∃ acc, H4 A0 = some (HO.lst acc) ∧ acc.length < sizeLine ∧ W (i + 1) (xs.length - (i + 1)) (L2.upd H4 A0 (HO.lst (acc ++ [y])))
          obtain ⟨yv, h4, e4, eg⟩ := bind_some eg
          obtain ⟨ys, h5, e5, eg⟩ := bind_some eg
          cases eg
          refine ⟨L3, σ2, h3, yv, h4, r3, sr2.le l3, e4, fun L4 H4 v4 l4 r4 q4 => ?_⟩
          have l24 := l23.trans0 l4
          have f4 := l24.keepF eA fA
          have m4 := l24.keepM eA mA
          have hl := rp.length
          refine ⟨us, l24.fr _ _ eA mA (fun z => z), by omega, rfl, hlt, L4, h4, ds ++ [yv], us ++ [v4], ys, (l'.trans0 l24).upd hA, r4.upd f4 m4, f4, m4, upd_same, (rp.le l24).append (.cons q4 .nil), ?_, e5, ?_⟩
          · rw [List.length_append]; show ds.length + 1 ≤ i + 1; omega
          · rw [eo, List.append_assoc]; rfl
    · have ei : i = xs.length := by omega
      subst ei
      refine .inl ⟨(wk L' H' hh l' r' _).2 (Nat.le_refl _), ?_⟩
      rw [List.drop_length] at eg
      cases eg
      rw [List.append_nil] at eo
      subst eo
      refine k L' H' A0 us (l1.trans0 l') r' ?_ fA mA eA rp
      cases e : H A0 with
      | none => rfl
      | some w => exact absurd hA (l1.th A0 (by rw [e]; intro z; cases z))
  · rw [if_neg hz] at em; cases em
section
variable {X : Cx} {elt tg iter : Expr} {ifs : List Expr} {scope : Scope} {own : List (Str × Nat)} {pos : Pos} {bs : List Nat} {m : IM} {t : GT} {tt : TM} {te : EM}
theorem snd_lc (hc : X.calm = true) (hN : X.N.Nodup) (hi : SndI X tg iter bs m) (ok : BlkOk X.N X.env.scope scope own)
    (hg : ∀ (s : Shared) (H : Hp) (C : Addr) (cl : List (Str × Addr)) (fp : List Addr), SndG (X.blk s H scope (compEnvC scope cl C X.env) fp) tg (own.map (·.2)) t) (ht : ∀ (s : Shared) (H : Hp) (C : Addr) (cl : List (Str × Addr)) (fp : List Addr), SndTs (X.blk s H scope (compEnvC scope cl C X.env) fp) ifs tt)
    (he : ∀ (s : Shared) (H : Hp) (C : Addr) (cl : List (Str × Addr)) (fp : List Addr), SndE (X.blk s H scope (compEnvC scope cl C X.env) fp) elt te) (hs : ∀ x, foldedSetIterable iter X.env x = pure x) :
    SndL X (.ListComp elt [⟨tg, iter, ifs, 0⟩] scope pos) (lcL m t tt te (own.map (·.2))) :=
  weakE (pe_lc (wi := RdI X.K bs m) (g := RdG X.K (own.map fun (x : Str × Nat) => x.2) t) (tt := RdT X.K tt) (te := RdE X.K te) hc hN hi ok hg ht he hs) fun _ _ _ q => lc_rd q
end
end WC
set_option Elab.async false
set_option linter.all false
set_option maxRecDepth 100000
namespace WC
open PySem PySem.Spec PyProof.Rows L2

structure LeS (L : Lay) (H : Hp) (σV : Sv) (σ : Sg) (L' : Lay) (H' : Hp) (σV' : Sv) (σ' : Sg) : Prop where
  le : Le (Own σV σ) L H L' H'
  own : ∀ p, Own σV' σ' p → Own σV σ p ∨ H p = none
  kp : ∀ (i : Nat) (xs : List D), σ[i]? = some (.lent xs) → σ'[i]? = some (.lent xs) ∧ σV'[i]? = σV[i]?
theorem LeS.refl {L : Lay} {H : Hp} {σV : Sv} {σ : Sg} : LeS L H σV σ L H σV σ := ⟨Le.refl, fun _ h => .inl h, fun _ _ h => ⟨h, rfl⟩⟩
theorem LeS.trans {L L1 L2 : Lay} {H H1 H2 : Hp} {σV σV1 σV2 : Sv} {σ σ1 σ2 : Sg} (a : LeS L H σV σ L1 H1 σV1 σ1) (b : LeS L1 H1 σV1 σ1 L2 H2 σV2 σ2) : LeS L H σV σ L2 H2 σV2 σ2 :=
  ⟨a.le.trans b.le a.own, fun p h => by
    rcases b.own p h with q | q
    · exact a.own p q
    · exact .inr (Classical.byContradiction fun z => a.le.th p z q),
   fun i xs h => let ⟨h1, h2⟩ := a.kp i xs h; let ⟨h3, h4⟩ := b.kp i xs h1; ⟨h3, h4.trans h2⟩⟩
theorem LeS.of0 {L L1 : Lay} {H H1 : Hp} {σV : Sv} {σ : Sg} (a : Le0 L H L1 H1) : LeS L H σV σ L1 H1 σV σ := ⟨a.any, fun _ h => .inl h, fun _ _ h => ⟨h, rfl⟩⟩
def Post (K : PySem.W.Frag) (E : Ends) (L : Lay) (H : Hp) (σV : Sv) (σ : Sg) : RS → Prop
  | .nx σ' h' => ∀ L' H' σV', LeS L H σV σ L' H' σV' σ' → HRel K L' H' h' → SRel K L' H' σV' σ' → E.nx σV' H'
  | .bk σ' h' => ∀ L' H' σV', LeS L H σV σ L' H' σV' σ' → HRel K L' H' h' → SRel K L' H' σV' σ' → E.bk σV' H'
  | .ct σ' h' => ∀ L' H' σV', LeS L H σV σ L' H' σV' σ' → HRel K L' H' h' → SRel K L' H' σV' σ' → E.ct σV' H'
  | .rt d h' => ∀ L' H' v, Le (Own σV σ) L H L' H' → HRel K L' H' h' → Rep K L' v d → E.rt v H'
  | .bad => False
theorem Post.mono {K : PySem.W.Frag} {E : Ends} {L L1 : Lay} {H H1 : Hp} {σV σV1 : Sv} {σ σ1 : Sg} {r : RS} (p : Post K E L H σV σ r) (l : LeS L H σV σ L1 H1 σV1 σ1) : Post K E L1 H1 σV1 σ1 r := by
  cases r with
  | nx σ' h' => exact fun L' H' σV' l' hr sr => p L' H' σV' (l.trans l') hr sr
  | bk σ' h' => exact fun L' H' σV' l' hr sr => p L' H' σV' (l.trans l') hr sr
  | ct σ' h' => exact fun L' H' σV' l' hr sr => p L' H' σV' (l.trans l') hr sr
  | rt d h' => exact fun L' H' v l' hr r => p L' H' v (l.le.trans l' l.own) hr r
  | bad => exact p
def RdS (K : PySem.W.Frag) (m : SM) : TS := fun E σV H => ∃ (L : Lay) (σ : Sg) (h : Hs), HRel K L H h ∧ SRel K L H σV σ ∧ Post K E L H σV σ (m σ h)
def SndS (X : Cx) (st : Stmt) (m : SM) : Prop := PS X st (RdS X.K m)
def SndB (X : Cx) (sts : List Stmt) (m : SM) : Prop := PSs X sts (RdS X.K m)
def sBad : SM := fun _ _ => .bad
def sNil : SM := fun σ h => .nx σ h
def sSeq (a b : SM) : SM := fun σ h => match a σ h with
  | .nx σ' h' => b σ' h'
  | r => r
section
variable {X : Cx} {st : Stmt} {sts : List Stmt} {e a b c : Expr} {pos : Pos}
theorem sndS_bad : SndS X st sBad := ⟨fun _ _ _ _ _ _ ⟨_, _, _, _, _, q⟩ => q.elim⟩
theorem sndB_bad : SndB X sts sBad := ⟨fun _ _ _ _ _ _ ⟨_, _, _, _, _, q⟩ => q.elim⟩
theorem sndB_nil : SndB X [] sNil := weakB pss_nil fun E σV H ⟨L, σ, h, hr, sr, q⟩ => q L H σV LeS.refl hr sr
theorem sndS_pass : SndS X (.Pass pos) sNil := weakS ps_pass fun E σV H ⟨L, σ, h, hr, sr, q⟩ => q L H σV LeS.refl hr sr
def sBreak : SM := fun σ h => .bk σ h
def sCont : SM := fun σ h => .ct σ h
theorem sndS_break : SndS X (.Break pos) sBreak := weakS ps_break fun E σV H ⟨L, σ, h, hr, sr, q⟩ => q L H σV LeS.refl hr sr
theorem sndS_cont : SndS X (.Continue pos) sCont := weakS ps_continue fun E σV H ⟨L, σ, h, hr, sr, q⟩ => q L H σV LeS.refl hr sr
theorem sndB_cons {m n : SM} (h1 : SndS X st m) (h2 : SndB X sts n) : SndB X (st :: sts) (sSeq m n) := by
  refine weakB (pss_cons h1 h2) fun E σV H ⟨L, σ, h, hr, sr, q⟩ => ⟨L, σ, h, hr, sr, ?_⟩
  unfold sSeq at q
  cases e : m σ h with
  | nx σ' h' => rw [e] at q; exact fun L' H' σV' l' hr' sr' => ⟨L', σ', h', hr', sr', Post.mono q l'⟩
  | bk σ' h' => rw [e] at q; exact q
  | ct σ' h' => rw [e] at q; exact q
  | rt d h' => rw [e] at q; exact q
  | bad => rw [e] at q; exact q.elim
def eDo {α : Type} (r : R α) (f : α → Hs → RS) : RS := match r with
  | .ok a h => f a h
  | .bad => .bad
theorem eDo_case {α : Type} {K : PySem.W.Frag} {E : Ends} {L : Lay} {H : Hp} {σV : Sv} {σ : Sg} {r : R α} {f : α → Hs → RS} (q : Post K E L H σV σ (eDo r f)) : ∃ x h1, r = .ok x h1 ∧ Post K E L H σV σ (f x h1) := by
  cases r with
  | ok x h1 => exact ⟨x, h1, rfl, q⟩
  | bad => exact q.elim
def sExpr (m : EM) : SM := fun σ h => eDo (m σ h) fun _ h1 => .nx σ h1
theorem sndS_expr {m : EM} (he : SndE X e m) (hs : swapsWith e none pos.line X.env = pure false) : SndS X (.Expr e pos) (sExpr m) := by
  refine weakS (ps_expr he hs) fun E σV H ⟨L, σ, h, hr, sr, q⟩ => ?_
  obtain ⟨x, h1, e1, q⟩ := eDo_case q
  exact ⟨L, σ, h, x, h1, hr, sr, e1, fun L1 H1 v l1 r1 _ => q L1 H1 σV (LeS.of0 l1) r1 (sr.le l1)⟩
def sRet (m : EM) : SM := fun σ h => eDo (m σ h) fun d h1 => .rt d h1
theorem sndS_ret {m : EM} (he : SndE X e m) : SndS X (.Return (some e) pos) (sRet m) := by
  refine weakS (ps_ret he) fun E σV H ⟨L, σ, h, hr, sr, q⟩ => ?_
  obtain ⟨x, h1, e1, q⟩ := eDo_case q
  exact ⟨L, σ, h, x, h1, hr, sr, e1, fun L1 H1 v l1 r1 q1 => q L1 H1 v l1.any r1 q1⟩
def sRetN : SM := fun _ h => .rt .non h
theorem sndS_retN : SndS X (.Return none pos) sRetN := weakS ps_retN fun E σV H ⟨L, σ, h, hr, sr, q⟩ => q L H _ Le.refl hr .non
def sIf (t : TM) (m n : SM) : SM := fun σ h => eDo (t σ h) fun b h1 => match b with
  | true => m σ h1
  | false => n σ h1
theorem sndS_if {t : TM} {m n : SM} {as bs : List Stmt} (hc : SndT X c t) (ha : SndB X as m) (hb : SndB X bs n) : SndS X (.If c as bs pos) (sIf t m n) := by
  refine weakS (ps_if hc ha hb) fun E σV H ⟨L, σ, h, hr, sr, q⟩ => ?_
  obtain ⟨x, h1, e1, q⟩ := eDo_case q
  refine ⟨L, σ, h, x, h1, hr, sr, e1, fun L1 H1 l1 r1 => ?_⟩
  have q' := Post.mono q (LeS.of0 l1)
  cases x with
  | true => exact ⟨L1, σ, h1, r1, sr.le l1, q'⟩
  | false => exact ⟨L1, σ, h1, r1, sr.le l1, q'⟩

abbrev XM := Sg → Hs → R Sl
def RdX (K : PySem.W.Frag) (m : XM) : TE := fun σV H Q => ∃ (L : Lay) (σ : Sg) (h : Hs) (s : Sl) (h' : Hs), HRel K L H h ∧ SRel K L H σV σ ∧ m σ h = .ok s h' ∧
  ∀ L' H' v, Le0 L H L' H' → HRel K L' H' h' → RepSl K L' H' (some v) s → (∀ p, s.owned = true → v = .ref p → H p = none) → Q v H'
def SndX (X : Cx) (e : Expr) (m : XM) : Prop := PE X e (RdX X.K m)
def xVal (m : EM) : XM := fun σ h => (m σ h).bind fun d h1 => .ok (.val d) h1
theorem sndX_val {m : EM} (h : SndE X e m) : SndX X e (xVal m) := by
  refine weakE h fun σV H Q ⟨L, σ, h, s, h', hr, sr, em, k⟩ => ?_
  obtain ⟨x, h1, e1, em⟩ := bind_some em
  cases em
  exact ⟨L, σ, h, x, _, hr, sr, e1, fun L1 H1 v l1 r1 q1 => k L1 H1 v l1 r1 ⟨v, rfl, q1⟩ fun _ z => by cases z⟩
def xOwn (m : LM) : XM := fun σ h => (m σ h).bind fun xs h1 => .ok (.own xs) h1
theorem conv_own {K : PySem.W.Frag} {m : LM} {σV : Sv} {H : Hp} {Q : VK} (q : RdX K (xOwn m) σV H Q) : RdL K m σV H Q := by
  obtain ⟨L, σ, h, s, h', hr, sr, em, k⟩ := q
  obtain ⟨x, h1, e1, em⟩ := bind_some em
  cases em
  exact ⟨L, σ, h, x, _, hr, sr, e1, fun L1 H1 p vs l1 r1 hp f m e r => k L1 H1 _ l1 r1 ⟨p, vs, rfl, e, f, m, r⟩ fun q _ z => by cases z; exact hp⟩
def xHeap (m : LM) : XM := fun σ h => (m σ h).bind fun xs h1 => .ok (.val (.ref h1.length)) (h1 ++ [.lst xs])
def Lay.more (L : Lay) (q : Addr × List Addr) : Lay := { L with ob := L.ob ++ [q] }
theorem Lay.more_M {L : Lay} {q : Addr × List Addr} {p : Addr} : (L.more q).M p ↔ L.M p ∨ p = q.1 ∨ p ∈ q.2 := by
  unfold Lay.M Lay.more
  simp only [List.mem_append, List.mem_singleton]
  constructor
  · rintro ⟨r, hr | rfl, h⟩
    · exact .inl ⟨r, hr, h⟩
    · exact .inr h
  · rintro (⟨r, hr, h⟩ | h)
    · exact ⟨r, .inl hr, h⟩
    · exact ⟨q, .inr rfl, h⟩
theorem more_at {L : Lay} {q : Addr × List Addr} {n : Nat} {a : Addr} (h : L.at n = some a) : (L.more q).at n = some a := by
  unfold Lay.at Lay.more at *
  obtain ⟨r, e, rfl⟩ := Option.map_eq_some_iff.mp h
  rw [List.getElem?_append_left (List.getElem?_eq_some_iff.mp e).1, e]
  rfl
theorem HRel.more {K : PySem.W.Frag} {L : Lay} {H : Hp} {h : Hs} {p : Addr} {vs : List V} {xs : List D} (s : HRel K L H h) (f : L.F p = none) (m : ¬ L.M p) (e : H p = some (.lst vs)) (r : Reps K L vs xs) : HRel K (L.more (p, [])) H (h ++ [.lst xs]) := by
  refine ⟨s.sub, fun q hq => ?_, fun q hq => ?_, ?_, ?_, fun n q o e1 e2 => ?_⟩
  · rcases Lay.more_M.mp hq with h | rfl | h
    · exact s.nm q h
    · exact f
    · cases h
  · rcases Lay.more_M.mp hq with h | rfl | h
    · exact s.mt q h
    · rw [e]; intro z; cases z
    · cases h
  · show ((L.ob ++ [(p, [])]).flatMap fun (q : Addr × List Addr) => q.1 :: q.2).Nodup
    rw [List.flatMap_append, List.nodup_append]
    refine ⟨s.nd, by simp, fun x hx y hy z => ?_⟩
    simp at hy
    subst hy; subst z
    obtain ⟨q, hq, hx⟩ := List.mem_flatMap.mp hx
    exact m ⟨q, hq, by rcases List.mem_cons.mp hx with h | h; exact .inl h; exact .inr h⟩
  · show (L.ob ++ [_]).length = _
    simp [s.len]
  · have e1 : (L.ob ++ [(p, [])])[n]? = some q := e1
    by_cases hn : n < L.ob.length
    · rw [List.getElem?_append_left hn] at e1
      rw [List.getElem?_append_left (by rw [← s.len]; exact hn)] at e2
      exact (s.ob n q o e1 e2).le (fun _ _ e => e) (fun _ _ e => more_at e) fun _ _ _ e => e
    · have hn' : n = L.ob.length := by
        have := (List.getElem?_eq_some_iff.mp e1).1
        simp at this
        omega
      subst hn'
      rw [List.getElem?_append_right (Nat.le_refl _), Nat.sub_self] at e1
      rw [List.getElem?_append_right (by rw [s.len]; exact Nat.le_refl _), s.len, Nat.sub_self] at e2
      cases e1; cases e2
      exact ⟨rfl, vs, e, Reps.mono (L := L) (L' := L.more (p, [])) (fun _ _ e => e) (fun _ _ e => more_at e) r⟩
theorem Le.more {O : Addr → Prop} {L L1 : Lay} {H H1 : Hp} {p : Addr} (l : Le O L H L1 H1) (hp : H p = none ∨ O p) : Le O L H (L1.more (p, [])) H1 :=
  ⟨l.F, l.Fn, fun n a h => more_at (l.ob n a h), fun q hq => by
    rcases Lay.more_M.mp hq with h | rfl | h
    · exact l.M q h
    · exact .inr hp
    · exact (List.not_mem_nil h).elim, l.fr, l.th⟩
theorem conv_heap {K : PySem.W.Frag} {m : LM} {σV : Sv} {H : Hp} {Q : VK} (q : RdX K (xHeap m) σV H Q) : RdL K m σV H Q := by
  obtain ⟨L, σ, h, s, h', hr, sr, em, k⟩ := q
  obtain ⟨x, h1, e1, em⟩ := bind_some em
  cases em
  refine ⟨L, σ, h, x, h1, hr, sr, e1, fun L1 H1 p vs l1 r1 hp f m e r => k (L1.more (p, [])) H1 _ (l1.more (.inl hp)) (r1.more f m e r) ⟨_, rfl, .ref ?_⟩ fun q z => by cases z⟩
  unfold Lay.at Lay.more
  rw [List.getElem?_append_right (by rw [r1.len]; exact Nat.le_refl _), r1.len, Nat.sub_self]
  rfl

theorem conv_val {K : PySem.W.Frag} {m : LM} {σV : Sv} {H : Hp} {Q : VK} (q : RdX K (xVal (eFrz m)) σV H Q) : RdL K m σV H Q := by
  obtain ⟨L, σ, h, s, h', hr, sr, em, k⟩ := q
  obtain ⟨d, h1, e1, em⟩ := bind_some em
  obtain ⟨x, h2, e2, e1⟩ := bind_some e1
  cases e1; cases em
  refine ⟨L, σ, h, x, _, hr, sr, e2, fun L1 H1 p vs l1 r1 hp f m e r => k _ _ _ (l1.freeze f (.inl hp)) (r1.freeze e f m) ⟨_, rfl, .lst upd_same (Reps.mono (L := L1) (L' := L1.put p (HO.lst vs)) (fun q w e => ?_) (fun _ _ e => e) r)⟩ fun _ z => by cases z⟩
  show L2.upd L1.F p _ q = some w
  rw [upd_ne (ne_of_none e f)]; exact e
theorem SndL.toX {m : LM} (h : SndL X e m) : SndX X e (xOwn m) := weakE h fun _ _ _ q => conv_own q
theorem SndL.toH {m : LM} (h : SndL X e m) : SndX X e (xHeap m) := weakE h fun _ _ _ q => conv_heap q
def sSet (i : Nat) (m : XM) : SM := fun σ h => eDo (m σ h) fun s h1 => match setS σ i s with
  | some σ' => .nx σ' h1
  | none => .bad
theorem leS_set {K : PySem.W.Frag} {L L1 : Lay} {H H1 : Hp} {σV : Sv} {σ σ' : Sg} {i : Nat} {s : Sl} {v : V} (sr : SRel K L H σV σ) (l1 : Le0 L H L1 H1) (r : RepSl K L1 H1 (some v) s) (fr : ∀ p, s.owned = true → v = .ref p → H p = none) (ns : ∀ xs, s ≠ .lent xs)
    (e : setS σ i s = some σ') : LeS L H σV σ L1 H1 (σV.set i (some v)) σ' ∧ SRel K L1 H1 (σV.set i (some v)) σ' := by
  obtain ⟨rfl, hi, nl⟩ := setS_ok e
  have tracked : ∀ (j : Nat) (t : Sl) p, σ[j]? = some t → t.owned = true → σV[j]? = some (some (.ref p)) → H p ≠ none := fun j t p e1 o e2 => by
    obtain ⟨x, ex, r⟩ := sr.sl j t e1
    rw [e2] at ex; cases ex
    cases t with
    | own xs => obtain ⟨p', vs, z, e, _⟩ := r; cases z; rw [e]; intro w; cases w
    | lent xs => obtain ⟨p', vs, z, e, _⟩ := r; cases z; rw [e]; intro w; cases w
    | ownd xs => obtain ⟨p', ks, vs, z, ⟨o, e, _⟩, _⟩ := r; cases z; rw [e]; intro w; cases w
    | val _ => cases o
    | no => cases o
  refine ⟨⟨l1.any, fun p ⟨j, t, e1, f, e2⟩ => ?_, fun j xs hj => ?_⟩, (sr.le l1).set hi r fun p o z j t hj e1 ot e2 => tracked j t p e1 ot e2 (fr p o z)⟩
  · by_cases hj : i = j
    · subst hj
      rw [List.getElem?_set_self hi] at e1; cases e1
      rw [List.getElem?_set_self (by rw [sr.len]; exact hi)] at e2
      have e2 : v = .ref p := by simpa using e2
      exact .inr (fr p (by cases s <;> first | rfl | cases f) e2)
    · rw [List.getElem?_set_ne hj] at e1 e2
      exact .inl ⟨j, t, e1, f, e2⟩
  · have z : i ≠ j := fun z => by subst z; exact nl xs hj
    rw [List.getElem?_set_ne z, List.getElem?_set_ne z]
    exact ⟨hj, rfl⟩
def Sl.plain : Sl → Bool
  | .lent _ => false
  | _ => true
def XPlain (m : XM) : Prop := ∀ σ h s h', m σ h = .ok s h' → ∀ xs, s ≠ .lent xs
theorem xVal_plain {m : EM} : XPlain (xVal m) := fun σ h s h' e xs z => by
  obtain ⟨x, h1, e1, e⟩ := bind_some e
  cases e; cases z
theorem xOwn_plain {m : LM} : XPlain (xOwn m) := fun σ h s h' e xs z => by
  obtain ⟨x, h1, e1, e⟩ := bind_some e
  cases e; cases z
theorem xHeap_plain {m : LM} : XPlain (xHeap m) := fun σ h s h' e xs z => by
  obtain ⟨x, h1, e1, e⟩ := bind_some e
  cases e; cases z
theorem set_rd {K : PySem.W.Frag} {i : Nat} {m : XM} {E : Ends} {σV : Sv} {H : Hp} (pl : XPlain m) (q : RdS K (sSet i m) E σV H) : RdX K m σV H fun v H1 => gName i v σV H1 E.nx := by
  obtain ⟨L, σ, h, hr, sr, q⟩ := q
  obtain ⟨s, h1, e1, q⟩ := eDo_case q
  refine ⟨L, σ, h, s, h1, hr, sr, e1, fun L1 H1 v l1 r1 q1 fr => ?_⟩
  cases e : setS σ i s with
  | none => rw [e] at q; exact q.elim
  | some σ' =>
    rw [e] at q
    obtain ⟨l, sr'⟩ := leS_set sr l1 q1 fr (pl σ h s h1 e1) e
    exact q L1 H1 _ l r1 sr'
theorem sndS_set {i : Nat} {x : Str} {m : XM} {pos' : Pos} (hN : X.N.Nodup) (hi : X.N[i]? = some x) (hx : Loc X.env.scope x) (he : SndX X e m) (pl : XPlain m) (hs : swapsWith e (some (.Name x pos')) pos.line X.env = pure false) (hf : X.fn x = true ∨ X.env.scope.names.lookup x = some .local) :
    SndS X (.Assign [.Name x pos'] e pos) (sSet i m) :=
  weakS (ps_set hN hi hx he hs hf) fun E σV H q => set_rd pl q
def sAsg (t : GT) (m : EM) : SM := fun σ h => eDo (m σ h) fun d h1 => match t d σ with
  | some σ' => .nx σ' h1
  | none => .bad
theorem leS_tg {L L1 : Lay} {H H1 : Hp} {σV σV' : Sv} {σ σ' : Sg} {vs : List Nat} (l1 : Le0 L H L1 H1) (t : TgR vs σV σ σV' σ') : LeS L H σV σ L1 H1 σV' σ' := ⟨l1.any, fun p h => .inl (t.own p h), t.kp⟩
theorem sndS_asg {tg : Expr} {t : GT} {m : EM} {vs : List Nat} (he : SndE X e m) (hg : SndG X tg vs t) (hs : swapsWithSole [tg] e pos.line X.env = pure false) (hw : swappedStores [tg] e X.env = pure none) (h1 : (assignEach [tg] X.env).map (·.2) = [assign tg X.env]) :
    SndS X (.Assign [tg] e pos) (sAsg t m) := by
  refine weakS (ps_asg he hg hs hw h1) fun E σV H ⟨L, σ, h, hr, sr, q⟩ => ?_
  obtain ⟨d, h1, e1, q⟩ := eDo_case q
  refine ⟨L, σ, h, d, h1, hr, sr, e1, fun L1 H1 v l1 r1 q1 => ?_⟩
  cases e : t d σ with
  | none => rw [e] at q; exact q.elim
  | some σ' =>
    rw [e] at q
    exact ⟨L1, σ, d, σ', sr.le l1, q1, r1.sub, e, fun σV' sr' tg => q L1 H1 σV' (leS_tg l1 tg) r1 sr'⟩
def frzS (σ : Sg) (i : Nat) : Sg := match σ[i]? with
  | some (.own xs) => σ.set i (.val (.lst xs))
  | some (.ownd kvs) => σ.set i (.val (.dct kvs))
  | _ => σ
def sFrz (is : List Nat) (m : SM) : SM := fun σ h => m (is.foldl frzS σ) h
theorem frz_one {K : PySem.W.Frag} {L : Lay} {H : Hp} {h : Hs} {σV : Sv} {σ : Sg} (i : Nat) (hr : HRel K L H h) (sr : SRel K L H σV σ) : ∃ L', LeS L H σV σ L' H σV (frzS σ i) ∧ HRel K L' H h ∧ SRel K L' H σV (frzS σ i) := by
  unfold frzS
  split
  · rename_i xs e
    obtain ⟨x, ex, p, vs, rfl, ep, f, m, r⟩ := sr.sl i _ e
    have hi := (List.getElem?_eq_some_iff.mp e).1
    have lF : ∀ q w, L.F q = some w → (L.put p (.lst vs)).F q = some w := fun q w e' => by
      show L2.upd L.F p _ q = some w
      rw [upd_ne (ne_of_none e' f)]; exact e'
    have r' : Reps K (L.put p (.lst vs)) vs xs := r.mono lF fun _ _ e => e
    refine ⟨L.put p (.lst vs), ⟨Le.refl.freeze f (.inr ⟨i, _, e, rfl, ex⟩), fun q ⟨j, t, e1, ft, e2⟩ => ?_, fun j ys hj => ?_⟩, hr.freeze ep f m, ⟨by simp [sr.len], fun j t ht => ?_, fun j k t u q e1 e2 o1 o2 z1 z2 => ?_⟩⟩
    · by_cases z : i = j
      · subst z; rw [List.getElem?_set_self hi] at e1; cases e1; cases ft
      · rw [List.getElem?_set_ne z] at e1; exact .inl ⟨j, t, e1, ft, e2⟩
    · have z : i ≠ j := fun z => by subst z; rw [e] at hj; cases hj
      rw [List.getElem?_set_ne z]; exact ⟨hj, rfl⟩
    · by_cases z : i = j
      · subst z
        rw [List.getElem?_set_self hi] at ht; cases ht
        exact ⟨_, ex, _, rfl, .lst upd_same r'⟩
      · rw [List.getElem?_set_ne z] at ht
        obtain ⟨y, ey, ry⟩ := sr.sl j t ht
        refine ⟨y, ey, ?_⟩
        have np : ∀ q, t.owned = true → y = some (.ref q) → q ≠ p := fun q o z2 w => by
          subst w; subst z2
          exact z (sr.ap i j _ t q e ht rfl o ex ey)
        cases t with
        | no => trivial
        | val d => obtain ⟨v, e1, r1⟩ := ry; exact ⟨v, e1, r1.mono lF fun _ _ e => e⟩
        | own zs =>
          obtain ⟨q, us, e1, e2, e3, e4, r1⟩ := ry
          refine ⟨q, us, e1, e2, ?_, e4, r1.mono lF fun _ _ e => e⟩
          show L2.upd L.F p _ q = none
          rw [upd_ne (np q rfl e1)]; exact e3
        | lent zs =>
          obtain ⟨q, us, e1, e2, e3, e4, r1⟩ := ry
          refine ⟨q, us, e1, e2, ?_, e4, r1.mono lF fun _ _ e => e⟩
          show L2.upd L.F p _ q = none
          rw [upd_ne (np q rfl e1)]; exact e3
        | ownd zs =>
          obtain ⟨q, ks, us, e1, e2, e3, e4, e5, ds, r1, e6⟩ := ry
          refine ⟨q, ks, us, e1, e2, e3, ?_, e5, ds, r1.mono lF fun _ _ e => e, e6⟩
          show L2.upd L.F p _ q = none
          rw [upd_ne (np q rfl e1)]; exact e4
    · have n1 : i ≠ j := fun z => by subst z; rw [List.getElem?_set_self hi] at e1; cases e1; cases o1
      have n2 : i ≠ k := fun z => by subst z; rw [List.getElem?_set_self hi] at e2; cases e2; cases o2
      rw [List.getElem?_set_ne n1] at e1
      rw [List.getElem?_set_ne n2] at e2
      exact sr.ap j k t u q e1 e2 o1 o2 z1 z2
  · rename_i kvs e
    obtain ⟨x, ex, p, ks, vs, rfl, ⟨o, ep, mu⟩, dg, f, m, ds, r, ek⟩ := sr.sl i _ e
    have hi := (List.getElem?_eq_some_iff.mp e).1
    have lF : ∀ q w, L.F q = some w → (L.put p o).F q = some w := fun q w e' => by
      show L2.upd L.F p _ q = some w
      rw [upd_ne (ne_of_none e' f)]; exact e'
    have r' : Reps K (L.put p o) vs ds := r.mono lF fun _ _ e => e
    have dg' : DG (L.put p o).F p ks vs := by
      have e' : (L.put p o).F p = some o := upd_same
      rcases dg with ⟨kv, rr, q⟩ | ⟨kv, rr, q⟩
      · refine .inl ⟨kv, ?_, q⟩
        rcases rr with rr | ⟨o', rr⟩
        · rw [ep] at rr; cases rr; exact .inl e'
        · rw [ep] at rr; cases rr; exact .inr ⟨o', e'⟩
      · refine .inr ⟨kv, ?_, q⟩
        rw [ep] at rr; cases rr; exact e'
    refine ⟨L.put p o, ⟨Le.refl.freeze f (.inr ⟨i, _, e, rfl, ex⟩), fun q ⟨j, t, e1, ft, e2⟩ => ?_, fun j ys hj => ?_⟩, hr.freeze ep f m, ⟨by simp [sr.len], fun j t ht => ?_, fun j k t u q e1 e2 o1 o2 z1 z2 => ?_⟩⟩
    · by_cases z : i = j
      · subst z; rw [List.getElem?_set_self hi] at e1; cases e1; cases ft
      · rw [List.getElem?_set_ne z] at e1; exact .inl ⟨j, t, e1, ft, e2⟩
    · have z : i ≠ j := fun z => by subst z; rw [e] at hj; cases hj
      rw [List.getElem?_set_ne z]; exact ⟨hj, rfl⟩
    · by_cases z : i = j
      · subst z
        rw [List.getElem?_set_self hi] at ht; cases ht
        exact ⟨_, ex, _, rfl, by rw [ek]; exact .dct dg' r'⟩
      · rw [List.getElem?_set_ne z] at ht
        obtain ⟨y, ey, ry⟩ := sr.sl j t ht
        refine ⟨y, ey, ?_⟩
        have np : ∀ q, t.owned = true → y = some (.ref q) → q ≠ p := fun q o z2 w => by
          subst w; subst z2
          exact z (sr.ap i j _ t q e ht rfl o ex ey)
        cases t with
        | no => trivial
        | val d => obtain ⟨v, e1, r1⟩ := ry; exact ⟨v, e1, r1.mono lF fun _ _ e => e⟩
        | own zs =>
          obtain ⟨q, us, e1, e2, e3, e4, r1⟩ := ry
          refine ⟨q, us, e1, e2, ?_, e4, r1.mono lF fun _ _ e => e⟩
          show L2.upd L.F p _ q = none
          rw [upd_ne (np q rfl e1)]; exact e3
        | lent zs =>
          obtain ⟨q, us, e1, e2, e3, e4, r1⟩ := ry
          refine ⟨q, us, e1, e2, ?_, e4, r1.mono lF fun _ _ e => e⟩
          show L2.upd L.F p _ q = none
          rw [upd_ne (np q rfl e1)]; exact e3
        | ownd zs =>
          obtain ⟨q, ks, us, e1, e2, e3, e4, e5, ds, r1, e6⟩ := ry
          refine ⟨q, ks, us, e1, e2, e3, ?_, e5, ds, r1.mono lF fun _ _ e => e, e6⟩
          show L2.upd L.F p _ q = none
          rw [upd_ne (np q rfl e1)]; exact e4
    · have n1 : i ≠ j := fun z => by subst z; rw [List.getElem?_set_self hi] at e1; cases e1; cases o1
      have n2 : i ≠ k := fun z => by subst z; rw [List.getElem?_set_self hi] at e2; cases e2; cases o2
      rw [List.getElem?_set_ne n1] at e1
      rw [List.getElem?_set_ne n2] at e2
      exact sr.ap j k t u q e1 e2 o1 o2 z1 z2
  · exact ⟨L, LeS.refl, hr, sr⟩
theorem frz_all {K : PySem.W.Frag} {H : Hp} {h : Hs} {σV : Sv} : ∀ (is : List Nat) {L : Lay} {σ : Sg}, HRel K L H h → SRel K L H σV σ → ∃ L', LeS L H σV σ L' H σV (is.foldl frzS σ) ∧ HRel K L' H h ∧ SRel K L' H σV (is.foldl frzS σ)
  | [], L, σ, hr, sr => ⟨L, LeS.refl, hr, sr⟩
  | i :: is, L, σ, hr, sr => by
    obtain ⟨L1, l1, r1, s1⟩ := frz_one i hr sr
    obtain ⟨L2, l2, r2, s2⟩ := frz_all is r1 s1
    exact ⟨L2, l1.trans l2, r2, s2⟩
theorem frz_rd {K : PySem.W.Frag} {is : List Nat} {m : SM} {E : Ends} {σV : Sv} {H : Hp} (q : RdS K (sFrz is m) E σV H) : RdS K m E σV H := by
  obtain ⟨L, σ, h, hr, sr, q⟩ := q
  obtain ⟨L', l, hr', sr'⟩ := frz_all is hr sr
  exact ⟨L', _, h, hr', sr', Post.mono q l⟩
theorem sndS_frz {is : List Nat} {m : SM} (h : SndS X st m) : SndS X st (sFrz is m) := weakS h fun E σV H q => frz_rd q
end
end WC
set_option Elab.async false
set_option linter.all false
set_option maxRecDepth 100000
namespace WC
open PySem PySem.Spec PyProof.Rows L2
section
variable {X : Cx} {st : Stmt} {sts : List Stmt} {e a b c : Expr} {es : List Expr} {pos : Pos}

def lLst (ms : AM) : LM := fun σ h => (ms σ h).bind fun xs h1 => if xs.length ≤ sizeLine then .ok xs h1 else .bad
theorem new_F {K : PySem.W.Frag} {L : Lay} {H : Hp} {h : Hs} {p : Addr} (s : HRel K L H h) (hp : H p = none) : L.F p = none ∧ ¬ L.M p := by
  refine ⟨?_, fun z => s.mt p z hp⟩
  cases e : L.F p with
  | none => rfl
  | some w => rw [s.sub _ _ e] at hp; cases hp
theorem fresh_back {L L1 : Lay} {H H1 : Hp} {O : Addr → Prop} {p : Addr} (l : Le O L H L1 H1) (hp : H1 p = none) : H p = none := Classical.byContradiction fun z => l.th p z hp
theorem sndL_lst {ms : AM} (h : SndA X es ms) : SndL X (.List es pos) (lLst ms) := by
  refine weakE (pe_lst h) fun σV H Q ⟨L, σ, h, d, h', hr, sr, em, k⟩ => ?_
  obtain ⟨xs, h1, e1, em⟩ := bind_some em
  obtain ⟨hz, e2, e3⟩ := ite_ok em
  subst e2; subst e3
  refine ⟨L, σ, h, xs, h1, hr, sr, e1, fun L1 H1 vs l1 r1 q1 => ⟨by rw [q1.length]; exact hz, fun p hp => ?_⟩⟩
  obtain ⟨f, m⟩ := new_F r1 hp
  have hp0 := fresh_back l1 hp
  exact k L1 _ p vs (l1.upd hp0) (r1.upd f m) hp0 f m upd_same q1
def lRep (ma mb : EM) : LM := fun σ h => (ma σ h).bind fun x h1 => (mb σ h1).bind fun y h2 => match asL h2 x, y with
  | some xs, .int k => if k < 2 ^ 63 ∧ -(2 ^ 63) ≤ k ∧ xs.length * k.toNat ≤ sizeLine then .ok (List.replicate k.toNat xs).flatten h2 else .bad
  | _, _ => .bad
theorem sndL_rep {ma mb : EM} (ha : SndO X a ma) (hb : SndO X b mb) : SndL X (.BinOp a .Mult b pos) (lRep ma mb) := by
  refine weakE (pe_op op_rep ha hb) fun σV H Q ⟨L, σ, h, d, h', hr, sr, em, k⟩ => ?_
  obtain ⟨x, h1, e1, em⟩ := bind_some em
  obtain ⟨y, h2, e2, em⟩ := bind_some em
  refine ⟨L, σ, h, x, h1, hr, sr, e1, fun L1 H1 v1 l1 r1 q1 => ⟨L1, σ, h1, y, h2, r1, sr.le l1, e2, fun L2 H2 v2 l2 r2 q2 => ?_⟩⟩
  split at em
  · rename_i xs kk ex
    obtain ⟨hk, e3, e4⟩ := ite_ok em
    subst e3; subst e4
    obtain ⟨p1, vs, rfl, t1, rr⟩ := asL_ok r2 (q1.le l2) ex
    refine ⟨p1, kk, vs, rfl, q2.int, t1, hk.2.1, hk.1, by rw [rr.length]; exact hk.2.2, fun pp hp => ?_⟩
    obtain ⟨f, m⟩ := new_F r2 hp
    have hp0 := fresh_back (l1.trans0 l2) hp
    exact k L2 _ pp _ ((l1.trans0 l2).upd hp0) (r2.upd f m) hp0 f m upd_same (rr.rep _)
  · cases em
def lListOf (ms : AM) : LM := fun σ h => (ms σ h).bind fun xs h1 => match xs with
  | [.scr ys] => .ok ys h1
  | [x] => optR (asS h1 x) h1
  | _ => .bad
theorem sndL_listOf {x : Str} {p : Pos} {ms : AM} (hx : x = ("list" : Str)) (hg : Gl X x) (hm : X.mg x = none) (ha : SndAO X (e :: es) ms)
    (he : starEach (e :: es) X.env = (false, eval e X.env) :: starEach es X.env) (hpl : (backTo pos (starEach es X.env)).any (·.1) = false) : SndL X (.Call (.Name x p) (e :: es) [] pos) (lListOf ms) := by
  subst hx
  refine weakE (pe_callTy call_list_of hg hm (by decide +kernel) ha (by decide) (by decide) he hpl) fun σV H Q ⟨L, σ, h, d, h', hr, sr, em, k⟩ => ?_
  obtain ⟨xs, h1, e1, em⟩ := bind_some em
  refine ⟨L, σ, h, xs, h1, hr, sr, e1, fun L1 H1 vs l1 r1 q1 => ?_⟩
  split at em
  · cases em
    obtain ⟨v, rfl, r⟩ := ro1 q1
    rcases r with r | ⟨_, e, _⟩ | ⟨_, e, _⟩
    · cases r with
      | scr f r =>
        refine ⟨_, _, rfl, .inl (r1.sqL f), fun l hl => ?_⟩
        obtain ⟨f, m⟩ := new_F r1 hl
        have hp0 := fresh_back l1 hl
        exact k L1 _ l _ (l1.upd hp0) (r1.upd f m) hp0 f m upd_same r
    · cases e
    · cases e
  · obtain ⟨e2, eh⟩ := optR_ok em
    subst eh
    obtain ⟨v, rfl, r⟩ := ro1 q1
    obtain ⟨q, vs, rfl, h1', rr⟩ := asS_ok r1 r e2
    refine ⟨q, vs, rfl, ?_, fun l hl => ?_⟩
    · rcases h1' with ⟨_, _, h1⟩ | ⟨h1, _⟩
      · exact .inr h1
      · exact .inl h1
    · obtain ⟨f, m⟩ := new_F r1 hl
      have hp0 := fresh_back l1 hl
      exact k L1 _ l _ (l1.upd hp0) (r1.upd f m) hp0 f m upd_same rr
  · cases em
theorem sndS_setLc {i : Nat} {y : Str} {py : Pos} {elt tg iter : Expr} {ifs : List Expr} {scope : Scope} {own : List (Str × Nat)} {spos : Pos} {bs : List Nat} {m : IM} {t : GT} {tt : TM} {te : EM} {xm : XM} (hc : X.calm = true) (hN : X.N.Nodup) (hy : X.N[i]? = some y) (hyl : X.env.scope.names.lookup y = some .local)
    (hsw : swapsWith (.ListComp elt [⟨tg, iter, ifs, 0⟩] scope pos) (some (.Name y py)) spos.line X.env = pure true) (hi : SndI X tg iter bs m) (ok : BlkOk X.N X.env.scope scope own)
    (hg : ∀ (s : Shared) (H : Hp) (C : Addr) (cl : List (Str × Addr)) (fp : List Addr), SndG (X.blk s H scope (compEnvC scope cl C X.env) fp) tg (own.map (·.2)) t) (ht : ∀ (s : Shared) (H : Hp) (C : Addr) (cl : List (Str × Addr)) (fp : List Addr), SndTs (X.blk s H scope (compEnvC scope cl C X.env) fp) ifs tt)
    (he : ∀ (s : Shared) (H : Hp) (C : Addr) (cl : List (Str × Addr)) (fp : List Addr), SndE (X.blk s H scope (compEnvC scope cl C X.env) fp) elt te) (hs : ∀ x, foldedSetIterable iter X.env x = pure x)
    (conv : ∀ σV H Q, RdX X.K xm σV H Q → RdL X.K (lcL m t tt te (own.map (·.2))) σV H Q) (pl : XPlain xm) :
    SndS X (.Assign [.Name y py] (.ListComp elt [⟨tg, iter, ifs, 0⟩] scope pos) spos) (sSet i xm) :=
  weakS (ps_setLc (wi := RdI X.K bs m) (g := RdG X.K (own.map fun (x : Str × Nat) => x.2) t) (tt := RdT X.K tt) (te := RdE X.K te) hc hN hy hyl hsw hi ok hg ht he hs) fun E σV H q => lc_rd (conv _ _ _ (set_rd pl q))

def xsNil : Sg → Hs → R (List Sl) := fun _ h => .ok [] h
def xsCons (m : XM) (ms : Sg → Hs → R (List Sl)) : Sg → Hs → R (List Sl) := fun σ h => (m σ h).bind fun x h1 => (ms σ h1).bind fun xs h2 => .ok (x :: xs) h2
def RepXs (K : PySem.W.Frag) (L : Lay) (H0 H : Hp) : List V → List Sl → Prop
  | [], [] => True
  | v :: vs, s :: ss => RepSl K L H (some v) s ∧ (∀ p, s.owned = true → v = .ref p → H0 p = none ∧ ∀ (j : Nat) (t : Sl), ss[j]? = some t → t.owned = true → vs[j]? ≠ some (.ref p)) ∧ RepXs K L H0 H vs ss
  | _, _ => False
def RdXs (K : PySem.W.Frag) (m : Sg → Hs → R (List Sl)) : TA := fun σV H Q => ∃ (L : Lay) (σ : Sg) (h : Hs) (s : List Sl) (h' : Hs), HRel K L H h ∧ SRel K L H σV σ ∧ m σ h = .ok s h' ∧
  ∀ L' H' v, Le0 L H L' H' → HRel K L' H' h' → RepXs K L' H H' v s → Q v H'
def SndXs (X : Cx) (es : List Expr) (m : Sg → Hs → R (List Sl)) : Prop := PA X es (RdXs X.K m)
theorem sndXs_nil : SndXs X [] xsNil := weakA pa_nil fun σV H Q ⟨L, σ, h, d, h', hr, sr, em, k⟩ => by cases em; exact k L H [] Le.refl hr trivial
theorem RepXs.fresh {K : PySem.W.Frag} {L : Lay} {H0 H : Hp} : ∀ {vs : List V} {ss : List Sl}, RepXs K L H0 H vs ss → ∀ (j : Nat) (t : Sl) p, ss[j]? = some t → t.owned = true → vs[j]? = some (.ref p) → H0 p = none
  | [], [], _, j, t, p, e, _, _ => by simp at e
  | v :: vs, s :: ss, r, 0, t, p, e, o, ev => by
    simp at e ev; subst e; subst ev
    exact (r.2.1 p o rfl).1
  | v :: vs, s :: ss, r, j + 1, t, p, e, o, ev => RepXs.fresh r.2.2 j t p (by simpa using e) o (by simpa using ev)
theorem RepXs.le0 {K : PySem.W.Frag} {L : Lay} {H0 H1 H : Hp} (b : ∀ p, H1 p = none → H0 p = none) : ∀ {vs : List V} {ss : List Sl}, RepXs K L H1 H vs ss → RepXs K L H0 H vs ss
  | [], [], _ => trivial
  | v :: vs, s :: ss, r => ⟨r.1, fun p o e => ⟨b p (r.2.1 p o e).1, (r.2.1 p o e).2⟩, RepXs.le0 b r.2.2⟩
theorem sndXs_cons {m : XM} {ms : Sg → Hs → R (List Sl)} (he : SndX X e m) (hes : SndXs X es ms) (hs : starEach (e :: es) X.env = (false, eval e X.env) :: starEach es X.env) : SndXs X (e :: es) (xsCons m ms) := by
  refine weakA (pa_cons he hes hs) fun σV H Q ⟨L, σ, h, d, h', hr, sr, em, k⟩ => ?_
  obtain ⟨x, h1, e1, em⟩ := bind_some em
  obtain ⟨xs, h2, e2, em⟩ := bind_some em
  cases em
  refine ⟨L, σ, h, x, h1, hr, sr, e1, fun L1 H1 v1 l1 r1 q1 fr => ⟨L1, σ, h1, xs, h', r1, sr.le l1, e2, fun L2 H2 vs l2 r2 q2 => ?_⟩⟩
  refine k L2 H2 (v1 :: vs) (l1.trans0 l2) r2 ⟨q1.le l2 fun _ _ _ z => z, fun p o ep => ⟨fr p o ep, fun j t ej ot ev => ?_⟩, q2.le0 fun p hp => fresh_back l1 hp⟩
  have n1 := q2.fresh j t p ej ot ev
  cases x with
  | own xs => obtain ⟨p', us, z, e, _⟩ := q1; cases z; cases ep; rw [e] at n1; cases n1
  | lent xs => obtain ⟨p', us, z, e, _⟩ := q1; cases z; cases ep; rw [e] at n1; cases n1
  | ownd xs => obtain ⟨p', ks, us, z, ⟨o, e, _⟩, _⟩ := q1; cases z; cases ep; rw [e] at n1; cases n1
  | val _ => cases o
  | no => cases o
def optS (o : Option Sg) (h : Hs) : RS := match o with
  | some σ' => .nx σ' h
  | none => .bad
def sPar2 (i j : Nat) (m : Sg → Hs → R (List Sl)) : SM := fun σ h => eDo (m σ h) fun ss h1 => match ss with
  | [s, t] => if s.plain && t.plain then optS ((setS σ i s).bind fun σ1 => setS σ1 j t) h1 else .bad
  | _ => .bad
def sPar3 (i j k : Nat) (m : Sg → Hs → R (List Sl)) : SM := fun σ h => eDo (m σ h) fun ss h1 => match ss with
  | [s, t, u] => if s.plain && t.plain && u.plain then optS (((setS σ i s).bind fun σ1 => setS σ1 j t).bind fun σ2 => setS σ2 k u) h1 else .bad
  | _ => .bad
theorem optS_post {K : PySem.W.Frag} {E : Ends} {L : Lay} {H : Hp} {σV : Sv} {σ : Sg} {o : Option Sg} {h : Hs} (q : Post K E L H σV σ (optS o h)) : ∃ σ', o = some σ' ∧ Post K E L H σV σ (.nx σ' h) := by
  cases o with
  | none => exact q.elim
  | some σ' => exact ⟨σ', rfl, q⟩
theorem ite_post {K : PySem.W.Frag} {E : Ends} {L : Lay} {H : Hp} {σV : Sv} {σ : Sg} {b : Bool} {r : RS} (q : Post K E L H σV σ (if b = true then r else .bad)) : b = true ∧ Post K E L H σV σ r := by
  cases b with
  | true => exact ⟨rfl, q⟩
  | false => exact q.elim
theorem plain_ne {s : Sl} (h : s.plain = true) : ∀ xs, s ≠ .lent xs := fun xs z => by subst z; cases h
theorem leS_more {K : PySem.W.Frag} {L L1 : Lay} {H H1 : Hp} {σV σV1 : Sv} {σ σ1 σ' : Sg} {i : Nat} {s : Sl} {v : V} (l : LeS L H σV σ L1 H1 σV1 σ1) (sr : SRel K L1 H1 σV1 σ1) (r : RepSl K L1 H1 (some v) s) (fr : ∀ p, s.owned = true → v = .ref p → H p = none)
    (ap : ∀ p, s.owned = true → v = .ref p → ∀ (j : Nat) (t : Sl), σ1[j]? = some t → t.owned = true → σV1[j]? ≠ some (some (.ref p))) (ns : ∀ xs, s ≠ .lent xs) (e : setS σ1 i s = some σ') : LeS L H σV σ L1 H1 (σV1.set i (some v)) σ' ∧ SRel K L1 H1 (σV1.set i (some v)) σ' := by
  obtain ⟨rfl, hi, nl⟩ := setS_ok e
  refine ⟨⟨l.le, fun p ⟨j, t, e1, f, e2⟩ => ?_, fun j xs hj => ?_⟩, sr.set hi r fun p o z j t hj e1 ot e2 => ap p o z j t e1 ot e2⟩
  · by_cases hj : i = j
    · subst hj
      rw [List.getElem?_set_self hi] at e1; cases e1
      rw [List.getElem?_set_self (by rw [sr.len]; exact hi)] at e2
      exact .inr (fr p (by cases s <;> first | rfl | cases f) (by simpa using e2))
    · rw [List.getElem?_set_ne hj] at e1 e2
      exact l.own p ⟨j, t, e1, f, e2⟩
  · obtain ⟨h1, h2⟩ := l.kp j xs hj
    have z : i ≠ j := fun z => by subst z; exact nl xs h1
    rw [List.getElem?_set_ne z, List.getElem?_set_ne z]
    exact ⟨h1, h2⟩
theorem own_some {K : PySem.W.Frag} {L : Lay} {H : Hp} {σV : Sv} {σ : Sg} (sr : SRel K L H σV σ) (j : Nat) (t : Sl) (p : Addr) (e1 : σ[j]? = some t) (o : t.owned = true) (e2 : σV[j]? = some (some (.ref p))) : H p ≠ none := by
  obtain ⟨x, ex, r⟩ := sr.sl j t e1
  rw [e2] at ex; cases ex
  cases t with
  | own xs => obtain ⟨p', vs, z, e, _⟩ := r; cases z; rw [e]; intro w; cases w
  | lent xs => obtain ⟨p', vs, z, e, _⟩ := r; cases z; rw [e]; intro w; cases w
  | ownd xs => obtain ⟨p', ks, vs, z, ⟨o, e, _⟩, _⟩ := r; cases z; rw [e]; intro w; cases w
  | val _ => cases o
  | no => cases o
theorem set_ap {σV : Sv} {σ σ' : Sg} {i : Nat} {s : Sl} {v : V} (hl : σV.length = σ.length) (e : setS σ i s = some σ') (j : Nat) (t : Sl) (p : Addr) (e1 : σ'[j]? = some t) (o : t.owned = true) (e2 : (σV.set i (some v))[j]? = some (some (.ref p))) : (s.owned = true ∧ v = .ref p) ∨ (σ[j]? = some t ∧ σV[j]? = some (some (.ref p))) := by
  obtain ⟨rfl, hi, _⟩ := setS_ok e
  by_cases hj : i = j
  · subst hj
    rw [List.getElem?_set_self hi] at e1; cases e1
    rw [List.getElem?_set_self (by rw [hl]; exact hi)] at e2
    exact .inl ⟨o, by simpa using e2⟩
  · rw [List.getElem?_set_ne hj] at e1 e2
    exact .inr ⟨e1, e2⟩
theorem sndS_par {i j : Nat} {x y : Str} {m : Sg → Hs → R (List Sl)} {px py pt : Pos} {kt k2 pt2} (hc : X.calm = true) (hN : X.N.Nodup) (hi : X.N[i]? = some x) (hj : X.N[j]? = some y) (hij : i ≠ j)
    (hx : X.env.scope.names.lookup x = some .local) (hy : X.env.scope.names.lookup y = some .local) (ha : SndXs X [a, b] m)
    (hw : swappedStores [.Tuple [.Name x px, .Name y py] kt pt] (.Tuple [a, b] k2 pt2) X.env = pure (some [x, y]))
    (hs : swapsWithSole [.Tuple [.Name x px, .Name y py] kt pt] (.Tuple [a, b] k2 pt2) pos.line X.env = pure false) :
    SndS X (.Assign [.Tuple [.Name x px, .Name y py] kt pt] (.Tuple [a, b] k2 pt2) pos) (sPar2 i j m) := by
  refine weakS (ps_par hc hN hi hj hij hx hy ha hw hs) fun E σV H ⟨L, σ, h, hr, sr, q⟩ => ?_
  obtain ⟨ss, h1, e1, q⟩ := eDo_case q
  refine ⟨L, σ, h, ss, h1, hr, sr, e1, fun L1 H1 vs l1 r1 q1 => ?_⟩
  match ss, vs, q1, q with
  | [s, t], [v, w], q1, q =>
    obtain ⟨hp, q⟩ := ite_post q
    rw [Bool.and_eq_true] at hp
    obtain ⟨σ', e2, q⟩ := optS_post q
    obtain ⟨σ1, e3, e4⟩ := Option.bind_eq_some_iff.mp e2
    obtain ⟨q1, f1, q2, f2, _⟩ := q1
    obtain ⟨la, sa⟩ := leS_set sr l1 q1 (fun p o z => (f1 p o z).1) (plain_ne hp.1) e3
    obtain ⟨lb, sb⟩ := leS_more la sa q2 (fun p o z => (f2 p o z).1) (fun p o z k u ek ou ev => by
      rcases set_ap sr.len e3 k u p ek ou ev with ⟨oo, z2⟩ | ⟨ek', ev'⟩
      · exact (f1 p oo z2).2 0 t rfl o (by rw [z]; rfl)
      · exact own_some sr k u p ek' ou ev' (f2 p o z).1) (plain_ne hp.2) e4
    exact ⟨v, w, rfl, q L1 H1 _ lb r1 sb⟩
  | [], _, _, q => exact q.elim
  | [_], _, _, q => exact q.elim
  | _ :: _ :: _ :: _, _, _, q => exact q.elim
  | [_, _], [], q1, _ => exact q1.elim
  | [_, _], [_], q1, _ => exact q1.2.2.elim
  | [_, _], _ :: _ :: _ :: _, q1, _ => exact q1.2.2.2.2.elim
theorem sndS_par3 {i j l : Nat} {x y z : Str} {m : Sg → Hs → R (List Sl)} {px py pz pt : Pos} {kt k2 pt2} (hc : X.calm = true) (hN : X.N.Nodup) (hi : X.N[i]? = some x) (hj : X.N[j]? = some y) (hl : X.N[l]? = some z) (hij : i ≠ j) (hil : i ≠ l) (hjl : j ≠ l)
    (hx : X.env.scope.names.lookup x = some .local) (hy : X.env.scope.names.lookup y = some .local) (hz : X.env.scope.names.lookup z = some .local) (ha : SndXs X [a, b, c] m)
    (hw : swappedStores [.Tuple [.Name x px, .Name y py, .Name z pz] kt pt] (.Tuple [a, b, c] k2 pt2) X.env = pure (some [x, y, z]))
    (hs : swapsWithSole [.Tuple [.Name x px, .Name y py, .Name z pz] kt pt] (.Tuple [a, b, c] k2 pt2) pos.line X.env = pure false) :
    SndS X (.Assign [.Tuple [.Name x px, .Name y py, .Name z pz] kt pt] (.Tuple [a, b, c] k2 pt2) pos) (sPar3 i j l m) := by
  refine weakS (ps_par3 hc hN hi hj hl hij hil hjl hx hy hz ha hw hs) fun E σV H ⟨L, σ, h, hr, sr, q⟩ => ?_
  obtain ⟨ss, h1, e1, q⟩ := eDo_case q
  refine ⟨L, σ, h, ss, h1, hr, sr, e1, fun L1 H1 vs l1 r1 q1 => ?_⟩
  match ss, vs, q1, q with
  | [s, t, u], [v, w, w3], q1, q =>
    obtain ⟨hp, q⟩ := ite_post q
    rw [Bool.and_eq_true, Bool.and_eq_true] at hp
    obtain ⟨σ', e2, q⟩ := optS_post q
    obtain ⟨σ2, e3, e5⟩ := Option.bind_eq_some_iff.mp e2
    obtain ⟨σ1, e3, e4⟩ := Option.bind_eq_some_iff.mp e3
    obtain ⟨q1, f1, q2, f2, q3, f3, _⟩ := q1
    obtain ⟨la, sa⟩ := leS_set sr l1 q1 (fun p o z => (f1 p o z).1) (plain_ne hp.1.1) e3
    obtain ⟨lb, sb⟩ := leS_more la sa q2 (fun p o z => (f2 p o z).1) (fun p o z k u ek ou ev => by
      rcases set_ap sr.len e3 k u p ek ou ev with ⟨oo, z2⟩ | ⟨ek', ev'⟩
      · exact (f1 p oo z2).2 0 t rfl o (by rw [z]; rfl)
      · exact own_some sr k u p ek' ou ev' (f2 p o z).1) (plain_ne hp.1.2) e4
    obtain ⟨lc, sc⟩ := leS_more lb sb q3 (fun p o z => (f3 p o z).1) (fun p o z k u' ek ou ev => by
      rcases set_ap sa.len e4 k u' p ek ou ev with ⟨oo, z2⟩ | ⟨ek', ev'⟩
      · exact (f2 p oo z2).2 0 u rfl o (by rw [z]; rfl)
      · rcases set_ap sr.len e3 k u' p ek' ou ev' with ⟨oo, z2⟩ | ⟨ek'', ev''⟩
        · exact (f1 p oo z2).2 1 u rfl o (by rw [z]; rfl)
        · exact own_some sr k u' p ek'' ou ev'' (f3 p o z).1) (plain_ne hp.2) e5
    exact ⟨v, w, w3, rfl, q L1 H1 _ lc r1 sc⟩
  | [], _, _, q => exact q.elim
  | [_], _, _, q => exact q.elim
  | [_, _], _, _, q => exact q.elim
  | _ :: _ :: _ :: _ :: _, _, _, q => exact q.elim
  | [_, _, _], [], q1, _ => exact q1.elim
  | [_, _, _], [_], q1, _ => exact q1.2.2.elim
  | [_, _, _], [_, _], q1, _ => exact q1.2.2.2.2.elim
  | [_, _, _], _ :: _ :: _ :: _ :: _, q1, _ => exact q1.2.2.2.2.2.2.elim
end
end WC
set_option Elab.async false
set_option linter.all false
set_option maxRecDepth 100000
namespace WC
open PySem PySem.Spec PyProof.Rows L2

section
variable {K : PySem.W.Frag} {L L1 : Lay} {H H1 : Hp} {h : Hs} {σV : Sv} {σ : Sg}
theorem ob_apart {n k : Nat} {q r : Addr × List Addr} {a : Addr} (s : HRel K L H h) (e1 : L.ob[n]? = some q) (e2 : L.ob[k]? = some r) (h1 : a = q.1 ∨ a ∈ q.2) (h2 : a = r.1 ∨ a ∈ r.2) : n = k := by
  have nd := s.nd
  revert n k
  generalize L.ob = l at nd
  induction l with
  | nil => intro n k e1; simp at e1
  | cons x l ih =>
    intro n k e1 e2
    rw [List.flatMap_cons, List.nodup_append] at nd
    cases n with
    | zero =>
      cases k with
      | zero => rfl
      | succ k =>
        simp at e1 e2
        subst e1
        exact absurd rfl (nd.2.2 a (by simpa using h1) a (List.mem_flatMap.mpr ⟨r, List.mem_of_getElem? e2, by simpa using h2⟩))
    | succ n =>
      cases k with
      | zero =>
        simp at e1 e2
        subst e2
        exact absurd rfl (nd.2.2 a (by simpa using h2) a (List.mem_flatMap.mpr ⟨q, List.mem_of_getElem? e1, by simpa using h1⟩))
      | succ k =>
        simp at e1 e2
        rw [ih nd.2.1 e1 e2]
theorem HRel.write {n : Nat} {p : Addr} {vs : List V} {xs : List D} (s : HRel K L H h) (e : L.at n = some p) (hh : ∃ ys, h[n]? = some (.lst ys)) (r : Reps K L vs xs) : HRel K L (L2.upd H p (.lst vs)) (h.set n (.lst xs)) := by
  obtain ⟨q, eq, rfl⟩ := Option.map_eq_some_iff.mp e
  obtain ⟨ys, ey⟩ := hh
  have hn := (List.getElem?_eq_some_iff.mp ey).1
  have Mp : L.M q.1 := ⟨q, List.mem_of_getElem? eq, .inl rfl⟩
  refine ⟨fun a w e => ?_, s.nm, fun a hq => ?_, s.nd, by rw [List.length_set]; exact s.len, fun k r' o e1 e2 => ?_⟩
  · have : a ≠ q.1 := fun z => by subst z; rw [s.nm _ Mp] at e; cases e
    rw [upd_ne this]; exact s.sub a w e
  · by_cases z : a = q.1
    · subst z; rw [upd_same]; intro w; cases w
    · rw [upd_ne z]; exact s.mt a hq
  · by_cases z : n = k
    · subst z
      rw [eq] at e1; cases e1
      rw [List.getElem?_set_self hn] at e2; cases e2
      obtain ⟨ea, _⟩ := s.ob n q _ eq ey
      exact ⟨ea, vs, upd_same, r⟩
    · rw [List.getElem?_set_ne z] at e2
      refine (s.ob k r' o e1 e2).le (fun _ _ e => e) (fun _ _ e => e) fun b w hb e => ?_
      have : b ≠ q.1 := fun w => z (ob_apart s eq e1 (.inl rfl) (w ▸ hb))
      rw [upd_ne this]; exact e
theorem le_write {n : Nat} {p : Addr} {o : HO} (e : L.at n = some p) : Le0 L H L (L2.upd H p o) := by
  obtain ⟨q, eq, rfl⟩ := Option.map_eq_some_iff.mp e
  have Mp : L.M q.1 := ⟨q, List.mem_of_getElem? eq, .inl rfl⟩
  refine ⟨fun _ _ e => e, fun _ e => .inl e, fun _ _ e => e, fun _ e => .inl e, fun a w ea m _ => ?_, fun a ea => ?_⟩
  · rw [upd_ne (fun z => by subst z; exact m Mp)]; exact ea
  · by_cases z : a = q.1
    · subst z; rw [upd_same]; intro w; cases w
    · rw [upd_ne z]; exact ea
theorem write_srel {n : Nat} {p : Addr} {o : HO} (e : L.at n = some p) (sr : SRel K L H σV σ) : SRel K L (L2.upd H p o) σV σ := sr.le (le_write e)
theorem own_write {i : Nat} {xs ys : List D} {p : Addr} {vs us : List V} (hr : HRel K L H h) (sr : SRel K L H σV σ) (e : σ[i]? = some (.own xs)) (ev : σV[i]? = some (some (.ref p))) (r : Reps K L us ys) :
    LeS L H σV σ L (L2.upd H p (.lst us)) σV (σ.set i (.own ys)) ∧ HRel K L (L2.upd H p (.lst us)) h ∧ SRel K L (L2.upd H p (.lst us)) σV (σ.set i (.own ys)) := by
  have hi := (List.getElem?_eq_some_iff.mp e).1
  obtain ⟨x, ex, p', vs, rfl, ep, f, m, r0⟩ := sr.sl i _ e
  rw [ev] at ex; cases ex
  refine ⟨⟨⟨fun _ _ e => e, fun _ e => .inl e, fun _ _ e => e, fun _ e => .inl e, fun q w eq nm no => ?_, fun q eq => ?_⟩, fun q ⟨j, t, e1, ft, e2⟩ => ?_, fun j zs hj => ?_⟩, hr.upd f m, ⟨by simp [sr.len], fun j t ht => ?_, fun j k t u q e1 e2 o1 o2 z1 z2 => ?_⟩⟩
  · rw [upd_ne (fun z => by subst z; exact no ⟨i, _, e, rfl, ev⟩)]; exact eq
  · by_cases z : q = p
    · subst z; rw [upd_same]; intro w; cases w
    · rw [upd_ne z]; exact eq
  · by_cases z : i = j
    · subst z; exact .inl ⟨i, _, e, rfl, e2⟩
    · rw [List.getElem?_set_ne z] at e1; exact .inl ⟨j, t, e1, ft, e2⟩
  · have z : i ≠ j := fun z => by subst z; rw [e] at hj; cases hj
    rw [List.getElem?_set_ne z]; exact ⟨hj, rfl⟩
  · by_cases z : i = j
    · subst z
      rw [List.getElem?_set_self hi] at ht; cases ht
      exact ⟨_, ev, p, us, rfl, upd_same, f, m, r⟩
    · rw [List.getElem?_set_ne z] at ht
      obtain ⟨y, ey, ry⟩ := sr.sl j t ht
      refine ⟨y, ey, ?_⟩
      have np : ∀ q, t.owned = true → y = some (.ref q) → q ≠ p := fun q o z2 w => by
        subst w; subst z2
        exact z (sr.ap i j _ t q e ht rfl o ev ey)
      cases t with
      | no => trivial
      | val d => exact ry
      | own zs => obtain ⟨q, us, e1, e2, e3⟩ := ry; exact ⟨q, us, e1, by rw [upd_ne (np q rfl e1)]; exact e2, e3⟩
      | lent zs => obtain ⟨q, us, e1, e2, e3⟩ := ry; exact ⟨q, us, e1, by rw [upd_ne (np q rfl e1)]; exact e2, e3⟩
      | ownd zs =>
        obtain ⟨q, ks, us, e1, ⟨o, e2, mu⟩, dg, e4⟩ := ry
        have nq := np q rfl e1
        refine ⟨q, ks, us, e1, ⟨o, by rw [upd_ne nq]; exact e2, mu⟩, ?_, e4⟩
        unfold DG Rd at dg ⊢
        simp only [upd_ne nq]
        exact dg
  · have a1 : ∀ (j : Nat) (t : Sl), (σ.set i (.own ys))[j]? = some t → t.owned = true → ∃ t' : Sl, σ[j]? = some t' ∧ t'.owned = true := fun j t h o => by
      by_cases z : i = j
      · subst z; exact ⟨_, e, rfl⟩
      · rw [List.getElem?_set_ne z] at h; exact ⟨t, h, o⟩
    obtain ⟨t', h1, h2⟩ := a1 j t e1 o1
    obtain ⟨u', h3, h4⟩ := a1 k u e2 o2
    exact sr.ap j k t' u' q h1 h3 h2 h4 z1 z2
end

section
variable {X : Cx} {st : Stmt} {sts : List Stmt} {e a b c : Expr} {es : List Expr} {pos : Pos}
inductive Pl where
  | own (xs : List D) | hp (n : Nat) (xs : List D)
def plOf (σ : Sg) (h : Hs) (i : Nat) : Option Pl := match σ[i]? with
  | some (.own xs) => some (.own xs)
  | some (.val (.ref n)) => match h[n]? with
    | some (.lst xs) => some (.hp n xs)
    | _ => none
  | _ => none
def Pl.items : Pl → List D
  | .own xs => xs
  | .hp _ xs => xs
def plSet (σ : Sg) (h : Hs) (i : Nat) : Pl → List D → RS
  | .own _, ys => .nx (σ.set i (.own ys)) h
  | .hp n _, ys => .nx σ (h.set n (.lst ys))
theorem pl_lst {K : PySem.W.Frag} {L : Lay} {H : Hp} {h : Hs} {σV : Sv} {σ : Sg} {i : Nat} {pl : Pl} (hr : HRel K L H h) (sr : SRel K L H σV σ) (e : plOf σ h i = some pl) : ∃ p vs, σV[i]? = some (some (.ref p)) ∧ H p = some (.lst vs) ∧ Reps K L vs pl.items := by
  unfold plOf at e
  split at e
  · rename_i xs e1
    cases e
    obtain ⟨x, ex, p, vs, rfl, ep, f, m, r⟩ := sr.sl i _ e1
    exact ⟨p, vs, ex, ep, r⟩
  · rename_i n e1
    split at e
    · rename_i xs e2
      cases e
      obtain ⟨x, ex, v, rfl, r⟩ := sr.sl i _ e1
      cases r with
      | ref q =>
        obtain ⟨q', e3, rfl⟩ := Option.map_eq_some_iff.mp q
        obtain ⟨_, vs, e4, r⟩ := hr.ob n q' _ e3 e2
        exact ⟨_, vs, ex, e4, r⟩
    · cases e
  · cases e
theorem pl_set {K : PySem.W.Frag} {E : Ends} {L : Lay} {H : Hp} {h : Hs} {σV : Sv} {σ : Sg} {i : Nat} {pl : Pl} {p : Addr} {us : List V} {ys : List D} (hr : HRel K L H h) (sr : SRel K L H σV σ) (e : plOf σ h i = some pl) (ev : σV[i]? = some (some (.ref p))) (r : Reps K L us ys)
    (q : Post K E L H σV σ (plSet σ h i pl ys)) : E.nx σV (L2.upd H p (.lst us)) := by
  unfold plOf at e
  split at e
  · rename_i xs e1
    cases e
    obtain ⟨l, r1, s1⟩ := own_write (vs := []) hr sr e1 ev r
    exact q _ _ _ l r1 s1
  · rename_i n e1
    split at e
    · rename_i xs e2
      cases e
      obtain ⟨x, ex, v, rfl, rv⟩ := sr.sl i _ e1
      rw [ev] at ex; cases ex
      cases rv with
      | ref qq => exact q _ _ _ (LeS.of0 (le_write qq)) (hr.write qq ⟨_, e2⟩ r) (write_srel qq sr)
    · cases e
  · cases e
theorem plOf_some {K : PySem.W.Frag} {L L1 : Lay} {H H1 : Hp} {h h1 : Hs} {σV : Sv} {σ : Sg} {i : Nat} {pl : Pl} (e : plOf σ h1 i = some pl) (hr : HRel K L H h) (sr : SRel K L H σV σ) : ∃ p, σV[i]? = some (some (.ref p)) := by
  unfold plOf at e
  split at e
  · rename_i xs e1
    obtain ⟨x, ex, p, vs, rfl, _⟩ := sr.sl i _ e1
    exact ⟨p, ex⟩
  · rename_i n e1
    obtain ⟨x, ex, v, rfl, r⟩ := sr.sl i _ e1
    cases r with
    | ref q => exact ⟨_, ex⟩
  · cases e
def sAppend (i : Nat) (m : EM) : SM := fun σ h => match plOf σ h i with
  | none => .bad
  | some _ => eDo (m σ h) fun d h1 => match plOf σ h1 i with
    | some pl => if pl.items.length < sizeLine then plSet σ h1 i pl (pl.items ++ [d]) else .bad
    | none => .bad
theorem sndS_append {i : Nat} {x : Str} {m : EM} {apos cpos p : Pos} (hN : X.N[i]? = some x) (hv : Vis X.env.scope x) (hd : (x == ("__debug__" : Str)) = false) (hcd : (x == ("__classdict__" : Str)) = false) (ha : SndE X e m)
    (hbase : attributeBase (.Name x p) "append" X.env (eval (.Name x p) X.env) = eval (.Name x p) X.env)
    (hfew : ((backTo cpos (starEach [e] X.env)).all (fun x => !x.1) && (backToKw cpos (keywordEach [] X.env)).all (fun x => x.1.isSome) && decide ([e].length + ([] : List Keyword).length + (if ([] : List Keyword).isEmpty then 0 else 1) < 30)) = true)
    (hline : (apos.endLine == cpos.line) = true) (hs : starEach [e] X.env = (false, eval e X.env) :: starEach [] X.env) (hplain : (backTo cpos (starEach [] X.env)).any (·.1) = false)
    (hsw : swapsWith (.Call (.Attribute (.Name x p) "append" apos) [e] [] cpos) none pos.line X.env = pure false) :
    SndS X (.Expr (.Call (.Attribute (.Name x p) "append" apos) [e] [] cpos) pos) (sAppend i m) := by
  refine weakS (ps_expr (pe_bm PySem.F.plainAttrs_list PySem.F.slot_list_append PySem.F.type_list_append mt_append (pe_var hN hv hd hcd) (pa_cons ha pa_nil hs) hbase hfew hline hs hplain) hsw) fun E σV H ⟨L, σ, h, hr, sr, q⟩ => ?_
  unfold sAppend at q
  cases e0 : plOf σ h i with
  | none => rw [e0] at q; exact q.elim
  | some pl0 =>
    rw [e0] at q
    obtain ⟨d, h1, e1, q⟩ := eDo_case q
    obtain ⟨p, vs, ev, ep, _⟩ := pl_lst hr sr e0
    refine ⟨_, ev, .inl ⟨rfl, vs, .of ep⟩, L, σ, h, d, h1, hr, sr, e1, fun L1 H1 v l1 r1 q1 => ?_⟩
    cases e2 : plOf σ h1 i with
    | none => rw [e2] at q; exact q.elim
    | some pl =>
      rw [e2] at q
      by_cases hz : pl.items.length < sizeLine
      · have q : Post X.K E L H σV σ (plSet σ h1 i pl (pl.items ++ [d])) := by simpa only [if_pos hz] using q
        have sr1 := sr.le l1
        obtain ⟨p', vs', ev', ep', r'⟩ := pl_lst r1 sr1 e2
        rw [ev] at ev'; cases ev'
        exact ⟨p, vs', v, rfl, rfl, ep', by rw [r'.length]; exact hz, pl_set r1 sr1 e2 ev (r'.append (.cons q1 .nil)) (Post.mono q (LeS.of0 l1))⟩
      · have q : Post X.K E L H σV σ .bad := by simpa only [if_neg hz] using q
        exact q.elim
def sStore (i : Nat) (m mi : EM) : SM := fun σ h => eDo (m σ h) fun d h1 => match plOf σ h1 i with
  | none => .bad
  | some _ => eDo (mi σ h1) fun k h2 => match k, plOf σ h2 i with
    | .int k, some pl => match ixN pl.items.length k with
      | some j => plSet σ h2 i pl (pl.items.set j d)
      | none => .bad
    | _, _ => .bad
theorem sndS_store {i : Nat} {x : Str} {m mi : EM} {p tp : Pos} (hN : X.N[i]? = some x) (hv : Vis X.env.scope x) (hd : (x == ("__debug__" : Str)) = false) (hcd : (x == ("__classdict__" : Str)) = false) (he : SndE X e m) (hi : SndE X a mi)
    (ha : ∀ v, assign (.Subscript (.Name x p) a tp) X.env v = (do
      let ov ← holding [v] (eval (.Name x p) X.env)
      let iv ← holding [v, ov] (eval a X.env)
      standAt tp
      holding [v, ov, iv] (setItem ov iv v)
      release [v, ov, iv] []))
    (hs : swapsWithSole [.Subscript (.Name x p) a tp] e pos.line X.env = pure false) (hw : swappedStores [.Subscript (.Name x p) a tp] e X.env = pure none)
    (h1 : (assignEach [.Subscript (.Name x p) a tp] X.env).map (·.2) = [assign (.Subscript (.Name x p) a tp) X.env]) : SndS X (.Assign [.Subscript (.Name x p) a tp] e pos) (sStore i m mi) := by
  refine weakS (ps_asg he (pg_sub (pe_var hN hv hd hcd) hi set_list ha) hs hw h1) fun E σV H ⟨L, σ, h, hr, sr, q⟩ => ?_
  obtain ⟨d, h1, e1, q⟩ := eDo_case q
  refine ⟨L, σ, h, d, h1, hr, sr, e1, fun L1 H1 v l1 r1 q1 => ?_⟩
  have sr1 := sr.le l1
  have q := Post.mono q (LeS.of0 l1)
  cases e0 : plOf σ h1 i with
  | none => rw [e0] at q; exact q.elim
  | some pl0 =>
    rw [e0] at q
    obtain ⟨k, h2, e2, q⟩ := eDo_case q
    obtain ⟨p, vs, ev, ep, _⟩ := pl_lst r1 sr1 e0
    refine ⟨_, ev, L1, σ, h1, k, h2, r1, sr1, e2, fun L2' H2 v2 l2 r2 q2 => ?_⟩
    have sr2 := sr1.le l2
    have q := Post.mono q (LeS.of0 l2)
    cases k with
    | int k =>
      cases e3 : plOf σ h2 i with
      | none => rw [e3] at q; exact q.elim
      | some pl =>
        rw [e3] at q
        cases e4 : ixN pl.items.length k with
        | none => simp only [e4] at q; exact q.elim
        | some j =>
          simp only [e4] at q
          obtain ⟨p', vs', ev', ep', r'⟩ := pl_lst r2 sr2 e3
          rw [ev] at ev'; cases ev'
          cases q2
          exact ⟨p, vs', k, j, rfl, rfl, ep', by rw [r'.length]; exact e4, pl_set r2 sr2 e3 ev (r'.set (q1.le l2) j) q⟩
    | _ => exact q.elim
def sAug (i : Nat) (g : G2) (m : EM) : SM := fun σ h => match σ[i]? with
  | some (.val x) => eDo (m σ h) fun y h1 => match g h1 x y with
    | some d => optS (setS σ i (.val d)) h1
    | none => .bad
  | _ => .bad
theorem opS_ip {op : Operator} {g : G2} (ho : OpS X (inplaceOp op) g) : ∃ r : R2, PIp X op r ∧ ∀ (L : Lay) (H : Hp) (h : Hs) (x y : D) (v u : V) (d : D) (Q : VK), HRel X.K L H h → RepO X.K L H v x → RepO X.K L H u y → g h x y = some d →
    (∀ L' H' w, Le0 L H L' H' → HRel X.K L' H' h → Rep X.K L' w d → Q w H') → r v u H Q := by
  obtain ⟨r, hr, w⟩ := ho
  exact ⟨r, fun pins s σ H x y v u Q I r1 r2 q => hr pins s σ H x y v u Q I r1 r2 q, w⟩
theorem sndS_aug {i : Nat} {x : Str} {op : Operator} {g : G2} {m : EM} {pos' : Pos} (hN : X.N.Nodup) (hi : X.N[i]? = some x) (hx : Loc X.env.scope x) (he : SndE X e m) (ho : OpS X (inplaceOp op) g) (hf : X.fn x = true ∨ X.env.scope.names.lookup x = some .local) : SndS X (.AugAssign (.Name x pos') op e pos) (sAug i g m) := by
  obtain ⟨r, hr, w⟩ := opS_ip ho
  refine weakS (ps_aug hN hi hx he hr hf) fun E σV H ⟨L, σ, h, hr, sr, q⟩ => ?_
  unfold sAug at q
  split at q
  · rename_i x e0
    obtain ⟨y, h1, e1, q⟩ := eDo_case q
    obtain ⟨xv, ex, v, rfl, rv⟩ := sr.sl i _ e0
    refine ⟨v, ex, L, σ, h, y, h1, hr, sr, e1, fun L1 H1 u l1 r1 q1 => ?_⟩
    cases e2 : g h1 x y with
    | none => rw [e2] at q; exact q.elim
    | some d =>
      rw [e2] at q
      obtain ⟨σ', e3, q⟩ := optS_post q
      refine w L1 H1 h1 x y v u d _ r1 (.inl (rv.le l1)) (.inl q1) e2 fun L2' H2 z l2 r2 q2 => ?_
      obtain ⟨l, s'⟩ := leS_set sr (l1.trans0 l2) (v := z) (s := .val d) ⟨z, rfl, q2⟩ (fun _ o => by cases o) (fun _ z => by cases z) e3
      exact q L2' H2 _ l r2 s'
  · exact q.elim
theorem rI_of0' {f : Value → Value → Sem Value} {g : Int → Int → V} (h : OpR X f (rI0 g)) : OpR X f (rI (fun _ _ => True) g) := rI_of0 h
theorem iops_addI : OpS X (inplaceOp .Add) gAddI := opsI (rI_of0 iop_add) (fun _ _ _ => trivial) fun _ _ _ _ => .int _
theorem iops_sub : OpS X (inplaceOp .Sub) gSub := opsI (rI_of0 iop_sub) (fun _ _ _ => trivial) fun _ _ _ _ => .int _
theorem iops_and : OpS X (inplaceOp .BitAnd) gAnd := opsI (rI_of0 iop_and) (fun _ _ _ => trivial) fun _ _ _ _ => .int _
theorem iops_or : OpS X (inplaceOp .BitOr) gOr := opsI (rI_of0 iop_or) (fun _ _ _ => trivial) fun _ _ _ _ => .int _
theorem iops_xor : OpS X (inplaceOp .BitXor) gXor := opsI (rI_of0 iop_xor) (fun _ _ _ => trivial) fun _ _ _ _ => .int _
def gCatS : G2 := fun _ x y => match x, y with
  | .str a, .str b => if a.length + b.length ≤ sizeLine then some (.str (a ++ b)) else none
  | _, _ => none
theorem iops_catS : OpS X (inplaceOp .Add) gCatS := by
  refine ⟨_, iop_add_str, fun L H h x y v u d Q s p q e k => ?_⟩
  unfold gCatS at e
  split at e
  · rename_i a b
    split at e
    · cases e
      obtain ⟨s1, rfl, e1, n1, o1⟩ := p.str
      obtain ⟨s2, rfl, e2, n2, o2⟩ := q.str
      refine ⟨s1, s2, rfl, rfl, by rw [n1, n2]; assumption, k L H _ Le.refl s (.str' ?_ ?_)⟩
      · show (s1.cps ++ s2.cps).toList = a ++ b
        rw [Array.toList_append, e1, e2]
      · intro c hc
        rcases List.mem_append.mp hc with hc | hc
        · exact o1 c hc
        · exact o2 c hc
    · cases e
  · cases e
def gIAdd : G2 := fun s x y => (gAddI s x y).or (gCatS s x y)
theorem iops_add : OpS X (inplaceOp .Add) gIAdd := iops_addI.or iops_catS
theorem pget_list : PGet X (fun x y H Q => ∃ p xs i v, x = .ref p ∧ y = .int i ∧ SqL X.K H p xs ∧ atI xs i = some v ∧ Q v H) := by
  intro pins s σ H x y v u Q I rx ry h
  obtain ⟨p, xs, i, z, rfl, rfl, hq, he, q⟩ := h
  cases rx
  obtain ⟨t, rfl⟩ := ry
  obtain ⟨its, r, pl, hz⟩ := I.list hq
  obtain ⟨j, h1, h2, h3, h4, h5⟩ := atI_get he
  obtain ⟨w, ew, rw'⟩ := r.get h2
  have hl := r.length
  have hn := line63
  have fin : EP X pins σ Q w s := ⟨z, H, I, rw', q⟩
  by_cases h0 : 0 ≤ i
  · have hj : i.toNat = j := by
      rw [seqIndex_of h0 h5] at h1
      exact Option.some.inj h1
    exact wpAny_getItem_list pl.isList h0 (by omega) (by rw [hj]; simpa using ew) fin
  · have hj : (i + (its.toArray.size : Int)).toNat = j := by
      rw [seqIndex_neg (by omega) h4] at h1
      rw [List.size_toArray, ← hl]
      exact Option.some.inj h1
    exact wpAny_getItem_list_neg pl.isList (by omega) (by rw [List.size_toArray]; omega) (by omega) (by rw [hj]; simpa using ew) fin
def sAugS (i : Nat) (g : G2) (mi m : EM) : SM := fun σ h => match plOf σ h i with
  | none => .bad
  | some _ => eDo (mi σ h) fun k h1 => match k, plOf σ h1 i with
    | .int k, some pl0 => match atI pl0.items k with
      | none => .bad
      | some x => eDo (m σ h1) fun y h2 => match g h2 x y, plOf σ h2 i with
        | some d, some pl => match ixN pl.items.length k with
          | some j => plSet σ h2 i pl (pl.items.set j d)
          | none => .bad
        | _, _ => .bad
    | _, _ => .bad
theorem sndS_augS {i : Nat} {x : Str} {op : Operator} {g : G2} {m mi : EM} {p tp : Pos} (hN : X.N[i]? = some x) (hv : Vis X.env.scope x) (hd : (x == ("__debug__" : Str)) = false) (hcd : (x == ("__classdict__" : Str)) = false) (he : SndE X e m) (hi : SndE X a mi) (ho : OpS X (inplaceOp op) g)
    (ha : ∀ ov iv new, augStore a ov iv new = (do holding [new, ov, iv] (setItem ov iv new); release [new, ov, iv] []; pure .next)) : SndS X (.AugAssign (.Subscript (.Name x p) a tp) op e pos) (sAugS i g mi m) := by
  obtain ⟨r, hr, w⟩ := opS_ip ho
  refine weakS (ps_augS (pe_var hN hv hd hcd) hi pget_list he hr set_list ha) fun E σV H ⟨L, σ, h, hr, sr, q⟩ => ?_
  unfold sAugS at q
  cases e0 : plOf σ h i with
  | none => rw [e0] at q; exact q.elim
  | some plz =>
    rw [e0] at q
    obtain ⟨k, h1, e1, q⟩ := eDo_case q
    obtain ⟨p, vs, ev, ep, _⟩ := pl_lst hr sr e0
    refine ⟨_, ev, L, σ, h, k, h1, hr, sr, e1, fun L1 H1 kv l1 r1 qk => ?_⟩
    have sr1 := sr.le l1
    have q := Post.mono q (LeS.of0 l1)
    cases k with
    | int k =>
      cases qk
      cases e2 : plOf σ h1 i with
      | none => rw [e2] at q; exact q.elim
      | some pl0 =>
        rw [e2] at q
        obtain ⟨p', vs', ev', ep', r'⟩ := pl_lst r1 sr1 e2
        rw [ev] at ev'; cases ev'
        cases e3 : atI pl0.items k with
        | none => simp only [e3] at q; exact q.elim
        | some x =>
          simp only [e3] at q
          obtain ⟨y, h2, e4, q⟩ := eDo_case q
          obtain ⟨xv, exv, rx⟩ := atI_reps r' e3
          refine ⟨p, vs', k, xv, rfl, rfl, .of ep', exv, L1, σ, h1, y, h2, r1, sr1, e4, fun L2' H2 u l2 r2 q2 => ?_⟩
          have sr2 := sr1.le l2
          have q := Post.mono q (LeS.of0 l2)
          cases e5 : g h2 x y with
          | none => simp only [e5] at q; exact q.elim
          | some d =>
            cases e6 : plOf σ h2 i with
            | none => simp only [e5, e6] at q; exact q.elim
            | some pl =>
              simp only [e5, e6] at q
              cases e7 : ixN pl.items.length k with
              | none => simp only [e7] at q; exact q.elim
              | some j =>
                simp only [e7] at q
                refine w L2' H2 h2 x y xv u d _ r2 (.inl (rx.le l2)) (.inl q2) e5 fun L3 H3 z l3 r3 q3 => ?_
                have sr3 := sr2.le l3
                have q := Post.mono q (LeS.of0 l3)
                obtain ⟨p', vs', ev', ep', r'⟩ := pl_lst r3 sr3 e6
                rw [ev] at ev'; cases ev'
                exact ⟨p, vs', k, j, rfl, rfl, ep', by rw [r'.length]; exact e7, pl_set r3 sr3 e6 ev (r'.set q3 j) q⟩
    | _ => exact q.elim
end
end WC
set_option Elab.async false
set_option linter.all false
set_option maxRecDepth 100000
namespace WC
open PySem PySem.Spec PyProof.Rows L2

def RS.loop (r : RS) (k : Sg → Hs → RS) : RS := match r with
  | .nx σ h => k σ h
  | .ct σ h => k σ h
  | .bk σ h => .nx σ h
  | .rt d h => .rt d h
  | .bad => .bad
def forGo (t : GT) (body : SM) : List D → Sg → Hs → RS
  | [], σ, h => .nx σ h
  | x :: xs, σ, h => match t x σ with
    | none => .bad
    | some σ1 => (body σ1 h).loop fun σ2 h2 => forGo t body xs σ2 h2
def sFor (m : IM) (t : GT) (body : SM) : SM := fun σ h => eDo (m σ h) fun xs h1 => forGo t body xs σ h1
def unlS (σ : Sg) (i : Nat) : Sg := match σ[i]? with
  | some (.lent xs) => σ.set i (.own xs)
  | _ => σ
def RS.unl (i : Nat) : RS → RS
  | .nx σ h => .nx (unlS σ i) h
  | .bk σ h => .bk (unlS σ i) h
  | .ct σ h => .ct (unlS σ i) h
  | r => r
def sForV (i : Nat) (t : GT) (body : SM) : SM := fun σ h => match σ[i]? with
  | some (.own xs) => (forGo t body xs (σ.set i (.lent xs)) h).unl i
  | some (.lent xs) => forGo t body xs σ h
  | some (.val d) => match itemsD d with
    | some xs => forGo t body xs σ h
    | none => .bad
  | _ => .bad
section
variable {X : Cx} {K : PySem.W.Frag}
theorem for_rd {t : GT} {body : SM} {E : Ends} {L : Lay} {H : Hp} {h : Hs} {σV : Sv} {σ : Sg} {J : It} {xs : List D} {vs : List Nat} (hr : HRel K L H h) (sr : SRel K L H σV σ) (wk : Walks K (Own σV σ) L H J xs) (q : Post K E L H σV σ (forGo t body xs σ h)) :
    ∃ W : Nat → Nat → Sv → Hp → Prop, (∃ m, W 0 m σV H) ∧ ∀ i m σ H, W i m σ H → (J.stop i H ∧ E.nx σ H) ∨ (J.go i H ∧ ∃ N : Sv → Hp → Prop, (∀ σ' H', N σ' H' → ∃ m', m' < m ∧ W (i + 1) m' σ' H') ∧ ∀ x H', J.yld i H x H' → RdG K vs t x σ H' fun σ2 H2 => RdS K body { E with nx := N, ct := N, bk := E.nx } σ2 H2) := by
  let W : Nat → Nat → Sv → Hp → Prop := fun i n σV' H' => n = xs.length - i ∧ i ≤ xs.length ∧ ∃ L' σ' h', LeS L H σV σ L' H' σV' σ' ∧ HRel K L' H' h' ∧ SRel K L' H' σV' σ' ∧ Post K E L' H' σV' σ' (forGo t body (xs.drop i) σ' h')
  refine ⟨W, ⟨xs.length, rfl, Nat.zero_le _, L, σ, h, LeS.refl, hr, sr, q⟩, ?_⟩
  rintro i n σV' H' ⟨hn, hi, L', σ', h', l', r', s', q'⟩
  by_cases hlt : i < xs.length
  · refine .inr ?_
    obtain ⟨hgo, hy⟩ := (wk L' H' h' l'.le r' i).1 xs[i] (List.getElem?_eq_getElem hlt)
    refine ⟨hgo, W (i + 1) (xs.length - (i + 1)), fun σ'' H'' w => ⟨_, by omega, w⟩, fun v H'' y => ?_⟩
    obtain ⟨La, la, ra, qa⟩ := hy v H'' y
    rw [List.drop_eq_getElem_cons hlt] at q'
    unfold forGo at q'
    cases et : t xs[i] σ' with
    | none => rw [et] at q'; exact q'.elim
    | some σ2 =>
      have q' : Post K E L' H' σV' σ' ((body σ2 h').loop fun σ2 h2 => forGo t body (xs.drop (i + 1)) σ2 h2) := by simpa only [et] using q'
      refine ⟨La, σ', xs[i], σ2, s'.le la, qa, ra.sub, et, fun σV2 sr2 tg => ⟨La, σ2, h', ra, sr2, ?_⟩⟩
      have l2 : LeS L' H' σV' σ' La H'' σV2 σ2 := leS_tg la tg
      have q2 := Post.mono q' l2
      cases eb : body σ2 h' with
      | nx σ3 h3 =>
        simp only [eb, RS.loop] at q2
        exact fun L3 H3 σV3 l3 r3 s3 => ⟨rfl, hlt, L3, σ3, h3, (l'.trans l2).trans l3, r3, s3, Post.mono q2 l3⟩
      | ct σ3 h3 =>
        simp only [eb, RS.loop] at q2
        exact fun L3 H3 σV3 l3 r3 s3 => ⟨rfl, hlt, L3, σ3, h3, (l'.trans l2).trans l3, r3, s3, Post.mono q2 l3⟩
      | bk σ3 h3 => simp only [eb, RS.loop] at q2; exact q2
      | rt d h3 => simp only [eb, RS.loop] at q2; exact q2
      | bad => simp only [eb, RS.loop] at q2; exact q2.elim
  · have ei : i = xs.length := by omega
    subst ei
    refine .inl ⟨(wk L' H' h' l'.le r' _).2 (Nat.le_refl _), ?_⟩
    rw [List.drop_length] at q'
    exact q' L' H' σV' LeS.refl r' s'
theorem unl_post {E : Ends} {L : Lay} {H : Hp} {σV : Sv} {σ : Sg} {i : Nat} {xs : List D} {r : RS} (e : σ[i]? = some (.own xs)) (q : Post K E L H σV σ (r.unl i)) : Post K E L H σV (σ.set i (.lent xs)) r := by
  have hi := (List.getElem?_eq_some_iff.mp e).1
  have sub : ∀ p, Own σV (σ.set i (.lent xs)) p → Own σV σ p := fun p ⟨j, t, e1, f, e2⟩ => by
    by_cases z : i = j
    · subst z; rw [List.getElem?_set_self hi] at e1; cases e1; cases f
    · rw [List.getElem?_set_ne z] at e1; exact ⟨j, t, e1, f, e2⟩
  have key : ∀ {L' : Lay} {H' : Hp} {σV' : Sv} {σ' : Sg}, LeS L H σV (σ.set i (.lent xs)) L' H' σV' σ' → SRel K L' H' σV' σ' → LeS L H σV σ L' H' σV' (unlS σ' i) ∧ SRel K L' H' σV' (unlS σ' i) := fun {L' H' σV' σ'} l s => by
    obtain ⟨k1, k2⟩ := l.kp i xs (List.getElem?_set_self hi)
    have hi' := (List.getElem?_eq_some_iff.mp k1).1
    have eu : unlS σ' i = σ'.set i (.own xs) := by unfold unlS; rw [k1]
    rw [eu]
    refine ⟨⟨l.le.up sub, fun p ⟨j, t, e1, f, e2⟩ => ?_, fun j ys hj => ?_⟩, ⟨by simp [s.len], fun j t ht => ?_, fun j k t u p e1 e2 o1 o2 z1 z2 => ?_⟩⟩
    · by_cases z : i = j
      · subst z
        rw [k2] at e2
        exact .inl ⟨i, _, e, rfl, e2⟩
      · rw [List.getElem?_set_ne z] at e1
        rcases l.own p ⟨j, t, e1, f, e2⟩ with q | q
        · exact .inl (sub p q)
        · exact .inr q
    · have z : i ≠ j := fun z => by subst z; rw [e] at hj; cases hj
      have := l.kp j ys (by rw [List.getElem?_set_ne z]; exact hj)
      rw [List.getElem?_set_ne z]; exact this
    · by_cases z : i = j
      · subst z
        rw [List.getElem?_set_self hi'] at ht; cases ht
        exact s.sl i (.lent xs) k1
      · rw [List.getElem?_set_ne z] at ht
        exact s.sl j t ht
    · have a1 : ∀ (j : Nat) (t : Sl), (σ'.set i (.own xs))[j]? = some t → t.owned = true → ∃ t' : Sl, σ'[j]? = some t' ∧ t'.owned = true := fun j t h o => by
        by_cases z : i = j
        · subst z; exact ⟨_, k1, rfl⟩
        · rw [List.getElem?_set_ne z] at h; exact ⟨t, h, o⟩
      obtain ⟨t', h1, h2⟩ := a1 j t e1 o1
      obtain ⟨u', h3, h4⟩ := a1 k u e2 o2
      exact s.ap j k t' u' p h1 h3 h2 h4 z1 z2
  cases r with
  | nx σ' h' => exact fun L' H' σV' l hr s => let ⟨a, b⟩ := key l s; q L' H' σV' a hr b
  | bk σ' h' => exact fun L' H' σV' l hr s => let ⟨a, b⟩ := key l s; q L' H' σV' a hr b
  | ct σ' h' => exact fun L' H' σV' l hr s => let ⟨a, b⟩ := key l s; q L' H' σV' a hr b
  | rt d h' => exact fun L' H' v l hr r => q L' H' v (l.up sub) hr r
  | bad => exact q.elim
theorem lent_srel {L : Lay} {H : Hp} {σV : Sv} {σ : Sg} {i : Nat} {xs : List D} (e : σ[i]? = some (.own xs)) (s : SRel K L H σV σ) : SRel K L H σV (σ.set i (.lent xs)) := by
  have hi := (List.getElem?_eq_some_iff.mp e).1
  refine ⟨by simp [s.len], fun j t ht => ?_, fun j k t u p e1 e2 o1 o2 z1 z2 => ?_⟩
  · by_cases z : i = j
    · subst z
      rw [List.getElem?_set_self hi] at ht; cases ht
      exact s.sl i (.own xs) e
    · rw [List.getElem?_set_ne z] at ht
      exact s.sl j t ht
  · have a1 : ∀ (j : Nat) (t : Sl), (σ.set i (.lent xs))[j]? = some t → t.owned = true → ∃ t' : Sl, σ[j]? = some t' ∧ t'.owned = true := fun j t h o => by
      by_cases z : i = j
      · subst z; exact ⟨_, e, rfl⟩
      · rw [List.getElem?_set_ne z] at h; exact ⟨t, h, o⟩
    obtain ⟨t', h1, h2⟩ := a1 j t e1 o1
    obtain ⟨u', h3, h4⟩ := a1 k u e2 o2
    exact s.ap j k t' u' p h1 h3 h2 h4 z1 z2
variable {tg iter : Expr} {bodyS : List Stmt} {pos : Pos}
theorem sndS_for {m : IM} {t : GT} {body : SM} {vs : List Nat} (hp : PassesOwn (model X.prog X.w) X.A X.env X.xe) (hc : X.calm = true) (hi : SndI X tg iter [] m) (hg : SndG X tg vs t) (hb : SndB X bodyS body) (hs : ∀ x, foldedSetIterable iter X.env x = pure x) :
    SndS X (.For tg iter bodyS [] pos) (sFor m t body) := by
  refine weakS (ps_for hp hc hi hg hb hs) fun E σV H ⟨L, σ, h, hr, sr, q⟩ => ?_
  obtain ⟨xs, h1, e1, q⟩ := eDo_case q
  refine ⟨L, σ, h, xs, h1, hr, sr, e1, fun L1 H1 J l1 r1 wk => ?_⟩
  exact for_rd r1 (sr.le l1) (wk _ (fun _ h => absurd h List.not_mem_nil)) (Post.mono q (LeS.of0 l1))
theorem own_lent {L : Lay} {H : Hp} {σV : Sv} {σ : Sg} {i : Nat} {xs : List D} {p : Addr} (s : SRel K L H σV σ) (e : σ[i]? = some (.lent xs)) (ev : σV[i]? = some (some (.ref p))) : ¬ Own σV σ p := fun ⟨j, t, e1, f, e2⟩ => by
  have o : t.owned = true := by cases t <;> first | rfl | cases f
  have := s.ap i j _ t p e e1 rfl o ev e2
  subst this
  rw [e] at e1; cases e1; cases f
theorem sndS_forV {i : Nat} {x : Str} {ipos : Pos} {t : GT} {body : SM} {vs : List Nat} (hN : X.N[i]? = some x) (hv : Vis X.env.scope x) (hd : (x == ("__debug__" : Str)) = false) (hcd : (x == ("__classdict__" : Str)) = false)
    (hp : PassesOwn (model X.prog X.w) X.A X.env X.xe) (hc : X.calm = true) (hg : SndG X tg vs t) (hb : SndB X bodyS body) : SndS X (.For tg (.Name x ipos) bodyS [] pos) (sForV i t body) := by
  refine weakS (ps_for hp hc (sndI_var (tg := tg) (pos := ipos) hN hv hd hcd) hg hb fun _ => rfl) fun E σV H ⟨L, σ, h, hr, sr, q⟩ => ?_
  unfold sForV at q
  cases e : σ[i]? with
  | none => rw [e] at q; exact q.elim
  | some s =>
    cases s with
    | no => rw [e] at q; exact q.elim
    | ownd _ => rw [e] at q; exact q.elim
    | own xs =>
      rw [e] at q
      have q := unl_post e q
      have s' := lent_srel e sr
      obtain ⟨xv, ex, p, vs, rfl, _⟩ := sr.sl i _ e
      have hi := (List.getElem?_eq_some_iff.mp e).1
      refine ⟨L, σ, h, xs, h, hr, sr, by simp [iVal, oVar, e, itemsD, optR], fun L1 H1 J l1 r1 wk => ?_⟩
      refine for_rd r1 (s'.le l1) (wk _ (fun j hj s2 q' es o e2 => ?_)) (Post.mono q (LeS.of0 l1))
      have : j = i := by simpa using hj
      subst this
      rw [ex] at e2; cases e2
      exact own_lent s' (List.getElem?_set_self hi) ex
    | lent xs =>
      rw [e] at q
      obtain ⟨xv, ex, p, vs, rfl, _⟩ := sr.sl i _ e
      refine ⟨L, σ, h, xs, h, hr, sr, by simp [iVal, oVar, e, itemsD, optR], fun L1 H1 J l1 r1 wk => ?_⟩
      refine for_rd r1 (sr.le l1) (wk _ (fun j hj s2 q' es o e2 => ?_)) (Post.mono q (LeS.of0 l1))
      have : j = i := by simpa using hj
      subst this
      rw [ex] at e2; cases e2
      exact own_lent sr e ex
    | val d =>
      rw [e] at q
      cases ed : itemsD d with
      | none => simp only [ed] at q; exact q.elim
      | some xs =>
        simp only [ed] at q
        obtain ⟨xv, ex, v, rfl, rv⟩ := sr.sl i _ e
        refine ⟨L, σ, h, xs, h, hr, sr, by simp [iVal, oVar, e, ed, optR], fun L1 H1 J l1 r1 wk => ?_⟩
        refine for_rd r1 (sr.le l1) (wk _ (fun j hj s2 q' es o e2 => ?_)) (Post.mono q (LeS.of0 l1))
        have : j = i := by simpa using hj
        subst this
        rw [e] at es; cases es; cases o
def whileGo (t : TM) (body : SM) : Nat → Sg → Hs → RS
  | 0, _, _ => .bad
  | n + 1, σ, h => eDo (t σ h) fun b h1 => match b with
    | true => (body σ h1).loop fun σ2 h2 => whileGo t body n σ2 h2
    | false => .nx σ h1
theorem sndS_while {c : Expr} {t : TM} {body : SM} (n : Nat) (hp : PassesOwn (model X.prog X.w) X.A X.env X.xe) (hc : SndT X c t) (hb : SndB X bodyS body) : SndS X (.While c bodyS [] pos) (whileGo t body n) := by
  refine weakS (ps_while hp hc hb) fun E σV H ⟨L, σ, h, hr, sr, q⟩ => ?_
  refine ⟨fun m σV' H' => ∃ L' σ' h', LeS L H σV σ L' H' σV' σ' ∧ HRel X.K L' H' h' ∧ SRel X.K L' H' σV' σ' ∧ Post X.K E L' H' σV' σ' (whileGo t body m σ' h'), ⟨n, L, σ, h, LeS.refl, hr, sr, q⟩, ?_⟩
  rintro m σV' H' ⟨L', σ', h', l', r', s', q'⟩
  cases m with
  | zero => exact q'.elim
  | succ m =>
    obtain ⟨b, h1, e1, q'⟩ := eDo_case q'
    refine ⟨L', σ', h', b, h1, r', s', e1, fun L1 H1 l1 r1 => ?_⟩
    have q1 := Post.mono q' (LeS.of0 l1)
    have l2 := l'.trans (LeS.of0 l1)
    cases b with
    | false => exact q1 L1 H1 σV' LeS.refl r1 (s'.le l1)
    | true =>
      refine ⟨fun σV3 H3 => ∃ L3 σ3 h3, LeS L H σV σ L3 H3 σV3 σ3 ∧ HRel X.K L3 H3 h3 ∧ SRel X.K L3 H3 σV3 σ3 ∧ Post X.K E L3 H3 σV3 σ3 (whileGo t body m σ3 h3), fun σ3 H3 w => ⟨m, Nat.lt_succ_self m, w⟩, L1, σ', h1, r1, s'.le l1, ?_⟩
      cases eb : body σ' h1 with
      | nx σ3 h3 =>
        simp only [eb, RS.loop] at q1
        exact fun L3 H3 σV3 l3 r3 s3 => ⟨L3, σ3, h3, l2.trans l3, r3, s3, Post.mono q1 l3⟩
      | ct σ3 h3 =>
        simp only [eb, RS.loop] at q1
        exact fun L3 H3 σV3 l3 r3 s3 => ⟨L3, σ3, h3, l2.trans l3, r3, s3, Post.mono q1 l3⟩
      | bk σ3 h3 => simp only [eb, RS.loop] at q1; exact q1
      | rt d h3 => simp only [eb, RS.loop] at q1; exact q1
      | bad => simp only [eb, RS.loop] at q1; exact q1.elim
end
end WC
set_option Elab.async false
set_option linter.all false
set_option maxRecDepth 100000
namespace WC
open PySem PySem.Spec PyProof.Rows L2

abbrev FD := List D → Hs → R D
def spI (K : PySem.W.Frag) (n : Nat) (f : FD) : Sp := fun vs H Q _ => vs.length = n ∧ ∃ (L : Lay) (h : Hs) (ds : List D) (d : D) (h' : Hs), HRel K L H h ∧ Reps K L vs ds ∧ f ds h = .ok d h' ∧
  ∀ L' H' v, Le0 L H L' H' → HRel K L' H' h' → Rep K L' v d → Q v H'
def eFn (n : Nat) (f : FD) (ms : AM) : EM := fun σ h => (ms σ h).bind fun xs h1 => if xs.length = n then f xs h1 else .bad
theorem fn_rd {K : PySem.W.Frag} {n : Nat} {f : FD} {ms : AM} {σV : Sv} {H : Hp} {Q : VK} {E : XK} (q : RdE K (eFn n f ms) σV H Q) : RdA K ms σV H fun vs H1 => spI K n f vs H1 Q E := by
  obtain ⟨L, σ, h, d, h', hr, sr, em, k⟩ := q
  obtain ⟨xs, h1, e1, em⟩ := bind_some em
  by_cases hn : xs.length = n
  · rw [if_pos hn] at em
    exact ⟨L, σ, h, xs, h1, hr, sr, e1, fun L1 H1 vs l1 r1 q1 => ⟨q1.length.trans hn, L1, h1, xs, d, h', r1, q1, em, fun L2' H2 v l2 r2 q2 => k L2' H2 v (l1.trans0 l2) r2 q2⟩⟩
  · rw [if_neg hn] at em; cases em
def permL {α : Type} (is : List Nat) (l : List α) : List α := is.filterMap fun i => l[i]?
def eFnK (n m k : Nat) (is : List Nat) (f : FD) (ms mk : AM) : EM := fun σ h => (ms σ h).bind fun xs h1 => (mk σ h1).bind fun zs h2 => if xs.length = m ∧ zs.length = k ∧ (permL is (xs ++ zs)).length = n then f (permL is (xs ++ zs)) h2 else .bad
theorem perm_vals {vs : List V} {us : List Value} (r : Vals vs us) : ∀ is : List Nat, Vals (permL is vs) (permL is us)
  | [] => .nil
  | i :: is => by
    unfold permL
    rw [List.filterMap_cons, List.filterMap_cons]
    have ih : Vals (permL is vs) (permL is us) := perm_vals r is
    cases e : vs[i]? with
    | none => rw [r.none_of e]; exact ih
    | some v =>
      obtain ⟨u, eu, ru⟩ := r.get e
      rw [eu]
      exact .cons ru ih
theorem perm_reps {K : PySem.W.Frag} {L : Lay} {vs : List V} {ds : List D} (r : Reps K L vs ds) : ∀ is : List Nat, Reps K L (permL is vs) (permL is ds)
  | [] => .nil
  | i :: is => by
    unfold permL
    rw [List.filterMap_cons, List.filterMap_cons]
    have ih : Reps K L (permL is vs) (permL is ds) := perm_reps r is
    cases e : vs[i]? with
    | none =>
      have : ds[i]? = none := List.getElem?_eq_none_iff.mpr (by rw [← r.length]; exact List.getElem?_eq_none_iff.mp e)
      rw [this]; exact ih
    | some v =>
      obtain ⟨d, ed, rd⟩ := r.getV e
      rw [ed]
      exact .cons rd ih
def KB (K : PySem.W.Frag) (fd : FuncData) (ps ks : List Str) (m : Nat) (is : List Nat) : Prop :=
  ∀ (s : Shared) (us ws : List Value), K.In s.heap → us.length = m → ws.length = ks.length → BindsTo s fd ⟨us, ks.zip ws⟩ (ps.zip (permL is (us ++ ws)))
def SndK (X : Cx) (kws : List Keyword) (m : AM) : Prop := PK X kws (RdA X.K m)
section
variable {X : Cx} {k n m : Nat} {f : Addr} {fd : FuncData} {ps ks : List Str} {F : FD} {x : Str} {p pos : Pos} {e : Expr} {es : List Expr} {kws : List Keyword} {ms mk : AM} {is : List Nat}
theorem sndK_nil : SndK X [] aNil := weakK pk_nil fun σV H Q ⟨L, σ, h, d, h', hr, sr, em, k⟩ => by cases em; exact k L H [] Le.refl hr .nil
theorem sndK_cons {nm : Option Str} {kpos : Pos} {m : EM} {ms : AM} (he : SndE X e m) (hes : SndK X kws ms) : SndK X (⟨nm, e, kpos⟩ :: kws) (aCons m ms) := by
  refine weakK (pk_cons he hes) fun σV H Q ⟨L, σ, h, d, h', hr, sr, em, k⟩ => ?_
  obtain ⟨x, h1, e1, em⟩ := bind_some em
  obtain ⟨xs, h2, e2, em⟩ := bind_some em
  cases em
  refine ⟨L, σ, h, x, h1, hr, sr, e1, fun L1 H1 v1 l1 r1 q1 => ⟨L1, σ, h1, xs, h', r1, sr.le l1, e2, fun L2' H2 vs l2 r2 q2 => ?_⟩⟩
  exact k L2' H2 (v1 :: vs) (l1.trans0 l2) r2 (.cons (q1.le l2) q2)
theorem snd_fn (G : FnOk X.prog X.w X.K X.mg X.base CX0 k f fd ps (spI X.K n F)) (hr : Room k X.A) (hg : Gl X x) (hm : X.mg x = some (.ref f)) (hk : PySem.W.keepIn X.K (.ref f) = true) (hb : Binds X.K fd ps []) (ha : SndA X (e :: es) ms)
    (hdb : (x == ("__debug__" : Str)) = false) (he : starEach (e :: es) X.env = (false, eval e X.env) :: starEach es X.env) (hpl : (backTo pos (starEach es X.env)).any (·.1) = false) : SndE X (.Call (.Name x p) (e :: es) [] pos) (eFn n F ms) := by
  refine weakE (pe_call G hr hg hm hk hb .nil pass0 ha hdb he hpl) fun σV H Q q => ?_
  obtain ⟨L, σ, h, d, h', a, b, c, k⟩ := fn_rd (E := fun _ _ _ => False) q
  exact ⟨L, σ, h, d, h', a, b, c, fun L' H' v l r q => by
    show spI X.K n F (v ++ []) H' Q E0
    rw [List.append_nil]; exact k L' H' v l r q⟩
theorem snd_fn0 (G : FnOk X.prog X.w X.K X.mg X.base CX0 k f fd ps (spI X.K n F)) (hr : Room k X.A) (hg : Gl X x) (hm : X.mg x = some (.ref f)) (hk : PySem.W.keepIn X.K (.ref f) = true) (hb : Binds X.K fd ps []) (hdb : (x == ("__debug__" : Str)) = false) : SndE X (.Call (.Name x p) [] [] pos) (eFn n F aNil) := by
  refine weakE (pe_call0 G hr hg hm hk hb .nil pass0 hdb) fun σV H Q q => ?_
  obtain ⟨L, σ, h, d, h', a, b, c, k⟩ := fn_rd (E := fun _ _ _ => False) q
  cases c
  exact k L H [] Le.refl a .nil
theorem kfn_rd {σV : Sv} {H : Hp} {Q : VK} (q : RdE X.K (eFnK n m ks.length is F ms mk) σV H Q) : RdA X.K ms σV H fun vs H1 => RdA X.K mk σV H1 fun zs H2 => vs.length = m ∧ zs.length = ks.length ∧ spI X.K n F (permL is (vs ++ zs)) H2 Q (fun _ _ _ => False) := by
  obtain ⟨L, σ, h, d, h', hr, sr, em, k⟩ := q
  obtain ⟨xs, h1, e1, em⟩ := bind_some em
  obtain ⟨zs, h2, e2, em⟩ := bind_some em
  by_cases hn : xs.length = m ∧ zs.length = ks.length ∧ (permL is (xs ++ zs)).length = n
  · rw [if_pos hn] at em
    refine ⟨L, σ, h, xs, h1, hr, sr, e1, fun L1 H1 vs l1 r1 q1 => ⟨L1, σ, h1, zs, h2, r1, sr.le l1, e2, fun L2' H2 ws l2 r2 q2 => ?_⟩⟩
    have rr := perm_reps ((q1.le l2).append q2) is
    exact ⟨q1.length.trans hn.1, q2.length.trans hn.2.1, rr.length.trans hn.2.2, L2', h2, _, d, h', r2, rr, em, fun L3 H3 v l3 r3 q3 => k L3 H3 v ((l1.trans0 l2).trans0 l3) r3 q3⟩
  · rw [if_neg hn] at em; cases em
theorem run_k {pins : List (Addr × Obj)} {σ : Sv} {H : Hp} {s : Shared} {Q : VK} {us ws : List Value} {vs zs : List V} (G : FnOk X.prog X.w X.K X.mg X.base CX0 k f fd ps (spI X.K n F)) (hr : Room k X.A) (hb : KB X.K fd ps ks m is)
    (I : Inv X pins σ H s) (r : Vals vs us) (rz : Vals zs ws) (h : vs.length = m ∧ zs.length = ks.length ∧ spI X.K n F (permL is (vs ++ zs)) H Q (fun _ _ _ => False)) : wpAny (model X.prog X.w) X.A (call (.ref f) us (ks.zip ws)) (EP X pins σ Q) X.xe s := by
  obtain ⟨h1, h2, h⟩ := h
  have r2 := perm_vals (r.append rz) is
  refine wpAny_call (codeAny_mono (G.run X.A X.stack s H ⟨us, ks.zip ws⟩ _ _ Q (fun _ _ _ => False) hr I.env0 (hb s us ws I.kIn (by rw [← r.length]; exact h1) (by rw [← rz.length]; exact h2)) r2 h) fun r s' hq => ?_)
  cases r with
  | error e => exact hq.elim
  | ok fl =>
    cases fl with
    | ret u => exact I.after hq
    | next => exact False.elim hq
    | brk => exact False.elim hq
    | cont => exact False.elim hq
theorem snd_fnk (G : FnOk X.prog X.w X.K X.mg X.base CX0 k f fd ps (spI X.K n F)) (hr : Room k X.A) (hg : Gl X x) (hm : X.mg x = some (.ref f)) (hk : PySem.W.keepIn X.K (.ref f) = true) (hb : KB X.K fd ps ks m is) (ha : SndA X (e :: es) ms) (hkw : SndK X kws mk)
    (hall : (backToKw pos (keywordEach kws X.env)).all (·.1.isSome) = true) (hks : (backToKw pos (keywordEach kws X.env)).filterMap (·.1) = ks) (hdb : (x == ("__debug__" : Str)) = false) (he : starEach (e :: es) X.env = (false, eval e X.env) :: starEach es X.env)
    (hpl : ((backTo pos (starEach (e :: es) X.env)).any (·.1) || (backToKw pos (keywordEach kws X.env)).any (·.1.isNone)) = false) : SndE X (.Call (.Name x p) (e :: es) kws pos) (eFnK n m ks.length is F ms mk) := by
  refine ⟨fun pins s σ H Q I h => ?_⟩
  refine wpAny_Call_Name_kw (ld_glob I hg hm ?_ hdb)
  refine PySem.W.callWith_KW (h₀ := X.base) I.ok.mod.kin hk hall (thn (ha.run pos pins s σ H _ I (kfn_rd h)) fun us s1 ⟨vs, H1, I1, r, q⟩ => ?_) hpl he
  refine thn (hkw.run pos pins s1 σ H1 _ I1 q) fun ws s2 ⟨zs, H2, I2, rz, q2⟩ => ⟨I2.kIn, ?_⟩
  rw [hks]
  exact run_k G hr hb I2 r rz q2
theorem snd_fnk0 (G : FnOk X.prog X.w X.K X.mg X.base CX0 k f fd ps (spI X.K n F)) (hr : Room k X.A) (hg : Gl X x) (hm : X.mg x = some (.ref f)) (hk : PySem.W.keepIn X.K (.ref f) = true) (hb : KB X.K fd ps ks m is) (hkw : SndK X kws mk)
    (hall : (backToKw pos (keywordEach kws X.env)).all (·.1.isSome) = true) (hks : (backToKw pos (keywordEach kws X.env)).filterMap (·.1) = ks) (hdb : (x == ("__debug__" : Str)) = false)
    (hpl : ((backTo pos (starEach [] X.env)).any (·.1) || (backToKw pos (keywordEach kws X.env)).any (·.1.isNone)) = false) : SndE X (.Call (.Name x p) [] kws pos) (eFnK n m ks.length is F aNil mk) := by
  refine ⟨fun pins s σ H Q I h => ?_⟩
  refine wpAny_Call_Name_kw (ld_glob I hg hm ?_ hdb)
  have h := kfn_rd h
  obtain ⟨L, σ', h0, d, h1, hr0, sr0, e0, k0⟩ := h
  cases e0
  have h := k0 L H [] Le.refl hr0 .nil
  refine PySem.W.callWith_KW0 (h₀ := X.base) I.ok.mod.kin hk hall (thn (hkw.run pos pins s σ H _ I h) fun ws s2 ⟨zs, H2, I2, rz, q2⟩ => ⟨I2.kIn, ?_⟩) hpl
  rw [hks]
  exact run_k (us := []) (vs := []) G hr hb I2 .nil rz q2
end

def startS (n : Nat) (ds : List D) : Sg := ds.map .val ++ List.replicate (n - ds.length) .no
def defF (n : Nat) (body : SM) : FD := fun ds h => match body (startS n ds) h with
  | .nx _ h' => .ok .non h'
  | .rt d h' => .ok d h'
  | _ => .bad
theorem start_srel {K : PySem.W.Frag} {L : Lay} {H : Hp} {n : Nat} {N : List Str} {vs : List V} {ds : List D} (hN : N.length = n) (r : Reps K L vs ds) : SRel K L H (L2.start N vs) (startS n ds) := by
  have hl := r.length
  have key : ∀ (i : Nat) (s : Sl), (startS n ds)[i]? = some s → (∃ d, s = .val d ∧ ds[i]? = some d) ∨ s = .no := fun i s e => by
    unfold startS at e
    by_cases hi : i < ds.length
    · rw [List.getElem?_append_left (by simpa using hi), List.getElem?_map, Option.map_eq_some_iff] at e
      obtain ⟨d, e, rfl⟩ := e
      exact .inl ⟨d, rfl, e⟩
    · rw [List.getElem?_append_right (by simpa using hi), List.getElem?_replicate] at e
      split at e
      · cases e; exact .inr rfl
      · cases e
  refine ⟨?_, fun i s e => ?_, fun i j s t p e1 e2 o1 o2 _ _ => ?_⟩
  · unfold L2.start startS
    simp [hl, hN]
  · have hi : i < (L2.start N vs).length := by
      have := (List.getElem?_eq_some_iff.mp e).1
      unfold L2.start startS at *
      simp [hl, hN] at this ⊢
      omega
    rcases key i s e with ⟨d, rfl, ed⟩ | rfl
    · obtain ⟨v, ev, rv⟩ := r.get ed
      refine ⟨some v, ?_, v, rfl, rv⟩
      unfold L2.start
      rw [List.getElem?_append_left (by simpa using (List.getElem?_eq_some_iff.mp ev).1), List.getElem?_map, ev]
      rfl
    · exact ⟨_, List.getElem?_eq_getElem hi, trivial⟩
  · rcases key i s e1 with ⟨d, rfl, _⟩ | rfl <;> cases o1
theorem start_own {n : Nat} {N : List Str} {vs : List V} {ds : List D} {p : Addr} : ¬ Own (L2.start N vs) (startS n ds) p := fun ⟨i, s, e, f, _⟩ => by
  unfold startS at e
  by_cases hi : i < ds.length
  · rw [List.getElem?_append_left (by simpa using hi), List.getElem?_map, Option.map_eq_some_iff] at e
    obtain ⟨d, e, rfl⟩ := e
    cases f
  · rw [List.getElem?_append_right (by simpa using hi), List.getElem?_replicate] at e
    split at e
    · cases e; cases f
    · cases e
theorem fn_ok {P : Program} {w : World} {K : PySem.W.Frag} {mg : Str → Option Value} {base : Heap} {x qual : Str} {st : Stmt} {f : Addr} {fd : FuncData} {N ps : List Str} {k n : Nat} {body : SM} (Fn : Fun K x qual st f fd) (S : FnScope N ps (defScope st)) (hn : N.length = n)
    (hb : ∀ (cdv : Value) (A : Around) (outer : List Env) (s : Shared) (H : Hp), Room k (A.deeper (envOfC qual (defScope st) s.heap.objs.size f cdv)) → SndB (cxOf CX0 P w K mg base N qual (defScope st) f cdv A outer s H (fun _ _ _ => False)).nox (defBody st) body) :
    FnOk P w K mg base CX0 (k + 1) f fd ps (spI K ps.length (defF n body)) := by
  refine (Fn.ok S (sp := fun vs H Q E => spI K ps.length (defF n body) vs H Q E) (fun vs H Q E h => h.1) fun cdv A outer s H vs Q E hr h => ?_)
  obtain ⟨hl, L, h0, ds, d, h', hr', rr, em, kk⟩ := h
  refine ⟨RdS K body, ?_, L, startS n ds, h0, hr', start_srel hn rr, ?_⟩
  · exact hb cdv A outer s H hr
  · unfold defF at em
    have sub : ∀ p, Own (L2.start N vs) (startS n ds) p → False := fun p h => start_own h
    cases eb : body (startS n ds) h0 with
    | nx σ' h1 =>
      rw [eb] at em; cases em
      exact fun L' H' σV' l hr s => kk L' H' _ (l.le.up sub) hr .non
    | rt d' h1 =>
      rw [eb] at em; cases em
      exact fun L' H' v l hr r => kk L' H' v (l.up sub) hr r
    | bk _ _ => rw [eb] at em; cases em
    | ct _ _ => rw [eb] at em; cases em
    | bad => rw [eb] at em; cases em
end WC
set_option Elab.async false
set_option linter.all false
set_option maxRecDepth 100000
namespace WC
open PySem PySem.Spec PyProof.Rows L2

def notStar : Expr → Bool
  | .Starred _ _ => false
  | _ => true
theorem starEach_cons {e : Expr} {es : List Expr} {env : Env} (h : notStar e = true) : starEach (e :: es) env = (false, eval e env) :: starEach es env := by
  cases e <;> first | rfl | cases h
theorem starEach_any : ∀ {es : List Expr} {env : Env}, es.all notStar = true → (starEach es env).any (·.1) = false
  | [], _, _ => rfl
  | e :: es, env, h => by
    rw [List.all_cons, Bool.and_eq_true] at h
    rw [starEach_cons h.1, List.any_cons, starEach_any h.2]
    rfl
theorem backTo_any {pos : Pos} {l : List (Bool × Sem Value)} : (backTo pos l).any (·.1) = l.any (·.1) := by
  unfold backTo
  rw [List.any_map]
  rfl
theorem back_plain {pos : Pos} {es : List Expr} {env : Env} (h : es.all notStar = true) : (backTo pos (starEach es env)).any (·.1) = false := by rw [backTo_any, starEach_any h]
theorem any_all {l : List (Bool × Sem Value)} (h : l.any (·.1) = false) : l.all (fun x => !x.1) = true := by
  rw [List.all_eq_not_any_not]
  simpa using h
theorem few_ok {cpos : Pos} {es : List Expr} {env : Env} (h : es.all notStar = true) (hl : es.length < 30) : ((backTo cpos (starEach es env)).all (fun x => !x.1) && (backToKw cpos (keywordEach [] env)).all (fun x => x.1.isSome)
      && decide (es.length + ([] : List Keyword).length + (if ([] : List Keyword).isEmpty then 0 else 1) < 30)) = true := by
  rw [any_all (back_plain h), Bool.true_and]
  have e2 : (backToKw cpos (keywordEach [] env)).all (fun x => x.1.isSome) = true := rfl
  rw [e2, Bool.true_and]
  exact decide_eq_true (by simpa using hl)
def okBase : Expr → Bool
  | .Call (.Name _ _) [] [] _ => false
  | _ => true
theorem base_ok {o : Expr} {name : Str} {env : Env} {w : Sem Value} (h : okBase o = true) : attributeBase o name env w = w := by
  cases o <;> first | rfl | skip
  rename_i f as ks p
  cases f <;> first | rfl | skip
  cases as <;> first | rfl | skip
  cases ks <;> first | rfl | skip
  cases h
def plainT : Expr → Bool
  | .UnaryOp .Not _ _ => false
  | .BoolOp _ _ _ => false
  | .IfExp _ _ _ _ => false
  | .Compare _ _ _ _ => false
  | _ => true
theorem plain_ok {e : Expr} {env : Env} (h : plainT e = true) : ∀ whole, isTrue e env whole = (do let v ← whole; standAt e.pos; holding [v] (truthy v)) := by
  intro whole
  cases e <;> first | rfl | cases h | skip
  rename_i op _ _
  cases op <;> first | rfl | cases h
def notSlice : Expr → Bool
  | .Slice _ _ _ _ => false
  | _ => true
theorem plainIx_ok {b : Expr} (h : notSlice b = true) : PlainIx b := by
  intro o i
  cases b <;> first | rfl | cases h
def notSet : Expr → Bool
  | .Set _ _ _ => false
  | _ => true
theorem notSet_ok {e : Expr} {env : Env} (h : notSet e = true) : ∀ x, foldedSetIterable e env x = pure x := by
  intro x
  cases e <;> first | rfl | cases h
def notComp : Expr → Bool
  | .ListComp _ _ _ _ => false
  | .SetComp _ _ _ _ => false
  | .DictComp _ _ _ _ _ => false
  | _ => true
theorem sw_ok {e : Expr} {t : Option Expr} {l : Nat} {env : Env} (h : notComp e = true) : swapsWith e t l env = pure false := by
  cases e <;> first | rfl | cases h
theorem sub_ok {o a : Expr} {tp : Pos} {env : Env} (h : notSlice a = true) : ∀ v, assign (.Subscript o a tp) env v = (do
      let ov ← holding [v] (eval o env)
      let iv ← holding [v, ov] (eval a env)
      standAt tp
      holding [v, ov, iv] (setItem ov iv v)
      release [v, ov, iv] []) := by
  intro v
  cases a <;> first | rfl | cases h
theorem augStore_ok {a : Expr} (h : notSlice a = true) : ∀ ov iv new, augStore a ov iv new = (do holding [new, ov, iv] (setItem ov iv new); release [new, ov, iv] []; pure .next) := by
  intro ov iv new
  cases a <;> first | rfl | cases h
theorem each_cons {e : Expr} {es : List Expr} {env : Env} (h : notStar e = true) : assignEach (e :: es) env = (false, assign e env) :: assignEach es env := by
  cases e <;> first | rfl | cases h
theorem each_len : ∀ {es : List Expr} {env : Env}, (assignEach es env).length = es.length
  | [], _ => rfl
  | e :: es, env => by
    have := @each_len es env
    cases e <;> (show (assignEach es env).length + 1 = es.length + 1; rw [this])
theorem each_find : ∀ {es : List Expr} {env : Env}, es.all notStar = true → (assignEach es env).findIdx? (·.1) = none
  | [], _, _ => rfl
  | e :: es, env, h => by
    rw [List.all_cons, Bool.and_eq_true] at h
    rw [each_cons h.1, List.findIdx?_cons, each_find h.2]
    rfl
theorem kw_all : ∀ {kws : List Keyword} {pos : Pos} {env : Env}, kws.all (fun k => k.arg.isSome) = true → (backToKw pos (keywordEach kws env)).all (·.1.isSome) = true
  | [], _, _, _ => rfl
  | ⟨nm, e, p⟩ :: kws, pos, env, h => by
    rw [List.all_cons, Bool.and_eq_true] at h
    show (nm.isSome && (backToKw pos (keywordEach kws env)).all (·.1.isSome)) = true
    rw [kw_all h.2, Bool.and_true]
    exact h.1
theorem kw_names : ∀ {kws : List Keyword} {pos : Pos} {env : Env}, (backToKw pos (keywordEach kws env)).filterMap (·.1) = kws.filterMap (·.arg)
  | [], _, _ => rfl
  | ⟨nm, e, p⟩ :: kws, pos, env => by
    have ih := @kw_names kws pos env
    show ((nm, _) :: backToKw pos (keywordEach kws env)).filterMap (·.1) = _
    rw [List.filterMap_cons, List.filterMap_cons]
    cases nm with
    | none => exact ih
    | some n => rw [ih]
theorem kw_none {kws : List Keyword} {pos : Pos} {env : Env} (h : kws.all (fun k => k.arg.isSome) = true) : (backToKw pos (keywordEach kws env)).any (·.1.isNone) = false := by
  have := kw_all (pos := pos) (env := env) h
  rw [List.all_eq_not_any_not] at this
  have h2 : ((backToKw pos (keywordEach kws env)).any fun x => !x.1.isSome) = false := by simpa using this
  rw [← h2]
  congr 1
  funext x
  cases x.1 <;> rfl
def isTupE : Expr → Bool
  | .Tuple _ _ _ => true
  | _ => false
theorem sst_none {tg e : Expr} {env : Env} (h : isTupE e = false) : swappedStores [tg] e env = pure none := by
  cases e <;> first | (cases h; done) | (cases tg <;> rfl)
theorem sst_name {x : Str} {p : Pos} {e : Expr} {env : Env} : swappedStores [.Name x p] e env = pure none := by cases e <;> rfl
theorem sst_sub {o a : Expr} {p : Pos} {e : Expr} {env : Env} : swappedStores [.Subscript o a p] e env = pure none := by cases e <;> rfl
theorem block_fn {env : Env} (h : env.scope.kind = .function) : (env.blockKind != .function) = false := by
  unfold Env.blockKind
  rw [h]
  rfl
theorem sst_const {ts vs : List Expr} {k k2 : Nat} {p p2 : Pos} {env : Env} (h : vs.all (foldedForSure 8) = true) : swappedStores [.Tuple ts k p] (.Tuple vs k2 p2) env = pure none := by
  unfold swappedStores
  simp only [h]
  split
  · rfl
  · split
    · rfl
    · split
      · rfl
      · rfl
theorem sst_long {ts vs : List Expr} {k k2 : Nat} {p p2 : Pos} {env : Env} (h : (ts.length == 2 || ts.length == 3) = false) : swappedStores [.Tuple ts k p] (.Tuple vs k2 p2) env = pure none := by
  unfold swappedStores
  simp only [h]
  rfl
theorem sst_two {x y : Str} {px py pt pt2 : Pos} {a b : Expr} {k k2 : Nat} {env : Env} (hk : env.scope.kind = .function) (hx : env.scope.names.lookup x = some .local) (hy : env.scope.names.lookup y = some .local) (hl : (py.line == px.line) = true) (hne : (y == x) = false)
    (ha : notStar a = true) (hb : notStar b = true) (hf : [a, b].all (foldedForSure 8) = false) (hc : [a, b].all (constantsAlone 8) = false) : swappedStores [.Tuple [.Name x px, .Name y py] k pt] (.Tuple [a, b] k2 pt2) env = pure (some [x, y]) := by
  have kx : env.kindOf x = some .local := hx
  have ky : env.kindOf y = some .local := hy
  unfold swappedStores
  dsimp only
  refine (if_neg (by simp [block_fn hk])).trans ((if_neg fun h => ?_).trans ?_)
  · rw [List.any_eq_true] at h
    obtain ⟨e, he, h⟩ := h
    have hs : notStar e = true := by
      simp only [List.mem_cons, List.not_mem_nil, or_false] at he
      rcases he with rfl | rfl
      · exact ha
      · exact hb
    clear he hf hc
    cases e <;> first | exact absurd (show false = true from h) (by decide) | cases hs
  · have l1 := eq_of_beq hl
    have n1 : ¬ y = x := by simpa using hne
    simp [hf, hc, n1, kx, ky, l1, Expr.pos, List.filterMap_cons, List.eraseDups_cons, List.filter_cons]
theorem sst_three {x y z : Str} {px py pz pt pt2 : Pos} {a b c : Expr} {k k2 : Nat} {env : Env} (hk : env.scope.kind = .function) (hx : env.scope.names.lookup x = some .local) (hy : env.scope.names.lookup y = some .local) (hz : env.scope.names.lookup z = some .local) (hl : (py.line == px.line) = true) (hl2 : (pz.line == px.line) = true)
    (hne : (y == x) = false) (hne2 : (z == x) = false) (hne3 : (z == y) = false)
    (ha : notStar a = true) (hb : notStar b = true) (hcs : notStar c = true) (hf : [a, b, c].all (foldedForSure 8) = false) (hc : [a, b, c].all (constantsAlone 8) = false) : swappedStores [.Tuple [.Name x px, .Name y py, .Name z pz] k pt] (.Tuple [a, b, c] k2 pt2) env = pure (some [x, y, z]) := by
  have kx : env.kindOf x = some .local := hx
  have ky : env.kindOf y = some .local := hy
  have kz : env.kindOf z = some .local := hz
  unfold swappedStores
  dsimp only
  refine (if_neg (by simp [block_fn hk])).trans ((if_neg fun h => ?_).trans ?_)
  · rw [List.any_eq_true] at h
    obtain ⟨e, he, h⟩ := h
    have hs : notStar e = true := by
      simp only [List.mem_cons, List.not_mem_nil, or_false] at he
      rcases he with rfl | rfl | rfl
      · exact ha
      · exact hb
      · exact hcs
    clear he hf hc
    cases e <;> first | exact absurd (show false = true from h) (by decide) | cases hs
  · have l1 := eq_of_beq hl
    have l2 := eq_of_beq hl2
    have n1 : ¬ y = x := by simpa using hne
    have n2 : ¬ z = x := by simpa using hne2
    have n3 : ¬ z = y := by simpa using hne3
    simp [hf, hc, n1, n2, n3, kx, ky, kz, l1, l2, Expr.pos, List.filterMap_cons, List.eraseDups_cons, List.filter_cons]
def slotGo (x : Str) : List Str → Nat → Option Nat
  | [], _ => none
  | y :: ys, n => if x = y then some n else slotGo x ys (n + 1)
def slot (N : List Str) (x : Str) : Option Nat := slotGo x N 0
theorem slotGo_ok {x : Str} : ∀ {l : List Str} {n i : Nat}, slotGo x l n = some i → n ≤ i ∧ l[i - n]? = some x
  | [], _, _, h => by cases h
  | y :: ys, n, i, h => by
    unfold slotGo at h
    split at h
    · rename_i e
      cases h
      refine ⟨Nat.le_refl _, ?_⟩
      rw [Nat.sub_self, e]
      rfl
    · obtain ⟨h1, h2⟩ := slotGo_ok h
      refine ⟨by omega, ?_⟩
      rw [show i - n = (i - (n + 1)) + 1 by omega]
      exact h2
theorem slot_ok {N : List Str} {x : Str} {i : Nat} (h : slot N x = some i) : N[i]? = some x := (slotGo_ok h).2
end WC
set_option Elab.async false
set_option linter.all false
set_option maxRecDepth 100000
namespace WC
open PySem PySem.Spec PyProof.Rows L2

abbrev KVs := List (List Nat × D)
inductive KvOk (K : PySem.W.Frag) : List DictEntry → KVs → Prop
  | nil : KvOk K [] []
  | cons {e : DictEntry} {es : List DictEntry} {x : Str} {t : Tok} {v : V} {d : D} {kvs : KVs} : e.key = .str x t → RelV v e.val → (∀ L, Rep K L v d) → KvOk K es kvs → KvOk K (e :: es) ((x.cps.toList, d) :: kvs)
structure KDOk (K : PySem.W.Frag) (w : World) (a : Addr) (kvs : KVs) : Prop where
  ex : ∃ es n, KDict K w a es n ∧ KvOk K es.toList kvs
theorem kv_some {K : PySem.W.Frag} {z : Str} {d : D} : ∀ {es : List DictEntry} {kvs : KVs}, KvOk K es kvs → kvs.lookup z.cps.toList = some d → ∃ e v, es.find? (·.key.isStr z) = some e ∧ RelV v e.val ∧ ∀ L, Rep K L v d
  | _, _, .nil, h => by cases h
  | _, _, .cons (x := x) (v := v) (e := e) (es := es) hk r rr o, h => by
    rw [List.lookup_cons] at h
    rw [List.find?_cons, hk]
    simp only [Value.isStr]
    cases hb : (z.cps.toList == x.cps.toList) with
    | true =>
      rw [hb] at h
      cases h
      have : x = z := by
        have e1 : z.cps.toList = x.cps.toList := by simpa using hb
        cases x; cases z; simp only at e1; congr 1; exact (Array.toList_inj.mp e1).symm
      rw [this, beq_self_eq_true]
      exact ⟨_, _, rfl, r, rr⟩
    | false =>
      rw [hb] at h
      have : (x == z) = false := by
        rw [beq_eq_false_iff_ne]
        intro e
        subst e
        simp at hb
      rw [this]
      exact kv_some o h
theorem kv_none {K : PySem.W.Frag} {z : Str} : ∀ {es : List DictEntry} {kvs : KVs}, KvOk K es kvs → kvs.lookup z.cps.toList = none → es.find? (·.key.isStr z) = none ∧ es.any (·.refKey) = false
  | _, _, .nil, h => ⟨rfl, rfl⟩
  | _, _, .cons (x := x) (v := v) (e := e) (es := es) hk r rr o, h => by
    rw [List.lookup_cons] at h
    have hq : e.refKey = false := by unfold DictEntry.refKey; rw [hk]
    rw [List.find?_cons, List.any_cons, hq, hk]
    simp only [Value.isStr]
    cases hb : (z.cps.toList == x.cps.toList) with
    | true => rw [hb] at h; cases h
    | false =>
      rw [hb] at h
      have : (x == z) = false := by
        rw [beq_eq_false_iff_ne]
        intro e
        subst e
        simp at hb
      rw [this]
      exact kv_none o h
theorem ns_some {K : PySem.W.Frag} {w : World} {a : Addr} {es : Array DictEntry} {n : Nat} {kvs : KVs} {z : Str} {d : D} (D : KDict K w a es n) (o : KvOk K es.toList kvs) (h : kvs.lookup z.cps.toList = some d) : ∃ u v, PySem.W.nsIn K a z = some (some u) ∧ RelV v u ∧ ∀ L, Rep K L v d := by
  obtain ⟨e, v, h1, r, rr⟩ := kv_some o h
  refine ⟨e.val, v, ?_, r, rr⟩
  unfold PySem.W.nsIn
  rw [D.at_]
  simp only
  rw [h1]
theorem ns_none {K : PySem.W.Frag} {w : World} {a : Addr} {es : Array DictEntry} {n : Nat} {kvs : KVs} {z : Str} (D : KDict K w a es n) (o : KvOk K es.toList kvs) (h : kvs.lookup z.cps.toList = none) : PySem.W.nsIn K a z = some none := by
  obtain ⟨h1, h2⟩ := kv_none o h
  unfold PySem.W.nsIn
  rw [D.at_]
  simp only
  rw [h1, h2]
  rfl
def eInG (kvs : KVs) (neg : Bool) (m : EM) : EM := fun σ h => (m σ h).bind fun x h1 => match x with
  | .str c => .ok (.bl ((kvs.lookup c).isSome != neg)) h1
  | _ => .bad
def eGetG (kvs : KVs) (m : EM) : EM := fun σ h => (m σ h).bind fun x h1 => match x with
  | .str c => (match kvs.lookup c with
    | some d => .ok d h1
    | none => .bad)
  | _ => .bad
section
variable {X : Cx} {x : Str} {p pos : Pos} {a : Addr} {kvs : KVs} {e : Expr} {m : EM}
theorem in_rd (D : KDOk X.K X.w a kvs) {neg : Bool} {op : CmpOp} (ho : op = if neg then .NotIn else .In) : ∃ r : R2, OpR X (compareOp op) r ∧ ∀ σV H Q, RdE X.K (eInG kvs neg m) σV H Q → tOp r (RdO X.K m) (tC (.ref a)) σV H Q := by
  obtain ⟨es, n, kd, o⟩ := D.ex
  have fin : ∀ (r : R2), (∀ (z : Str) (H : Hp) (Q : VK) (b : Option Value), PySem.W.nsIn X.K a z = some b → Q (.bl (b.isSome != neg)) H → r (.str z) (.ref a) H Q) → ∀ σV H Q, RdE X.K (eInG kvs neg m) σV H Q → tOp r (RdO X.K m) (tC (.ref a)) σV H Q := by
    intro r hr σV H Q ⟨L, σ, h, d, h', hh, sr, em, k⟩
    obtain ⟨y, h1, e1, em⟩ := bind_some em
    refine ⟨L, σ, h, y, h1, hh, sr, e1, fun L1 H1 v1 l1 r1 q1 => ?_⟩
    split at em
    · rename_i c
      cases em
      obtain ⟨z, rfl, rfl, _, _⟩ := q1.str
      cases hl : kvs.lookup z.cps.toList with
      | some d =>
        obtain ⟨u, v, e2, _, _⟩ := ns_some kd o hl
        refine hr z H1 Q _ e2 ?_
        have := k L1 H1 (.bl ((kvs.lookup z.cps.toList).isSome != neg)) l1 r1 (.bl _)
        rw [hl] at this
        exact this
      | none =>
        have e2 := ns_none kd o hl
        refine hr z H1 Q _ e2 ?_
        have := k L1 H1 (.bl ((kvs.lookup z.cps.toList).isSome != neg)) l1 r1 (.bl _)
        rw [hl] at this
        exact this
    · cases em
  cases neg with
  | false =>
    subst ho
    refine ⟨_, op_in_kd kd, fin _ fun z H Q b e q => ⟨z, b, rfl, rfl, e, by simpa using q⟩⟩
  | true =>
    subst ho
    refine ⟨_, op_notIn_kd kd, fin _ fun z H Q b e q => ⟨z, b, rfl, rfl, e, by simpa using q⟩⟩
theorem snd_inG (hg : Gl X x) (hm : X.mg x = some (.ref a)) (hd : (x == ("__debug__" : Str)) = false) (D : KDOk X.K X.w a kvs) (ha : SndO X e m) {neg : Bool} {op : CmpOp} (ho : op = if neg then .NotIn else .In) (hb : behindInMarks op (.Name x p) = false) : SndE X (.Compare e [op] [.Name x p] pos) (eInG kvs neg m) := by
  obtain ⟨r, hr, w⟩ := in_rd (m := m) D ho
  exact weakE (pe_cmpR hr ha (pe_glob (v := .ref a) hg hm rfl hd) hb) w
theorem sndT_inG (hg : Gl X x) (hm : X.mg x = some (.ref a)) (hd : (x == ("__debug__" : Str)) = false) (D : KDOk X.K X.w a kvs) (ha : SndO X e m) {neg : Bool} {op : CmpOp} (ho : op = if neg then .NotIn else .In) (hb : behindInMarks op (.Name x p) = false) : SndT X (.Compare e [op] [.Name x p] pos) (tB (eInG kvs neg m)) := by
  obtain ⟨r, hr, w⟩ := in_rd (m := m) D ho
  exact weakT (pt_cmpR hr ha (pe_glob (v := .ref a) hg hm rfl hd) hb) fun σV H Q q => w _ _ _ (rdT_of q)
theorem snd_getG (hg : Gl X x) (hm : X.mg x = some (.ref a)) (hd : (x == ("__debug__" : Str)) = false) (D : KDOk X.K X.w a kvs) (ha : SndO X e m) (hp : PlainIx e) : SndE X (.Subscript (.Name x p) e pos) (eGetG kvs m) := by
  obtain ⟨es, n, kd, o⟩ := D.ex
  refine weakE (pe_ix ix_kdict (pe_glob (v := .ref a) hg hm rfl hd) ha hp) fun σV H Q ⟨L, σ, h, d, h', hh, sr, em, k⟩ => ?_
  obtain ⟨y, h1, e1, em⟩ := bind_some em
  refine ⟨L, σ, h, y, h1, hh, sr, e1, fun L1 H1 v1 l1 r1 q1 => ?_⟩
  split at em
  · rename_i c
    obtain ⟨z, rfl, rfl, _, _⟩ := q1.str
    cases hl : kvs.lookup z.cps.toList with
    | some d' =>
      rw [hl] at em
      cases em
      obtain ⟨u, v, e2, r2, rr⟩ := ns_some kd o hl
      exact ⟨a, z, v, rfl, rfl, ⟨es, n, u, kd.at_, kd.lit, e2, r2⟩, k L1 H1 v l1 r1 (rr L1)⟩
    | none => rw [hl] at em; cases em
  · cases em
end
end WC
set_option Elab.async false
set_option linter.all false
set_option maxRecDepth 100000
namespace WC
open PySem PySem.Spec PyProof.Rows L2
def leV (b : Bool) : V × D → V × D → Bool := PySem.W.dataLe b fun p => toP p.2
def leD (b : Bool) : D → D → Bool := PySem.W.dataLe b toP
def rSortAny (K : PySem.W.Frag) (b : Bool) : List V → Hp → VK → Prop := fun vs H Q => ∃ (a : Addr) (bs : List (V × D)), vs = [V.ref a] ∧ SqL K H a (bs.map (·.1)) ∧ (∀ p ∈ bs, Dp K H p.1 (toP p.2)) ∧
  PySem.W.AllAlike (bs.map fun p => toP p.2) ∧ PySem.W.Sortable (bs.map fun p => toP p.2) ∧ (∀ p ∈ bs, (toP p.2).depth ≤ 60) ∧ ∀ q, H q = none → Q (.ref q) (upd H q (.lst ((bs.mergeSort (leV b)).map (·.1))))
theorem each_of {R : Value → V × D → Prop} : ∀ {bs : List (V × D)} {us : List Value}, Vals (bs.map (·.1)) us → (∀ p ∈ bs, ∀ u, RelV p.1 u → R u p) → PySem.W.EachIs R us bs
  | [], _, r, _ => by cases r; exact .nil
  | p :: bs, _, r, h => by
    cases r with
    | cons a b => exact .cons (h p (List.mem_cons_self ..) _ a) (each_of b fun q m => h q (List.mem_cons_of_mem _ m))
theorem each_vals : ∀ {bs : List (V × D)} {us : List Value}, PySem.W.EachIs (fun u p => RelV p.1 u) us bs → Vals (bs.map (·.1)) us
  | _, _, .nil => .nil
  | _, _, .cons a b => .cons a (each_vals b)
section
variable {X : Cx}
theorem sort_run {b : Bool} {pins : List (Addr × Obj)} {s : Shared} {σ : L2.St} {H : Hp} {vs : List V} {us : List Value} {Q : VK} (hu : X.A.units + 65 < cLine) (I : Inv X pins σ H s) (rv : Vals vs us) (q : rSortAny X.K b vs H Q) :
    wpAny (model X.prog X.w) X.A (call (.builtin "sorted") us [(Str.ofString "reverse", .bool b)]) (EP X pins σ Q) X.xe s := by
  obtain ⟨a, bs, rfl, hs, hd, hal, hk, hdep, q⟩ := q
  obtain rfl := Vals.ref1 rv
  obtain ⟨its, rv, hl, hz⟩ := I.list hs
  have e1 : PySem.W.EachIs (fun u (p : V × D) => RelV p.1 u) its bs := each_of rv fun p _ u h => h
  have e2 : PySem.W.EachIs (fun u (p : V × D) => ∃ as, Reads s.heap u (toP p.2) as) its bs := each_of rv fun p m u h => Dp.reads I _ _ _ (hd p m) h
  rw [List.length_map] at hz
  refine PySem.W.sorted_rev_data (enc := fun p : V × D => toP p.2) hl.isList e1 e2 hal hk hz (fun p m => by have := hdep p m; omega) fun out ho eo => ?_
  obtain ⟨ep, he'⟩ := PyProof.Rows.sortedAll_at s.heap its (List.toArray out)
  have hlen : ((bs.mergeSort (leV b)).map (·.1)).length ≤ sizeLine := by
    rw [List.length_map, List.length_mergeSort]
    exact hz
  exact ⟨.ref _, upd H (s.heap.objs.size + 1) (.lst ((bs.mergeSort (leV b)).map (·.1))), I.laid (t' := s.toks) (fun _ _ => PyProof.Rows.sortedAll_old) (Nat.le_succ _) ⟨hlen, _, ep, each_vals eo, he'⟩, rfl, q _ (I.hok.fresh (Nat.le_succ _))⟩
theorem sort_run0 {pins : List (Addr × Obj)} {s : Shared} {σ : L2.St} {H : Hp} {vs : List V} {us : List Value} {Q : VK} (hu : X.A.units + 65 < cLine) (I : Inv X pins σ H s) (rv : Vals vs us) (q : rSortAny X.K false vs H Q) :
    wpAny (model X.prog X.w) X.A (call (.builtin "sorted") us) (EP X pins σ Q) X.xe s := by
  obtain ⟨a, bs, rfl, hs, hd, hal, hk, hdep, q⟩ := q
  obtain rfl := Vals.ref1 rv
  obtain ⟨its, rv, hl, hz⟩ := I.list hs
  have e1 : PySem.W.EachIs (fun u (p : V × D) => RelV p.1 u) its bs := each_of rv fun p _ u h => h
  have e2 : PySem.W.EachIs (fun u (p : V × D) => ∃ as, Reads s.heap u (toP p.2) as) its bs := each_of rv fun p m u h => Dp.reads I _ _ _ (hd p m) h
  rw [List.length_map] at hz
  refine PySem.W.sorted_data (enc := fun p : V × D => toP p.2) hl.isList e1 e2 hal hk hz (fun p m => by have := hdep p m; omega) fun out ho eo => ?_
  obtain ⟨ep, he'⟩ := PyProof.Rows.sortedAll_at s.heap its (List.toArray out)
  have hlen : ((bs.mergeSort (leV false)).map (·.1)).length ≤ sizeLine := by
    rw [List.length_map, List.length_mergeSort]
    exact hz
  exact ⟨.ref _, upd H (s.heap.objs.size + 1) (.lst ((bs.mergeSort (leV false)).map (·.1))), I.laid (t' := s.toks) (fun _ _ => PyProof.Rows.sortedAll_old) (Nat.le_succ _) ⟨hlen, _, ep, each_vals eo, he'⟩, rfl, q _ (I.hok.fresh (Nat.le_succ _))⟩
theorem cr_sortAny (hu : X.A.units + 65 < cLine) : CallR X (.builtin "sorted") (rSortAny X.K false) := fun pins s σ H vs us Q I rv q => sort_run0 hu I rv q
end
def tupNe : D → Bool
  | .tup (_ :: _) => true
  | _ => false
def noTup : D → Bool
  | .tup _ => false
  | .non => false
  | .dct _ => false
  | .ref _ => false
  | .scr _ => false
  | _ => true
def srtOk (ys : List D) : Bool := ys.all eqOk && (ys.all fun x => ys.all fun y => PySem.W.alike (toP x) (toP y)) && (ys.all tupNe || ys.all noTup)
def sortD (b : Bool) (ys : List D) : List D := ys.mergeSort (leD b)
def gSort (b : Bool) : GL := fun h xs => match xs with
  | [x] => (asL h x).bind fun ys => if srtOk ys then some (.lst (sortD b ys)) else none
  | _ => none
theorem zip_fst {α β : Type} : ∀ {xs : List α} {ys : List β}, xs.length = ys.length → (xs.zip ys).map (·.1) = xs
  | [], [], _ => rfl
  | x :: xs, y :: ys, h => by simp [zip_fst (xs := xs) (ys := ys) (by simpa using h)]
  | [], _ :: _, h => by simp at h
  | _ :: _, [], h => by simp at h
theorem zip_snd {α β : Type} : ∀ {xs : List α} {ys : List β}, xs.length = ys.length → (xs.zip ys).map (·.2) = ys
  | [], [], _ => rfl
  | x :: xs, y :: ys, h => by simp [zip_snd (xs := xs) (ys := ys) (by simpa using h)]
  | [], _ :: _, h => by simp at h
  | _ :: _, [], h => by simp at h
theorem sort_rd {K : PySem.W.Frag} {b : Bool} {L : Lay} {H : Hp} {h : Hs} {xs : List D} {vs : List V} {d : D} {Q : VK} (s : HRel K L H h) (p : RepOs K L H vs xs) (e : gSort b h xs = some d) (k : ∀ L' H' w, Le0 L H L' H' → HRel K L' H' h → Rep K L' w d → Q w H') : rSortAny K b vs H Q := by
  unfold gSort at e
  split at e
  · obtain ⟨ys, e0, e⟩ := Option.bind_eq_some_iff.mp e
    obtain ⟨v, rfl, r⟩ := ro1 p
    split at e
    · rename_i ok
      cases e
      obtain ⟨a, us, rfl, ha, rr⟩ := asL_ok s r e0
      unfold srtOk at ok
      simp only [Bool.and_eq_true, Bool.or_eq_true, List.all_eq_true] at ok
      obtain ⟨⟨o1, o2⟩, o3⟩ := ok
      have hl := rr.length
      have m2 : ∀ q ∈ us.zip ys, q.2 ∈ ys := fun q hq => (List.of_mem_zip hq).2
      have dep : ∀ q ∈ us.zip ys, ∃ m, depD q.2 = some m ∧ m ≤ 60 := fun q hq => by
        have := o1 _ (m2 q hq)
        unfold eqOk at this
        split at this
        · rename_i n en
          exact ⟨n, en, of_decide_eq_true this⟩
        · cases this
      have rep : ∀ q ∈ us.zip ys, Rep K L q.1 q.2 := fun q hq => by
        obtain ⟨i, hi, e⟩ := List.getElem_of_mem hq
        have h1 : i < us.length := by rw [List.length_zip] at hi; omega
        have h2 : i < ys.length := by omega
        rw [List.getElem_zip] at e
        subst e
        obtain ⟨v, ev, rv⟩ := rr.get (List.getElem?_eq_getElem h2)
        rw [List.getElem?_eq_getElem h1] at ev
        cases ev
        exact rv
      refine ⟨a, us.zip ys, rfl, by rw [zip_fst hl]; exact .inl (.inl ha), fun q hq => ?_, ?_, ?_, fun q hq => ?_, fun q hq => ?_⟩
      · obtain ⟨m, em, _⟩ := dep q hq
        exact (rep_dp s _ _ _ (rep q hq) em).1
      · intro x hx y hy
        obtain ⟨q, hq, rfl⟩ := List.mem_map.mp hx
        obtain ⟨q', hq', rfl⟩ := List.mem_map.mp hy
        exact o2 _ (m2 q hq) _ (m2 q' hq')
      · rcases o3 with o3 | o3
        · refine .inl fun x hx => ?_
          obtain ⟨q, hq, rfl⟩ := List.mem_map.mp hx
          have := o3 _ (m2 q hq)
          unfold tupNe at this
          split at this
          · rename_i z zs e
            exact ⟨toP z, toPs zs, by rw [e]; rfl⟩
          · cases this
        · refine .inr fun x hx => ?_
          obtain ⟨q, hq, rfl⟩ := List.mem_map.mp hx
          have := o3 _ (m2 q hq)
          cases eq : q.2 <;> rw [eq] at this <;> simp [noTup] at this <;> simp [toP]
      · obtain ⟨m, em, hm⟩ := dep q hq
        rw [depth_toP _ _ em]
        exact hm
      · have hp : ((us.zip ys).mergeSort (leV b)).map (·.2) = sortD b ys := by
          have := List.map_mergeSort (r := leV b) (s := leD b) (f := fun q : V × D => q.2) (l := us.zip ys) (fun _ _ _ _ => rfl)
          rw [this, zip_snd hl]
          rfl
        have hr : Reps K L (((us.zip ys).mergeSort (leV b)).map (·.1)) (sortD b ys) := by
          rw [← hp]
          have key : ∀ l : List (V × D), (∀ q ∈ l, Rep K L q.1 q.2) → Reps K L (l.map (·.1)) (l.map (·.2)) := fun l => by
            induction l with
            | nil => exact fun _ => .nil
            | cons q l ih => exact fun h => .cons (h q (List.mem_cons_self ..)) (ih fun z m => h z (List.mem_cons_of_mem _ m))
          exact key _ fun q hq' => rep q (List.mem_mergeSort.mp hq')
        exact k _ _ _ (le_put s hq) (s.put hq) (.lst upd_same (hr.le (le_put s hq)))
    · cases e
  · cases e
theorem calls_sort {X : Cx} (hu : X.A.units + 65 < cLine) : CallS X (.builtin "sorted") (gSort false) :=
  ⟨_, cr_sortAny hu, fun L H h xs vs d Q s p e k => sort_rd s p e k⟩
end WC
set_option Elab.async false
set_option linter.all false
set_option maxRecDepth 100000
namespace WC
open PySem PySem.Spec PyProof.Rows L2
section
variable {X : Cx} {x : Str} {p pos : Pos} {e : Expr} {es : List Expr} {kws : List Keyword}
def rSortKw (K : PySem.W.Frag) : List V → List V → Hp → VK → Prop := fun vs zs H Q => ∃ b, zs = [.bl b] ∧ rSortAny K b vs H Q
theorem cr_sortKw (hu : X.A.units + 65 < cLine) : CallRK X (.builtin "sorted") [Str.ofString "reverse"] (rSortKw X.K) := fun pins s σ H xs zs us ws Q I r rz ⟨b, hz, q⟩ => by
  subst hz
  obtain ⟨w1, rfl, e1⟩ := vals1 rz
  obtain rfl : w1 = Value.bool b := e1
  exact sort_run hu I r q
def eSortK (ms mk : AM) : EM := fun σ h => (ms σ h).bind fun xs h1 => (mk σ h1).bind fun zs h2 => match zs with
  | [.bl b] => optR (gSort b h2 xs) h2
  | _ => .bad
theorem snd_sortK {ms mk : AM} (hu : X.A.units + 65 < cLine) (hx : x = ("sorted" : Str)) (hg : Gl X x) (hm : X.mg x = none) (ha : SndAO X (e :: es) ms) (hk : SndK X kws mk) (hdb : (x == ("__debug__" : Str)) = false)
    (he : backTo pos (starEach (e :: es) X.env) = (false, eval e X.env) :: backTo pos (starEach es X.env)) (hpl : (backTo pos (starEach (e :: es) X.env)).any (·.1) = false)
    (hall : (backToKw pos (keywordEach kws X.env)).all (·.1.isSome) = true) (hnone : (backToKw pos (keywordEach kws X.env)).any (·.1.isNone) = false) (hks : (backToKw pos (keywordEach kws X.env)).filterMap (·.1) = [Str.ofString "reverse"]) : SndE X (.Call (.Name x p) (e :: es) kws pos) (eSortK ms mk) := by
  subst hx
  refine weakE (pe_callBK (cr_sortKw hu) hg hm (by decide +kernel) ha hk (by decide) hdb he hpl hall hnone hks) fun σV H Q ⟨L, σ, h, d, h', hr, sr, em, k⟩ => ?_
  obtain ⟨xs, h1, e1, em⟩ := bind_some em
  obtain ⟨zs, h2, e2, em⟩ := bind_some em
  split at em
  · rename_i b
    obtain ⟨em2, eh⟩ := optR_ok em
    subst eh
    refine ⟨L, σ, h, xs, h1, hr, sr, e1, fun L1 H1 vs l1 r1 q1 => ⟨L1, σ, h1, _, h2, r1, sr.le l1, e2, fun L2' H2 ws l2 r2 q2 => ?_⟩⟩
    cases q2 with
    | cons a t =>
      cases t
      cases a
      exact ⟨b, rfl, sort_rd r2 (q1.le l2) em2 fun L3 H3 w l3 r3 q3 => k L3 H3 w ((l1.trans0 l2).trans0 l3) r3 q3⟩
  · cases em
end
theorem spl_one (c : Nat) : ∀ (l acc : List Nat), (TL.spl [c] 0 acc l).length = l.count c + 1
  | [], acc => by rw [TL.spl_nil]; rfl
  | d :: l, acc => by
    by_cases h : d = c
    · subst h
      have hp : TL.pre [d] (d :: l) = true := TL.pre_self [d] l
      rw [TL.spl_hit hp, List.length_cons, List.count_cons_self]
      show (TL.spl [d] 0 [] l).length + 1 = _
      rw [spl_one d l]
    · have hp : TL.pre [c] (d :: l) = false := TL.pre_of_head [] l h
      rw [TL.spl_miss hp, spl_one c l, List.count_cons_of_ne h]
theorem parts_len {x : Str} {m : Nat} : ∀ (cuts : List Nat) (a : Nat), (PySem.StrLaws.partsFrom x m a cuts).length = cuts.length + 1
  | [], _ => rfl
  | c :: r, a => by
    show (PySem.StrLaws.partsFrom x m (c + m) r).length + 1 = _
    rw [parts_len r, List.length_cons]
theorem count_one (a : List Nat) (c : Nat) : Txt.count (SX.S a) (SX.S [c]) = (a.count c : Nat) := by
  have hy : TL.tl (SX.S [c]) ≠ [] := by show [c].toArray.toList ≠ []; simp
  obtain ⟨f, g, hn⟩ := PySem.StrLaws.occ_tight (SX.S a) (SX.S [c]) (TL.len1 hy)
  have key := TL.parts_spl hy _ 0 f (Nat.zero_le _) g hn
  have e := congrArg List.length key
  rw [List.length_map, parts_len, List.drop_zero] at e
  have e1 : TL.tl (SX.S [c]) = [c] := by show [c].toArray.toList = _; simp
  have e2 : TL.tl (SX.S a) = a := by show a.toArray.toList = _; simp
  rw [e1, e2, spl_one] at e
  show ((Builtin.Str.occurrences (SX.S a) (SX.S [c]) 0 (SX.S a).length ((SX.S a).length + 1)).length : Int) = _
  have : (Builtin.Str.occurrences (SX.S a) (SX.S [c]) 0 (SX.S a).length ((SX.S a).length + 1)).length = a.count c := by omega
  rw [this]
def gCount : GM := fun _ x xs => match x, xs with
  | .str a, [.str [c]] => some (.int (a.count c))
  | _, _ => none
theorem mts_count {X : Cx} : MtS X "str.count" gCount := by
  refine ⟨_, mt_count, fun L H h x v xs d vs Q s p q e k => ?_⟩
  unfold gCount at e
  split at e
  · rename_i a c
    cases e
    obtain ⟨z, rfl, ez, nz, oz⟩ := p.str
    obtain ⟨w, rfl, rw'⟩ := ro1 q
    obtain ⟨y, rfl, ey, ny, oy⟩ := rw'.str
    have ez' : z = SX.S a := by rw [← ez]
    have ey' : y = SX.S [c] := by rw [← ey]
    subst ez' ey'
    refine ⟨_, _, rfl, rfl, ?_⟩
    rw [count_one]
    exact k L H _ Le.refl s (.int _)
  · cases e
def gIndex : GM := fun h x xs => match xs with
  | [.int k] => ((asL h x).bind toInts).bind fun ns => if k ∈ ns then some (.int (ns.idxOf k)) else none
  | _ => none
theorem mts_index {X : Cx} : MtS X "list.index" gIndex := by
  refine ⟨_, mt_index, fun L H h x v xs d vs Q s p q e k => ?_⟩
  unfold gIndex at e
  split at e
  · rename_i i
    obtain ⟨ns, e0, e⟩ := Option.bind_eq_some_iff.mp e
    obtain ⟨ys, e1, e0⟩ := Option.bind_eq_some_iff.mp e0
    split at e
    · rename_i hm
      cases e
      obtain ⟨a, us, rfl, ha, rr⟩ := asL_ok s p e1
      have eu := toInts_ok rr e0
      subst eu
      obtain ⟨w, rfl, rw'⟩ := ro1 q
      obtain rfl := rw'.int
      have hlt : ns.idxOf i < ns.length := List.idxOf_lt_length_iff.mpr hm
      refine ⟨a, ns.map V.int, .int i, ns.idxOf i, .int i, rfl, rfl, .inl (.inl ha), rfl, by simp [flatV], ?_, by simp [eqV], fun m z' hm' hz => ?_, k L H _ Le.refl s (.int _)⟩
      · rw [List.getElem?_map, List.getElem?_eq_getElem hlt, List.getElem_idxOf hlt]
        rfl
      · have hml : m < ns.length := by omega
        rw [List.getElem?_map, List.getElem?_eq_getElem hml] at hz
        have hz' : V.int ns[m] = z' := by simpa using hz
        subst hz'
        have := List.not_of_lt_findIdx (p := fun x => x == i) (xs := ns) hm'
        simpa [eqV] using this
    · cases e
  · cases e
def bitsN (i : Int) : Nat := Builtin.Int.intBits i
def eBits (m : EM) : EM := fun σ h => (m σ h).bind fun x h1 => match x with
  | .int i => .ok (.int (bitsN i)) h1
  | _ => .bad
theorem snd_bits {X : Cx} {o : Expr} {m : EM} {apos pos : Pos} (ho : SndO X o m) (hbase : attributeBase o "bit_length" X.env (eval o X.env) = eval o X.env) (hline : (apos.endLine == pos.line) = true) : SndE X (.Call (.Attribute o "bit_length" apos) [] [] pos) (eBits m) := by
  refine weakE (pe_bits ho hbase hline) fun σV H Q ⟨L, σ, h, d, h', hr, sr, em, k⟩ => ?_
  obtain ⟨x, h1, e1, em⟩ := bind_some em
  split at em
  · rename_i i
    cases em
    exact ⟨L, σ, h, _, _, hr, sr, e1, fun L1 H1 v1 l1 r1 q1 => ⟨i, q1.int, k L1 H1 _ l1 r1 (.int _)⟩⟩
  · cases em
def eNew (m : LM) : EM := fun σ h => (m σ h).bind fun xs h1 => .ok (.ref h1.length) (h1 ++ [.lst xs])
theorem snd_new {X : Cx} {e : Expr} {m : LM} (h : SndL X e m) : SndE X e (eNew m) := by
  refine weakE h fun σV H Q ⟨L, σ, h, s, h', hr, sr, em, k⟩ => ?_
  obtain ⟨x, h1, e1, em⟩ := bind_some em
  cases em
  refine ⟨L, σ, h, x, h1, hr, sr, e1, fun L1 H1 p vs l1 r1 hp f m e r => k (L1.more (p, [])) H1 _ (l1.more (.inl hp)) (r1.more f m e r) (.ref ?_)⟩
  unfold Lay.at Lay.more
  rw [List.getElem?_append_right (by rw [r1.len]; exact Nat.le_refl _), r1.len, Nat.sub_self]
  rfl
def litKV : List (Option Expr) → List Expr → Option (List (Str × Str))
  | [], [] => some []
  | some (.Constant (.str k) _ _) :: ks, .Constant (.str v) _ _ :: vs => (litKV ks vs).map ((k, v) :: ·)
  | _, _ => none
theorem litKV_ok {X : Cx} {pos : Pos} : ∀ {ks : List (Option Expr)} {vs : List Expr} {ps : List (Str × Str)}, litKV ks vs = some ps → ∃ trs, PPs X pos ks vs trs ∧ ks.all (·.isSome) = true ∧ ks.length = vs.length ∧ ks.length = ps.length ∧
    ∀ σ H Q, Q (ps.map fun p => (V.str p.1, V.str p.2)) H → tPairs trs σ H Q
  | [], [], ps, e => by
    cases e
    exact ⟨[], pps_nil, rfl, rfl, rfl, fun σ H Q q => q⟩
  | [], _ :: _, _, e => by simp [litKV] at e
  | some (.Constant (.str k) p1 p2) :: ks, [], _, e => by simp [litKV] at e
  | some (.Constant (.str k) p1 p2) :: ks, .Constant (.str v) p3 p4 :: vs, ps, e => by
    simp only [litKV, Option.map_eq_some_iff] at e
    obtain ⟨qs, e, rfl⟩ := e
    obtain ⟨trs, h1, h2, h3, h4, h5⟩ := litKV_ok (X := X) (pos := pos) e
    exact ⟨_, pps_cons pe_str pe_str h1, by simpa using h2, by simpa using h3, by simpa using h4, fun σ H Q q => h5 σ H _ q⟩
  | none :: _, _, _, e => by simp [litKV] at e
  | some (.Constant (.int _) _ _) :: _, _, _, e => by simp [litKV] at e
  | some (.Constant .none _ _) :: _, _, _, e => by simp [litKV] at e
theorem putK_new {kvs : List (Key × V)} {k : Key} {v : V} (h : ∀ q ∈ kvs, q.1 ≠ k) : putK kvs k v = kvs ++ [(k, v)] := by
  unfold putK
  rw [if_neg]
  intro z
  obtain ⟨q, m, e⟩ := List.any_eq_true.mp z
  exact h q m (of_decide_eq_true e)
theorem merge_new : ∀ {kvs acc : List (Key × V)}, (kvs.map (·.1)).Nodup → (∀ q ∈ acc, ∀ r ∈ kvs, q.1 ≠ r.1) → mergeK acc kvs = acc ++ kvs
  | [], acc, _, _ => by show acc = _; rw [List.append_nil]
  | (k, v) :: kvs, acc, hn, hd => by
    rw [List.map_cons, List.nodup_cons] at hn
    show mergeK (putK acc k v) kvs = _
    rw [putK_new fun q m => hd q m (k, v) (List.mem_cons_self ..), merge_new hn.2 fun q m r mr => ?_]
    · simp
    · rcases List.mem_append.mp m with m | m
      · exact hd q m r (List.mem_cons_of_mem _ mr)
      · have : q = (k, v) := by simpa using m
        subst this
        intro z
        exact hn.1 (List.mem_map.mpr ⟨r, mr, z.symm⟩)
theorem str_ext {x y : Str} (h : x.cps.toList = y.cps.toList) : x = y := by
  cases x; cases y
  simp only [Array.toList_inj] at h
  rw [h]
def litD (ps : List (Str × Str)) : List (List Nat × D) := ps.map fun p => (p.1.cps.toList, .str p.2.cps.toList)
theorem lit_get {z : Str} {d : D} : ∀ {ps : List (Str × Str)}, (litD ps).lookup z.cps.toList = some d → ∃ v : Str, valV (ps.map fun p => ((.inr p.1 : Key), V.str p.2)) (.inr z) = some (.str v) ∧ d = .str v.cps.toList ∧ ∃ p ∈ ps, p.2 = v
  | [], e => by simp [litD] at e
  | (k, v) :: ps, e => by
    by_cases h : k = z
    · subst h
      simp [litD, List.lookup_cons] at e
      exact ⟨v, by simp [valV], e.symm, _, List.mem_cons_self .., rfl⟩
    · have hne : (z.cps.toList == k.cps.toList) = false := by
        rw [beq_eq_false_iff_ne]
        exact fun e => h (str_ext e.symm)
      have e' : (litD ps).lookup z.cps.toList = some d := by
        simpa [litD, List.lookup_cons, hne] using e
      obtain ⟨w, e1, e2, p, m, e3⟩ := lit_get e'
      refine ⟨w, ?_, e2, p, List.mem_cons_of_mem _ m, e3⟩
      rw [List.map_cons, valV_neg (by intro q; cases q; exact h rfl)]
      exact e1
theorem snd_dlit {X : Cx} {keys : List (Option Expr)} {vals : List Expr} {ps : List (Str × Str)} {b : Expr} {m : EM} {dpos pos : Pos} (hu : X.A.units + 1 < cLine) (hp : litKV keys vals = some ps) (hn : (ps.map (·.1)).Nodup) (h0 : ps ≠ []) (h15 : ps.length ≤ 15)
    (hc : ∀ p ∈ ps, ∀ c ∈ p.2.cps.toList, c < 0x110000) (hb : SndE X b m) (hs : NoSl b) : SndE X (.Subscript (.Dict keys vals dpos) b pos) (eGetG (litD ps) m) := by
  obtain ⟨trs, h1, h2, h3, h4, h5⟩ := litKV_ok (X := X) (pos := dpos) hp
  refine weakE (pe_dget hu (pe_disp h1 h2 h3 (by intro z; rw [z] at h4; exact h0 (List.eq_nil_of_length_eq_zero h4.symm)) (by omega)) hb hs) fun σV H Q ⟨L, σ, h, d, h', hr, sr, em, k⟩ => ?_
  obtain ⟨x, h1', e1, em⟩ := bind_some em
  intro p hp0
  refine h5 _ _ _ ⟨upd_same, ps.map (fun p => ((.inr p.1 : Key), V.str p.2)), by rw [List.map_map]; rfl, by simpa using h15, ?_⟩
  have hF : L.F p = none := by
    cases e : L.F p with
    | none => rfl
    | some u => rw [hr.sub p u e] at hp0; cases hp0
  have hM : ¬ L.M p := fun z => hr.mt p z hp0
  have hmg : mergeK [] (ps.map fun p => ((.inr p.1 : Key), V.str p.2)) = ps.map fun p => ((.inr p.1 : Key), V.str p.2) := by
    rw [merge_new ?_ (by intro q m; cases m)]
    · rfl
    · rw [List.map_map]
      have : ((fun q : Key × V => q.1) ∘ fun p : Str × Str => ((.inr p.1 : Key), V.str p.2)) = fun p => (.inr p.1 : Key) := rfl
      rw [this]
      have e : (ps.map fun p => (.inr p.1 : Key)) = (ps.map (·.1)).map (Sum.inr : Str → Key) := by rw [List.map_map]; rfl
      rw [e]
      exact List.Pairwise.map _ (fun a b hab z => hab (by cases z; rfl)) hn
  rw [hmg]
  have eH : upd (upd H p (.dK [])) p (.dK (ps.map fun p => ((.inr p.1 : Key), V.str p.2))) = upd H p (.dK (ps.map fun p => ((.inr p.1 : Key), V.str p.2))) := by
    funext q
    by_cases z : q = p
    · subst z; rw [upd_same, upd_same]
    · rw [upd_ne z, upd_ne z, upd_ne z]
  rw [eH]
  have l0 : Le0 L H L (upd H p (.dK (ps.map fun p => ((.inr p.1 : Key), V.str p.2)))) := by
    refine ⟨fun _ _ e => e, fun _ e => .inl e, fun _ _ e => e, fun _ e => .inl e, fun q u e _ _ => ?_, fun q e => ?_⟩
    · rw [upd_ne (ne_of_none e hp0)]; exact e
    · by_cases z : q = p
      · subst z; rw [upd_same]; intro w; cases w
      · rw [upd_ne z]; exact e
  have r0 := hr.upd (o := .dK (ps.map fun p => ((.inr p.1 : Key), V.str p.2))) hF hM
  refine ⟨L, σ, h, x, h1', r0, sr.le l0, e1, fun L1 H1 y l1 r1 q1 => ?_⟩
  split at em
  · rename_i c
    split at em
    · rename_i d' hl
      cases em
      obtain ⟨z, rfl, ez, nz, oz⟩ := (show RepO X.K L1 H1 _ _ from .inl q1).str
      subst ez
      obtain ⟨v, e2, e3, pp, mp, e4⟩ := lit_get hl
      subst e3
      refine ⟨p, .str v, rfl, .inl ⟨_, .inr z, .inl (l1.fr p _ upd_same hM (fun z => z)), rfl, e2.symm⟩, ?_⟩
      exact k L1 H1 _ (l0.trans0 l1) r1 (.str v (by rw [← e4]; exact hc pp mp))
    · cases em
  · cases em
end WC
set_option Elab.async false
set_option linter.all false
set_option maxRecDepth 100000
namespace WC
open PySem PySem.Spec PyProof.Rows L2

structure Glob where
  free : List Str
  consts : List (Str × D)
  funs : List (Str × Nat × Nat)
  kfuns : List (Str × Nat × List Str × List Nat)
  dicts : List (Str × KVs)
structure DC where
  sc : Scope
  tg : Str → Bool
def DC.loc (c : DC) (x : Str) : Bool := match c.sc.names.lookup x with
  | some .local => true
  | some .cell => true
  | some .free => true
  | _ => false
def DC.glob (c : DC) (x : Str) : Bool := match c.sc.names.lookup x with
  | some .globalImplicit => true
  | _ => false
def goodName (x : Str) : Bool := !(x == ("__debug__" : Str)) && !(x == ("__classdict__" : Str)) && !(x == ("__name__" : Str))
structure CtxOk (G : Glob) (fe : Nat → FD) (k : Nat) (N : List Str) (c : DC) (X : Cx) : Prop where
  hN : X.N = N
  nd : N.Nodup
  sc : X.env.scope = c.sc
  kind : c.sc.kind = .function
  tg : ∀ x, c.tg x = true → Loc X.env.scope x ∧ (X.fn x = true ∨ X.env.scope.names.lookup x = some .local)
  calm : X.calm = true
  xe : X.xe = fun _ _ => False
  room : Room k X.A
  free : ∀ x ∈ G.free, X.mg x = none
  consts : ∀ p ∈ G.consts, ∃ v u, X.mg p.1 = some u ∧ RelV v u ∧ ∀ L, Rep X.K L v p.2
  dicts : ∀ p ∈ G.dicts, ∃ a, X.mg p.1 = some (.ref a) ∧ KDOk X.K X.w a p.2
  funs : ∀ q ∈ G.funs, ∃ f fd ps, X.mg q.1 = some (.ref f) ∧ PySem.W.keepIn X.K (.ref f) = true ∧ Binds X.K fd ps [] ∧ FnOk X.prog X.w X.K X.mg X.base CX0 k f fd ps (spI X.K q.2.2 (fe q.2.1)) ∧
    ∀ r ∈ G.kfuns, r.1 = q.1 → KB X.K fd ps r.2.2.1 r.2.1 r.2.2.2
section
variable {G : Glob} {fe : Nat → FD} {k : Nat} {N : List Str} {c : DC} {X : Cx}
theorem CtxOk.vis (C : CtxOk G fe k N c X) {x : Str} (h : c.loc x = true) : Vis X.env.scope x := by
  unfold DC.loc at h
  unfold Vis
  rw [C.sc]
  split at h
  · exact .inl (by assumption)
  · exact .inr (.inl (by assumption))
  · exact .inr (.inr (by assumption))
  · cases h
theorem CtxOk.gl (C : CtxOk G fe k N c X) {x : Str} (h : c.glob x = true) : Gl X x := by
  unfold DC.glob at h
  show X.env.scope.names.lookup x = _
  rw [C.sc]
  split at h
  · assumption
  · cases h
theorem CtxOk.units (C : CtxOk G fe k N c X) : X.A.units + 65 < cLine := by
  have := C.room.un
  omega
theorem good_ok {x : Str} (h : goodName x = true) : (x == ("__debug__" : Str)) = false ∧ (x == ("__classdict__" : Str)) = false ∧ x ≠ ("__name__" : Str) := by
  unfold goodName at h
  simp only [Bool.and_eq_true, Bool.not_eq_true'] at h
  exact ⟨h.1.1, h.1.2, fun e => by subst e; simp at h⟩
end


structure Den where
  E : DC → Expr → EM
  T : DC → Expr → TM
  B : DC → List Stmt → SM
def dO (d : Den) (N : List Str) (c : DC) : Expr → EM
  | .Name x p => if c.loc x then (match slot N x with
    | some i => if goodName x then oVar i else eBad
    | none => eBad) else d.E c (.Name x p)
  | e => d.E c e
def dA (d : Den) (c : DC) : List Expr → AM
  | [] => aNil
  | e :: es => if notStar e then aCons (d.E c e) (dA d c es) else aBad
def dAO (d : Den) (N : List Str) (c : DC) : List Expr → AM
  | [] => aNil
  | e :: es => if notStar e then aCons (dO d N c e) (dAO d N c es) else aBad
def dKw (d : Den) (c : DC) : List Keyword → AM
  | [] => aNil
  | ⟨_, e, _⟩ :: ks => aCons (d.E c e) (dKw d c ks)
def cmpG : CmpOp → G2
  | .Eq => gEq
  | .NotEq => gNe
  | .Lt => gLt
  | .LtE => gLeI
  | .Gt => gGt
  | .GtE => gGe
  | .Is => gIsN
  | .IsNot => gNotN
  | .In => gIn
  | .NotIn => gNotIn
def dBin (d : Den) (N : List Str) (c : DC) (a : Expr) (op : Operator) (b : Expr) : EM := match op with
  | .Add => eOp gAdd (dO d N c a) (dO d N c b)
  | .Sub => eOp gSub (dO d N c a) (dO d N c b)
  | .Mult => eOp gMul (dO d N c a) (dO d N c b)
  | .FloorDiv => eOp gFdiv (dO d N c a) (dO d N c b)
  | .Mod => eOp gMod (dO d N c a) (dO d N c b)
  | .Pow => eOp gPow (dO d N c a) (dO d N c b)
  | .LShift => eOp gShl (dO d N c a) (dO d N c b)
  | .RShift => eOp gShr (dO d N c a) (dO d N c b)
  | .BitAnd => eOp gAnd (dO d N c a) (dO d N c b)
  | .BitOr => eOp gOr (dO d N c a) (dO d N c b)
  | .BitXor => eOp gXor (dO d N c a) (dO d N c b)
  | _ => eBad
def dAnd (d : Den) (c : DC) : List Expr → EM
  | [] => eBad
  | [a] => d.E c a
  | a :: rest => eAnd (d.E c a) (dAnd d c rest)
def dOr (d : Den) (c : DC) : List Expr → EM
  | [] => eBad
  | [a] => d.E c a
  | a :: rest => eOr (d.E c a) (dOr d c rest)
def dAndT (d : Den) (c : DC) : List Expr → TM
  | [] => tBad
  | [a] => d.T c a
  | a :: rest => tAnd (d.T c a) (dAndT d c rest)
def dOrT (d : Den) (c : DC) : List Expr → TM
  | [] => tBad
  | [a] => d.T c a
  | a :: rest => tOr (d.T c a) (dOrT d c rest)
def dDict (G : Glob) (c : DC) : Expr → Option KVs
  | .Name x _ => if goodName x && c.glob x then G.dicts.lookup x else none
  | _ => none
def isIn : CmpOp → Option Bool
  | .In => some false
  | .NotIn => some true
  | _ => none
def dCmp (d : Den) (G : Glob) (N : List Str) (c : DC) (a : Expr) (ops : List CmpOp) (bs : List Expr) : EM := match ops, bs with
  | [op], [b] => if behindInMarks op b then eBad else (match dDict G c b, isIn op with
    | some kvs, some neg => eInG kvs neg (dO d N c a)
    | _, _ => eOp (cmpG op) (dO d N c a) (dO d N c b))
  | [op, op'], [b, b'] => if lastMarks [op, op'] [b, b'] then eBad else eChain (cmpG op) (cmpG op') (dO d N c a) (dO d N c b) (dO d N c b')
  | _, _ => eBad
section
variable {G : Glob} {fe : Nat → FD} {k : Nat} {N : List Str} {c : DC} {X : Cx} {d : Den}
structure DenOk (G : Glob) (fe : Nat → FD) (k : Nat) (N : List Str) (d : Den) : Prop where
  E : ∀ (c : DC) (X : Cx), CtxOk G fe k N c X → ∀ e, SndE X e (d.E c e)
  T : ∀ (c : DC) (X : Cx), CtxOk G fe k N c X → ∀ e, SndT X e (d.T c e)
  B : ∀ (c : DC) (X : Cx), CtxOk G fe k N c X → ∀ sts, SndB X sts (d.B c sts)
theorem dO_ok (D : DenOk G fe k N d) (C : CtxOk G fe k N c X) (e : Expr) : SndO X e (dO d N c e) := by
  cases e <;> try exact (D.E c X C _).o
  rename_i x p
  unfold dO
  by_cases hl : c.loc x = true
  · simp only [if_pos hl]
    cases e : slot N x with
    | none => exact sndO_bad
    | some i =>
      by_cases hg : goodName x = true
      · simp only [if_pos hg]
        obtain ⟨g1, g2, _⟩ := good_ok hg
        exact sndO_var (by rw [C.hN]; exact slot_ok e) (C.vis hl) g1 g2
      · simp only [if_neg hg]
        exact sndO_bad
  · simp only [if_neg hl]
    exact (D.E c X C _).o
theorem dDict_ok (C : CtxOk G fe k N c X) {e : Expr} {kvs : KVs} (h : dDict G c e = some kvs) : ∃ x p a, e = .Name x p ∧ Gl X x ∧ X.mg x = some (.ref a) ∧ (x == ("__debug__" : Str)) = false ∧ KDOk X.K X.w a kvs := by
  unfold dDict at h
  split at h
  · rename_i x p
    split at h
    · rename_i hh
      rw [Bool.and_eq_true] at hh
      obtain ⟨a, hm, D⟩ := C.dicts _ (PySem.mem_of_lookup h)
      exact ⟨x, p, a, rfl, C.gl hh.2, hm, (good_ok hh.1).1, D⟩
    · cases h
  · cases h
theorem isIn_ok {op : CmpOp} {neg : Bool} (h : isIn op = some neg) : op = if neg then .NotIn else .In := by
  cases op <;> cases h <;> rfl
theorem dA_ok (D : DenOk G fe k N d) (C : CtxOk G fe k N c X) : ∀ es : List Expr, SndA X es (dA d c es)
  | [] => sndA_nil
  | e :: es => by
    unfold dA
    by_cases h : notStar e = true
    · simp only [if_pos h]
      exact sndA_cons (D.E c X C e) (dA_ok D C es) (starEach_cons h)
    · simp only [if_neg h]
      exact sndA_bad
theorem dAO_ok (D : DenOk G fe k N d) (C : CtxOk G fe k N c X) : ∀ es : List Expr, SndAO X es (dAO d N c es)
  | [] => sndAO_nil
  | e :: es => by
    unfold dAO
    by_cases h : notStar e = true
    · simp only [if_pos h]
      exact sndAO_cons (dO_ok D C e) (dAO_ok D C es) (starEach_cons h)
    · simp only [if_neg h]
      exact sndAO_bad
theorem dKw_ok (D : DenOk G fe k N d) (C : CtxOk G fe k N c X) : ∀ ks : List Keyword, SndK X ks (dKw d c ks)
  | [] => sndK_nil
  | ⟨nm, e, p⟩ :: ks => sndK_cons (D.E c X C e) (dKw_ok D C ks)
theorem cmpG_ok (C : CtxOk G fe k N c X) (op : CmpOp) : OpS X (compareOp op) (cmpG op) := by
  have hu := C.units
  cases op with
  | Eq => exact ops_eq (by omega)
  | NotEq => exact ops_ne (by omega)
  | Lt => exact ops_lt (by omega)
  | LtE => exact ops_leI
  | Gt => exact ops_gt
  | GtE => exact ops_ge
  | Is => exact ops_is
  | IsNot => exact ops_isnot
  | In => exact ops_in hu
  | NotIn => exact ops_notin hu
theorem dBin_ok (D : DenOk G fe k N d) (C : CtxOk G fe k N c X) (a : Expr) (op : Operator) (b : Expr) (pos : Pos) : SndE X (.BinOp a op b pos) (dBin d N c a op b) := by
  have ha := dO_ok D C a
  have hb := dO_ok D C b
  cases op with
  | Add => exact snd_op ops_add ha hb
  | Sub => exact snd_op ops_sub ha hb
  | Mult => exact snd_op ops_mul ha hb
  | FloorDiv => exact snd_op ops_fdiv ha hb
  | Mod => exact snd_op ops_mod ha hb
  | Pow => exact snd_op ops_pow ha hb
  | LShift => exact snd_op ops_shl ha hb
  | RShift => exact snd_op ops_shr ha hb
  | BitAnd => exact snd_op ops_and ha hb
  | BitOr => exact snd_op ops_or ha hb
  | BitXor => exact snd_op ops_xor ha hb
  | MatMult => exact snd_bad
  | Div => exact snd_bad
theorem dAnd_ok (D : DenOk G fe k N d) (C : CtxOk G fe k N c X) : ∀ (es : List Expr) (pos : Pos), SndE X (.BoolOp .And es pos) (dAnd d c es)
  | [], _ => snd_bad
  | [a], _ => snd_one (D.E c X C a)
  | a :: b :: rest, pos => snd_and (D.E c X C a) (dAnd_ok D C (b :: rest) pos)
theorem dOr_ok (D : DenOk G fe k N d) (C : CtxOk G fe k N c X) : ∀ (es : List Expr) (pos : Pos), SndE X (.BoolOp .Or es pos) (dOr d c es)
  | [], _ => snd_bad
  | [a], _ => snd_one (D.E c X C a)
  | a :: b :: rest, pos => snd_or (D.E c X C a) (dOr_ok D C (b :: rest) pos)
theorem dAndT_ok (D : DenOk G fe k N d) (C : CtxOk G fe k N c X) : ∀ (es : List Expr) (pos : Pos), SndW X (.BoolOp .And es pos) (dAndT d c es)
  | [], _ => sndW_bad
  | [a], _ => sndW_and1 (D.T c X C a)
  | a :: b :: rest, pos => sndW_and (D.T c X C a) (dAndT_ok D C (b :: rest) pos)
theorem dOrT_ok (D : DenOk G fe k N d) (C : CtxOk G fe k N c X) : ∀ (es : List Expr) (pos : Pos), SndW X (.BoolOp .Or es pos) (dOrT d c es)
  | [], _ => sndW_bad
  | [a], _ => sndW_or1 (D.T c X C a)
  | a :: b :: rest, pos => sndW_or (D.T c X C a) (dOrT_ok D C (b :: rest) pos)
theorem dCmp_ok (D : DenOk G fe k N d) (C : CtxOk G fe k N c X) (a : Expr) (ops : List CmpOp) (bs : List Expr) (pos : Pos) : SndE X (.Compare a ops bs pos) (dCmp d G N c a ops bs) := by
  unfold dCmp
  split
  · rename_i op b
    split
    · exact snd_bad
    · rename_i h
      split
      · rename_i kvs neg hk hi
        obtain ⟨x, p, a', rfl, hg, hm, hd, K⟩ := dDict_ok C hk
        exact snd_inG hg hm hd K (dO_ok D C a) (isIn_ok hi) (by simpa using h)
      · exact snd_cmp (cmpG_ok C op) (dO_ok D C a) (dO_ok D C b) (by simpa using h)
  · rename_i op op' b b'
    split
    · exact snd_bad
    · rename_i h
      exact snd_chain (cmpG_ok C op) (cmpG_ok C op') (dO_ok D C a) (dO_ok D C b) (dO_ok D C b') (by simpa using h)
  · exact snd_bad
theorem dCmpT_ok (D : DenOk G fe k N d) (C : CtxOk G fe k N c X) (a : Expr) (ops : List CmpOp) (bs : List Expr) (pos : Pos) : SndT X (.Compare a ops bs pos) (tB (dCmp d G N c a ops bs)) := by
  have bad : SndT X (.Compare a ops bs pos) (tB eBad) := ⟨fun _ _ _ _ _ _ ⟨_, _, _, _, _, _, _, e, _⟩ => by cases e⟩
  unfold dCmp
  split
  · rename_i op b
    split
    · exact bad
    · rename_i h
      split
      · rename_i kvs neg hk hi
        obtain ⟨x, p, a', rfl, hg, hm, hd, K⟩ := dDict_ok C hk
        exact sndT_inG hg hm hd K (dO_ok D C a) (isIn_ok hi) (by simpa using h)
      · exact sndT_cmp (cmpG_ok C op) (dO_ok D C a) (dO_ok D C b) (by simpa using h)
  · rename_i op op' b b'
    split
    · exact bad
    · rename_i h
      exact sndT_chain (cmpG_ok C op) (cmpG_ok C op') (dO_ok D C a) (dO_ok D C b) (dO_ok D C b') (by simpa using h)
  · exact bad
end
def stepT (d : Den) (G : Glob) (N : List Str) (c : DC) : Expr → TM
  | .Compare a ops bs _ => tB (dCmp d G N c a ops bs)
  | .UnaryOp .Not a _ => tNot (d.T c a)
  | .BoolOp .And es _ => dAndT d c es
  | .BoolOp .Or es _ => dOrT d c es
  | e => if plainT e then tB (d.E c e) else tBad
theorem stepT_ok {G : Glob} {fe : Nat → FD} {k : Nat} {N : List Str} {c : DC} {X : Cx} {d : Den} (D : DenOk G fe k N d) (C : CtxOk G fe k N c X) (e : Expr) : SndT X e (stepT d G N c e) := by
  unfold stepT
  split
  · exact dCmpT_ok D C _ _ _ _
  · exact sndT_not (D.T c X C _)
  · exact (dAndT_ok D C _ _).t
  · exact (dOrT_ok D C _ _).t
  · split
    · rename_i h
      exact sndT_val (D.E c X C _) (plain_ok h)
    · exact sndT_bad
end WC
set_option Elab.async false
set_option linter.all false
set_option maxRecDepth 100000
namespace WC
open PySem PySem.Spec PyProof.Rows L2

def gBad : GT := fun _ _ => none
theorem sndG_bad {X : Cx} {e : Expr} {vs : List Nat} : SndG X e vs gBad := ⟨fun _ _ _ _ _ _ _ _ _ ⟨_, _, _, _, _, _, _, e, _⟩ => by cases e⟩
def dG (N : List Str) (c : DC) (vs : List Nat) : Nat → Expr → GT
  | 0, _ => gBad
  | n + 1, e => match e with
    | .Name x _ => if c.tg x then (match slot N x with
      | some i => if i ∈ vs then tgName i else gBad
      | none => gBad) else gBad
    | .Tuple es _ _ => if es.all notStar then tgTup (es.map (dG N c vs n)) else gBad
    | _ => gBad
theorem dG_ok {G : Glob} {fe : Nat → FD} {k : Nat} {N : List Str} {c : DC} {X : Cx} (C : CtxOk G fe k N c X) (vs : List Nat) : ∀ (n : Nat) (e : Expr), SndG X e vs (dG N c vs n e)
  | 0, _ => sndG_bad
  | n + 1, e => by
    unfold dG
    split
    · rename_i x p
      split
      · rename_i ht
        split
        · rename_i i hs
          split
          · rename_i hi
            obtain ⟨t1, t2⟩ := C.tg x ht
            exact sndG_name (by rw [C.hN]; exact C.nd) (by rw [C.hN]; exact slot_ok hs) t1 t2 hi
          · exact sndG_bad
        · exact sndG_bad
      · exact sndG_bad
    · rename_i es _ _
      split
      · rename_i h
        refine sndG_tup C.calm (go (C := C) es h) (by rw [each_len, List.length_map]) (each_find h)
      · exact sndG_bad
    · exact sndG_bad
where go {G : Glob} {fe : Nat → FD} {k : Nat} {N : List Str} {c : DC} {X : Cx} {C : CtxOk G fe k N c X} {vs : List Nat} {n : Nat} : ∀ es : List Expr, es.all notStar = true → SndGs X es vs (es.map (dG N c vs n))
  | [], _ => sndGs_nil
  | e :: es, h => by
    rw [List.all_cons, Bool.and_eq_true] at h
    exact sndGs_cons (dG_ok C vs n e) (go (C := C) es h.2) (by rw [each_cons h.1]; rfl)

def iBad : IM := fun _ _ => .bad
theorem sndI_bad {X : Cx} {tg e : Expr} : SndI X tg e [] iBad := ⟨fun _ _ _ _ _ _ ⟨_, _, _, _, _, _, _, e, _⟩ => by cases e⟩
def dI0 (d : Den) (G : Glob) (c : DC) (tg iter : Expr) : IM := match iter with
  | .Call (.Name x p) args [] pos => if goodName x && c.glob x && decide (x ∈ G.free) && args.all notStar then
      (if x = ("range" : Str) then (match args with
        | [a] => iRange1 (dA d c [a])
        | [a, b] => iRange2 (dA d c [a, b])
        | _ => iBad)
      else if x = ("zip" : Str) then (match args, tg with
        | [a, b], .Tuple _ _ _ => iZipD (dA d c [a, b])
        | _, _ => iBad)
      else if x = ("enumerate" : Str) then (match args, tg with
        | [a], .Tuple _ _ _ => iEnumL (dA d c [a])
        | _, _ => iBad)
      else iVal (d.E c (.Call (.Name x p) args [] pos)))
    else iVal (d.E c (.Call (.Name x p) args [] pos))
  | e => iVal (d.E c e)
theorem dI0_ok {G : Glob} {fe : Nat → FD} {k : Nat} {N : List Str} {c : DC} {X : Cx} {d : Den} (D : DenOk G fe k N d) (C : CtxOk G fe k N c X) (tg iter : Expr) : SndI X tg iter [] (dI0 d G c tg iter) := by
  unfold dI0
  split
  · rename_i x p args pos
    split
    · rename_i h
      simp only [Bool.and_eq_true, decide_eq_true_eq] at h
      obtain ⟨⟨⟨h1, h2⟩, h3⟩, h4⟩ := h
      split
      · rename_i hx
        split
        · rename_i a
          exact sndI_range1 hx (C.gl h2) (C.free x h3) (dA_ok D C _) (by rw [starEach_cons (by simpa using h4)]; rfl)
        · rename_i a b
          have h4 : notStar a = true ∧ notStar b = true := by simpa using h4
          exact sndI_range2 hx (C.gl h2) (C.free x h3) (dA_ok D C _) (by rw [starEach_cons h4.1, starEach_cons h4.2]; rfl) (by rw [starEach_cons h4.2]; rfl)
        · exact sndI_bad
      · split
        · rename_i hx
          split
          · rename_i a b es kk tp
            have h4 : notStar a = true ∧ notStar b = true := by simpa using h4
            exact sndI_zip hx (C.gl h2) (C.free x h3) (dA_ok D C _) (starEach_cons h4.1) (back_plain (by simp [h4.2]))
          · exact sndI_bad
        · split
          · rename_i hx
            split
            · rename_i a es kk tp
              exact sndI_enumL hx (C.gl h2) (C.free x h3) (dA_ok D C _) (by rw [starEach_cons (by simpa using h4)]; rfl)
            · exact sndI_bad
          · exact sndI_val (D.E c X C _)
    · exact sndI_val (D.E c X C _)
  · exact sndI_val (D.E c X C _)
def dI (d : Den) (G : Glob) (N : List Str) (c : DC) (tg iter : Expr) : IM := match iter with
  | .Name x p => if c.loc x then (match slot N x with
    | some i => if goodName x then iVal (oVar i) else iBad
    | none => iBad) else dI0 d G c tg (.Name x p)
  | e => dI0 d G c tg e
theorem dI_ok {G : Glob} {fe : Nat → FD} {k : Nat} {N : List Str} {c : DC} {X : Cx} {d : Den} (D : DenOk G fe k N d) (C : CtxOk G fe k N c X) (tg iter : Expr) : ∃ bs, SndI X tg iter bs (dI d G N c tg iter) := by
  unfold dI
  split
  · rename_i x p
    split
    · rename_i hl
      split
      · rename_i i hs
        split
        · rename_i hg
          obtain ⟨g1, g2, _⟩ := good_ok hg
          exact ⟨[i], sndI_var (by rw [C.hN]; exact slot_ok hs) (C.vis hl) g1 g2⟩
        · exact ⟨[], sndI_bad⟩
      · exact ⟨[], sndI_bad⟩
    · exact ⟨[], dI0_ok D C _ _⟩
  · exact ⟨[], dI0_ok D C _ _⟩

def lBad : LM := fun _ _ => .bad
theorem sndL_bad {X : Cx} {e : Expr} : SndL X e lBad := ⟨fun _ _ _ _ _ _ ⟨_, _, _, _, _, _, _, e, _⟩ => by cases e⟩
def ownOf (N : List Str) (scope : Scope) : List (Str × Nat) := scope.names.filterMap fun y => match y.2 with
  | .local => (slot N y.1).map fun i => (y.1, i)
  | .cell => (slot N y.1).map fun i => (y.1, i)
  | _ => none
def blkDC (c : DC) (scope : Scope) : DC := ⟨relS scope c.sc, fun x => match scope.names.lookup x with
  | some .local => true
  | some .cell => true
  | _ => false⟩
theorem blk_ok {G : Glob} {fe : Nat → FD} {k : Nat} {N : List Str} {c : DC} {X : Cx} {scope : Scope} (C : CtxOk G fe k N c X) (hk : scope.kind = .function) (s : Shared) (H : Hp) (A0 : Addr) (cl : List (Str × Addr)) (fp : List Addr) :
    CtxOk G fe k N (blkDC c scope) (X.blk s H scope (compEnvC scope cl A0 X.env) fp) := by
  have esc : (X.blk s H scope (compEnvC scope cl A0 X.env) fp).env.scope = relS scope c.sc := by
    show relS scope X.env.scope = _
    rw [C.sc]
  refine ⟨C.hN, C.nd, esc, hk, fun x hx => ?_, C.calm, rfl, C.room, C.free, C.consts, C.dicts, C.funs⟩
  unfold blkDC at hx
  rw [esc]
  show ((relS scope c.sc).names.lookup x = some .local ∨ (relS scope c.sc).names.lookup x = some .cell) ∧ ((scope.names.lookup x == some .cell) = true ∨ (relS scope c.sc).names.lookup x = some .local)
  simp only at hx
  split at hx
  · rename_i h
    have := lookup_relS_keep (sc := c.sc) (by decide) h
    exact ⟨.inl this, .inr this⟩
  · rename_i h
    have := lookup_relS_keep (sc := c.sc) (by decide) h
    exact ⟨.inr this, .inl (by rw [h]; rfl)⟩
  · cases hx
def dIfs (d : Den) (c : DC) : List Expr → TM
  | [] => tYesM
  | [e] => d.T c e
  | _ => tBad
theorem sndTs_bad {X : Cx} {es : List Expr} : SndTs X es tBad := ⟨fun _ _ _ _ _ _ ⟨_, _, _, _, _, _, _, e, _⟩ => by cases e⟩
theorem dIfs_ok {G : Glob} {fe : Nat → FD} {k : Nat} {N : List Str} {c : DC} {X : Cx} {d : Den} (D : DenOk G fe k N d) (C : CtxOk G fe k N c X) (es : List Expr) : SndTs X es (dIfs d c es) := by
  unfold dIfs
  split
  · exact sndTs_nil
  · exact sndTs_one (D.T c X C _)
  · exact sndTs_bad
def lcOk (N : List Str) (c : DC) (scope : Scope) (iter : Expr) : Bool := blkC N c.sc scope (ownOf N scope) && notSet iter
def dLc (d : Den) (G : Glob) (N : List Str) (c : DC) (elt tg iter : Expr) (ifs : List Expr) (scope : Scope) : LM :=
  lcL (dI d G N c tg iter) (dG N (blkDC c scope) ((ownOf N scope).map (·.2)) 4 tg) (dIfs d (blkDC c scope) ifs) (d.E (blkDC c scope) elt) ((ownOf N scope).map (·.2))
theorem lcOk_ok {G : Glob} {fe : Nat → FD} {k : Nat} {N : List Str} {c : DC} {X : Cx} {scope : Scope} {iter : Expr} (C : CtxOk G fe k N c X) (h : lcOk N c scope iter = true) : BlkOk X.N X.env.scope scope (ownOf N scope) ∧ notSet iter = true ∧ scope.kind = .function := by
  unfold lcOk at h
  rw [Bool.and_eq_true] at h
  have b := blkOk_by h.1
  exact ⟨by rw [C.hN, C.sc]; exact b, h.2, b.kind⟩
theorem dLc_ok {G : Glob} {fe : Nat → FD} {k : Nat} {N : List Str} {c : DC} {X : Cx} {d : Den} (D : DenOk G fe k N d) (C : CtxOk G fe k N c X) {elt tg iter : Expr} {ifs : List Expr} {scope : Scope} {pos : Pos} (h : lcOk N c scope iter = true) :
    SndL X (.ListComp elt [⟨tg, iter, ifs, 0⟩] scope pos) (dLc d G N c elt tg iter ifs scope) := by
  obtain ⟨b, ns, hk⟩ := lcOk_ok C h
  obtain ⟨bs, hi⟩ := dI_ok (N := N) D C tg iter
  exact snd_lc C.calm (by rw [C.hN]; exact C.nd) hi b (fun s H A0 cl fp => dG_ok (blk_ok C hk s H A0 cl fp) _ _ _) (fun s H A0 cl fp => dIfs_ok D (blk_ok C hk s H A0 cl fp) _) (fun s H A0 cl fp => D.E _ _ (blk_ok C hk s H A0 cl fp) _) (notSet_ok ns)

def tyOf (x : Str) : Option Ty := if x = ("int" : Str) then some .int else if x = ("bool" : Str) then some .bool else if x = ("str" : Str) then some .str else if x = ("tuple" : Str) then some .tuple else if x = ("list" : Str) then some .list else none
theorem tyOf_ok {x : Str} {T : Ty} (h : tyOf x = some T) : bootBuiltins x = some (.type T.name) := by
  unfold tyOf at h
  split at h
  · rename_i e; cases h; subst e; decide +kernel
  · split at h
    · rename_i e; cases h; subst e; decide +kernel
    · split at h
      · rename_i e; cases h; subst e; decide +kernel
      · split at h
        · rename_i e; cases h; subst e; decide +kernel
        · split at h
          · rename_i e; cases h; subst e; decide +kernel
          · cases h
def gIntA : GL := fun s a => ((gInt s a).or (gIntS s a)).or (gInt2 s a)
def gMin : GL := gMin2
def dBi (x : Str) : Option GL :=
  if x = ("len" : Str) then some gLen else if x = ("int" : Str) then some gIntA else if x = ("str" : Str) then some gStrI else if x = ("min" : Str) then some gMin2
  else if x = ("max" : Str) then some gMax2 else if x = ("sum" : Str) then some gSum else if x = ("all" : Str) then some gAll else if x = ("any" : Str) then some gAny else if x = ("tuple" : Str) then some gTuple else if x = ("sorted" : Str) then some (gSort false) else none
theorem dBi_ok {X : Cx} {x : Str} {g : GL} {e : Expr} {es : List Expr} {p pos : Pos} {ms : AM} (hu : X.A.units + 65 < cLine) (hc : X.calm = true) (h : dBi x = some g) (hg : Gl X x) (hm : X.mg x = none) (ha : SndAO X (e :: es) ms) (hn : x ≠ "__name__") (hdb : (x == ("__debug__" : Str)) = false)
    (he : starEach (e :: es) X.env = (false, eval e X.env) :: starEach es X.env) (hpl : (backTo pos (starEach es X.env)).any (·.1) = false) : SndE X (.Call (.Name x p) (e :: es) [] pos) (eCall g ms) := by
  unfold dBi at h
  split at h
  · rename_i e; cases h; subst e
    exact snd_callB calls_len hg hm (by decide +kernel) ha hn hdb he hpl
  · split at h
    · rename_i e; cases h; subst e
      exact snd_callTy ((calls_intI.or calls_intS).or calls_int2) hg hm (by decide +kernel) ha hn hdb he hpl
    · split at h
      · rename_i e; cases h; subst e
        exact snd_callTy calls_strI hg hm (by decide +kernel) ha hn hdb he hpl
      · split at h
        · rename_i e; cases h; subst e
          exact snd_callB (calls_min2 hc) hg hm (by decide +kernel) ha hn hdb he hpl
        · split at h
          · rename_i e; cases h; subst e
            exact snd_callB (calls_max2 hc) hg hm (by decide +kernel) ha hn hdb he hpl
          · split at h
            · rename_i e; cases h; subst e
              exact snd_callB (calls_sum hc) hg hm (by decide +kernel) ha hn hdb he hpl
            · split at h
              · rename_i e; cases h; subst e
                exact snd_callB (calls_all hc) hg hm (by decide +kernel) ha hn hdb he hpl
              · split at h
                · rename_i e; cases h; subst e
                  exact snd_callB (calls_any hc) hg hm (by decide +kernel) ha hn hdb he hpl
                · split at h
                  · rename_i e; cases h; subst e
                    exact snd_callTy calls_tuple hg hm (by decide +kernel) ha hn hdb he hpl
                  · split at h
                    · rename_i e; cases h; subst e
                      exact snd_callB (calls_sort hu) hg hm (by decide +kernel) ha hn hdb he hpl
                    · cases h
def dIsi (d : Den) (G : Glob) (N : List Str) (c : DC) (e t : Expr) : EM := match t with
  | .Name y _ => (match tyOf y with
    | some T => if goodName y && c.glob y && decide (y ∈ G.free) && notStar e then eIsI [T] (dO d N c e) else eBad
    | none => eBad)
  | .Tuple [.Name y _, .Name z _] _ _ => (match tyOf y, tyOf z with
    | some T, some T' => if goodName y && c.glob y && decide (y ∈ G.free) && goodName z && c.glob z && decide (z ∈ G.free) && notStar e then eIsI [T, T'] (dO d N c e) else eBad
    | _, _ => eBad)
  | _ => eBad
theorem dIsi_ok {G : Glob} {fe : Nat → FD} {k : Nat} {N : List Str} {c : DC} {X : Cx} {d : Den} (D : DenOk G fe k N d) (C : CtxOk G fe k N c X) {x : Str} (hx : x = ("isinstance" : Str)) (hg : Gl X x) (hm : X.mg x = none) (e t : Expr) (p pos : Pos) : SndE X (.Call (.Name x p) [e, t] [] pos) (dIsi d G N c e t) := by
  unfold dIsi
  split
  · rename_i y p2
    split
    · rename_i T hT
      split
      · rename_i h
        simp only [Bool.and_eq_true, decide_eq_true_eq] at h
        obtain ⟨⟨⟨h1, h2⟩, h3⟩, h4⟩ := h
        obtain ⟨g1, g2, g3⟩ := good_ok h1
        exact snd_isi1 (dO_ok D C e) hg hm hx (C.gl h2) (C.free y h3) (tyOf_ok hT) g3 g1 (by rw [starEach_cons h4]; rfl)
      · exact snd_bad
    · exact snd_bad
  · rename_i y p2 z p3 kk pt
    split
    · rename_i T T' hT hT'
      split
      · rename_i h
        simp only [Bool.and_eq_true, decide_eq_true_eq] at h
        obtain ⟨⟨⟨⟨⟨⟨h1, h2⟩, h3⟩, h5⟩, h6⟩, h7⟩, h4⟩ := h
        obtain ⟨g1, g2, g3⟩ := good_ok h1
        obtain ⟨g4, g5, g6⟩ := good_ok h5
        exact snd_isi2 (dO_ok D C e) hg hm hx (C.gl h2) (C.free y h3) (tyOf_ok hT) g3 g1 (C.gl h6) (C.free z h7) (tyOf_ok hT') g6 g4 (by rw [starEach_cons h4]; rfl)
      · exact snd_bad
    · exact snd_bad
  · exact snd_bad
def dKwCall (d : Den) (G : Glob) (fe : Nat → FD) (c : DC) (x : Str) (args : List Expr) (kws : List Keyword) : EM := match G.funs.lookup x with
  | some (fid, n) => (match G.kfuns.find? (fun r => r.1 == x && r.2.1 == args.length && r.2.2.1 == kws.filterMap (·.arg)) with
    | some (_, m, ks, is) => if args.all notStar && kws.all (fun k => k.arg.isSome) then eFnK n m ks.length is (fe fid) (dA d c args) (dKw d c kws) else eBad
    | none => eBad)
  | none => eBad
theorem dKwCall_ok {G : Glob} {fe : Nat → FD} {k : Nat} {N : List Str} {c : DC} {X : Cx} {d : Den} (D : DenOk G fe k N d) (C : CtxOk G fe k N c X) {x : Str} (hg : Gl X x) (hdb : (x == ("__debug__" : Str)) = false) (args : List Expr) (kws : List Keyword) (p pos : Pos) : SndE X (.Call (.Name x p) args kws pos) (dKwCall d G fe c x args kws) := by
  unfold dKwCall
  split
  · rename_i fid n hl
    split
    · rename_i m ks is hf
      split
      · rename_i h
        rw [Bool.and_eq_true] at h
        obtain ⟨f, fd, ps, hm, hk, hb, F, kb⟩ := C.funs _ (PySem.mem_of_lookup hl)
        have hp := List.find?_some hf
        have hmem := List.mem_of_find?_eq_some hf
        simp only [Bool.and_eq_true, beq_iff_eq] at hp
        obtain ⟨⟨e1, e2⟩, e3⟩ := hp
        have KB := kb _ hmem e1
        have hks : (backToKw pos (keywordEach kws X.env)).filterMap (·.1) = ks := by rw [kw_names]; exact e3.symm
        cases args with
        | nil => exact snd_fnk0 F C.room hg hm hk KB (dKw_ok D C kws) (kw_all h.2) hks hdb (by rw [kw_none h.2]; rfl)
        | cons e es =>
          have h1 := h.1
          rw [List.all_cons, Bool.and_eq_true] at h1
          exact snd_fnk F C.room hg hm hk KB (dA_ok D C _) (dKw_ok D C kws) (kw_all h.2) hks hdb (starEach_cons h1.1) (by rw [kw_none h.2, back_plain h.1]; rfl)
      · exact snd_bad
    · exact snd_bad
  · exact snd_bad
def dSortK (d : Den) (N : List Str) (c : DC) (args : List Expr) (kws : List Keyword) : EM := match args, kws with
  | [e], [⟨some nm, k, kp⟩] => if nm = Str.ofString "reverse" then eSortK (aCons (dO d N c e) aNil) (aCons (d.E c k) aNil) else eBad
  | _, _ => eBad
theorem dSortK_ok {G : Glob} {fe : Nat → FD} {k : Nat} {N : List Str} {c : DC} {X : Cx} {d : Den} (D : DenOk G fe k N d) (C : CtxOk G fe k N c X) {x : Str} (hx : x = ("sorted" : Str)) (hg : Gl X x) (hm : X.mg x = none) (hdb : (x == ("__debug__" : Str)) = false) (args : List Expr) (ha : args.all notStar = true) (kws : List Keyword) (p pos : Pos) :
    SndE X (.Call (.Name x p) args kws pos) (dSortK d N c args kws) := by
  unfold dSortK
  split
  · rename_i e nm kk kp
    split
    · rename_i hn
      subst hn
      have h1 : notStar e = true := by simpa using ha
      exact snd_sortK C.units hx hg hm (sndAO_cons (dO_ok D C e) sndAO_nil (starEach_cons h1)) (sndK_cons (D.E c X C kk) sndK_nil) hdb (by rw [starEach_cons h1]; rfl) (by rw [starEach_cons h1]; rfl) (kw_all rfl) (kw_none rfl) (by rw [kw_names]; rfl)
    · exact snd_bad
  · exact snd_bad
def dCall (d : Den) (G : Glob) (fe : Nat → FD) (N : List Str) (c : DC) (x : Str) (args : List Expr) (kws : List Keyword) : EM :=
  if goodName x && c.glob x && args.all notStar then
    match kws with
    | [] => if x ∈ G.free then
        (match dBi x, args with
        | some g, _ :: _ => eCall g (dAO d N c args)
        | _, _ => if x = ("isinstance" : Str) then (match args with
            | [e, t] => dIsi d G N c e t
            | _ => eBad)
          else if x = ("list" : Str) then (match args with
            | _ :: _ => eFrz (lListOf (dAO d N c args))
            | [] => eBad)
          else eBad)
      else (match G.funs.lookup x with
        | some (fid, n) => eFn n (fe fid) (dA d c args)
        | none => eBad)
    | kws => if x = ("sorted" : Str) ∧ x ∈ G.free then dSortK d N c args kws else dKwCall d G fe c x args kws
  else eBad
theorem dCall_ok {G : Glob} {fe : Nat → FD} {k : Nat} {N : List Str} {c : DC} {X : Cx} {d : Den} (D : DenOk G fe k N d) (C : CtxOk G fe k N c X) (x : Str) (args : List Expr) (kws : List Keyword) (p pos : Pos) : SndE X (.Call (.Name x p) args kws pos) (dCall d G fe N c x args kws) := by
  unfold dCall
  split
  · rename_i h
    simp only [Bool.and_eq_true] at h
    obtain ⟨⟨h1, h2⟩, h3⟩ := h
    obtain ⟨g1, g2, g3⟩ := good_ok h1
    have hg := C.gl h2
    split
    · split
      · rename_i hf
        have hm := C.free x hf
        split
        · rename_i g e es hb
          have h4 := h3
          rw [List.all_cons, Bool.and_eq_true] at h4
          exact dBi_ok C.units C.calm hb hg hm (dAO_ok D C _) g3 g1 (starEach_cons h4.1) (back_plain h4.2)
        · split
          · rename_i hx
            split
            · exact dIsi_ok D C hx hg hm _ _ _ _
            · exact snd_bad
          · split
            · rename_i hx
              split
              · rename_i e es
                rw [List.all_cons, Bool.and_eq_true] at h3
                exact (sndL_listOf hx hg hm (dAO_ok D C _) (starEach_cons h3.1) (back_plain h3.2)).toE
              · exact snd_bad
            · exact snd_bad
      · split
        · rename_i fid n hl
          obtain ⟨f, fd, ps, hm, hk, hb, F, _⟩ := C.funs _ (PySem.mem_of_lookup hl)
          cases args with
          | nil => exact snd_fn0 F C.room hg hm hk hb g1
          | cons e es =>
            rw [List.all_cons, Bool.and_eq_true] at h3
            exact snd_fn F C.room hg hm hk hb (dA_ok D C _) g1 (starEach_cons h3.1) (back_plain h3.2)
        · exact snd_bad
    · split
      · rename_i hx
        exact dSortK_ok D C hx.1 hg (C.free x hx.2) g1 _ h3 _ _ _
      · exact dKwCall_ok D C hg g1 _ _ _ _
  · exact snd_bad
structure MtOk (X : Cx) (T : MT) (name : Str) (g : GM) : Prop where
  ex : ∃ id, PlainAttrs T.name ∧ Slot T.name name id ∧ typeOf (.builtin id) = pure (.type "method_descriptor") ∧ MtS X id g
def dMt (name : Str) : Option (MT × GM) := if name = ("join" : Str) then some (.str, gJoin) else if name = ("count" : Str) then some (.str, gCount) else if name = ("index" : Str) then some (.list, gIndex) else none
theorem dMt_ok {X : Cx} {name : Str} {T : MT} {g : GM} (h : dMt name = some (T, g)) : MtOk X T name g := by
  unfold dMt at h
  split at h
  · rename_i e; cases h; subst e
    exact ⟨_, PySem.F.plainAttrs_str, PySem.F.slot_str_join, PySem.F.type_str_join, mts_join⟩
  · split at h
    · rename_i e; cases h; subst e
      exact ⟨_, PySem.F.plainAttrs_str, PySem.F.slot_str_count, PySem.F.type_str_count, mts_count⟩
    · split at h
      · rename_i e; cases h; subst e
        exact ⟨_, PySem.F.plainAttrs_list, PySem.F.slot_list_index, PySem.F.type_list_index, mts_index⟩
      · cases h
def dMeth (d : Den) (N : List Str) (c : DC) (o : Expr) (name : Str) (args : List Expr) (ok : Bool) : EM := match dMt name with
  | some (T, g) => if okBase o && ok && args.all notStar && decide (args.length < 30) then (match args with
    | [] => eMeth0 T g (dO d N c o)
    | _ => eMeth T g (dO d N c o) (dAO d N c args)) else eBad
  | none => eBad
theorem dMeth_ok {G : Glob} {fe : Nat → FD} {k : Nat} {N : List Str} {c : DC} {X : Cx} {d : Den} (D : DenOk G fe k N d) (C : CtxOk G fe k N c X) (o : Expr) (name : Str) (args : List Expr) (apos cpos : Pos) : SndE X (.Call (.Attribute o name apos) args [] cpos) (dMeth d N c o name args (apos.endLine == cpos.line)) := by
  unfold dMeth
  split
  · rename_i T g hm
    obtain ⟨id, pa, sl, ty, ms⟩ := (dMt_ok (X := X) hm).ex
    split
    · rename_i h
      simp only [Bool.and_eq_true, decide_eq_true_eq] at h
      obtain ⟨⟨⟨h1, h2⟩, h3⟩, h4⟩ := h
      cases args with
      | nil => exact snd_meth0 pa sl ty ms (dO_ok D C o) (base_ok h1) h2
      | cons e es =>
        have h5 := h3
        rw [List.all_cons, Bool.and_eq_true] at h5
        exact snd_meth pa sl ty ms (dO_ok D C o) (dAO_ok D C _) (base_ok h1) (few_ok h3 h4) h2 (starEach_cons h5.1) (back_plain h5.2)
    · exact snd_bad
  · exact snd_bad
def dPart (d : Den) (c : DC) : Expr → EM
  | .FormattedValue e (-1) none _ => eFmt (d.E c e)
  | e => d.E c e
theorem dPart_ok {G : Glob} {fe : Nat → FD} {k : Nat} {N : List Str} {c : DC} {X : Cx} {d : Den} (D : DenOk G fe k N d) (C : CtxOk G fe k N c X) (e : Expr) : SndE X e (dPart d c e) := by
  unfold dPart
  split
  · exact snd_fmt (D.E c X C _)
  · exact D.E c X C _
theorem dParts_ok {G : Glob} {fe : Nat → FD} {k : Nat} {N : List Str} {c : DC} {X : Cx} {d : Den} (D : DenOk G fe k N d) (C : CtxOk G fe k N c X) : ∀ es : List Expr, SndJ X es (es.map (dPart d c))
  | [] => .nil
  | e :: es => .cons (dPart_ok D C e) (dParts_ok D C es)
def strOf (s : Str) : EM := if s.cps.toList.all (· < 0x110000) then eC (.str s.cps.toList) else eBad
def stepE (d : Den) (G : Glob) (fe : Nat → FD) (N : List Str) (c : DC) : Expr → EM
  | .Constant (.int i) _ _ => eC (.int i)
  | .Constant (.bool b) _ _ => eC (.bl b)
  | .Constant .none _ _ => eC .non
  | .Constant (.str s) _ _ => strOf s
  | .Name x _ => if goodName x then (if c.loc x then (match slot N x with
      | some i => eVar i
      | none => eBad) else if c.glob x then (match G.consts.lookup x with
      | some v => eC v
      | none => eBad) else eBad) else eBad
  | .Tuple es _ _ => eTup (dA d c es)
  | .List es _ => eFrz (lLst (dA d c es))
  | .BinOp a op b _ => dBin d N c a op b
  | .UnaryOp .Not a _ => eNot (d.E c a)
  | .UnaryOp .USub a _ => eNeg (d.E c a)
  | .BoolOp .And es _ => dAnd d c es
  | .BoolOp .Or es _ => dOr d c es
  | .IfExp t a b _ => eIf (d.T c t) (d.E c a) (d.E c b)
  | .Compare a ops bs _ => dCmp d G N c a ops bs
  | .Call (.Name x _) args kws _ => dCall d G fe N c x args kws
  | .Call (.Attribute o name apos) [] [] cpos => if name = ("bit_length" : Str) then (if okBase o && (apos.endLine == cpos.line) then eBits (dO d N c o) else eBad) else dMeth d N c o name [] (apos.endLine == cpos.line)
  | .Call (.Attribute o name apos) args [] cpos => dMeth d N c o name args (apos.endLine == cpos.line)
  | .Subscript a (.Slice lo hi none _) _ => eSlice (dO d N c a) (match lo with | some e => oSome (d.E c e) | none => oNone) (match hi with | some e => oSome (d.E c e) | none => oNone)
  | .Subscript (.Dict keys vals _) b _ => (match litKV keys vals with
      | some ps => if notSlice b && decide (ps.map (·.1)).Nodup && decide (ps ≠ []) && decide (ps.length ≤ 15) && (ps.all fun p => p.2.cps.toList.all (· < 0x110000)) then eGetG (litD ps) (d.E c b) else eBad
      | none => eBad)
  | .Subscript a b _ => if notSlice b then (match dDict G c a with
      | some kvs => eGetG kvs (dO d N c b)
      | none => eOp atD (dO d N c a) (dO d N c b)) else eBad
  | .ListComp elt [⟨tg, iter, ifs, 0⟩] scope _ => if lcOk N c scope iter then eFrz (dLc d G N c elt tg iter ifs scope) else eBad
  | .JoinedStr [e] _ => dPart d c e
  | .JoinedStr (v1 :: v2 :: rest) _ => eJoined ((v1 :: v2 :: rest).map (dPart d c))
  | _ => eBad
theorem stepE_ok {G : Glob} {fe : Nat → FD} {k : Nat} {N : List Str} {c : DC} {X : Cx} {d : Den} (D : DenOk G fe k N d) (C : CtxOk G fe k N c X) (e : Expr) : SndE X e (stepE d G fe N c e) := by
  unfold stepE
  split
  · exact snd_int
  · exact snd_bl
  · exact snd_non
  · unfold strOf
    split
    · rename_i h
      exact snd_str rfl (fun c hc => of_decide_eq_true (List.all_eq_true.mp h c hc))
    · exact snd_bad
  · rename_i x p
    split
    · rename_i hg
      obtain ⟨g1, g2, g3⟩ := good_ok hg
      split
      · rename_i hl
        split
        · rename_i i hs
          exact snd_var (by rw [C.hN]; exact slot_ok hs) (C.vis hl) g1 g2
        · exact snd_bad
      · split
        · rename_i hgl
          split
          · rename_i v hv
            obtain ⟨w, u, hm, r, rr⟩ := C.consts _ (PySem.mem_of_lookup hv)
            exact snd_glob (C.gl hgl) hm r g1 rr
          · exact snd_bad
        · exact snd_bad
    · exact snd_bad
  · exact snd_tup (dA_ok D C _)
  · exact (sndL_lst (dA_ok D C _)).toE
  · exact dBin_ok D C _ _ _ _
  · exact snd_not (D.E c X C _)
  · exact snd_neg (D.E c X C _)
  · exact dAnd_ok D C _ _
  · exact dOr_ok D C _ _
  · exact snd_if (D.T c X C _) (D.E c X C _) (D.E c X C _)
  · exact dCmp_ok D C _ _ _ _
  · exact dCall_ok D C _ _ _ _ _
  · rename_i o name apos cpos p
    split
    · rename_i hn
      subst hn
      split
      · rename_i h
        rw [Bool.and_eq_true] at h
        exact snd_bits (dO_ok D C _) (base_ok h.1) h.2
      · exact snd_bad
    · exact dMeth_ok D C _ _ _ _ _
  · exact dMeth_ok D C _ _ _ _ _
  · rename_i a lo hi p2 p
    refine snd_slice (dO_ok D C a) ?_ ?_
    · cases lo with
      | none => exact sndP_none
      | some e => exact sndP_some (D.E c X C e)
    · cases hi with
      | none => exact sndP_none
      | some e => exact sndP_some (D.E c X C e)
  · split
    · rename_i ps hp
      split
      · rename_i h
        simp only [Bool.and_eq_true, decide_eq_true_eq, List.all_eq_true] at h
        obtain ⟨⟨⟨⟨h1, h2⟩, h3⟩, h4⟩, h5⟩ := h
        exact snd_dlit (Nat.lt_of_le_of_lt (by omega) C.units) hp h2 h3 h4 h5 (D.E c X C _) (plainIx_ok h1)
      · exact snd_bad
    · exact snd_bad
  · split
    · rename_i h
      split
      · rename_i kvs hk
        obtain ⟨x, p, a', rfl, hg, hm, hd, K⟩ := dDict_ok C hk
        exact snd_getG hg hm hd K (dO_ok D C _) (plainIx_ok h)
      · exact snd_ix ixs_seq (dO_ok D C _) (dO_ok D C _) (plainIx_ok h)
    · exact snd_bad
  · split
    · rename_i h
      exact (dLc_ok D C h).toE
    · exact snd_bad
  · exact snd_joined1 (dPart_ok D C _)
  · exact snd_joined (dParts_ok D C _)
  · exact snd_bad
end WC
set_option Elab.async false
set_option linter.all false
set_option maxRecDepth 100000
namespace WC
open PySem PySem.Spec PyProof.Rows L2

abbrev Md := Str → Nat
def dL (d : Den) (G : Glob) (N : List Str) (c : DC) : Expr → Option LM
  | .List es _ => some (lLst (dA d c es))
  | .BinOp (.List es p) .Mult b _ => some (lRep (dO d N c (.List es p)) (dO d N c b))
  | .Call (.Name x _) args [] _ => if x = ("list" : Str) then (if goodName x && c.glob x && decide (x ∈ G.free) && args.all notStar then (match args with
      | _ :: _ => some (lListOf (dAO d N c args))
      | [] => none) else none) else none
  | .ListComp elt [⟨tg, iter, ifs, 0⟩] scope _ => if lcOk N c scope iter then some (dLc d G N c elt tg iter ifs scope) else none
  | _ => none
theorem dL_ok {G : Glob} {fe : Nat → FD} {k : Nat} {N : List Str} {c : DC} {X : Cx} {d : Den} (D : DenOk G fe k N d) (C : CtxOk G fe k N c X) {e : Expr} {m : LM} (h : dL d G N c e = some m) : SndL X e m := by
  unfold dL at h
  split at h
  · cases h; exact sndL_lst (dA_ok D C _)
  · cases h; exact sndL_rep (dO_ok D C _) (dO_ok D C _)
  · split at h
    · rename_i hx
      split at h
      · rename_i hh
        simp only [Bool.and_eq_true, decide_eq_true_eq] at hh
        obtain ⟨⟨⟨h1, h2⟩, h3⟩, h4⟩ := hh
        split at h
        · cases h
          rw [List.all_cons, Bool.and_eq_true] at h4
          exact sndL_listOf hx (C.gl h2) (C.free _ h3) (dAO_ok D C _) (starEach_cons h4.1) (back_plain h4.2)
        · cases h
      · cases h
    · cases h
  · split at h
    · rename_i hl
      cases h
      exact dLc_ok D C hl
    · cases h
  · cases h
def xMode (md : Nat) (m : LM) : XM := match md with
  | 1 => xOwn m
  | 2 => xHeap m
  | _ => xVal (eFrz m)
theorem xMode_plain {md : Nat} {m : LM} : XPlain (xMode md m) := by
  unfold xMode
  split
  · exact xOwn_plain
  · exact xHeap_plain
  · exact xVal_plain
theorem xMode_conv {K : PySem.W.Frag} {md : Nat} {m : LM} : ∀ σV H Q, RdX K (xMode md m) σV H Q → RdL K m σV H Q := by
  unfold xMode
  split
  · exact fun _ _ _ q => conv_own q
  · exact fun _ _ _ q => conv_heap q
  · exact fun _ _ _ q => conv_val q
def dX (d : Den) (G : Glob) (N : List Str) (md : Nat) (c : DC) (e : Expr) : XM := match dL d G N c e with
  | some m => xMode md m
  | none => xVal (d.E c e)
theorem dX_ok {G : Glob} {fe : Nat → FD} {k : Nat} {N : List Str} {c : DC} {X : Cx} {d : Den} (D : DenOk G fe k N d) (C : CtxOk G fe k N c X) (md : Nat) (e : Expr) : SndX X e (dX d G N md c e) := by
  unfold dX
  split
  · rename_i m hm
    exact weakE (dL_ok D C hm) fun σV H Q q => xMode_conv σV H Q q
  · exact sndX_val (D.E c X C e)
theorem dX_plain {G : Glob} {N : List Str} {c : DC} {d : Den} {md : Nat} {e : Expr} : XPlain (dX d G N md c e) := by
  unfold dX
  split
  · exact xMode_plain
  · exact xVal_plain
def swC (c : DC) (x : Str) (scope : Scope) (p q : Pos) : Bool := (match c.sc.names.lookup x with | some .local => true | _ => false) && p.line == q.line && !(scope.names.any fun (n, k) => n == x && (k == .local || k == .cell))
theorem swC_ok {X : Cx} {c : DC} {x : Str} {elt : Expr} {gs : List Comprehension} {scope : Scope} {pos p : Pos} {l : Nat} (hs : X.env.scope = c.sc) (hk : c.sc.kind = .function) : swapsWith (.ListComp elt gs scope pos) (some (.Name x p)) l X.env = pure (swC c x scope p pos) := by
  have hb : X.env.blockKind = .function := by unfold Env.blockKind; rw [hs, hk]; rfl
  have hn : X.env.kindOf x = c.sc.names.lookup x := by show X.env.scope.names.lookup x = _; rw [hs]
  unfold swapsWith swC
  simp only [hb, hn, Expr.pos]
  cases e : c.sc.names.lookup x with
  | none => rfl
  | some kk => cases kk <;> rfl
def dSet (d : Den) (G : Glob) (N : List Str) (md : Md) (c : DC) (x : Str) (p : Pos) (e : Expr) : SM := if c.tg x then (match slot N x with
  | some i => (match e with
    | .ListComp elt [⟨tg, iter, ifs, 0⟩] scope pos => if lcOk N c scope iter then (if swC c x scope p pos then sSet i (xMode (md x) (dLc d G N c elt tg iter ifs scope)) else sSet i (dX d G N (md x) c e)) else sBad
    | e => if notComp e then sSet i (dX d G N (md x) c e) else sBad)
  | none => sBad) else sBad
theorem dSet_ok {G : Glob} {fe : Nat → FD} {k : Nat} {N : List Str} {c : DC} {X : Cx} {d : Den} (D : DenOk G fe k N d) (C : CtxOk G fe k N c X) (md : Md) (x : Str) (p pos : Pos) (e : Expr) : SndS X (.Assign [.Name x p] e pos) (dSet d G N md c x p e) := by
  unfold dSet
  split
  · rename_i ht
    obtain ⟨t1, t2⟩ := C.tg x ht
    split
    · rename_i i hs
      have hN : X.N.Nodup := by rw [C.hN]; exact C.nd
      have hi : X.N[i]? = some x := by rw [C.hN]; exact slot_ok hs
      split
      · rename_i elt tg iter ifs scope lpos
        split
        · rename_i hl
          split
          · rename_i hw
            obtain ⟨b, ns, hk⟩ := lcOk_ok C hl
            obtain ⟨bs, hI⟩ := dI_ok (N := N) D C tg iter
            have hloc : X.env.scope.names.lookup x = some .local := by
              rw [C.sc]
              unfold swC at hw
              simp only [Bool.and_eq_true] at hw
              have := hw.1.1
              split at this
              · assumption
              · cases this
            exact sndS_setLc C.calm hN hi hloc ((swC_ok C.sc C.kind).trans (by rw [hw])) hI b (fun s H A0 cl fp => dG_ok (blk_ok C hk s H A0 cl fp) _ _ _) (fun s H A0 cl fp => dIfs_ok D (blk_ok C hk s H A0 cl fp) _) (fun s H A0 cl fp => D.E _ _ (blk_ok C hk s H A0 cl fp) _) (notSet_ok ns) xMode_conv xMode_plain
          · rename_i hw
            exact sndS_set hN hi t1 (dX_ok D C _ _) dX_plain ((swC_ok C.sc C.kind).trans (by rw [Bool.not_eq_true] at hw; rw [hw])) t2
        · exact sndS_bad
      · split
        · rename_i hc
          exact sndS_set hN hi t1 (dX_ok D C _ _) dX_plain (sw_ok hc) t2
        · exact sndS_bad
    · exact sndS_bad
  · exact sndS_bad
def notOwn (c : DC) : Expr → Bool
  | .Name x _ => !(match c.sc.names.lookup x with | some .local => true | _ => false)
  | _ => true
theorem sst_cell {ts vs : List Expr} {k k2 : Nat} {p p2 : Pos} {env : Env} {c : DC} (hs : env.scope = c.sc) (h : ts.any (notOwn c) = true) : swappedStores [.Tuple ts k p] (.Tuple vs k2 p2) env = pure none := by
  obtain ⟨e, he, hn⟩ := List.any_eq_true.mp h
  have key : ∀ (l : Nat), ((ts.filterMap fun | .Name id pos => if env.kindOf id == some .local && pos.line == l then some id else none | _ => none).length != ts.length) = true := by
    intro l
    rw [bne_iff_ne]
    intro hl
    have := (List.filterMap_length_eq_length.mp hl) e he
    cases e with
    | Name x q =>
      have h2 : (env.kindOf x == some .local) = false := by
        have : env.kindOf x = c.sc.names.lookup x := by show env.scope.names.lookup x = _; rw [hs]
        rw [this]
        have hn : (!(match c.sc.names.lookup x with | some .local => true | _ => false)) = true := hn
        cases e : c.sc.names.lookup x with
        | none => rfl
        | some kk => rw [e] at hn; cases kk <;> first | rfl | (cases hn; done)
      simp only [h2, Bool.false_and] at this
      cases this
    | _ => cases this
  unfold swappedStores
  dsimp only
  split
  · rfl
  · split
    · rfl
    · exact if_pos (by rw [Bool.or_eq_true]; exact .inl (key _))
def locN (c : DC) (x : Str) : Bool := match c.sc.names.lookup x with
  | some .local => true
  | _ => false
theorem locN_ok {G : Glob} {fe : Nat → FD} {k : Nat} {N : List Str} {c : DC} {X : Cx} (C : CtxOk G fe k N c X) {x : Str} (h : locN c x = true) : X.env.scope.names.lookup x = some .local := by
  rw [C.sc]
  unfold locN at h
  split at h
  · assumption
  · cases h
def dTup (d : Den) (G : Glob) (N : List Str) (md : Md) (c : DC) (ts : List Expr) (tp : Pos) (kt : Nat) (e : Expr) : SM := match ts, e with
  | [.Name x px, .Name y py], .Tuple [a, b] _ _ => if [a, b].all (foldedForSure 8) || ts.any (notOwn c) then sAsg (dG N c (List.range N.length) 4 (.Tuple ts kt tp)) (d.E c e)
    else (match slot N x, slot N y with
    | some i, some j => if locN c x && locN c y && py.line == px.line && !(y == x) && notStar a && notStar b && !([a, b].all (constantsAlone 8)) && decide (i ≠ j) then sPar2 i j (xsCons (dX d G N (md x) c a) (xsCons (dX d G N (md y) c b) xsNil)) else sBad
    | _, _ => sBad)
  | [.Name x px, .Name y py, .Name z pz], .Tuple [a, b, b3] _ _ => if [a, b, b3].all (foldedForSure 8) || ts.any (notOwn c) then sAsg (dG N c (List.range N.length) 4 (.Tuple ts kt tp)) (d.E c e)
    else (match slot N x, slot N y, slot N z with
    | some i, some j, some l => if locN c x && locN c y && locN c z && py.line == px.line && pz.line == px.line && !(y == x) && !(z == x) && !(z == y) && notStar a && notStar b && notStar b3 && !([a, b, b3].all (constantsAlone 8)) && decide (i ≠ j) && decide (i ≠ l) && decide (j ≠ l) then
      sPar3 i j l (xsCons (dX d G N (md x) c a) (xsCons (dX d G N (md y) c b) (xsCons (dX d G N (md z) c b3) xsNil))) else sBad
    | _, _, _ => sBad)
  | ts, .Tuple vs _ _ => if (ts.length == 2 || ts.length == 3) && !ts.any (notOwn c) then sBad else sAsg (dG N c (List.range N.length) 4 (.Tuple ts kt tp)) (d.E c e)
  | ts, e => if notComp e && !isTupE e then sAsg (dG N c (List.range N.length) 4 (.Tuple ts kt tp)) (d.E c e) else sBad
theorem sws_ok {t e : Expr} {l : Nat} {env : Env} (h : notComp e = true) : swapsWithSole [t] e l env = pure false := sw_ok (t := some t) h
theorem sws_tup {ts vs : List Expr} {k k2 : Nat} {p p2 : Pos} {l : Nat} {env : Env} : swapsWithSole [.Tuple ts k p] (.Tuple vs k2 p2) l env = pure false := rfl
theorem dTup_ok {G : Glob} {fe : Nat → FD} {k : Nat} {N : List Str} {c : DC} {X : Cx} {d : Den} (D : DenOk G fe k N d) (C : CtxOk G fe k N c X) (md : Md) (ts : List Expr) (tp pos : Pos) (kt : Nat) (e : Expr) : SndS X (.Assign [.Tuple ts kt tp] e pos) (dTup d G N md c ts tp kt e) := by
  have hN : X.N.Nodup := by rw [C.hN]; exact C.nd
  have hk : X.env.scope.kind = .function := by rw [C.sc]; exact C.kind
  have plain : ∀ {e : Expr}, swapsWithSole [.Tuple ts kt tp] e pos.line X.env = pure false → swappedStores [.Tuple ts kt tp] e X.env = pure none → SndS X (.Assign [.Tuple ts kt tp] e pos) (sAsg (dG N c (List.range N.length) 4 (.Tuple ts kt tp)) (d.E c e)) := fun {e} h1 h2 =>
    sndS_asg (D.E c X C e) (dG_ok C _ _ _) h1 h2 rfl
  unfold dTup
  split
  · rename_i x px y py a b k2 p2
    split
    · rename_i hf
      rw [Bool.or_eq_true] at hf
      exact plain rfl (hf.elim sst_const (sst_cell C.sc))
    · rename_i hf
      rw [Bool.or_eq_true, not_or] at hf
      replace hf := hf.1
      split
      · rename_i i j hi hj
        split
        · rename_i h
          simp only [Bool.and_eq_true, decide_eq_true_eq, Bool.not_eq_true'] at h
          obtain ⟨⟨⟨⟨⟨⟨⟨h1, h2⟩, h3⟩, h4⟩, h5⟩, h6⟩, h7⟩, h8⟩ := h
          exact sndS_par C.calm hN (by rw [C.hN]; exact slot_ok hi) (by rw [C.hN]; exact slot_ok hj) h8 (locN_ok C h1) (locN_ok C h2) (sndXs_cons (dX_ok D C _ _) (sndXs_cons (dX_ok D C _ _) sndXs_nil (starEach_cons h6)) (starEach_cons h5))
            (sst_two hk (locN_ok C h1) (locN_ok C h2) h3 h4 h5 h6 (by simpa using hf) h7) rfl
        · exact sndS_bad
      · exact sndS_bad
  · rename_i x px y py z pz a b b3 k2 p2
    split
    · rename_i hf
      rw [Bool.or_eq_true] at hf
      exact plain rfl (hf.elim sst_const (sst_cell C.sc))
    · rename_i hf
      rw [Bool.or_eq_true, not_or] at hf
      replace hf := hf.1
      split
      · rename_i i j l hi hj hl
        split
        · rename_i h
          simp only [Bool.and_eq_true, decide_eq_true_eq, Bool.not_eq_true'] at h
          obtain ⟨⟨⟨⟨⟨⟨⟨⟨⟨⟨⟨⟨⟨⟨h1, h2⟩, h3⟩, h4⟩, h5⟩, h6⟩, h7⟩, h8⟩, h9⟩, h10⟩, h11⟩, h12⟩, h13⟩, h14⟩, h15⟩ := h
          exact sndS_par3 C.calm hN (by rw [C.hN]; exact slot_ok hi) (by rw [C.hN]; exact slot_ok hj) (by rw [C.hN]; exact slot_ok hl) h13 h14 h15 (locN_ok C h1) (locN_ok C h2) (locN_ok C h3)
            (sndXs_cons (dX_ok D C _ _) (sndXs_cons (dX_ok D C _ _) (sndXs_cons (dX_ok D C _ _) sndXs_nil (starEach_cons h11)) (starEach_cons h10)) (starEach_cons h9))
            (sst_three hk (locN_ok C h1) (locN_ok C h2) (locN_ok C h3) h4 h5 h6 h7 h8 h9 h10 h11 (by simpa using hf) h12) rfl
        · exact sndS_bad
      · exact sndS_bad
  · rename_i vs k2 p2 _ _
    split
    · exact sndS_bad
    · rename_i h
      by_cases h2 : (ts.length == 2 || ts.length == 3) = true
      · refine plain rfl (sst_cell C.sc ?_)
        rw [h2, Bool.true_and] at h
        simpa using h
      · exact plain rfl (sst_long (by simpa using h2))
  · split
    · rename_i h
      simp only [Bool.and_eq_true, Bool.not_eq_true'] at h
      exact plain (sws_ok h.1) (sst_none h.2)
    · exact sndS_bad
def dAug (d : Den) (N : List Str) (c : DC) (x : Str) (op : Operator) (e : Expr) : SM := if c.tg x then (match slot N x with
  | some i => (match op with
    | .Add => sAug i gIAdd (d.E c e)
    | .Sub => sAug i gSub (d.E c e)
    | .BitAnd => sAug i gAnd (d.E c e)
    | .BitOr => sAug i gOr (d.E c e)
    | .BitXor => sAug i gXor (d.E c e)
    | _ => sBad)
  | none => sBad) else sBad
theorem dAug_ok {G : Glob} {fe : Nat → FD} {k : Nat} {N : List Str} {c : DC} {X : Cx} {d : Den} (D : DenOk G fe k N d) (C : CtxOk G fe k N c X) (x : Str) (p pos : Pos) (op : Operator) (e : Expr) : SndS X (.AugAssign (.Name x p) op e pos) (dAug d N c x op e) := by
  unfold dAug
  split
  · rename_i ht
    obtain ⟨t1, t2⟩ := C.tg x ht
    split
    · rename_i i hs
      have hN : X.N.Nodup := by rw [C.hN]; exact C.nd
      have hi : X.N[i]? = some x := by rw [C.hN]; exact slot_ok hs
      split
      · exact sndS_aug hN hi t1 (D.E c X C e) iops_add t2
      · exact sndS_aug hN hi t1 (D.E c X C e) iops_sub t2
      · exact sndS_aug hN hi t1 (D.E c X C e) iops_and t2
      · exact sndS_aug hN hi t1 (D.E c X C e) iops_or t2
      · exact sndS_aug hN hi t1 (D.E c X C e) iops_xor t2
      · exact sndS_bad
    · exact sndS_bad
  · exact sndS_bad
def dStore (d : Den) (N : List Str) (c : DC) (x : Str) (a e : Expr) : SM := if c.loc x && goodName x && notSlice a then (match slot N x with
  | some i => sStore i (d.E c e) (d.E c a)
  | none => sBad) else sBad
theorem dStore_ok {G : Glob} {fe : Nat → FD} {k : Nat} {N : List Str} {c : DC} {X : Cx} {d : Den} (D : DenOk G fe k N d) (C : CtxOk G fe k N c X) (x : Str) (p tp pos : Pos) (a e : Expr) : SndS X (.Assign [.Subscript (.Name x p) a tp] e pos) (dStore d N c x a e) := by
  unfold dStore
  split
  · rename_i h
    simp only [Bool.and_eq_true] at h
    obtain ⟨⟨h1, h2⟩, h3⟩ := h
    obtain ⟨g1, g2, _⟩ := good_ok h2
    split
    · rename_i i hs
      exact sndS_store (by rw [C.hN]; exact slot_ok hs) (C.vis h1) g1 g2 (D.E c X C e) (D.E c X C a) (sub_ok h3) (by cases e <;> rfl) sst_sub rfl
    · exact sndS_bad
  · exact sndS_bad
def dAugS (d : Den) (N : List Str) (c : DC) (x : Str) (a : Expr) (op : Operator) (e : Expr) : SM := if c.loc x && goodName x && notSlice a then (match slot N x with
  | some i => (match op with
    | .Add => sAugS i gIAdd (d.E c a) (d.E c e)
    | .Sub => sAugS i gSub (d.E c a) (d.E c e)
    | .BitAnd => sAugS i gAnd (d.E c a) (d.E c e)
    | .BitOr => sAugS i gOr (d.E c a) (d.E c e)
    | .BitXor => sAugS i gXor (d.E c a) (d.E c e)
    | _ => sBad)
  | none => sBad) else sBad
theorem dAugS_ok {G : Glob} {fe : Nat → FD} {k : Nat} {N : List Str} {c : DC} {X : Cx} {d : Den} (D : DenOk G fe k N d) (C : CtxOk G fe k N c X) (x : Str) (p tp pos : Pos) (a : Expr) (op : Operator) (e : Expr) : SndS X (.AugAssign (.Subscript (.Name x p) a tp) op e pos) (dAugS d N c x a op e) := by
  unfold dAugS
  split
  · rename_i h
    simp only [Bool.and_eq_true] at h
    obtain ⟨⟨h1, h2⟩, h3⟩ := h
    obtain ⟨g1, g2, _⟩ := good_ok h2
    split
    · rename_i i hs
      have hi : X.N[i]? = some x := by rw [C.hN]; exact slot_ok hs
      split
      · exact sndS_augS hi (C.vis h1) g1 g2 (D.E c X C e) (D.E c X C a) iops_add (augStore_ok h3)
      · exact sndS_augS hi (C.vis h1) g1 g2 (D.E c X C e) (D.E c X C a) iops_sub (augStore_ok h3)
      · exact sndS_augS hi (C.vis h1) g1 g2 (D.E c X C e) (D.E c X C a) iops_and (augStore_ok h3)
      · exact sndS_augS hi (C.vis h1) g1 g2 (D.E c X C e) (D.E c X C a) iops_or (augStore_ok h3)
      · exact sndS_augS hi (C.vis h1) g1 g2 (D.E c X C e) (D.E c X C a) iops_xor (augStore_ok h3)
      · exact sndS_bad
    · exact sndS_bad
  · exact sndS_bad
def dAppend (d : Den) (N : List Str) (c : DC) (x : Str) (e : Expr) (ok : Bool) : SM := if c.loc x && goodName x && notStar e && ok then (match slot N x with
  | some i => sAppend i (d.E c e)
  | none => sBad) else sBad
theorem dAppend_ok {G : Glob} {fe : Nat → FD} {k : Nat} {N : List Str} {c : DC} {X : Cx} {d : Den} (D : DenOk G fe k N d) (C : CtxOk G fe k N c X) (x : Str) (p apos cpos pos : Pos) (e : Expr) : SndS X (.Expr (.Call (.Attribute (.Name x p) "append" apos) [e] [] cpos) pos) (dAppend d N c x e (apos.endLine == cpos.line)) := by
  unfold dAppend
  split
  · rename_i h
    simp only [Bool.and_eq_true] at h
    obtain ⟨⟨⟨h1, h2⟩, h3⟩, h4⟩ := h
    obtain ⟨g1, g2, _⟩ := good_ok h2
    split
    · rename_i i hs
      exact sndS_append (by rw [C.hN]; exact slot_ok hs) (C.vis h1) g1 g2 (D.E c X C e) (base_ok rfl) (few_ok (by simpa using h3) (by show 1 < 30; decide)) h4 (starEach_cons h3) rfl (sw_ok rfl)
    · exact sndS_bad
  · exact sndS_bad

mutual
def escE : Nat → Expr → List Str
  | 0, _ => []
  | n + 1, e => match e with
    | .Name x _ => [x]
    | .Tuple es _ _ => es.flatMap (escE n)
    | .List es _ => es.flatMap (escE n)
    | .BinOp a _ b _ => escO n a ++ escO n b
    | .UnaryOp _ a _ => escE n a
    | .BoolOp _ es _ => es.flatMap (escE n)
    | .IfExp t a b _ => escE n t ++ escE n a ++ escE n b
    | .Compare a _ bs _ => escO n a ++ bs.flatMap (escO n)
    | .Call (.Name x _) as ks _ => if x ∈ [("len" : Str), "int", "str", "min", "max", "sum", "all", "any", "tuple", "isinstance", "list", "sorted"] then as.flatMap (escO n) else as.flatMap (escE n) ++ ks.flatMap fun k => escE n k.value
    | .Call (.Attribute o _ _) as ks _ => escO n o ++ as.flatMap (escO n)
    | .Subscript a b _ => escO n a ++ escE n b
    | .Slice lo hi _ _ => (match lo with | some e => escE n e | none => []) ++ (match hi with | some e => escE n e | none => [])
    | .ListComp elt gs _ _ => escE n elt ++ gs.flatMap fun g => escO n g.iter ++ g.ifs.flatMap (escE n)
    | .JoinedStr es _ => es.flatMap (escE n)
    | .FormattedValue e _ _ _ => escE n e
    | _ => []
def escO : Nat → Expr → List Str
  | 0, _ => []
  | n + 1, e => match e with
    | .Name _ _ => []
    | e => escE n e
end
def escS (N : List Str) (md : Md) (st : Stmt) : List Nat :=
  let es := match st with
    | .Assign _ e _ => escE 40 e
    | .Expr (.Call (.Attribute o _ _) as _ _) _ => as.flatMap (escE 40) ++ escO 40 o
    | .Expr e _ => escE 40 e
    | .Return (some e) _ => []
    | .AugAssign _ _ e _ => escE 40 e
    | .If t _ _ _ => escE 40 t
    | .For _ it _ _ _ => escO 40 it
    | _ => []
  (es.filter fun x => md x == 1).eraseDups.filterMap (slot N)
def frzAll (N : List Str) (md : Md) (st : Stmt) : List Nat := match st with
  | .Return (some e) _ => ((escE 40 e).filter fun x => md x == 1).eraseDups.filterMap (slot N)
  | _ => []
def wFuel : Nat := 1000000
def dAN (d : Den) (G : Glob) (N : List Str) (c : DC) : List Expr → AM
  | [] => aNil
  | e :: es => if notStar e then aCons (match dL d G N c e with
    | some m => eNew m
    | none => d.E c e) (dAN d G N c es) else aBad
theorem dAN_ok {G : Glob} {fe : Nat → FD} {k : Nat} {N : List Str} {c : DC} {X : Cx} {d : Den} (D : DenOk G fe k N d) (C : CtxOk G fe k N c X) : ∀ es : List Expr, SndA X es (dAN d G N c es)
  | [] => sndA_nil
  | e :: es => by
    unfold dAN
    by_cases h : notStar e = true
    · simp only [if_pos h]
      refine sndA_cons ?_ (dAN_ok D C es) (starEach_cons h)
      split
      · rename_i m hm
        exact snd_new (dL_ok D C hm)
      · exact D.E c X C e
    · simp only [if_neg h]
      exact sndA_bad
def dRet (d : Den) (G : Glob) (N : List Str) (md : Md) (c : DC) (e : Expr) : SM := if md "return" = 2 then (match e with
  | .List es _ => sRet (eFrz (lLst (dAN d G N c es)))
  | _ => sBad) else sRet (d.E c e)
theorem dRet_ok {G : Glob} {fe : Nat → FD} {k : Nat} {N : List Str} {c : DC} {X : Cx} {d : Den} (D : DenOk G fe k N d) (C : CtxOk G fe k N c X) (md : Md) (e : Expr) (pos : Pos) : SndS X (.Return (some e) pos) (dRet d G N md c e) := by
  unfold dRet
  split
  · split
    · exact sndS_ret (sndL_lst (dAN_ok D C _)).toE
    · exact sndS_bad
  · exact sndS_ret (D.E c X C _)
def stepS0 (d : Den) (G : Glob) (N : List Str) (md : Md) (c : DC) : Stmt → SM
  | .Expr (.Call (.Attribute (.Name x _) name apos) [e] [] cpos) _ => if name = ("append" : Str) then dAppend d N c x e (apos.endLine == cpos.line) else sBad
  | .Expr e _ => if notComp e then sExpr (d.E c e) else sBad
  | .Return (some e) _ => dRet d G N md c e
  | .Return none _ => sRetN
  | .Assign [.Name x p] e _ => dSet d G N md c x p e
  | .Assign [.Tuple ts kt tp] e _ => dTup d G N md c ts tp kt e
  | .Assign [.Subscript (.Name x _) a _] e _ => dStore d N c x a e
  | .AugAssign (.Name x _) op e _ => dAug d N c x op e
  | .AugAssign (.Subscript (.Name x _) a _) op e _ => dAugS d N c x a op e
  | .If t a b _ => sIf (d.T c t) (d.B c a) (d.B c b)
  | .For tg (.Name x p) body [] _ => if c.loc x then (match slot N x with
      | some i => if goodName x then sForV i (dG N c (List.range N.length) 4 tg) (d.B c body) else sBad
      | none => sBad) else sFor (dI0 d G c tg (.Name x p)) (dG N c (List.range N.length) 4 tg) (d.B c body)
  | .For tg iter body [] _ => if notSet iter then sFor (dI0 d G c tg iter) (dG N c (List.range N.length) 4 tg) (d.B c body) else sBad
  | .While t body [] _ => whileGo (d.T c t) (d.B c body) wFuel
  | .Pass _ => sNil
  | .Break _ => sBreak
  | .Continue _ => sCont
  | _ => sBad
def stepS (d : Den) (G : Glob) (N : List Str) (md : Md) (c : DC) (st : Stmt) : SM := match escS N md st ++ frzAll N md st with
  | [] => stepS0 d G N md c st
  | is => sFrz is (stepS0 d G N md c st)
theorem stepS0_ok {G : Glob} {fe : Nat → FD} {k : Nat} {N : List Str} {c : DC} {X : Cx} {d : Den} (D : DenOk G fe k N d) (C : CtxOk G fe k N c X) (md : Md) (st : Stmt) : SndS X st (stepS0 d G N md c st) := by
  have never : PassesOwn (model X.prog X.w) X.A X.env X.xe := by rw [C.xe]; exact PassesOwn.never
  unfold stepS0
  split
  · split
    · rename_i h
      subst h
      exact dAppend_ok D C _ _ _ _ _ _
    · exact sndS_bad
  · split
    · rename_i h
      exact sndS_expr (D.E c X C _) (sw_ok h)
    · exact sndS_bad
  · exact dRet_ok D C _ _ _
  · exact sndS_retN
  · exact dSet_ok D C _ _ _ _ _
  · exact dTup_ok D C _ _ _ _ _ _
  · exact dStore_ok D C _ _ _ _ _ _
  · exact dAug_ok D C _ _ _ _ _
  · exact dAugS_ok D C _ _ _ _ _ _ _
  · exact sndS_if (D.T c X C _) (D.B c X C _) (D.B c X C _)
  · split
    · rename_i hl
      split
      · rename_i i hs
        split
        · rename_i hg
          obtain ⟨g1, g2, _⟩ := good_ok hg
          exact sndS_forV (by rw [C.hN]; exact slot_ok hs) (C.vis hl) g1 g2 never C.calm (dG_ok C _ _ _) (D.B c X C _)
        · exact sndS_bad
      · exact sndS_bad
    · exact sndS_for never C.calm (dI0_ok D C _ _) (dG_ok C _ _ _) (D.B c X C _) (notSet_ok rfl)
  · split
    · rename_i h
      exact sndS_for never C.calm (dI0_ok D C _ _) (dG_ok C _ _ _) (D.B c X C _) (notSet_ok h)
    · exact sndS_bad
  · exact sndS_while _ never (D.T c X C _) (D.B c X C _)
  · exact sndS_pass
  · exact sndS_break
  · exact sndS_cont
  · exact sndS_bad
theorem stepS_ok {G : Glob} {fe : Nat → FD} {k : Nat} {N : List Str} {c : DC} {X : Cx} {d : Den} (D : DenOk G fe k N d) (C : CtxOk G fe k N c X) (md : Md) (st : Stmt) : SndS X st (stepS d G N md c st) := by
  unfold stepS
  split
  · exact stepS0_ok D C md st
  · exact sndS_frz (stepS0_ok D C md st)
def stepB (d : Den) (G : Glob) (N : List Str) (md : Md) (c : DC) : List Stmt → SM
  | [] => sNil
  | [st] => stepS d G N md c st
  | st :: rest => sSeq (stepS d G N md c st) (stepB d G N md c rest)
theorem sndB_one {X : Cx} {st : Stmt} {m : SM} (h : SndS X st m) : SndB X [st] m := pss_one h
theorem stepB_ok {G : Glob} {fe : Nat → FD} {k : Nat} {N : List Str} {c : DC} {X : Cx} {d : Den} (D : DenOk G fe k N d) (C : CtxOk G fe k N c X) (md : Md) : ∀ sts : List Stmt, SndB X sts (stepB d G N md c sts)
  | [] => sndB_nil
  | [st] => sndB_one (stepS_ok D C md st)
  | st :: s2 :: rest => sndB_cons (stepS_ok D C md st) (stepB_ok D C md (s2 :: rest))
def den (G : Glob) (fe : Nat → FD) (N : List Str) (md : Md) : Nat → Den
  | 0 => ⟨fun _ _ => eBad, fun _ _ => tBad, fun _ _ => sBad⟩
  | n + 1 => ⟨stepE (den G fe N md n) G fe N, stepT (den G fe N md n) G N, stepB (den G fe N md n) G N md⟩
theorem den_ok (G : Glob) (fe : Nat → FD) (k : Nat) (N : List Str) (md : Md) : ∀ n, DenOk G fe k N (den G fe N md n)
  | 0 => ⟨fun _ _ _ _ => snd_bad, fun _ _ _ _ => sndT_bad, fun _ _ _ _ => sndB_bad⟩
  | n + 1 => ⟨fun c X C e => stepE_ok (den_ok G fe k N md n) C e, fun c X C e => stepT_ok (den_ok G fe k N md n) C e, fun c X C sts => stepB_ok (den_ok G fe k N md n) C md sts⟩
def defDC (st : Stmt) : DC := ⟨defScope st, fun x => match (defScope st).names.lookup x with
  | some .local => true
  | some .cell => true
  | _ => false⟩
def denF (G : Glob) (N : List Str) (md : Md) (st : Stmt) (fe : Nat → FD) : FD := defF N.length ((den G fe N md 60).B (defDC st) (defBody st))
theorem def_ok {P : Program} {w : World} {K : PySem.W.Frag} {mg : Str → Option Value} {base : Heap} {G : Glob} {fe : Nat → FD} {k : Nat} {x qual : Str} {st : Stmt} {f : Addr} {fd : FuncData} {N ps : List Str} {md : Md} (Fn : Fun K x qual st f fd) (S : FnScope N ps (defScope st))
    (hfree : ∀ x ∈ G.free, mg x = none) (hconsts : ∀ p ∈ G.consts, ∃ v u, mg p.1 = some u ∧ RelV v u ∧ ∀ L, Rep K L v p.2)
    (hdicts : ∀ p ∈ G.dicts, ∃ a, mg p.1 = some (.ref a) ∧ KDOk K w a p.2)
    (hfuns : ∀ q ∈ G.funs, ∃ f fd ps, mg q.1 = some (.ref f) ∧ PySem.W.keepIn K (.ref f) = true ∧ Binds K fd ps [] ∧ FnOk P w K mg base CX0 k f fd ps (spI K q.2.2 (fe q.2.1)) ∧ ∀ r ∈ G.kfuns, r.1 = q.1 → KB K fd ps r.2.2.1 r.2.1 r.2.2.2) :
    FnOk P w K mg base CX0 (k + 1) f fd ps (spI K ps.length (denF G N md st fe)) := by
  refine fn_ok Fn S rfl fun cdv A outer s H hr => (den_ok G fe k N md 60).B (defDC st) _ ⟨rfl, S.nd, rfl, S.kind, fun x hx => ?_, rfl, rfl, hr, hfree, hconsts, hdicts, hfuns⟩ _
  have hx : (match (defScope st).names.lookup x with | some .local => true | some .cell => true | _ => false) = true := hx
  refine ⟨?_, .inl rfl⟩
  show (defScope st).names.lookup x = some .local ∨ (defScope st).names.lookup x = some .cell
  split at hx
  · exact .inl (by assumption)
  · exact .inr (by assumption)
  · cases hx
end WC
set_option Elab.async false
set_option linter.all false
set_option maxRecDepth 100000
namespace WC
open PySem PySem.Spec PyProof.Rows L2

abbrev Bodies := List (Nat × ((Nat → FD) → SM))
def callN (B : Bodies) : Nat → Nat → FD
  | 0, _ => fun _ _ => .bad
  | k + 1, i => match B[i]? with
    | some (n, b) => defF n (b (callN B k))
    | none => fun _ _ => .bad
structure DefAt (K : PySem.W.Frag) (x : Str) (st : Stmt) : Prop where
  ex : ∃ (f : Addr) (oc : Value) (od an : Option Addr) (osl : Array (Option Value)) (kV doc pm cdv ct : Value), PySem.W.nsIn K mainGlobals x = some (some (.ref f)) ∧
    K.lookup f = some ⟨oc, od, .func (PySem.W.fnOf x x (defArgs st) (defBody st) (defScope st) .none kV doc pm an cdv ct), osl⟩ ∧ PySem.W.codeIn K cdv x = true ∧ PySem.W.keepIn K (.ref f) = true
structure DefTx (G : Glob) (B : Bodies) (x : Str) (i n : Nat) (st : Stmt) : Prop where
  ex : ∃ (N ps : List Str) (md : Md) (b : (Nat → FD) → SM), B[i]? = some (N.length, b) ∧ ps.length = n ∧ (∀ fe, (den G fe N md 60).B (defDC st) (defBody st) = b fe) ∧ FnScope N ps (defScope st) ∧
    (∀ (kV doc pm : Value) (an : Option Addr) (cdv ct : Value) (us : List Value), us.length = ps.length → bindArgs (PySem.W.fnOf x x (defArgs st) (defBody st) (defScope st) .none kV doc pm an cdv ct) ⟨us, []⟩ = pure (ps.zip us)) ∧
    ∀ r ∈ G.kfuns, r.1 = x → ∀ (kV doc pm : Value) (an : Option Addr) (cdv ct : Value) (us ws : List Value), us.length = r.2.1 → ws.length = r.2.2.1.length → bindArgs (PySem.W.fnOf x x (defArgs st) (defBody st) (defScope st) .none kV doc pm an cdv ct) ⟨us, r.2.2.1.zip ws⟩ = pure (ps.zip (permL r.2.2.2 (us ++ ws)))
theorem fn_bad {P : Program} {w : World} {K : PySem.W.Frag} {mg : Str → Option Value} {base : Heap} {k n : Nat} {f : Addr} {fd : FuncData} {ps : List Str} : FnOk P w K mg base CX0 k f fd ps (spI K n fun _ _ => .bad) := by
  refine ⟨fun vs H Q E h => ?_, fun A outer s H args us vs Q E _ _ _ _ h => ?_⟩
  · obtain ⟨_, L, h, ds, d, h', _, _, e, _⟩ := h; cases e
  · obtain ⟨_, L, h, ds, d, h', _, _, e, _⟩ := h; cases e
theorem prog_ok {P : Program} {w : World} {K : PySem.W.Frag} {mg : Str → Option Value} {base : Heap} {G : Glob} {B : Bodies} (X : K.In base) (Gl : base.Ns mainGlobals mg) (sts : Str → Stmt)
    (hat : ∀ q ∈ G.funs, DefAt K q.1 (sts q.1)) (htx : ∀ q ∈ G.funs, DefTx G B q.1 q.2.1 q.2.2 (sts q.1))
    (hfree : ∀ x ∈ G.free, mg x = none) (hconsts : ∀ p ∈ G.consts, ∃ v u, mg p.1 = some u ∧ RelV v u ∧ ∀ L, Rep K L v p.2) (hdicts : ∀ p ∈ G.dicts, ∃ a, mg p.1 = some (.ref a) ∧ KDOk K w a p.2) :
    ∀ k, ∀ q ∈ G.funs, ∃ f fd ps, mg q.1 = some (.ref f) ∧ PySem.W.keepIn K (.ref f) = true ∧ Binds K fd ps [] ∧ FnOk P w K mg base CX0 k f fd ps (spI K q.2.2 (callN B k q.2.1)) ∧ ∀ r ∈ G.kfuns, r.1 = q.1 → KB K fd ps r.2.2.1 r.2.1 r.2.2.2 := by
  have pre : ∀ q ∈ G.funs, ∃ (f : Addr) (fd : FuncData) (N ps : List Str) (md : Md) (b : (Nat → FD) → SM), mg q.1 = some (.ref f) ∧ PySem.W.keepIn K (.ref f) = true ∧ Binds K fd ps [] ∧ Fun K q.1 q.1 (sts q.1) f fd ∧ (∀ r ∈ G.kfuns, r.1 = q.1 → KB K fd ps r.2.2.1 r.2.1 r.2.2.2) ∧
      B[q.2.1]? = some (N.length, b) ∧ ps.length = q.2.2 ∧ (∀ fe, (den G fe N md 60).B (defDC (sts q.1)) (defBody (sts q.1)) = b fe) ∧ FnScope N ps (defScope (sts q.1)) := fun q hq => by
    obtain ⟨f, oc, od, an, osl, kV, doc, pm, cdv, ct, a, l, c, kp⟩ := (hat q hq).ex
    obtain ⟨N, ps, md, b, h1, h2, h3, h4, h5, h6⟩ := (htx q hq).ex
    have F := fun_mk (st := sts q.1) l c kp
    exact ⟨f, _, N, ps, md, b, PySem.W.mg_of X Gl a, kp, F.binds h5, F, fun r hr e s us ws _ hu hw => .of_eq (h6 r hr e kV doc pm an cdv ct us ws hu hw), h1, h2, h3, h4⟩
  intro k
  induction k with
  | zero =>
    intro q hq
    obtain ⟨f, fd, N, ps, md, b, h1, h2, h3, h4, h5, h6, h7, h8, h9⟩ := pre q hq
    exact ⟨f, fd, ps, h1, h2, h3, fn_bad, h5⟩
  | succ k ih =>
    intro q hq
    obtain ⟨f, fd, N, ps, md, b, h1, h2, h3, h4, h5, h6, h7, h8, h9⟩ := pre q hq
    refine ⟨f, fd, ps, h1, h2, h3, ?_, h5⟩
    have := def_ok (P := P) (w := w) (G := G) (fe := callN B k) (k := k) (md := md) h4 h9 hfree hconsts hdicts ih
    have e : denF G N md (sts q.1) (callN B k) = callN B (k + 1) q.2.1 := by
      unfold denF
      rw [h8]
      show _ = match B[q.2.1]? with | some (n, b) => defF n (b (callN B k)) | none => _
      rw [h6]
    rw [e, h7] at this
    exact this
theorem hrel0 {K : PySem.W.Frag} {H : Hp} : HRel K ⟨H, []⟩ H [] := by
  refine ⟨fun p o e => e, fun p ⟨q, h, _⟩ => ?_, fun p ⟨q, h, _⟩ => ?_, .nil, rfl, fun n q o e => ?_⟩
  · cases h
  · cases h
  · cases e
theorem reps_ints {K : PySem.W.Frag} {L : Lay} : ∀ ns : List Int, Reps K L (ns.map V.int) (ns.map D.int)
  | [] => .nil
  | n :: ns => .cons (.int n) (reps_ints ns)
theorem law_end {K : PySem.W.Frag} {f : FD} {H : Hp} {a : Addr} {ns : List Int} {E : XK} (hS : SqL K H a (ns.map V.int)) (h : ∃ h', f [.scr (ns.map .int)] [] = .ok (.bl true) h') : spI K 1 f [.ref a] H (fun v _ => v = .bl true) E := by
  obtain ⟨h', e⟩ := h
  refine ⟨rfl, ⟨H, []⟩, [], [.scr (ns.map .int)], .bl true, h', hrel0, .cons (.scr hS (reps_ints ns)) .nil, e, fun L' H' v _ _ r => ?_⟩
  cases r
  rfl
end WC
namespace WC
open PySem PySem.Spec PyProof.Rows L2
theorem all_nil {α : Type} {P : α → Prop} : ∀ q ∈ ([] : List α), P q := fun _ h => nomatch h
theorem all_cons {α : Type} {P : α → Prop} {a : α} {l : List α} (h : P a) (t : ∀ q ∈ l, P q) : ∀ q ∈ a :: l, P q := List.forall_mem_cons.mpr ⟨h, t⟩
theorem kf_of {P : Str × Nat × List Str × List Nat → Prop} {K l : List (Str × Nat × List Str × List Nat)} {x : Str} (e : K.filter (fun r => r.1 == x) = l) (h : ∀ r ∈ l, P r) : ∀ r ∈ K, r.1 = x → P r := fun r hr hx => h r (by rw [← e, List.mem_filter]; exact ⟨hr, by rw [hx]; exact beq_self_eq_true x⟩)
structure CstAt (K : PySem.W.Frag) (x : Str) (d : D) : Prop where
  ex : ∃ v u, PySem.W.nsIn K mainGlobals x = some (some u) ∧ RelV v u ∧ ∀ L, Rep K L v d
structure DctAt (K : PySem.W.Frag) (w : World) (x : Str) (d : KVs) : Prop where
  ex : ∃ a, PySem.W.nsIn K mainGlobals x = some (some (.ref a)) ∧ KDOk K w a d
theorem KDOk.mk1 {K : PySem.W.Frag} {w : World} {a : Addr} {es : Array DictEntry} {n : Nat} {d : KVs} (l : K.lookup a = some ⟨.type "dict", none, .dict es n, #[]⟩) (h : PySem.W.KeysLit w.params es.toList) (hl : (a == sysModules) = false) (o : KvOk K es.toList d) : KDOk K w a d := ⟨es, n, ⟨l, h, hl⟩, o⟩
theorem rep_ctup {K : PySem.W.Frag} {L : Lay} {a : Addr} {o : Obj} {its : Array Value} {n : Nat} {vs : List V} {ds : List D} (h1 : K.lookup a = some o) (h2 : o.cls = .type "tuple") (h3 : o.data = .seq its n) (h4 : its.size ≤ sizeLine) (h5 : Vals vs its.toList) (r : Reps K L vs ds) : Rep K L (.ref a) (.tup ds) :=
  .tup (.inr ⟨o, its, n, h1, h2, h3, h4, h5⟩) r
end WC
set_option Elab.async false
set_option linter.all false
set_option maxRecDepth 100000
namespace WC
open PySem PySem.Spec PyProof.Rows L2
section
variable {σ : Sg} {h : Hs}
@[simp] theorem e_eC (d : D) : eC d σ h = .ok d h := rfl
@[simp] theorem e_eVar (i : Nat) : eVar i σ h = match σ[i]? with | some (.val d) => .ok d h | _ => .bad := rfl
@[simp] theorem e_oVar (i : Nat) : oVar i σ h = match σ[i]? with | some (.val d) => .ok d h | some (.own xs) => .ok (.lst xs) h | some (.ownd kvs) => .ok (.dct kvs) h | some (.lent xs) => .ok (.lst xs) h | _ => .bad := rfl
@[simp] theorem e_aNil : aNil σ h = .ok [] h := rfl
@[simp] theorem e_aCons (m : EM) (ms : AM) : aCons m ms σ h = (m σ h).bind fun x h1 => (ms σ h1).bind fun xs h2 => .ok (x :: xs) h2 := rfl
@[simp] theorem e_eTup (ms : AM) : eTup ms σ h = (ms σ h).bind fun xs h1 => if xs.length ≤ 16777216 then .ok (.tup xs) h1 else .bad := rfl
@[simp] theorem e_eOp (g : G2) (a b : EM) : eOp g a b σ h = (a σ h).bind fun x h1 => (b σ h1).bind fun y h2 => optR (g h2 x y) h2 := rfl
@[simp] theorem e_optR_some {α : Type} (d : α) : optR (some d) h = .ok d h := rfl
@[simp] theorem e_optR_none {α : Type} : optR (none : Option α) h = .bad := rfl
@[simp] theorem e_tB (m : EM) : tB m σ h = (m σ h).bind fun d h1 => match d with | .bl b => .ok b h1 | _ => .bad := rfl
@[simp] theorem e_eChain (g g' : G2) (a b c : EM) : eChain g g' a b c σ h = (a σ h).bind fun x h1 => (b σ h1).bind fun y h2 => (optR (g h2 x y) h2).bind fun z h3 => match z with
  | .bl true => (c σ h3).bind fun w h4 => optR (g' h4 y w) h4
  | .bl false => .ok (.bl false) h3
  | _ => .bad := rfl
@[simp] theorem e_tAnd (t u : TM) : tAnd t u σ h = (t σ h).bind fun b h1 => match b with | true => u σ h1 | false => .ok false h1 := rfl
@[simp] theorem e_tOr (t u : TM) : tOr t u σ h = (t σ h).bind fun b h1 => match b with | true => .ok true h1 | false => u σ h1 := rfl
@[simp] theorem e_tNot (t : TM) : tNot t σ h = (t σ h).bind fun b h1 => .ok (!b) h1 := rfl
@[simp] theorem e_eAnd (m n : EM) : eAnd m n σ h = (m σ h).bind fun d h1 => match d with | .bl true => n σ h1 | .bl false => .ok (.bl false) h1 | _ => .bad := rfl
@[simp] theorem e_eOr (m n : EM) : eOr m n σ h = (m σ h).bind fun d h1 => match d with | .bl false => n σ h1 | .bl true => .ok (.bl true) h1 | _ => .bad := rfl
@[simp] theorem e_eNot (m : EM) : eNot m σ h = (m σ h).bind fun d h1 => match d with | .bl b => .ok (.bl (!b)) h1 | _ => .bad := rfl
@[simp] theorem e_eIf (t : TM) (m n : EM) : eIf t m n σ h = (t σ h).bind fun b h1 => match b with | true => m σ h1 | false => n σ h1 := rfl
@[simp] theorem e_eNeg (m : EM) : eNeg m σ h = (m σ h).bind fun d h1 => match d with | .int i => .ok (.int (-i)) h1 | _ => .bad := rfl
@[simp] theorem e_eCall (g : GL) (ms : AM) : eCall g ms σ h = (ms σ h).bind fun xs h1 => optR (g h1 xs) h1 := rfl
@[simp] theorem e_oNone : oNone σ h = .ok none h := rfl
@[simp] theorem e_oSome (m : EM) : oSome m σ h = (m σ h).bind fun d h1 => match d with | .int i => .ok (some i) h1 | _ => .bad := rfl
@[simp] theorem e_eSlice (m : EM) (lo hi : OM) : eSlice m lo hi σ h = (m σ h).bind fun x h1 => (lo σ h1).bind fun l h2 => (hi σ h2).bind fun u h3 => optR (sliceD h3 x l u) h3 := rfl
@[simp] theorem e_eIsI (Ts : List Ty) (m : EM) : eIsI Ts m σ h = (m σ h).bind fun d h1 => if tyOk d then .ok (.bl (Ts.any fun T => isTy T d)) h1 else .bad := rfl
@[simp] theorem e_eFmt (m : EM) : eFmt m σ h = (m σ h).bind fun d h1 => optR ((fmtD d).map .str) h1 := rfl
@[simp] theorem e_parts_nil (acc : List Nat) : eParts [] acc σ h = .ok acc h := rfl
@[simp] theorem e_parts_cons (m : EM) (ms : List EM) (acc : List Nat) : eParts (m :: ms) acc σ h = (m σ h).bind fun d h1 => match d with | .str l => if acc.length + l.length ≤ 16777216 then eParts ms (acc ++ l) σ h1 else .bad | _ => .bad := rfl
@[simp] theorem e_eJoined (ms : List EM) : eJoined ms σ h = (eParts ms [] σ h).bind fun l h1 => .ok (.str l) h1 := rfl
@[simp] theorem e_eMeth (T : MT) (g : GM) (mo : EM) (ms : AM) : eMeth T g mo ms σ h = (mo σ h).bind fun x h1 => if tyM T h1 x then (ms σ h1).bind fun xs h2 => optR (g h2 x xs) h2 else .bad := rfl
@[simp] theorem e_iVal (m : EM) : iVal m σ h = (m σ h).bind fun d h1 => optR (itemsD d) h1 := rfl
@[simp] theorem e_iRange1 (ms : AM) : iRange1 ms σ h = (ms σ h).bind fun xs h1 => match xs with | [.int j] => if -(2 ^ 62) ≤ j ∧ j < 2 ^ 62 then .ok (rangeD 0 j.toNat) h1 else .bad | _ => .bad := rfl
@[simp] theorem e_iRange2 (ms : AM) : iRange2 ms σ h = (ms σ h).bind fun xs h1 => match xs with | [.int i, .int j] => if -(2 ^ 62) ≤ i ∧ i < 2 ^ 62 ∧ -(2 ^ 62) ≤ j ∧ j < 2 ^ 62 then .ok (rangeD i (j - i).toNat) h1 else .bad | _ => .bad := rfl
@[simp] theorem e_iZipD (ms : AM) : iZipD ms σ h = (ms σ h).bind fun xs h1 => match xs with | [.lst ys, .lst zs] => .ok (zipD ys zs) h1 | [.tup ys, .tup zs] => .ok (zipD ys zs) h1 | [.str x, .str y] => .ok (zipD (x.map fun c => .str [c]) (y.map fun c => .str [c])) h1 | _ => .bad := rfl
@[simp] theorem e_iEnumL (ms : AM) : iEnumL ms σ h = (ms σ h).bind fun xs h1 => match xs with | [.lst ys] => .ok (enumD ys) h1 | [.tup ys] => .ok (enumD ys) h1 | _ => .bad := rfl
@[simp] theorem e_tgName (i : Nat) (d : D) : tgName i d σ = setS σ i (.val d) := rfl
@[simp] theorem e_setS (i : Nat) (s : Sl) : setS σ i s = match σ[i]? with | some (.lent _) => none | some _ => some (σ.set i s) | none => none := rfl
@[simp] theorem e_tgTup (ts : List GT) (ds : List D) : tgTup ts (.tup ds) σ = tgs ts ds σ := rfl
@[simp] theorem e_tgTupL (ts : List GT) (ds : List D) : tgTup ts (.lst ds) σ = tgs ts ds σ := rfl
@[simp] theorem e_tgs_nil : tgs [] [] σ = some σ := rfl
@[simp] theorem e_tgs_cons (t : GT) (ts : List GT) (d : D) (ds : List D) : tgs (t :: ts) (d :: ds) σ = (t d σ).bind fun σ' => tgs ts ds σ' := rfl
@[simp] theorem e_wipe_nil : wipeS σ [] = σ := rfl
@[simp] theorem e_wipe_cons (v : Nat) (vs : List Nat) : wipeS σ (v :: vs) = (wipeS σ vs).set v .no := rfl
@[simp] theorem e_yes : tYesM σ h = .ok true h := rfl
@[simp] theorem e_eFrz (m : LM) : eFrz m σ h = (m σ h).bind fun xs h1 => .ok (.lst xs) h1 := rfl
@[simp] theorem e_sNil : sNil σ h = .nx σ h := rfl
@[simp] theorem e_sSeq (a b : SM) : sSeq a b σ h = match a σ h with | .nx σ' h' => b σ' h' | r => r := rfl
@[simp] theorem e_sBreak : sBreak σ h = .bk σ h := rfl
@[simp] theorem e_sCont : sCont σ h = .ct σ h := rfl
@[simp] theorem e_eDo_ok {α : Type} (a : α) (f : α → Hs → RS) : eDo (.ok a h) f = f a h := rfl
@[simp] theorem e_sExpr (m : EM) : sExpr m σ h = eDo (m σ h) fun _ h1 => .nx σ h1 := rfl
@[simp] theorem e_sRet (m : EM) : sRet m σ h = eDo (m σ h) fun d h1 => .rt d h1 := rfl
@[simp] theorem e_sRetN : sRetN σ h = .rt .non h := rfl
@[simp] theorem e_sIf (t : TM) (m n : SM) : sIf t m n σ h = eDo (t σ h) fun b h1 => match b with | true => m σ h1 | false => n σ h1 := rfl
@[simp] theorem e_xVal (m : EM) : xVal m σ h = (m σ h).bind fun d h1 => .ok (.val d) h1 := rfl
@[simp] theorem e_xOwn (m : LM) : xOwn m σ h = (m σ h).bind fun xs h1 => .ok (.own xs) h1 := rfl
@[simp] theorem e_xHeap (m : LM) : xHeap m σ h = (m σ h).bind fun xs h1 => .ok (.val (.ref h1.length)) (h1 ++ [.lst xs]) := rfl
@[simp] theorem e_sSet (i : Nat) (m : XM) : sSet i m σ h = eDo (m σ h) fun s h1 => match setS σ i s with | some σ' => .nx σ' h1 | none => .bad := rfl
@[simp] theorem e_sAsg (t : GT) (m : EM) : sAsg t m σ h = eDo (m σ h) fun d h1 => match t d σ with | some σ' => .nx σ' h1 | none => .bad := rfl
@[simp] theorem e_sFrz (is : List Nat) (m : SM) : sFrz is m σ h = m (is.foldl frzS σ) h := rfl
@[simp] theorem e_frzS (i : Nat) : frzS σ i = match σ[i]? with | some (.own xs) => σ.set i (.val (.lst xs)) | some (.ownd kvs) => σ.set i (.val (.dct kvs)) | _ => σ := rfl
@[simp] theorem e_lLst (ms : AM) : lLst ms σ h = (ms σ h).bind fun xs h1 => if xs.length ≤ 16777216 then .ok xs h1 else .bad := rfl
@[simp] theorem e_lListOf (ms : AM) : lListOf ms σ h = (ms σ h).bind fun xs h1 => match xs with | [.scr ys] => .ok ys h1 | [x] => optR (asS h1 x) h1 | _ => .bad := rfl
@[simp] theorem e_xsNil : xsNil σ h = .ok [] h := rfl
@[simp] theorem e_xsCons (m : XM) (ms : Sg → Hs → R (List Sl)) : xsCons m ms σ h = (m σ h).bind fun x h1 => (ms σ h1).bind fun xs h2 => .ok (x :: xs) h2 := rfl
@[simp] theorem e_optS_some (s : Sg) : optS (some s) h = .nx s h := rfl
@[simp] theorem e_sPar2 (i j : Nat) (m : Sg → Hs → R (List Sl)) : sPar2 i j m σ h = eDo (m σ h) fun ss h1 => match ss with
  | [s, t] => if s.plain && t.plain then optS ((setS σ i s).bind fun σ1 => setS σ1 j t) h1 else .bad
  | _ => .bad := rfl
@[simp] theorem e_sPar3 (i j k : Nat) (m : Sg → Hs → R (List Sl)) : sPar3 i j k m σ h = eDo (m σ h) fun ss h1 => match ss with
  | [s, t, u] => if s.plain && t.plain && u.plain then optS (((setS σ i s).bind fun σ1 => setS σ1 j t).bind fun σ2 => setS σ2 k u) h1 else .bad
  | _ => .bad := rfl
@[simp] theorem e_eFn (n : Nat) (f : FD) (ms : AM) : eFn n f ms σ h = (ms σ h).bind fun xs h1 => if xs.length = n then f xs h1 else .bad := rfl
@[simp] theorem e_eFnK (n m k : Nat) (is : List Nat) (f : FD) (ms mk : AM) : eFnK n m k is f ms mk σ h = (ms σ h).bind fun xs h1 => (mk σ h1).bind fun zs h2 => if xs.length = m ∧ zs.length = k ∧ (permL is (xs ++ zs)).length = n then f (permL is (xs ++ zs)) h2 else .bad := rfl
@[simp] theorem e_eInG (kvs : KVs) (neg : Bool) (m : EM) : eInG kvs neg m σ h = (m σ h).bind fun x h1 => match x with | .str c => .ok (.bl ((kvs.lookup c).isSome != neg)) h1 | _ => .bad := rfl
@[simp] theorem e_eGetG (kvs : KVs) (m : EM) : eGetG kvs m σ h = (m σ h).bind fun x h1 => match x with | .str c => (match kvs.lookup c with | some d => .ok d h1 | none => .bad) | _ => .bad := rfl
@[simp] theorem e_sAppend (i : Nat) (m : EM) : sAppend i m σ h = match plOf σ h i with
  | none => .bad
  | some _ => eDo (m σ h) fun d h1 => match plOf σ h1 i with
    | some pl => if pl.items.length < 16777216 then plSet σ h1 i pl (pl.items ++ [d]) else .bad
    | none => .bad := rfl
@[simp] theorem e_sStore (i : Nat) (m mi : EM) : sStore i m mi σ h = eDo (m σ h) fun d h1 => match plOf σ h1 i with
  | none => .bad
  | some _ => eDo (mi σ h1) fun k h2 => match k, plOf σ h2 i with
    | .int k, some pl => match ixN pl.items.length k with
      | some j => plSet σ h2 i pl (pl.items.set j d)
      | none => .bad
    | _, _ => .bad := rfl
@[simp] theorem e_plOf (i : Nat) : plOf σ h i = match σ[i]? with
  | some (.own xs) => some (.own xs)
  | some (.val (.ref n)) => (match h[n]? with
    | some (.lst xs) => some (.hp n xs)
    | _ => none)
  | _ => none := rfl
@[simp] theorem e_pl_own (xs : List D) : (Pl.own xs).items = xs := rfl
@[simp] theorem e_pl_hp (n : Nat) (xs : List D) : (Pl.hp n xs).items = xs := rfl
@[simp] theorem e_plSet_own (i : Nat) (xs ys : List D) : plSet σ h i (.own xs) ys = .nx (σ.set i (.own ys)) h := rfl
@[simp] theorem e_plSet_hp (i n : Nat) (xs ys : List D) : plSet σ h i (.hp n xs) ys = .nx σ (h.set n (.lst ys)) := rfl
@[simp] theorem e_sAug (i : Nat) (g : G2) (m : EM) : sAug i g m σ h = match σ[i]? with
  | some (.val x) => eDo (m σ h) fun y h1 => (match g h1 x y with
    | some d => optS (setS σ i (.val d)) h1
    | none => .bad)
  | _ => .bad := rfl
@[simp] theorem e_sAugS (i : Nat) (g : G2) (mi m : EM) : sAugS i g mi m σ h = match plOf σ h i with
  | none => .bad
  | some _ => eDo (mi σ h) fun k h1 => match k, plOf σ h1 i with
    | .int k, some pl0 => (match atI pl0.items k with
      | none => .bad
      | some x => eDo (m σ h1) fun y h2 => match g h2 x y, plOf σ h2 i with
        | some d, some pl => (match ixN pl.items.length k with
          | some j => plSet σ h2 i pl (pl.items.set j d)
          | none => .bad)
        | _, _ => .bad)
    | _, _ => .bad := rfl
@[simp] theorem e_loop_nx (k : Sg → Hs → RS) : (RS.nx σ h).loop k = k σ h := rfl
@[simp] theorem e_loop_ct (k : Sg → Hs → RS) : (RS.ct σ h).loop k = k σ h := rfl
@[simp] theorem e_loop_bk (k : Sg → Hs → RS) : (RS.bk σ h).loop k = .nx σ h := rfl
@[simp] theorem e_loop_rt (d : D) (k : Sg → Hs → RS) : (RS.rt d h).loop k = .rt d h := rfl
@[simp] theorem e_sFor (m : IM) (t : GT) (body : SM) : sFor m t body σ h = eDo (m σ h) fun xs h1 => forGo t body xs σ h1 := rfl
@[simp] theorem e_defF (n : Nat) (body : SM) (ds : List D) : defF n body ds h = match body (startS n ds) h with | .nx _ h' => .ok .non h' | .rt d h' => .ok d h' | _ => .bad := rfl
@[simp] theorem e_startS (n : Nat) (ds : List D) : startS n ds = ds.map .val ++ List.replicate (n - ds.length) .no := rfl
end
section
variable {h : Hs}
@[simp] theorem g_addI (i j : Int) : gAdd h (.int i) (.int j) = some (.int (i + j)) := rfl
@[simp] theorem g_addS (a b : List Nat) : gAdd h (.str a) (.str b) = if a.length + b.length ≤ 16777216 then some (.str (a ++ b)) else none := rfl
@[simp] theorem g_addT (a b : List D) : gAdd h (.tup a) (.tup b) = if a.length + b.length ≤ 16777216 then some (.tup (a ++ b)) else none := rfl
@[simp] theorem g_addL (a b : List D) : gAdd h (.lst a) (.lst b) = if a.length + b.length ≤ 16777216 then some (.lst (a ++ b)) else none := rfl
@[simp] theorem g_iaddI (i j : Int) : gIAdd h (.int i) (.int j) = some (.int (i + j)) := rfl
@[simp] theorem g_iaddS (a b : List Nat) : gIAdd h (.str a) (.str b) = if a.length + b.length ≤ 16777216 then some (.str (a ++ b)) else none := rfl
@[simp] theorem g_sub (i j : Int) : gSub h (.int i) (.int j) = some (.int (i - j)) := rfl
@[simp] theorem g_mulI (i j : Int) : gMul h (.int i) (.int j) = (if cMul i j then some (D.int (i * j)) else none) := by
  show ((if cMul i j then some (D.int (i * j)) else none).or none).or none = _
  split <;> rfl
theorem g_mulOk {i j : Int} (c : cMul i j = true) : gMul h (.int i) (.int j) = some (.int (i * j)) := by rw [g_mulI, if_pos c]
theorem g_mulS {l : List Nat} {k : Nat} (hk : k ≤ 1000) (hl : l.length ≤ 1000) : gMul h (.str l) (.int k) = some (.str (List.replicate k l).flatten) := by
  show ((none : Option D).or none).or (if 0 ≤ (k : Int) ∧ (k : Int) ≤ 1000 ∧ l.length ≤ 1000 then some (.str (List.replicate (k : Int).toNat l).flatten) else none) = _
  rw [if_pos ⟨by omega, by omega, hl⟩]
  rfl
@[simp] theorem g_xor (i j : Int) : gXor h (.int i) (.int j) = some (.int (Builtin.bitXor i j)) := rfl
@[simp] theorem g_and (i j : Int) : gAnd h (.int i) (.int j) = some (.int (Builtin.bitAnd i j)) := rfl
@[simp] theorem g_or (i j : Int) : gOr h (.int i) (.int j) = some (.int (Builtin.bitOr i j)) := rfl
theorem g_mod {i j : Int} (c : 0 < j) : gMod h (.int i) (.int j) = some (.int (i % j)) := if_pos (decide_eq_true c)
theorem g_fdiv {i j : Int} (c : 0 < j) (l : j.natAbs.log2 < 9000) : gFdiv h (.int i) (.int j) = some (.int (i / j)) := if_pos (by rw [Bool.and_eq_true]; exact ⟨decide_eq_true c, decide_eq_true l⟩)
@[simp] theorem g_ltI (i j : Int) : gLt h (.int i) (.int j) = some (.bl (decide (i < j))) := rfl
@[simp] theorem g_ltS (i j : List Nat) : gLt h (.str i) (.str j) = some (.bl (decide (i < j))) := rfl
@[simp] theorem g_ltT (i j : List D) : gLt h (.tup i) (.tup j) = match toInts i, toInts j with | some ns, some ms => some (.bl (HT.lexLt ns ms)) | _, _ => none := rfl
@[simp] theorem g_leI (i j : Int) : gLeI h (.int i) (.int j) = some (.bl (decide (i ≤ j))) := rfl
@[simp] theorem g_gt (i j : Int) : gGt h (.int i) (.int j) = some (.bl (decide (j < i))) := rfl
@[simp] theorem g_ge (i j : Int) : gGe h (.int i) (.int j) = some (.bl (decide (j ≤ i))) := rfl
@[simp] theorem g_isN (x : D) : gIsN h x .non = some (.bl (isN x)) := rfl
@[simp] theorem g_notN (x : D) : gNotN h x .non = some (.bl (!isN x)) := rfl
@[simp] theorem g_eqI (i j : Int) : gEq h (.int i) (.int j) = some (.bl (i == j)) := rfl
@[simp] theorem g_neI (i j : Int) : gNe h (.int i) (.int j) = some (.bl (!(i == j))) := rfl
@[simp] theorem g_eqS (i j : List Nat) : gEq h (.str i) (.str j) = some (.bl (i == j)) := rfl
@[simp] theorem g_neS (i j : List Nat) : gNe h (.str i) (.str j) = some (.bl (!(i == j))) := rfl
@[simp] theorem g_eqB (i j : Bool) : gEq h (.bl i) (.bl j) = some (.bl (i == j)) := rfl
@[simp] theorem g_neB (i j : Bool) : gNe h (.bl i) (.bl j) = some (.bl (!(i == j))) := rfl
@[simp] theorem g_lenS (l : List Nat) : gLen h [.str l] = if l.length ≤ 16777216 then some (.int l.length) else none := rfl
@[simp] theorem g_lenT (l : List D) : gLen h [.tup l] = some (.int l.length) := rfl
@[simp] theorem g_lenL (l : List D) : gLen h [.lst l] = some (.int l.length) := rfl
@[simp] theorem g_intI (i : Int) : gIntA h [.int i] = some (.int i) := rfl
@[simp] theorem g_intB (b : Bool) : gIntA h [.bl b] = some (.int (if b then 1 else 0)) := rfl
@[simp] theorem g_strI (i : Int) : gStrI h [.int i] = if i.natAbs.log2 < 1920 then some (.str (strI i)) else none := rfl
@[simp] theorem g_min2 (i j : Int) : gMin2 h [.int i, .int j] = some (.int (if j < i then j else i)) := rfl
@[simp] theorem g_max2 (i j : Int) : gMax2 h [.int i, .int j] = some (.int (if j > i then j else i)) := rfl
@[simp] theorem g_tupL (l : List D) : gTuple h [.lst l] = some (.tup l) := rfl
@[simp] theorem g_tupT (l : List D) : gTuple h [.tup l] = some (.tup l) := rfl
@[simp] theorem g_atT (l : List D) (i : Int) : atD h (.tup l) (.int i) = atI l i := rfl
@[simp] theorem g_atL (l : List D) (i : Int) : atD h (.lst l) (.int i) = atI l i := rfl
@[simp] theorem g_atR (n : Nat) (i : Int) : atD h (.ref n) (.int i) = match h[n]? with | some (.lst xs) => atI xs i | _ => none := by
  show ((match h[n]? with | some (.lst xs) => some xs | _ => none).bind fun xs => atI xs i) = _
  cases h[n]? with
  | none => rfl
  | some o => cases o <;> rfl
@[simp] theorem g_atS (l : List Nat) (i : Int) : atD h (.str l) (.int i) = if l.length ≤ 16777216 then (atI l i).map fun c => .str [c] else none := rfl
@[simp] theorem g_sliceT (l : List D) (lo hi : Option Int) : sliceD h (.tup l) lo hi = some (.tup (cutL l lo hi)) := rfl
@[simp] theorem g_sliceL (l : List D) (lo hi : Option Int) : sliceD h (.lst l) lo hi = some (.lst (cutL l lo hi)) := rfl
@[simp] theorem g_sliceS (l : List Nat) (lo hi : Option Int) : sliceD h (.str l) lo hi = if l.length ≤ 16777216 then some (.str (cutL l lo hi)) else none := rfl
@[simp] theorem g_itemsL (l : List D) : itemsD (.lst l) = some l := rfl
@[simp] theorem g_itemsT (l : List D) : itemsD (.tup l) = some l := rfl
@[simp] theorem g_itemsS (l : List Nat) : itemsD (.str l) = some (l.map fun c => .str [c]) := rfl
@[simp] theorem g_fmtI (i : Int) : fmtD (.int i) = if i.natAbs.log2 < 1920 then some (strI i) else none := rfl
@[simp] theorem g_fmtS (l : List Nat) : fmtD (.str l) = if l.length ≤ 16777216 then some l else none := rfl
end
@[simp] theorem t_int_int (i : Int) : isTy .int (.int i) = true := rfl
@[simp] theorem t_int_bl (i : Bool) : isTy .int (.bl i) = true := rfl
@[simp] theorem t_bool_int (i : Int) : isTy .bool (.int i) = false := rfl
@[simp] theorem t_bool_bl (i : Bool) : isTy .bool (.bl i) = true := rfl
@[simp] theorem t_bool_str (i : List Nat) : isTy .bool (.str i) = false := rfl
@[simp] theorem t_str_str (i : List Nat) : isTy .str (.str i) = true := rfl
@[simp] theorem t_str_int (i : Int) : isTy .str (.int i) = false := rfl
@[simp] theorem t_int_str (i : List Nat) : isTy .int (.str i) = false := rfl
@[simp] theorem t_tup_tup (i : List D) : isTy .tuple (.tup i) = true := rfl
@[simp] theorem t_tup_lst (i : List D) : isTy .tuple (.lst i) = false := rfl
@[simp] theorem t_lst_tup (i : List D) : isTy .list (.tup i) = false := rfl
@[simp] theorem t_lst_lst (i : List D) : isTy .list (.lst i) = true := rfl
@[simp] theorem t_tup_str (i : List Nat) : isTy .tuple (.str i) = false := rfl
@[simp] theorem t_lst_str (i : List Nat) : isTy .list (.str i) = false := rfl
@[simp] theorem t_tup_int (i : Int) : isTy .tuple (.int i) = false := rfl
@[simp] theorem t_lst_int (i : Int) : isTy .list (.int i) = false := rfl
@[simp] theorem t_tup_bl (i : Bool) : isTy .tuple (.bl i) = false := rfl
@[simp] theorem t_lst_bl (i : Bool) : isTy .list (.bl i) = false := rfl
@[simp] theorem t_str_bl (i : Bool) : isTy .str (.bl i) = false := rfl
@[simp] theorem y_int (i : Int) : tyOk (.int i) = true := rfl
@[simp] theorem y_bl (i : Bool) : tyOk (.bl i) = true := rfl
@[simp] theorem y_str (i : List Nat) : tyOk (.str i) = true := rfl
@[simp] theorem y_tup (i : List D) : tyOk (.tup i) = true := rfl
@[simp] theorem y_lst (i : List D) : tyOk (.lst i) = true := rfl
@[simp] theorem y_non : tyOk .non = true := rfl
@[simp] theorem a_nat {α : Type} (xs : List α) (n : Nat) : atI xs (n : Int) = xs[n]? := by
  unfold atI ixN
  rw [if_pos (by omega)]
  by_cases hn : n < xs.length
  · rw [if_pos (by omega)]; simp
  · rw [if_neg (by omega), List.getElem?_eq_none (by omega)]; rfl
@[simp] theorem a_0 {α : Type} (xs : List α) : atI xs 0 = xs[0]? := a_nat xs 0
@[simp] theorem a_1 {α : Type} (xs : List α) : atI xs 1 = xs[1]? := a_nat xs 1
@[simp] theorem a_2 {α : Type} (xs : List α) : atI xs 2 = xs[2]? := a_nat xs 2
@[simp] theorem a_3 {α : Type} (xs : List α) : atI xs 3 = xs[3]? := a_nat xs 3
@[simp] theorem a_4 {α : Type} (xs : List α) : atI xs 4 = xs[4]? := a_nat xs 4
@[simp] theorem a_5 {α : Type} (xs : List α) : atI xs 5 = xs[5]? := a_nat xs 5
@[simp] theorem a_6 {α : Type} (xs : List α) : atI xs 6 = xs[6]? := a_nat xs 6
@[simp] theorem ix_nat (m n : Nat) : ixN m (n : Int) = if n < m then some n else none := by
  unfold ixN
  rw [if_pos (by omega)]
  by_cases hn : n < m
  · rw [if_pos (by omega), if_pos hn]; simp
  · rw [if_neg (by omega), if_neg hn]
@[simp] theorem ix_0 (m : Nat) : ixN m 0 = if 0 < m then some 0 else none := ix_nat m 0
@[simp] theorem ix_1 (m : Nat) : ixN m 1 = if 1 < m then some 1 else none := ix_nat m 1
@[simp] theorem ix_2 (m : Nat) : ixN m 2 = if 2 < m then some 2 else none := ix_nat m 2
@[simp] theorem ix_3 (m : Nat) : ixN m 3 = if 3 < m then some 3 else none := ix_nat m 3
@[simp] theorem cut_from {α : Type} (xs : List α) (k : Nat) : cutL xs (some (k : Int)) none = xs.drop k := by
  unfold cutL
  rw [HT.sIx_nat, HT.sIx_none, List.take_of_length_le (by simp)]
  by_cases hk : k ≤ xs.length
  · rw [Nat.min_eq_left hk]
  · rw [Nat.min_eq_right (by omega), List.drop_eq_nil_of_le (Nat.le_refl _), List.drop_eq_nil_of_le (by omega)]
@[simp] theorem cut_to {α : Type} (xs : List α) (k : Nat) : cutL xs none (some (k : Int)) = xs.take k := by
  unfold cutL
  rw [HT.sIx_nat, HT.sIx_none, Nat.sub_zero, List.drop_zero]
  by_cases hk : k ≤ xs.length
  · rw [Nat.min_eq_left hk]
  · rw [Nat.min_eq_right (by omega), List.take_of_length_le (Nat.le_refl _), List.take_of_length_le (by omega)]
@[simp] theorem cut_from1 {α : Type} (xs : List α) : cutL xs (some 1) none = xs.drop 1 := cut_from xs 1
@[simp] theorem cut_to2 {α : Type} (xs : List α) : cutL xs none (some 2) = xs.take 2 := cut_to xs 2
@[simp] theorem cut_to4 {α : Type} (xs : List α) : cutL xs none (some 4) = xs.take 4 := cut_to xs 4
theorem lcGo_map {t : GT} {te : EM} {σ : Sg} {h : Hs} {f : D → D} : ∀ xs : List D, (∀ x ∈ xs, ∃ σ', t x σ = some σ' ∧ te σ' h = .ok (f x) h) → lcGo t tYesM te σ xs h = .ok (xs.map f) h
  | [], _ => rfl
  | x :: xs, H => by
    obtain ⟨σ', e1, e2⟩ := H x (List.mem_cons_self ..)
    unfold lcGo
    rw [e1]
    simp only [e_yes, R.bind_ok, e2, lcGo_map xs fun y m => H y (List.mem_cons_of_mem _ m), List.map_cons]
theorem lc_map {m : IM} {t : GT} {te : EM} {vs : List Nat} {σ : Sg} {h : Hs} {xs : List D} (f : D → D) (hm : m σ h = .ok xs h) (hl : xs.length ≤ 16777216) (H : ∀ x ∈ xs, ∃ σ', t x (wipeS σ vs) = some σ' ∧ te σ' h = .ok (f x) h) : lcL m t tYesM te vs σ h = .ok (xs.map f) h := by
  unfold lcL
  rw [hm, R.bind_ok]
  exact (if_pos hl).trans (lcGo_map xs H)
theorem toBls_map {α : Type} (xs : List α) (p : α → Bool) : toBls (xs.map fun x => .bl (p x)) = some (xs.map p) := by
  induction xs with
  | nil => rfl
  | cons x xs ih => rw [List.map_cons]; unfold toBls; rw [ih]; rfl
@[simp] theorem g_all {α : Type} {h : Hs} (xs : List α) (p : α → Bool) : gAll h [.lst (xs.map fun x => .bl (p x))] = some (.bl (xs.all p)) := by
  show ((some (xs.map fun x => D.bl (p x))).bind toBls).map _ = _
  rw [Option.bind_some, toBls_map]
  simp
@[simp] theorem all_true {α : Type} (xs : List α) : xs.all (fun _ => true) = true := by simp [List.all_eq_true]
@[simp] theorem g_allR {h : Hs} (n : Nat) : gAll h [.lst (List.replicate n (.bl true))] = some (.bl true) := by
  have e : toBls (List.replicate n (.bl true)) = some (List.replicate n true) := by
    induction n with
    | zero => rfl
    | succ n ih => rw [List.replicate_succ]; unfold toBls; rw [ih]; rfl
  show ((some (List.replicate n (D.bl true))).bind toBls).map _ = _
  rw [Option.bind_some, e]
  simp
theorem all_yes {m : IM} {t : GT} {te : EM} {vs : List Nat} {σ : Sg} {h : Hs} {xs : List D} (hm : m σ h = .ok xs h) (hl : xs.length ≤ 16777216) (H : ∀ x ∈ xs, ∃ σ', t x (wipeS σ vs) = some σ' ∧ te σ' h = .ok (.bl true) h) :
    eCall gAll (aCons (eFrz (lcL m t tYesM te vs)) aNil) σ h = .ok (.bl true) h := by
  have e := lc_map (fun _ => .bl true) hm hl H
  have e2 := g_all (h := h) xs fun _ => true
  simp only [e_eCall, e_aCons, e_eFrz, e, R.bind_ok, e_aNil, e2]
  simp
end WC
set_option Elab.async false
set_option linter.all false
set_option maxRecDepth 100000
namespace WC
open PySem PySem.Spec PyProof.Rows L2
structure St where
  a : Int
  b : Int
  c : Int
  d : Int
  cells : List Int
abbrev St.ob (s : St) : Ob := .lst [.int s.a, .int s.b, .int s.c, .int s.d, .lst (s.cells.map .int)]
structure St.Ok (n : Nat) (s : St) : Prop where
  a : 0 ≤ s.a
  b : 0 ≤ s.b
  b2 : s.b < 2147483587
  c : 0 ≤ s.c
  c2 : s.c + n ≤ 1000000000000000000
  d : 0 ≤ s.d
  d2 : s.d ≤ 63
  cl : s.cells.length ≤ 63
theorem St.Ok.mono {n m : Nat} {s : St} (o : s.Ok n) (h : m ≤ n) : s.Ok m := ⟨o.a, o.b, o.b2, o.c, by have := o.c2; omega, o.d, o.d2, o.cl⟩
def drawB : SM := (sSeq (sAugS 0 gIAdd (eC (.int 2)) (eC (.int 1)))
  (sSeq (sIf (tAnd (tB (eOp gEq (eOp atD (oVar 0) (eC (.int 0))) (eC (.int 0)))) (tB (eOp gLt (eOp atD (oVar 0) (eC (.int 3))) (eCall gLen (aCons (eOp atD (oVar 0) (eC (.int 4))) aNil)))))
  (sSeq (sSet 2 (xVal (eOp atD (eOp atD (oVar 0) (eC (.int 4))) (eOp atD (oVar 0) (eC (.int 3))))))
  (sSeq (sAugS 0 gIAdd (eC (.int 3)) (eC (.int 1)))
  (sIf (tB (eOp gGe (oVar 2) (eOp gPow (eC (.int 10)) (eC (.int 18)))))
  (sStore 0 (eOp gSub (oVar 2) (eOp gPow (eC (.int 10)) (eC (.int 18)))) (eC (.int 0)))
  (sSeq (sSet 3 (xVal (eOp gMod (eCall gIntA (aCons (oVar 2) aNil)) (eC (.int 998244353)))))
  (sStore 0 (eOp gMod (eCall gIntA (aCons (eOp gAdd (eOp gAdd (eOp gAdd (eOp gMul (eOp atD (oVar 0) (eC (.int 1))) (eC (.int 69069))) (eOp gMul (oVar 3) (oVar 3))) (eOp gMul (eC (.int 7)) (oVar 3))) (eOp gMul (eC (.int 3)) (eOp atD (oVar 0) (eC (.int 3))))) aNil)) (eC (.int 2147483587))) (eC (.int 1)))))))
  sNil)
  (sSeq (sIf (tB (eOp gGt (eOp atD (oVar 0) (eC (.int 0))) (eC (.int 0))))
  (sSeq (sSet 4 (xVal (eOp gMod (eCall gIntA (aCons (eOp atD (oVar 0) (eC (.int 0))) aNil)) (oVar 1))))
  (sSeq (sStore 0 (eOp gFdiv (eOp atD (oVar 0) (eC (.int 0))) (oVar 1)) (eC (.int 0)))
  (sRet (eVar 4))))
  sNil)
  (sSeq (sStore 0 (eOp gMod (eCall gIntA (aCons (eOp gAdd (eOp gAdd (eOp gMul (eOp atD (oVar 0) (eC (.int 1))) (eOp atD (oVar 0) (eC (.int 1)))) (eOp gMul (eC (.int 16807)) (eOp atD (oVar 0) (eC (.int 2))))) (eC (.int 29))) aNil)) (eC (.int 2147483587))) (eC (.int 1)))
  (sRet (eOp gMod (eCall gIntA (aCons (eOp gAdd (eOp gFdiv (eOp atD (oVar 0) (eC (.int 1))) (eC (.int 16))) (eOp gMul (eOp atD (oVar 0) (eC (.int 2))) (eOp atD (oVar 0) (eC (.int 2))))) aNil)) (oVar 1)))))))
def drawT : SM := (sSeq (sIf (tB (eOp gGt (eOp atD (oVar 0) (eC (.int 0))) (eC (.int 0))))
  (sSeq (sSet 4 (xVal (eOp gMod (eCall gIntA (aCons (eOp atD (oVar 0) (eC (.int 0))) aNil)) (oVar 1))))
  (sSeq (sStore 0 (eOp gFdiv (eOp atD (oVar 0) (eC (.int 0))) (oVar 1)) (eC (.int 0)))
  (sRet (eVar 4))))
  sNil)
  (sSeq (sStore 0 (eOp gMod (eCall gIntA (aCons (eOp gAdd (eOp gAdd (eOp gMul (eOp atD (oVar 0) (eC (.int 1))) (eOp atD (oVar 0) (eC (.int 1)))) (eOp gMul (eC (.int 16807)) (eOp atD (oVar 0) (eC (.int 2))))) (eC (.int 29))) aNil)) (eC (.int 2147483587))) (eC (.int 1)))
  (sRet (eOp gMod (eCall gIntA (aCons (eOp gAdd (eOp gFdiv (eOp atD (oVar 0) (eC (.int 1))) (eC (.int 16))) (eOp gMul (eOp atD (oVar 0) (eC (.int 2))) (eOp atD (oVar 0) (eC (.int 2))))) aNil)) (oVar 1)))))
theorem cMul_l {i j : Int} (h : i.natAbs < 2 ^ 64) : cMul i j = true := by unfold cMul; rw [decide_eq_true h]; rfl
theorem cMul_r {i j : Int} (h : j.natAbs < 2 ^ 64) : cMul i j = true := by unfold cMul; rw [decide_eq_true h]; simp
theorem log_small {m : Int} (h0 : 0 < m) (h : m < 2 ^ 200) : m.natAbs.log2 < 9000 := by
  have : m.natAbs < 2 ^ 200 := by omega
  have h2 := (Nat.log2_lt (by omega : m.natAbs ≠ 0)).mpr this
  omega
theorem drawT_ok {n : Nat} {s : St} {T : Hs} {m : Int} {x2 x3 : Sl} (o : s.Ok n) (h1 : 1 ≤ m) (h2 : m < 2 ^ 200) (n2 : ∀ xs, x2 ≠ .lent xs) (n3 : ∀ xs, x3 ≠ .lent xs) : ∃ (r : Int) (s' : St), drawT [.val (.ref 0), .val (.int m), x2, x3, .no] (s.ob :: T) = .rt (.int r) (s'.ob :: T) ∧ 0 ≤ r ∧ r < m ∧ s'.Ok n := by
  obtain ⟨a, b, c, d, cells⟩ := s
  obtain ⟨oa, ob, ob2, oc, oc2, od, od2, ol⟩ := o
  simp only at oa ob ob2 oc oc2 od od2 ol
  have p16 : (16 : Int).natAbs.log2 < 9000 := by decide +kernel
  have pm := log_small (by omega : 0 < m) h2
  by_cases ha : 0 < a
  · refine ⟨a % m, ⟨a / m, b, c, d, cells⟩, ?_, Int.emod_nonneg _ (by omega), Int.emod_lt_of_pos _ (by omega), ⟨Int.ediv_nonneg oa (by omega), ob, ob2, oc, oc2, od, od2, ol⟩⟩
    simp [drawT, ha, g_mod (show 0 < m by omega), g_fdiv (show 0 < m by omega) pm]
  · have m1 : cMul b b = true := cMul_l (by omega)
    have m2 : cMul 16807 c = true := cMul_l (by decide)
    have m3 : cMul c c = true := cMul_l (by omega)
    refine ⟨((b * b + 16807 * c + 29) % 2147483587 / 16 + c * c) % m, ⟨a, (b * b + 16807 * c + 29) % 2147483587, c, d, cells⟩, ?_, Int.emod_nonneg _ (by omega), Int.emod_lt_of_pos _ (by omega), ⟨oa, Int.emod_nonneg _ (by omega), Int.emod_lt_of_pos _ (by omega), oc, oc2, od, od2, ol⟩⟩
    simp [drawT, ha, g_mod (show 0 < m by omega), g_mod (show (0 : Int) < 2147483587 by decide), g_fdiv (show (0 : Int) < 16 by decide) p16, g_mulOk m1, g_mulOk m2, g_mulOk m3]
theorem e_draw : drawB = sSeq (sAugS 0 gIAdd (eC (.int 2)) (eC (.int 1))) (sSeq (sIf (tAnd (tB (eOp gEq (eOp atD (oVar 0) (eC (.int 0))) (eC (.int 0)))) (tB (eOp gLt (eOp atD (oVar 0) (eC (.int 3))) (eCall gLen (aCons (eOp atD (oVar 0) (eC (.int 4))) aNil)))))
  (sSeq (sSet 2 (xVal (eOp atD (eOp atD (oVar 0) (eC (.int 4))) (eOp atD (oVar 0) (eC (.int 3))))))
  (sSeq (sAugS 0 gIAdd (eC (.int 3)) (eC (.int 1)))
  (sIf (tB (eOp gGe (oVar 2) (eOp gPow (eC (.int 10)) (eC (.int 18)))))
  (sStore 0 (eOp gSub (oVar 2) (eOp gPow (eC (.int 10)) (eC (.int 18)))) (eC (.int 0)))
  (sSeq (sSet 3 (xVal (eOp gMod (eCall gIntA (aCons (oVar 2) aNil)) (eC (.int 998244353)))))
  (sStore 0 (eOp gMod (eCall gIntA (aCons (eOp gAdd (eOp gAdd (eOp gAdd (eOp gMul (eOp atD (oVar 0) (eC (.int 1))) (eC (.int 69069))) (eOp gMul (oVar 3) (oVar 3))) (eOp gMul (eC (.int 7)) (oVar 3))) (eOp gMul (eC (.int 3)) (eOp atD (oVar 0) (eC (.int 3))))) aNil)) (eC (.int 2147483587))) (eC (.int 1)))))))
  sNil) drawT) := rfl
theorem g_pow18 {h : Hs} : gPow h (.int 10) (.int 18) = some (.int 1000000000000000000) := by
  show (if cPow 10 18 then some (D.int (10 ^ (18 : Int).toNat)) else none) = _
  rw [if_pos (by decide +kernel)]
  rfl
theorem draw_ok {n : Nat} {s : St} {T : Hs} {m : Int} (o : s.Ok (n + 1)) (h1 : 1 ≤ m) (h2 : m < 2 ^ 200) : ∃ (r : Int) (s' : St), defF 5 drawB [.ref 0, .int m] (s.ob :: T) = .ok (.int r) (s'.ob :: T) ∧ 0 ≤ r ∧ r < m ∧ s'.Ok n := by
  have key : ∃ (s1 : St) (x2 x3 : Sl), (∀ xs, x2 ≠ .lent xs) ∧ (∀ xs, x3 ≠ .lent xs) ∧ s1.Ok n ∧ drawB [.val (.ref 0), .val (.int m), .no, .no, .no] (s.ob :: T) = drawT [.val (.ref 0), .val (.int m), x2, x3, .no] (s1.ob :: T) := by
    obtain ⟨a, b, c, d, cells⟩ := s
    obtain ⟨oa, ob, ob2, oc, oc2, od, od2, ol⟩ := o
    simp only at oa ob ob2 oc oc2 od od2 ol
    obtain ⟨dn, rfl⟩ : ∃ dn : Nat, d = dn := ⟨d.toNat, by omega⟩
    have c1 : (c + 1) + (n : Int) ≤ 1000000000000000000 := by omega
    by_cases hc : a = 0 ∧ dn < cells.length
    · obtain ⟨rfl, hd⟩ := hc
      have hd2 : (dn : Int) < (cells.length : Int) := by omega
      by_cases hb : 1000000000000000000 ≤ cells[dn]
      · refine ⟨⟨cells[dn] - 1000000000000000000, b, c + 1, dn + 1, cells⟩, .val (.int cells[dn]), .no, (by intro xs e; cases e), (by intro xs e; cases e), ⟨by simp only; omega, ob, ob2, by simp only; omega, by simp only; omega, by simp only; omega, by simp only; omega, ol⟩, ?_⟩
        rw [e_draw]
        simp [hd, hd2, hb, g_pow18]
      · have q1 : 0 ≤ cells[dn] % 998244353 := Int.emod_nonneg _ (by omega)
        have q2 : cells[dn] % 998244353 < 998244353 := Int.emod_lt_of_pos _ (by omega)
        have m1 : cMul b 69069 = true := cMul_r (by decide)
        have m2 : cMul (cells[dn] % 998244353) (cells[dn] % 998244353) = true := cMul_r (by omega)
        have m3 : cMul 7 (cells[dn] % 998244353) = true := cMul_l (by decide)
        have m4 : cMul 3 ((dn : Int) + 1) = true := cMul_l (by decide)
        refine ⟨⟨0, (b * 69069 + cells[dn] % 998244353 * (cells[dn] % 998244353) + 7 * (cells[dn] % 998244353) + 3 * ((dn : Int) + 1)) % 2147483587, c + 1, dn + 1, cells⟩, .val (.int cells[dn]), .val (.int (cells[dn] % 998244353)), (by intro xs e; cases e), (by intro xs e; cases e), ⟨by simp only; omega, Int.emod_nonneg _ (by omega), Int.emod_lt_of_pos _ (by omega), by simp only; omega, by simp only; omega, by simp only; omega, by simp only; omega, ol⟩, ?_⟩
        rw [e_draw]
        simp [hd, hd2, hb, g_pow18, g_mod (show (0 : Int) < 998244353 by decide), g_mod (show (0 : Int) < 2147483587 by decide), g_mulOk m1, g_mulOk m2, g_mulOk m3, g_mulOk m4]
    · refine ⟨⟨a, b, c + 1, dn, cells⟩, .no, .no, (by intro xs e; cases e), (by intro xs e; cases e), ⟨oa, ob, ob2, by simp only; omega, by simp only; omega, by simp only; omega, by simp only; omega, ol⟩, ?_⟩
      rw [e_draw]
      by_cases ha : a = 0
      · subst ha
        have hd2 : ¬ (dn : Int) < (cells.length : Int) := by omega
        simp [hd2]
      · have hb : (a == 0) = false := by simpa using ha
        simp [hb]
  obtain ⟨s1, x2, x3, n2, n3, o1, e1⟩ := key
  obtain ⟨r, s', e2, r0, r1, o2⟩ := drawT_ok (T := T) o1 h1 h2 n2 n3
  refine ⟨r, s', ?_, r0, r1, o2⟩
  show (match drawB (startS 5 [.ref 0, .int m]) (s.ob :: T) with | .nx _ h' => R.ok D.non h' | .rt d h' => .ok d h' | _ => .bad) = _
  have : startS 5 [.ref 0, .int m] = [.val (.ref 0), .val (.int m), .no, .no, .no] := rfl
  rw [this, e1, e2]
end WC
set_option Elab.async false
set_option linter.all false
set_option maxRecDepth 100000
namespace WC
open PySem PySem.Spec PyProof.Rows L2
@[simp] theorem sz : sizeLine = 16777216 := rfl
@[simp] theorem pl_val (d : D) : (Sl.val d).plain = true := rfl
@[simp] theorem pl_own (xs : List D) : (Sl.own xs).plain = true := rfl
theorem lc_typed {α : Type} {m : IM} {t : GT} {te : EM} {vs : List Nat} {σ : Sg} {h : Hs} (xs : List α) (c g : α → D) (hm : m σ h = .ok (xs.map c) h) (hl : xs.length ≤ 16777216) (H : ∀ x ∈ xs, ∃ σ', t (c x) (wipeS σ vs) = some σ' ∧ te σ' h = .ok (g x) h) : lcL m t tYesM te vs σ h = .ok (xs.map g) h := by
  unfold lcL
  rw [hm, R.bind_ok, if_pos (by rw [List.length_map]; exact hl)]
  have : ∀ ys : List α, (∀ x ∈ ys, ∃ σ', t (c x) (wipeS σ vs) = some σ' ∧ te σ' h = .ok (g x) h) → lcGo t tYesM te (wipeS σ vs) (ys.map c) h = .ok (ys.map g) h := by
    intro ys
    induction ys with
    | nil => intro _; rfl
    | cons y ys ih =>
      intro H
      obtain ⟨σ', e1, e2⟩ := H y (List.mem_cons_self ..)
      rw [List.map_cons]
      unfold lcGo
      rw [e1]
      simp only [e_yes, R.bind_ok, e2, ih fun y m => H y (List.mem_cons_of_mem _ m), List.map_cons]
  exact this xs H
theorem all_typed {α : Type} {m : IM} {t : GT} {te : EM} {vs : List Nat} {σ : Sg} {h : Hs} (xs : List α) (c : α → D) (p : α → Bool) (hm : m σ h = .ok (xs.map c) h) (hl : xs.length ≤ 16777216) (H : ∀ x ∈ xs, ∃ σ', t (c x) (wipeS σ vs) = some σ' ∧ te σ' h = .ok (.bl (p x)) h) :
    eCall gAll (aCons (eFrz (lcL m t tYesM te vs)) aNil) σ h = .ok (.bl (xs.all p)) h := by
  have e := lc_typed xs c (fun x => .bl (p x)) hm hl H
  simp only [e_eCall, e_aCons, e_eFrz, e, R.bind_ok, e_aNil, g_all, e_optR_some]
theorem toStrs_map {α : Type} (xs : List α) (p : α → List Nat) : toStrs (xs.map fun x => .str (p x)) = some (xs.map p) := by
  induction xs with
  | nil => rfl
  | cons x xs ih => rw [List.map_cons]; unfold toStrs; rw [ih]; rfl
@[simp] theorem toStrs_nil : toStrs [] = some [] := rfl
@[simp] theorem toStrs_cons (x : List Nat) (xs : List D) : toStrs (.str x :: xs) = (toStrs xs).map (x :: ·) := rfl
theorem g_join {h : Hs} {a : List Nat} {ys : List D} {ps : List (List Nat)} (e : toStrs ys = some ps) (hl : (ps.map (·.length)).sum + ps.length * a.length ≤ 16777216) : gJoin h (.str a) [.lst ys] = some (.str (joinD a ps)) := by
  show ((some ys).bind toStrs).bind _ = _
  rw [Option.bind_some, e, Option.bind_some, if_pos hl]
theorem g_joinT {h : Hs} {a : List Nat} {ys : List D} {ps : List (List Nat)} (e : toStrs ys = some ps) (hl : (ps.map (·.length)).sum + ps.length * a.length ≤ 16777216) : gJoin h (.str a) [.tup ys] = some (.str (joinD a ps)) := by
  show ((some ys).bind toStrs).bind _ = _
  rw [Option.bind_some, e, Option.bind_some, if_pos hl]
theorem parts_le {α : Type} {xs : List α} {p : α → List Nat} {b : Nat} (H : ∀ x ∈ xs, (p x).length ≤ b) : ((xs.map p).map (·.length)).sum ≤ xs.length * b := by
  induction xs with
  | nil => simp
  | cons x xs ih =>
    have h1 := H x (List.mem_cons_self ..)
    have h2 := ih fun y m => H y (List.mem_cons_of_mem _ m)
    simp only [List.map_cons, List.sum_cons, List.length_cons]
    have : (xs.length + 1) * b = xs.length * b + b := Nat.succ_mul ..
    omega
theorem join_le : ∀ (S : List Nat) (ps : List (List Nat)), (joinD S ps).length ≤ (ps.map (·.length)).sum + ps.length * S.length
  | _, [] => by simp [joinD]
  | _, [p] => by simp [joinD]
  | S, p :: q :: r => by
    have ih := join_le S (q :: r)
    have e : (joinD S (p :: q :: r)).length = p.length + (S.length + (joinD S (q :: r)).length) := by
      show (p ++ (S ++ joinD S (q :: r))).length = _
      simp
    rw [e]
    simp only [List.map_cons, List.sum_cons, List.length_cons] at ih ⊢
    have : (r.length + 1 + 1) * S.length = (r.length + 1) * S.length + S.length := Nat.succ_mul ..
    omega
theorem g_joinM {α : Type} {h : Hs} {a : List Nat} {xs : List α} {p : α → List Nat} (b : Nat) (H : ∀ x ∈ xs, (p x).length ≤ b) (hl : xs.length * (b + a.length) ≤ 16777216) : gJoin h (.str a) [.lst (xs.map fun x => .str (p x))] = some (.str (joinD a (xs.map p))) := by
  refine g_join (toStrs_map xs p) ?_
  have := parts_le H
  rw [List.length_map]
  rw [Nat.mul_add] at hl
  omega
theorem lc_draw {α β : Type} {m : IM} {t : GT} {te : EM} {vs : List Nat} {σ : Sg} {T : Hs} {n q : Nat} {s : St} (xs : List β) (cb : β → D) (c : α → D) (P : α → Prop) (hm : m σ (s.ob :: T) = .ok (xs.map cb) (s.ob :: T)) (hl : xs.length ≤ 16777216) (o : s.Ok (n + q * xs.length))
    (H : ∀ x ∈ xs, ∀ n s, St.Ok (n + q) s → ∃ (σ' : Sg) (y : α) (s' : St), t (cb x) (wipeS σ vs) = some σ' ∧ te σ' (s.ob :: T) = .ok (c y) (s'.ob :: T) ∧ P y ∧ s'.Ok n) :
    ∃ (ys : List α) (s' : St), lcL m t tYesM te vs σ (s.ob :: T) = .ok (ys.map c) (St.ob s' :: T) ∧ ys.length = xs.length ∧ (∀ y ∈ ys, P y) ∧ s'.Ok n := by
  unfold lcL
  rw [hm, R.bind_ok, if_pos (by rw [List.length_map]; exact hl)]
  have : ∀ (xs : List β) (s : St), s.Ok (n + q * xs.length) → (∀ x ∈ xs, ∀ n s, St.Ok (n + q) s → ∃ (σ' : Sg) (y : α) (s' : St), t (cb x) (wipeS σ vs) = some σ' ∧ te σ' (s.ob :: T) = .ok (c y) (s'.ob :: T) ∧ P y ∧ s'.Ok n) →
      ∃ (ys : List α) (s' : St), lcGo t tYesM te (wipeS σ vs) (xs.map cb) (s.ob :: T) = .ok (ys.map c) (St.ob s' :: T) ∧ ys.length = xs.length ∧ (∀ y ∈ ys, P y) ∧ s'.Ok n := by
    intro xs
    induction xs with
    | nil => exact fun s o _ => ⟨[], s, rfl, rfl, by simp, o⟩
    | cons x xs ih =>
      intro s o H
      obtain ⟨σ', y, s1, e1, e2, p, o1⟩ := H x (List.mem_cons_self ..) (n + q * xs.length) s (by rw [List.length_cons, Nat.mul_succ, ← Nat.add_assoc] at o; exact o)
      obtain ⟨ys, s2, e3, l3, p3, o3⟩ := ih s1 o1 fun y m => H y (List.mem_cons_of_mem _ m)
      refine ⟨y :: ys, s2, ?_, by simp [l3], ?_, o3⟩
      · rw [List.map_cons]
        unfold lcGo
        rw [e1]
        simp only [e_yes, R.bind_ok, e2, e3, List.map_cons]
      · intro z m
        rcases List.mem_cons.mp m with rfl | m
        · exact p
        · exact p3 z m
  exact this xs s o H
theorem for_draw {β : Type} {t : GT} {body : SM} {T : Hs} {q : Nat} (cb : β → D) (I : List β → Sg → Prop) (all : List β) (H : ∀ (done : List β) (x : β) (rest : List β) (σ : Sg) (n : Nat) (s : St), all = done ++ x :: rest → I done σ → s.Ok (n + q) → ∃ (σ1 σ2 : Sg) (s2 : St), t (cb x) σ = some σ1 ∧ (body σ1 (s.ob :: T) = .nx σ2 (St.ob s2 :: T) ∨ body σ1 (s.ob :: T) = .ct σ2 (St.ob s2 :: T)) ∧ I (done ++ [x]) σ2 ∧ s2.Ok n) :
    ∀ (xs done : List β) (σ : Sg) (n : Nat) (s : St), all = done ++ xs → I done σ → s.Ok (n + q * xs.length) → ∃ (σ' : Sg) (s' : St), forGo t body (xs.map cb) σ (s.ob :: T) = .nx σ' (St.ob s' :: T) ∧ I all σ' ∧ s'.Ok n
  | [], done, σ, n, s, e, i, o => ⟨σ, s, rfl, by rw [e, List.append_nil]; exact i, o⟩
  | x :: xs, done, σ, n, s, e, i, o => by
    obtain ⟨σ1, σ2, s2, e1, e2, i2, o2⟩ := H done x xs σ (n + q * xs.length) s e i (by rw [List.length_cons, Nat.mul_succ, ← Nat.add_assoc] at o; exact o)
    obtain ⟨σ', s', e3, i3, o3⟩ := for_draw cb I all H xs (done ++ [x]) σ2 n s2 (by rw [e]; simp) i2 o2
    refine ⟨σ', s', ?_, i3, o3⟩
    rw [List.map_cons]
    unfold forGo
    rw [e1]
    rcases e2 with e2 | e2 <;> simp only [e2, e_loop_nx, e_loop_ct, e3]
theorem for_pure {β : Type} {t : GT} {body : SM} {h : Hs} (cb : β → D) (I : List β → Sg → Prop) (all : List β) (H : ∀ (done : List β) (x : β) (rest : List β) (σ : Sg), all = done ++ x :: rest → I done σ → ∃ σ1 σ2, t (cb x) σ = some σ1 ∧ (body σ1 h = .nx σ2 h ∨ body σ1 h = .ct σ2 h) ∧ I (done ++ [x]) σ2) :
    ∀ (xs done : List β) (σ : Sg), all = done ++ xs → I done σ → ∃ σ', forGo t body (xs.map cb) σ h = .nx σ' h ∧ I all σ'
  | [], done, σ, e, i => ⟨σ, rfl, by rw [e, List.append_nil]; exact i⟩
  | x :: xs, done, σ, e, i => by
    obtain ⟨σ1, σ2, e1, e2, i2⟩ := H done x xs σ e i
    obtain ⟨σ', e3, i3⟩ := for_pure cb I all H xs (done ++ [x]) σ2 (by rw [e]; simp) i2
    refine ⟨σ', ?_, i3⟩
    rw [List.map_cons]
    unfold forGo
    rw [e1]
    rcases e2 with e2 | e2 <;> simp only [e2, e_loop_nx, e_loop_ct, e3]
theorem for_pure_of {β : Type} {t : GT} {body : SM} {h : Hs} {ys : List D} {σ : Sg} {r : RS} (hr : forGo t body ys σ h = r) (cb : β → D) (xs : List β) (hx : ys = xs.map cb) (I : List β → Sg → Prop) (i0 : I [] σ)
    (H : ∀ (done : List β) (x : β) (rest : List β) (σ : Sg), xs = done ++ x :: rest → I done σ → ∃ σ1 σ2, t (cb x) σ = some σ1 ∧ (body σ1 h = .nx σ2 h ∨ body σ1 h = .ct σ2 h) ∧ I (done ++ [x]) σ2) : ∃ σ', r = .nx σ' h ∧ I xs σ' := by
  subst hx
  obtain ⟨σ', e, i⟩ := for_pure cb I xs H xs [] σ rfl i0
  exact ⟨σ', hr.symm.trans e, i⟩
theorem for_draw_of {β : Type} {t : GT} {body : SM} {T : Hs} {ys : List D} {σ : Sg} {s : St} {r : RS} (hr : forGo t body ys σ (s.ob :: T) = r) (cb : β → D) (xs : List β) (hx : ys = xs.map cb) (I : List β → Sg → Prop) (i0 : I [] σ) (q n : Nat) (o : s.Ok (n + q * xs.length))
    (H : ∀ (done : List β) (x : β) (rest : List β) (σ : Sg) (n : Nat) (s : St), xs = done ++ x :: rest → I done σ → s.Ok (n + q) → ∃ (σ1 σ2 : Sg) (s2 : St), t (cb x) σ = some σ1 ∧ (body σ1 (s.ob :: T) = .nx σ2 (St.ob s2 :: T) ∨ body σ1 (s.ob :: T) = .ct σ2 (St.ob s2 :: T)) ∧ I (done ++ [x]) σ2 ∧ s2.Ok n) :
    ∃ (σ' : Sg) (s' : St), r = .nx σ' (St.ob s' :: T) ∧ I xs σ' ∧ s'.Ok n := by
  subst hx
  obtain ⟨σ', s', e, i, o'⟩ := for_draw cb I xs H xs [] σ n s rfl i0 o
  exact ⟨σ', s', hr.symm.trans e, i, o'⟩
theorem lc_draw_of {α β : Type} {m : IM} {t : GT} {te : EM} {vs : List Nat} {σ : Sg} {T : Hs} {s : St} {r : R (List D)} (hr : lcL m t tYesM te vs σ (s.ob :: T) = r) (xs : List β) (cb : β → D) (c : α → D) (P : α → Prop) (q n : Nat) (hm : m σ (s.ob :: T) = .ok (xs.map cb) (s.ob :: T)) (hl : xs.length ≤ 16777216) (o : s.Ok (n + q * xs.length))
    (H : ∀ x ∈ xs, ∀ n s, St.Ok (n + q) s → ∃ (σ' : Sg) (y : α) (s' : St), t (cb x) (wipeS σ vs) = some σ' ∧ te σ' (s.ob :: T) = .ok (c y) (s'.ob :: T) ∧ P y ∧ s'.Ok n) :
    ∃ (ys : List α) (s' : St), r = .ok (ys.map c) (St.ob s' :: T) ∧ ys.length = xs.length ∧ (∀ y ∈ ys, P y) ∧ s'.Ok n := by
  obtain ⟨ys, s', e, a⟩ := lc_draw xs cb c P hm hl o H
  exact ⟨ys, s', hr.symm.trans e, a⟩
@[simp] theorem e_sForV_val {i : Nat} {t : GT} {body : SM} {σ : Sg} {h : Hs} {d : D} {xs : List D} (e : σ[i]? = some (.val d)) (f : itemsD d = some xs) : sForV i t body σ h = forGo t body xs σ h := by
  unfold sForV
  rw [e]
  show (match itemsD d with | some xs => forGo t body xs σ h | none => .bad) = _
  rw [f]
abbrev Sm (i : Int) : Prop := i.natAbs < 10 ^ 40
theorem sm_log {i : Int} (h : Sm i) : i.natAbs.log2 < 1920 := by
  by_cases h0 : i.natAbs = 0
  · rw [h0]; decide
  · have : i.natAbs < 2 ^ 1920 := Nat.lt_of_lt_of_le h (by decide +kernel)
    exact (Nat.log2_lt h0).mpr this
theorem strI_len {i : Int} (h : Sm i) : (strI i).length ≤ 41 := by
  have h2 := int_text_length_le10 (by decide) h
  unfold strI
  rw [List.length_map, String.length_toList]
  exact h2
theorem toNat_inj {a b : Char} (h : a.toNat = b.toNat) : a = b := by
  have h2 : a.val.toNat = b.val.toNat := h
  exact Char.ext (UInt32.toNat_inj.mp h2)
theorem nat_repr_inj {m n : Nat} (h : m.repr.toList = n.repr.toList) : m = n := by
  rw [Nat.toList_repr, Nat.toList_repr] at h
  have h1 : Nat.ofDigitChars 10 (Nat.toDigits 10 m) 0 = m := by simp
  have h2 : Nat.ofDigitChars 10 (Nat.toDigits 10 n) 0 = n := by simp
  rw [← h1, h, h2]
theorem nat_dig0 {n : Nat} {c : Char} (h : c ∈ n.repr.toList) : 48 ≤ c.toNat ∧ c.toNat ≤ 57 := by
  rw [Nat.toList_repr] at h
  have := Nat.isDigit_of_mem_toDigits (by decide) (by decide) h
  unfold Char.isDigit at this
  rw [Bool.and_eq_true, decide_eq_true_eq, decide_eq_true_eq] at this
  exact ⟨this.1, this.2⟩
theorem int_repr_inj {i j : Int} (h : i.repr = j.repr) : i = j := by
  have e := congrArg String.toList h
  rw [Int.repr_eq_if, Int.repr_eq_if] at e
  have no : ∀ {m n : Nat}, ("-" ++ m.repr).toList ≠ n.repr.toList := fun {m n} z => by
    rw [String.toList_append] at z
    have : '-' ∈ n.repr.toList := by rw [← z]; simp
    have := (nat_dig0 this).1
    revert this
    decide
  split at e
  · split at e
    · have := nat_repr_inj e; omega
    · exact absurd e.symm no
  · split at e
    · exact absurd e no
    · rw [String.toList_append, String.toList_append] at e
      have := nat_repr_inj (List.append_cancel_left e)
      omega
theorem strI_inj {i j : Int} (h : strI i = strI j) : i = j := by
  unfold strI at h
  have h2 : (toString i).toList = (toString j).toList := List.map_inj_right (fun a b e => toNat_inj e) |>.mp h
  have h3 : toString i = toString j := String.toList_inj.mp h2
  exact int_repr_inj h3
theorem nat_dig {n : Nat} {c : Char} (h : c ∈ n.repr.toList) : 48 ≤ c.toNat ∧ c.toNat ≤ 57 := by
  rw [Nat.toList_repr] at h
  have := Nat.isDigit_of_mem_toDigits (by decide) (by decide) h
  unfold Char.isDigit at this
  rw [Bool.and_eq_true, decide_eq_true_eq, decide_eq_true_eq] at this
  exact ⟨this.1, this.2⟩
theorem strI_dig {i : Int} (h0 : 0 ≤ i) {c : Nat} (h : c ∈ strI i) : 48 ≤ c ∧ c ≤ 57 := by
  unfold strI at h
  obtain ⟨ch, hm, rfl⟩ := List.mem_map.mp h
  rw [Int.toString_eq_repr, Int.repr_eq_if, if_pos h0] at hm
  exact nat_dig hm
theorem strI_any {i : Int} {c : Nat} (h : c ∈ strI i) : c = 45 ∨ (48 ≤ c ∧ c ≤ 57) := by
  by_cases h0 : 0 ≤ i
  · exact .inr (strI_dig h0 h)
  · unfold strI at h
    obtain ⟨ch, hm, rfl⟩ := List.mem_map.mp h
    rw [Int.toString_eq_repr, Int.repr_eq_if, if_neg h0, String.toList_append, List.mem_append] at hm
    rcases hm with hm | hm
    · left
      have : ch = '-' := by simpa using hm
      rw [this]; rfl
    · exact .inr (nat_dig hm)
theorem strI_ne (i : Int) : strI i ≠ [] := by
  intro h
  have h2 : (toString i).toList = [] := List.map_eq_nil_iff.mp h
  have h3 : i.repr.toList = [] := by rw [← Int.toString_eq_repr]; exact h2
  rw [Int.repr_eq_if] at h3
  split at h3
  · rw [Nat.toList_repr] at h3
    exact Nat.toDigits_ne_nil h3
  · rw [String.toList_append] at h3
    have := (List.append_eq_nil_iff.mp h3).2
    rw [Nat.toList_repr] at this
    exact Nat.toDigits_ne_nil this
theorem range1_ok {a : EM} {σ : Sg} {h : Hs} {j : Int} (ha : a σ h = .ok (.int j) h) (h0 : -1000000 ≤ j) (h1 : j ≤ 1000000) : iRange1 (aCons a aNil) σ h = .ok (rangeD 0 j.toNat) h := by
  rw [e_iRange1, e_aCons, ha]
  exact if_pos ⟨by omega, by omega⟩
theorem range2_ok {a b : EM} {σ : Sg} {h : Hs} {i j : Int} (ha : a σ h = .ok (.int i) h) (hb : b σ h = .ok (.int j) h) (h0 : -1000000 ≤ i) (h1 : i ≤ 1000000) (h2 : -1000000 ≤ j) (h3 : j ≤ 1000000) : iRange2 (aCons a (aCons b aNil)) σ h = .ok (rangeD i (j - i).toNat) h := by
  rw [e_iRange2, e_aCons, ha, R.bind_ok, e_aCons, hb]
  exact if_pos ⟨by omega, by omega, by omega, by omega⟩
end WC
set_option Elab.async false
set_option linter.all false
set_option maxRecDepth 100000
namespace WC
open PySem PySem.Spec PyProof.Rows L2
mutual
def dat : Nat → D → Bool
  | _, .non => true
  | _, .int _ => true
  | _, .str _ => true
  | 0, _ => false
  | n + 1, .tup xs => dats n xs
  | n + 1, .lst xs => dats n xs
  | _, _ => false
def dats : Nat → List D → Bool
  | _, [] => true
  | n, x :: xs => dat n x && dats n xs
end
mutual
theorem dat_dep : ∀ (n : Nat) (x : D), dat n x = true → ∃ m, depD x = some m ∧ m ≤ n
  | n, .non, _ => ⟨0, rfl, Nat.zero_le _⟩
  | n, .int _, _ => ⟨0, rfl, Nat.zero_le _⟩
  | n, .str _, _ => ⟨0, rfl, Nat.zero_le _⟩
  | 0, .bl _, h => by simp [dat] at h
  | 0, .tup _, h => by simp [dat] at h
  | 0, .lst _, h => by simp [dat] at h
  | 0, .dct _, h => by simp [dat] at h
  | 0, .ref _, h => by simp [dat] at h
  | 0, .scr _, h => by simp [dat] at h
  | n + 1, .tup xs, h => by
    obtain ⟨m, e, l⟩ := dats_dep n xs (by simpa [dat] using h)
    exact ⟨m + 1, by unfold depD; rw [e]; rfl, by omega⟩
  | n + 1, .lst xs, h => by
    obtain ⟨m, e, l⟩ := dats_dep n xs (by simpa [dat] using h)
    exact ⟨m + 1, by unfold depD; rw [e]; rfl, by omega⟩
  | n + 1, .bl _, h => by simp [dat] at h
  | n + 1, .dct _, h => by simp [dat] at h
  | n + 1, .ref _, h => by simp [dat] at h
  | n + 1, .scr _, h => by simp [dat] at h
theorem dats_dep : ∀ (n : Nat) (xs : List D), dats n xs = true → ∃ m, depDs xs = some m ∧ m ≤ n
  | n, [], _ => ⟨0, rfl, Nat.zero_le _⟩
  | n, x :: xs, h => by
    unfold dats at h
    rw [Bool.and_eq_true] at h
    obtain ⟨a, e, l⟩ := dat_dep n x h.1
    obtain ⟨b, e2, l2⟩ := dats_dep n xs h.2
    exact ⟨max a b, by unfold depDs; rw [e, e2], by omega⟩
end
mutual
theorem dat_eq : ∀ (n m : Nat) (x y : D), dat n x = true → dat m y = true → (pyEq x y = true ↔ x = y)
  | n, m, .non, y, _, h => by
    cases y <;> cases m <;> simp_all [dat, pyEq]
  | n, m, .int i, y, _, h => by
    cases y <;> cases m <;> simp_all [dat, pyEq]
  | n, m, .str i, y, _, h => by
    cases y <;> cases m <;> simp_all [dat, pyEq]
  | 0, _, .bl _, _, h, _ => by simp [dat] at h
  | 0, _, .tup _, _, h, _ => by simp [dat] at h
  | 0, _, .lst _, _, h, _ => by simp [dat] at h
  | 0, _, .dct _, _, h, _ => by simp [dat] at h
  | 0, _, .ref _, _, h, _ => by simp [dat] at h
  | 0, _, .scr _, _, h, _ => by simp [dat] at h
  | n + 1, m, .tup xs, y, h, h2 => by
    cases y with
    | tup ys =>
      cases m with
      | zero => simp [dat] at h2
      | succ m =>
        have := dats_eq n m xs ys (by simpa [dat] using h) (by simpa [dat] using h2)
        simp [pyEq, this]
    | _ => simp [pyEq]
  | n + 1, m, .lst xs, y, h, h2 => by
    cases y with
    | lst ys =>
      cases m with
      | zero => simp [dat] at h2
      | succ m =>
        have := dats_eq n m xs ys (by simpa [dat] using h) (by simpa [dat] using h2)
        simp [pyEq, this]
    | _ => simp [pyEq]
  | n + 1, _, .bl _, _, h, _ => by simp [dat] at h
  | n + 1, _, .dct _, _, h, _ => by simp [dat] at h
  | n + 1, _, .ref _, _, h, _ => by simp [dat] at h
  | n + 1, _, .scr _, _, h, _ => by simp [dat] at h
theorem dats_eq : ∀ (n m : Nat) (xs ys : List D), dats n xs = true → dats m ys = true → (pyEqs xs ys = true ↔ xs = ys)
  | n, m, [], ys, _, _ => by cases ys <;> simp [pyEqs]
  | n, m, x :: xs, [], _, _ => by simp [pyEqs]
  | n, m, x :: xs, y :: ys, h, h2 => by
    unfold dats at h h2
    rw [Bool.and_eq_true] at h h2
    have e1 := dat_eq n m x y h.1 h2.1
    have e2 := dats_eq n m xs ys h.2 h2.2
    unfold pyEqs
    rw [Bool.and_eq_true, e1, e2]
    simp
end
theorem dat_ok {n : Nat} {x : D} (h : dat n x = true) (hn : n ≤ 60) : eqOk x = true := by
  obtain ⟨m, e, l⟩ := dat_dep n x h
  unfold eqOk
  rw [e]
  exact decide_eq_true (by omega)
theorem dat_asV {n : Nat} {x : D} {h : Hs} (e : dat n x = true) : asV h x = x := by
  obtain ⟨m, e, l⟩ := dat_dep n x e
  exact asV_of e
theorem dats_map {α : Type} {n : Nat} {xs : List α} {c : α → D} (H : ∀ x ∈ xs, dat n (c x) = true) : dats n (xs.map c) = true := by
  induction xs with
  | nil => cases n <;> rfl
  | cons x xs ih =>
    rw [List.map_cons]
    unfold dats
    rw [H x (List.mem_cons_self ..), ih fun y m => H y (List.mem_cons_of_mem _ m)]
    rfl
theorem g_eqDat {h : Hs} {n : Nat} {x y : D} (hx : dat n x = true) (hy : dat n y = true) (hn : n ≤ 60) {p : Prop} [Decidable p] (hp : p ↔ x = y) : gEq h x y = some (.bl (decide p)) := by
  unfold gEq
  rw [dat_asV hx, dat_asV hy, dat_ok hx hn, dat_ok hy hn]
  have e := dat_eq n n x y hx hy
  have : pyEq x y = decide p := by
    by_cases q : x = y
    · rw [e.mpr q, decide_eq_true (hp.mpr q)]
    · rw [decide_eq_false fun z => q (hp.mp z)]
      cases r : pyEq x y with
      | false => rfl
      | true => exact absurd (e.mp r) q
  rw [this]
  rfl
theorem g_neDat {h : Hs} {n : Nat} {x y : D} (hx : dat n x = true) (hy : dat n y = true) (hn : n ≤ 60) {p : Prop} [Decidable p] (hp : p ↔ x = y) : gNe h x y = some (.bl (!decide p)) := by
  have := g_eqDat (h := h) hx hy hn hp
  unfold gEq at this
  unfold gNe
  split at this
  · rename_i e
    rw [if_pos e]
    have e2 : pyEq (asV h x) (asV h y) = decide p := by simpa using this
    rw [e2]
  · cases this
mutual
def lk : Nat → D → Bool
  | _, .non => true
  | _, .int _ => true
  | _, .str _ => true
  | _, .bl _ => true
  | 0, _ => false
  | n + 1, .tup xs => decide (xs.length ≤ 1000000) && lks n xs
  | n + 1, .lst xs => decide (xs.length ≤ 1000000) && lks n xs
  | _, _ => false
def lks : Nat → List D → Bool
  | _, [] => true
  | n, x :: xs => lk n x && lks n xs
end
theorem lks_get : ∀ {n : Nat} {xs : List D} {i : Nat} {x : D}, lks n xs = true → xs[i]? = some x → lk n x = true
  | n, [], i, x, _, e => by simp at e
  | n, y :: ys, i, x, h, e => by
    unfold lks at h
    rw [Bool.and_eq_true] at h
    cases i with
    | zero => simp at e; subst e; exact h.1
    | succ i => exact lks_get h.2 (by simpa using e)
theorem lks_map {α : Type} {n : Nat} {xs : List α} {c : α → D} (H : ∀ x ∈ xs, lk n (c x) = true) : lks n (xs.map c) = true := by
  induction xs with
  | nil => cases n <;> rfl
  | cons x xs ih =>
    rw [List.map_cons]
    unfold lks
    rw [H x (List.mem_cons_self ..), ih fun y m => H y (List.mem_cons_of_mem _ m)]
    rfl
def likeB (f : FD) : SM := (sSeq (sIf (tB (eIsI [.list, .tuple] (oVar 1)))
  (sSeq (sIf (tOr (tNot (tB (eIsI [.list, .tuple] (oVar 0)))) (tOr (tB (eOp gNe (eIsI [.list] (oVar 0)) (eIsI [.list] (oVar 1)))) (tB (eOp gNe (eCall gLen (aCons (oVar 0) aNil)) (eCall gLen (aCons (oVar 1) aNil))))))
  (sRet (eC (.bl false)))
  sNil)
  (sRet (eCall gAll (aCons (eFrz (lcL (iRange1 (aCons (eCall gLen (aCons (oVar 1) aNil)) aNil)) (tgName 2) tYesM (eFn 2 f (aCons (eOp atD (oVar 0) (oVar 2)) (aCons (eOp atD (oVar 1) (oVar 2)) aNil))) [2])) aNil))))
  sNil)
  (sSeq (sIf (tB (eOp gIsN (oVar 1) (eC .non)))
  (sRet (eOp gIsN (oVar 0) (eC .non)))
  sNil)
  (sSeq (sIf (tB (eIsI [.bool] (oVar 1)))
  (sRet (eAnd (eIsI [.bool] (oVar 0)) (eOp gEq (oVar 0) (oVar 1))))
  sNil)
  (sSeq (sIf (tB (eIsI [.str] (oVar 1)))
  (sRet (eAnd (eIsI [.str] (oVar 0)) (eOp gEq (oVar 0) (oVar 1))))
  sNil)
  (sRet (eAnd (eIsI [.int] (oVar 0)) (eAnd (eNot (eIsI [.bool] (oVar 0))) (eOp gEq (oVar 0) (oVar 1)))))))))
@[simp] theorem t_bool_non : isTy .bool .non = false := rfl
@[simp] theorem t_str_non : isTy .str .non = false := rfl
@[simp] theorem t_tup_non : isTy .tuple .non = false := rfl
@[simp] theorem t_lst_non : isTy .list .non = false := rfl
@[simp] theorem t_int_non : isTy .int .non = false := rfl
@[simp] theorem n_non : isN .non = true := rfl
@[simp] theorem n_int (i : Int) : isN (.int i) = false := rfl
@[simp] theorem n_bl (i : Bool) : isN (.bl i) = false := rfl
@[simp] theorem n_str (i : List Nat) : isN (.str i) = false := rfl
@[simp] theorem n_tup (i : List D) : isN (.tup i) = false := rfl
@[simp] theorem n_lst (i : List D) : isN (.lst i) = false := rfl
theorem ls1 {h : Hs} {xs : List D} {d : D} (hd : d = .tup xs ∨ d = .lst xs) (hl : xs.length ≤ 1000000) : iRange1 (aCons (eCall gLen (aCons (oVar 1) aNil)) aNil) [.val d, .val d, .no] h = .ok ((List.range xs.length).map fun i : Nat => .int (0 + i)) h := by
  have := range1_ok (a := eCall gLen (aCons (oVar 1) aNil)) (σ := [.val d, .val d, .no]) (h := h) (j := xs.length) (by rcases hd with rfl | rfl <;> simp) (by omega) (by omega)
  rw [this]
  rfl
theorem ls2 {f : FD} {h : Hs} {xs : List D} {d : D} (hd : d = .tup xs ∨ d = .lst xs) (hl : xs.length ≤ 1000000) (ih : ∀ i (hi : i < xs.length), f [xs[i], xs[i]] h = .ok (.bl true) h) : lcL (iRange1 (aCons (eCall gLen (aCons (oVar 1) aNil)) aNil)) (tgName 2) tYesM (eFn 2 f (aCons (eOp atD (oVar 0) (oVar 2)) (aCons (eOp atD (oVar 1) (oVar 2)) aNil))) [2] [.val d, .val d, .no] h = .ok ((List.range xs.length).map fun _ => .bl true) h :=
  lc_typed (List.range xs.length) (fun i : Nat => .int (0 + i)) (fun _ => .bl true) (ls1 hd hl) (by rw [List.length_range]; omega) fun i hi => ⟨_, rfl, by
    have hi2 : i < xs.length := by simpa using hi
    rcases hd with rfl | rfl <;> simp [hi2, ih i hi2]⟩
theorem ls3 {RR rest : SM} {h : Hs} {xs : List D} {d : D} (hd : d = .tup xs ∨ d = .lst xs) (e3 : RR [.val d, .val d, .no] h = .rt (.bl true) h) : (sSeq (sIf (tB (eIsI [.list, .tuple] (oVar 1)))
  (sSeq (sIf (tOr (tNot (tB (eIsI [.list, .tuple] (oVar 0)))) (tOr (tB (eOp gNe (eIsI [.list] (oVar 0)) (eIsI [.list] (oVar 1)))) (tB (eOp gNe (eCall gLen (aCons (oVar 0) aNil)) (eCall gLen (aCons (oVar 1) aNil))))))
  (sRet (eC (.bl false)))
  sNil)
  RR)
  sNil) rest) [.val d, .val d, .no] h = .rt (.bl true) h := by
  rcases hd with rfl | rfl <;> simp [e3]
theorem ls4 {f : FD} {h : Hs} {xs : List D} {d : D} (hd : d = .tup xs ∨ d = .lst xs) (hl : xs.length ≤ 1000000) (ih : ∀ i (hi : i < xs.length), f [xs[i], xs[i]] h = .ok (.bl true) h) : sRet (eCall gAll (aCons (eFrz (lcL (iRange1 (aCons (eCall gLen (aCons (oVar 1) aNil)) aNil)) (tgName 2) tYesM (eFn 2 f (aCons (eOp atD (oVar 0) (oVar 2)) (aCons (eOp atD (oVar 1) (oVar 2)) aNil))) [2])) aNil)) [.val d, .val d, .no] h = .rt (.bl true) h := by
  have e4 := g_all (h := h) (List.range xs.length) fun _ => true
  rw [e_sRet, e_eCall, e_aCons, e_eFrz, ls2 hd hl ih, R.bind_ok, R.bind_ok, e_aNil, R.bind_ok, R.bind_ok, e4, all_true]
  rfl
theorem like_seq {F : Nat → FD} (hF : ∀ k, F (k + 1) = defF 3 (likeB (F k))) {k : Nat} {h : Hs} {xs : List D} {d : D} (hd : d = .tup xs ∨ d = .lst xs) (hl : xs.length ≤ 1000000) (ih : ∀ i (hi : i < xs.length), F k [xs[i], xs[i]] h = .ok (.bl true) h) : F (k + 1) [d, d] h = .ok (.bl true) h := by
  rw [hF, e_defF]
  have st : startS 3 [d, d] = [.val d, .val d, .no] := rfl
  rw [st]
  unfold likeB
  rw [ls3 hd (ls4 hd hl ih)]
theorem like_ok {F : Nat → FD} (hF : ∀ k, F (k + 1) = defF 3 (likeB (F k))) (k : Nat) {h : Hs} (n : Nat) : ∀ (x : D), lk n x = true → F (k + n + 1) [x, x] h = .ok (.bl true) h := by
  induction n with
  | zero =>
    intro x e
    cases x with
    | non => rw [hF]; simp [likeB]
    | int i => rw [hF]; simp [likeB]
    | str i => rw [hF]; simp [likeB]
    | bl i => rw [hF]; simp [likeB]
    | _ => simp [lk] at e
  | succ n ih =>
    intro x e
    cases x with
    | non => rw [hF]; simp [likeB]
    | int i => rw [hF]; simp [likeB]
    | str i => rw [hF]; simp [likeB]
    | bl i => rw [hF]; simp [likeB]
    | tup xs =>
      have e' : xs.length ≤ 1000000 ∧ lks n xs = true := by simpa [lk] using e
      exact like_seq hF (.inl rfl) e'.1 fun i hi => ih _ (lks_get e'.2 (List.getElem?_eq_getElem hi))
    | lst xs =>
      have e' : xs.length ≤ 1000000 ∧ lks n xs = true := by simpa [lk] using e
      exact like_seq hF (.inr rfl) e'.1 fun i hi => ih _ (lks_get e'.2 (List.getElem?_eq_getElem hi))
    | _ => simp [lk] at e
end WC
set_option Elab.async false
set_option linter.all false
set_option maxRecDepth 100000
namespace WC
theorem sep_inj {c : Nat} : ∀ {a b r s : List Nat}, c ∉ a → c ∉ b → a ++ c :: r = b ++ c :: s → a = b ∧ r = s
  | [], [], r, s, _, _, e => by simpa using e
  | [], y :: b, r, s, _, hb, e => by
    simp only [List.nil_append, List.cons_append, List.cons.injEq] at e
    exact absurd (List.mem_cons.mpr (.inl e.1)) hb
  | x :: a, [], r, s, ha, _, e => by
    simp only [List.nil_append, List.cons_append, List.cons.injEq] at e
    exact absurd (List.mem_cons.mpr (.inl e.1.symm)) ha
  | x :: a, y :: b, r, s, ha, hb, e => by
    simp only [List.cons_append, List.cons.injEq] at e
    obtain ⟨h1, h2⟩ := sep_inj (fun m => ha (List.mem_cons_of_mem _ m)) (fun m => hb (List.mem_cons_of_mem _ m)) e.2
    exact ⟨by rw [e.1, h1], h2⟩
theorem sep_no {c : Nat} {a b r : List Nat} (hb : c ∉ b) (e : a ++ c :: r = b) : False := hb (by rw [← e]; simp)
theorem join_inj {c : Nat} {S : List Nat} : ∀ {ps qs : List (List Nat)}, ps ≠ [] → qs ≠ [] → (∀ p ∈ ps, c ∉ p) → (∀ p ∈ qs, c ∉ p) → joinD (c :: S) ps = joinD (c :: S) qs → ps = qs
  | [], _, h, _, _, _, _ => absurd rfl h
  | _, [], _, h, _, _, _ => absurd rfl h
  | [p], [q], _, _, _, _, e => by
    have : p = q := e
    rw [this]
  | [p], q :: q2 :: qs, _, _, hp, _, e => by
    have e' : p = q ++ c :: (S ++ joinD (c :: S) (q2 :: qs)) := e
    exact (sep_no (hp p (List.mem_cons_self ..)) e'.symm).elim
  | p :: p2 :: ps, [q], _, _, _, hq, e => by
    have e' : p ++ c :: (S ++ joinD (c :: S) (p2 :: ps)) = q := e
    exact (sep_no (hq q (List.mem_cons_self ..)) e').elim
  | p :: p2 :: ps, q :: q2 :: qs, _, _, hp, hq, e => by
    have e' : p ++ c :: (S ++ joinD (c :: S) (p2 :: ps)) = q ++ c :: (S ++ joinD (c :: S) (q2 :: qs)) := e
    obtain ⟨h1, h2⟩ := sep_inj (hp p (List.mem_cons_self ..)) (hq q (List.mem_cons_self ..)) e'
    have ih := join_inj (c := c) (S := S) (ps := p2 :: ps) (qs := q2 :: qs) (by simp) (by simp) (fun z m => hp z (List.mem_cons_of_mem _ m)) (fun z m => hq z (List.mem_cons_of_mem _ m)) (List.append_cancel_left h2)
    rw [h1, ih]
theorem map_inj' {α β : Type} {f : α → β} : ∀ {xs ys : List α}, (∀ x ∈ xs, ∀ y ∈ ys, f x = f y → x = y) → xs.map f = ys.map f → xs = ys
  | [], [], _, _ => rfl
  | [], _ :: _, _, e => by simp at e
  | _ :: _, [], _, e => by simp at e
  | x :: xs, y :: ys, H, e => by
    simp only [List.map_cons, List.cons.injEq] at e
    rw [H x (List.mem_cons_self ..) y (List.mem_cons_self ..) e.1, map_inj' (fun a ha b hb => H a (List.mem_cons_of_mem _ ha) b (List.mem_cons_of_mem _ hb)) e.2]
theorem strI_no {i : Int} {c : Nat} (h : c ≠ 45) (h2 : c < 48 ∨ 57 < c) : c ∉ strI i := fun m => by
  rcases strI_any m with e | e
  · exact h e
  · omega
theorem strI_no0 {i : Int} {c : Nat} (h0 : 0 ≤ i) (h2 : c < 48 ∨ 57 < c) : c ∉ strI i := fun m => by
  have := strI_dig h0 m
  omega
theorem join_mem {c : Nat} : ∀ {S : List Nat} {ps : List (List Nat)}, c ∈ joinD S ps → c ∈ S ∨ ∃ p ∈ ps, c ∈ p
  | S, [], h => by simp [joinD] at h
  | S, [p], h => .inr ⟨p, List.mem_cons_self .., h⟩
  | S, p :: q :: r, h => by
    have h' : c ∈ p ++ (S ++ joinD S (q :: r)) := h
    rcases List.mem_append.mp h' with h | h
    · exact .inr ⟨p, List.mem_cons_self .., h⟩
    · rcases List.mem_append.mp h with h | h
      · exact .inl h
      · rcases join_mem h with h | ⟨z, m, h⟩
        · exact .inl h
        · exact .inr ⟨z, List.mem_cons_of_mem _ m, h⟩
end WC
set_option Elab.async false
set_option linter.all false
namespace QC
inductive P4 where
  | I | X | Y | Z
  deriving DecidableEq, Inhabited
namespace P4
def code : P4 → Nat
  | I => 73 | X => 88 | Y => 89 | Z => 90
def xb : P4 → Bool
  | X => true | Y => true | _ => false
def zb : P4 → Bool
  | Z => true | Y => true | _ => false
def of (x z : Bool) : P4 := match x, z with
  | false, false => I | false, true => Z | true, false => X | true, true => Y
def mul : P4 → P4 → P4
  | I, b => b | a, I => a
  | X, X => I | X, Y => Z | X, Z => Y
  | Y, X => Z | Y, Y => I | Y, Z => X
  | Z, X => Y | Z, Y => X | Z, Z => I
def ph : P4 → P4 → Nat
  | X, Y => 1 | X, Z => 3 | Y, X => 3 | Y, Z => 1 | Z, X => 1 | Z, Y => 3
  | _, _ => 0
def anti (a b : P4) : Bool := a != b && a != I && b != I
def all : List P4 := [I, X, Y, Z]
theorem mem_all (a : P4) : a ∈ all := by cases a <;> decide
theorem mul_assoc (a b c : P4) : mul (mul a b) c = mul a (mul b c) := by cases a <;> cases b <;> cases c <;> rfl
theorem mul_comm (a b : P4) : mul a b = mul b a := by cases a <;> cases b <;> rfl
theorem mul_self (a : P4) : mul a a = I := by cases a <;> rfl
theorem mul_I (a : P4) : mul a I = a := by cases a <;> rfl
theorem I_mul (a : P4) : mul I a = a := by cases a <;> rfl
theorem ph_cocycle (a b c : P4) : (ph a b + ph (mul a b) c) % 4 = (ph b c + ph a (mul b c)) % 4 := by cases a <;> cases b <;> cases c <;> rfl
theorem ph_comm (a b : P4) : (ph a b + 2 * (anti a b).toNat) % 4 = ph b a % 4 := by cases a <;> cases b <;> rfl
theorem ph_odd (a b : P4) : ph a b % 2 = (anti a b).toNat := by cases a <;> cases b <;> rfl
theorem ph_self (a : P4) : ph a a = 0 := by cases a <;> rfl
theorem ph_I (a : P4) : ph a I = 0 := by cases a <;> rfl
theorem I_ph (a : P4) : ph I a = 0 := by cases a <;> rfl
theorem anti_comm (a b : P4) : anti a b = anti b a := by cases a <;> cases b <;> rfl
theorem anti_mul (a b c : P4) : anti a (mul b c) = (anti a b ^^ anti a c) := by cases a <;> cases b <;> cases c <;> rfl
theorem anti_self (a : P4) : anti a a = false := by cases a <;> rfl
theorem anti_I (a : P4) : anti a I = false := by cases a <;> rfl
theorem xb_mul (a b : P4) : xb (mul a b) = (xb a ^^ xb b) := by cases a <;> cases b <;> rfl
theorem zb_mul (a b : P4) : zb (mul a b) = (zb a ^^ zb b) := by cases a <;> cases b <;> rfl
theorem of_xz (a : P4) : of (xb a) (zb a) = a := by cases a <;> rfl
theorem xb_of (x z : Bool) : xb (of x z) = x := by cases x <;> cases z <;> rfl
theorem zb_of (x z : Bool) : zb (of x z) = z := by cases x <;> cases z <;> rfl
theorem code_inj {a b : P4} (h : code a = code b) : a = b := by revert h; cases a <;> cases b <;> decide
theorem of_inj {a b : P4} (h : xb a = xb b) (h2 : zb a = zb b) : a = b := by rw [← of_xz a, ← of_xz b, h, h2]
end P4
open P4
abbrev Ls := List P4
def lmul (a b : Ls) : Ls := List.zipWith mul a b
def lph : Ls → Ls → Nat
  | a :: as, b :: bs => ph a b + lph as bs
  | _, _ => 0
def lanti : Ls → Ls → Bool
  | a :: as, b :: bs => anti a b ^^ lanti as bs
  | _, _ => false
def ones (n : Nat) : Ls := List.replicate n I
theorem lmul_len {a b : Ls} {n : Nat} (ha : a.length = n) (hb : b.length = n) : (lmul a b).length = n := by simp [lmul, ha, hb]
theorem lmul_assoc : ∀ a b c : Ls, lmul (lmul a b) c = lmul a (lmul b c)
  | [], _, _ => by simp [lmul]
  | _ :: _, [], _ => by simp [lmul]
  | _ :: _, _ :: _, [] => by simp [lmul]
  | a :: as, b :: bs, c :: cs => by
    have := lmul_assoc as bs cs
    simp only [lmul, List.zipWith_cons_cons] at this ⊢
    rw [this, mul_assoc]
theorem lmul_comm : ∀ a b : Ls, lmul a b = lmul b a
  | [], [] => rfl
  | [], _ :: _ => rfl
  | _ :: _, [] => rfl
  | a :: as, b :: bs => by
    have := lmul_comm as bs
    simp only [lmul, List.zipWith_cons_cons] at this ⊢
    rw [this, mul_comm]
theorem lmul_ones : ∀ {n : Nat} {a : Ls}, a.length = n → lmul a (ones n) = a
  | 0, [], _ => rfl
  | n + 1, a :: as, h => by
    have := lmul_ones (n := n) (a := as) (by simpa using h)
    simp only [lmul, ones, List.replicate_succ, List.zipWith_cons_cons] at this ⊢
    rw [this, mul_I]
theorem ones_lmul {n : Nat} {a : Ls} (h : a.length = n) : lmul (ones n) a = a := by rw [lmul_comm, lmul_ones h]
theorem lmul_self : ∀ {n : Nat} {a : Ls}, a.length = n → lmul a a = ones n
  | 0, [], _ => rfl
  | n + 1, a :: as, h => by
    have := lmul_self (n := n) (a := as) (by simpa using h)
    simp only [lmul, ones, List.replicate_succ, List.zipWith_cons_cons] at this ⊢
    rw [this, mul_self]
theorem lph_cocycle : ∀ {n : Nat} {a b c : Ls}, a.length = n → b.length = n → c.length = n → (lph a b + lph (lmul a b) c) % 4 = (lph b c + lph a (lmul b c)) % 4
  | 0, [], [], [], _, _, _ => rfl
  | n + 1, a :: as, b :: bs, c :: cs, h1, h2, h3 => by
    have ih := lph_cocycle (n := n) (a := as) (b := bs) (c := cs) (by simpa using h1) (by simpa using h2) (by simpa using h3)
    have h := ph_cocycle a b c
    show (ph a b + lph as bs + (ph (mul a b) c + lph (lmul as bs) cs)) % 4 = (ph b c + lph bs cs + (ph a (mul b c) + lph as (lmul bs cs))) % 4
    omega
theorem lph_comm : ∀ {n : Nat} {a b : Ls}, a.length = n → b.length = n → (lph a b + 2 * (lanti a b).toNat) % 4 = lph b a % 4
  | 0, [], [], _, _ => rfl
  | n + 1, a :: as, b :: bs, h1, h2 => by
    have ih := lph_comm (n := n) (a := as) (b := bs) (by simpa using h1) (by simpa using h2)
    have h := ph_comm a b
    show (ph a b + lph as bs + 2 * (anti a b ^^ lanti as bs).toNat) % 4 = (ph b a + lph bs as) % 4
    cases e1 : anti a b <;> cases e2 : lanti as bs <;> rw [e1] at h <;> rw [e2] at ih <;> simp at * <;> omega
theorem lph_odd : ∀ {n : Nat} {a b : Ls}, a.length = n → b.length = n → lph a b % 2 = (lanti a b).toNat
  | 0, [], [], _, _ => rfl
  | n + 1, a :: as, b :: bs, h1, h2 => by
    have ih := lph_odd (n := n) (a := as) (b := bs) (by simpa using h1) (by simpa using h2)
    have h := ph_odd a b
    show (ph a b + lph as bs) % 2 = (anti a b ^^ lanti as bs).toNat
    cases e1 : anti a b <;> cases e2 : lanti as bs <;> rw [e1] at h <;> rw [e2] at ih <;> simp at * <;> omega
theorem lph_self : ∀ a : Ls, lph a a = 0
  | [] => rfl
  | a :: as => by show ph a a + lph as as = 0; rw [ph_self, lph_self as]
theorem lph_ones : ∀ {n : Nat} {a : Ls}, lph a (ones n) = 0
  | 0, [] => rfl
  | 0, _ :: _ => rfl
  | n + 1, [] => rfl
  | n + 1, a :: as => by show ph a I + lph as (ones n) = 0; rw [ph_I, lph_ones]
theorem ones_lph : ∀ {n : Nat} {a : Ls}, lph (ones n) a = 0
  | 0, _ => rfl
  | n + 1, [] => rfl
  | n + 1, a :: as => by show ph I a + lph (ones n) as = 0; rw [I_ph, ones_lph]
theorem lanti_comm : ∀ a b : Ls, lanti a b = lanti b a
  | [], [] => rfl
  | [], _ :: _ => rfl
  | _ :: _, [] => rfl
  | a :: as, b :: bs => by show (anti a b ^^ lanti as bs) = (anti b a ^^ lanti bs as); rw [anti_comm, lanti_comm as bs]
theorem lanti_self : ∀ a : Ls, lanti a a = false
  | [] => rfl
  | a :: as => by show (anti a a ^^ lanti as as) = false; rw [anti_self, lanti_self as]; rfl
theorem lanti_ones : ∀ {n : Nat} {a : Ls}, lanti a (ones n) = false
  | 0, [] => rfl
  | 0, _ :: _ => rfl
  | n + 1, [] => rfl
  | n + 1, a :: as => by show (anti a I ^^ lanti as (ones n)) = false; rw [anti_I, lanti_ones]; rfl
theorem lanti_mul : ∀ {n : Nat} {a b c : Ls}, a.length = n → b.length = n → c.length = n → lanti a (lmul b c) = (lanti a b ^^ lanti a c)
  | 0, [], [], [], _, _, _ => rfl
  | n + 1, a :: as, b :: bs, c :: cs, h1, h2, h3 => by
    have ih := lanti_mul (n := n) (a := as) (b := bs) (c := cs) (by simpa using h1) (by simpa using h2) (by simpa using h3)
    show (anti a (mul b c) ^^ lanti as (lmul bs cs)) = ((anti a b ^^ lanti as bs) ^^ (anti a c ^^ lanti as cs))
    rw [anti_mul, ih]
    cases anti a b <;> cases anti a c <;> cases lanti as bs <;> cases lanti as cs <;> rfl
structure Pw where
  e : Nat
  l : Ls
  deriving DecidableEq, Inhabited
structure Up (n : Nat) (w : Pw) : Prop where
  len : w.l.length = n
  ev : w.e = 0 ∨ w.e = 2
def pmul (a b : Pw) : Pw := ⟨(a.e + b.e + lph a.l b.l) % 4, lmul a.l b.l⟩
def one (n : Nat) : Pw := ⟨0, ones n⟩
def meets (a b : Pw) : Prop := lanti a.l b.l = false
theorem up_one (n : Nat) : Up n (one n) := ⟨by simp [one, ones], .inl rfl⟩
theorem pmul_assoc {n : Nat} {a b c : Pw} (ha : a.l.length = n) (hb : b.l.length = n) (hc : c.l.length = n) : pmul (pmul a b) c = pmul a (pmul b c) := by
  have h := lph_cocycle ha hb hc
  unfold pmul
  simp only [Pw.mk.injEq]
  refine ⟨by omega, lmul_assoc _ _ _⟩
theorem pmul_comm {n : Nat} {a b : Pw} (ha : a.l.length = n) (hb : b.l.length = n) (m : meets a b) : pmul a b = pmul b a := by
  have h := lph_comm ha hb
  rw [show lanti a.l b.l = false from m] at h
  unfold pmul
  simp only [Pw.mk.injEq]
  refine ⟨?_, lmul_comm _ _⟩
  simp at h
  omega
theorem up_mul {n : Nat} {a b : Pw} (ha : Up n a) (hb : Up n b) (m : meets a b) : Up n (pmul a b) := by
  refine ⟨lmul_len ha.len hb.len, ?_⟩
  have h := lph_odd ha.len hb.len
  rw [show lanti a.l b.l = false from m] at h
  show (a.e + b.e + lph a.l b.l) % 4 = 0 ∨ (a.e + b.e + lph a.l b.l) % 4 = 2
  have h1 := ha.ev
  have h2 := hb.ev
  have h3 : lph a.l b.l % 2 = 0 := h
  omega
theorem pmul_one {n : Nat} {a : Pw} (ha : Up n a) : pmul a (one n) = a := by
  unfold pmul one
  rw [lmul_ones ha.len, lph_ones]
  have h1 := ha.ev
  cases a with
  | mk e l =>
    simp only [Pw.mk.injEq, and_true]
    simp only at h1
    omega
theorem one_pmul {n : Nat} {a : Pw} (ha : Up n a) : pmul (one n) a = a := by
  unfold pmul one
  rw [ones_lmul ha.len, ones_lph]
  have h1 := ha.ev
  cases a with
  | mk e l =>
    simp only [Pw.mk.injEq, and_true]
    simp only at h1
    omega
theorem pmul_self {n : Nat} {a : Pw} (ha : Up n a) : pmul a a = one n := by
  unfold pmul one
  rw [lmul_self ha.len, lph_self]
  have h1 := ha.ev
  simp only [Pw.mk.injEq, and_true]
  omega
theorem meets_comm {a b : Pw} (h : meets a b) : meets b a := by unfold meets at *; rw [lanti_comm]; exact h
theorem meets_self (a : Pw) : meets a a := lanti_self _
theorem meets_one {n : Nat} (a : Pw) : meets a (one n) := lanti_ones
theorem meets_mul {n : Nat} {a b c : Pw} (ha : a.l.length = n) (hb : b.l.length = n) (hc : c.l.length = n) (h1 : meets a b) (h2 : meets a c) : meets a (pmul b c) := by
  show lanti a.l (lmul b.l c.l) = false
  rw [lanti_mul ha hb hc, show lanti a.l b.l = false from h1, show lanti a.l c.l = false from h2]
  rfl
end QC
set_option Elab.async false
set_option linter.all false
namespace QC
def vb (r : List Bool) : Nat := r.foldl (fun a b => a * 2 + (if b then 1 else 0)) 0
def rx (a b : List Bool) : List Bool := List.zipWith (fun x y => x ^^ y) a b
theorem two_xor (x y : Nat) (a b : Bool) : (x ^^^ y) * 2 + (if a ^^ b then 1 else 0) = (x * 2 + (if a then 1 else 0)) ^^^ (y * 2 + (if b then 1 else 0)) := by
  apply Nat.eq_of_testBit_eq
  intro i
  have t : ∀ (z : Nat) (c : Bool), (z * 2 + (if c then 1 else 0)).testBit i = if i = 0 then c else z.testBit (i - 1) := by
    intro z c
    cases i with
    | zero =>
      rw [Nat.testBit_zero]
      cases c <;> simp <;> omega
    | succ i =>
      rw [Nat.testBit_succ]
      have : (z * 2 + (if c then 1 else 0)) / 2 = z := by cases c <;> simp <;> omega
      rw [this]
      simp
  rw [t, Nat.testBit_xor, Nat.testBit_xor, t, t]
  split <;> rfl
theorem vb_go : ∀ (a b : List Bool) (x y : Nat), a.length = b.length → (rx a b).foldl (fun a b => a * 2 + (if b then 1 else 0)) (x ^^^ y) = (a.foldl (fun a b => a * 2 + (if b then 1 else 0)) x) ^^^ (b.foldl (fun a b => a * 2 + (if b then 1 else 0)) y)
  | [], [], x, y, _ => rfl
  | a :: as, b :: bs, x, y, h => by
    have ih := vb_go as bs (x * 2 + (if a then 1 else 0)) (y * 2 + (if b then 1 else 0)) (by simpa using h)
    rw [← two_xor] at ih
    exact ih
theorem vb_xor {a b : List Bool} (h : a.length = b.length) : vb (rx a b) = vb a ^^^ vb b := by
  have := vb_go a b 0 0 h
  rwa [Nat.xor_self] at this
def comb : List Bool → List Nat → Nat
  | b :: c, v :: vs => (if b then v else 0) ^^^ comb c vs
  | _, _ => 0
def Ind (vs : List Nat) : Prop := ∀ c : List Bool, c.length = vs.length → comb c vs = 0 → ∀ b ∈ c, b = false
theorem xor_swap (a b c : Nat) : a ^^^ (b ^^^ c) = b ^^^ (a ^^^ c) := by rw [← Nat.xor_assoc, Nat.xor_comm a b, Nat.xor_assoc]
theorem comb_val : ∀ (c : List Bool) (vs : List Nat) (f : Nat) (x v : Nat) (b : Bool), c.length = vs.length → vs[f]? = some v → c[f]? = some b → comb c (vs.set f (v ^^^ x)) = comb c vs ^^^ (if b then x else 0)
  | d :: c, w :: vs, 0, x, v, b, _, hv, hb => by
    cases hv; cases hb
    show (if d then w ^^^ x else 0) ^^^ comb c vs = ((if d then w else 0) ^^^ comb c vs) ^^^ (if d then x else 0)
    cases d
    · simp
    · simp only [if_true]
      rw [Nat.xor_assoc, Nat.xor_assoc, Nat.xor_comm x]
  | d :: c, w :: vs, f + 1, x, v, b, h, hv, hb => by
    have ih := comb_val c vs f x v b (by simpa using h) (by simpa using hv) (by simpa using hb)
    show (if d then w else 0) ^^^ comb c (vs.set f (v ^^^ x)) = _
    rw [ih, ← Nat.xor_assoc]
    rfl
theorem comb_coef : ∀ (c : List Bool) (vs : List Nat) (f : Nat) (v : Nat) (b y : Bool), c.length = vs.length → vs[f]? = some v → c[f]? = some b → comb (c.set f (b ^^ y)) vs = comb c vs ^^^ (if y then v else 0)
  | d :: c, w :: vs, 0, v, b, y, _, hv, hb => by
    cases hv; cases hb
    show (if d ^^ y then w else 0) ^^^ comb c vs = ((if d then w else 0) ^^^ comb c vs) ^^^ (if y then w else 0)
    rw [Nat.xor_assoc, Nat.xor_comm (comb c vs), ← Nat.xor_assoc]
    congr 1
    cases d <;> cases y <;> simp
  | d :: c, w :: vs, f + 1, v, b, y, h, hv, hb => by
    have ih := comb_coef c vs f v b y (by simpa using h) (by simpa using hv) (by simpa using hb)
    show (if d then w else 0) ^^^ comb (c.set f (b ^^ y)) vs = _
    rw [ih, ← Nat.xor_assoc]
    rfl
theorem Ind.step {vs : List Nat} (I : Ind vs) {f o : Nat} {x y : Nat} (hf : vs[f]? = some x) (ho : vs[o]? = some y) (ne : f ≠ o) : Ind (vs.set f (x ^^^ y)) := by
  intro c hc h0
  rw [List.length_set] at hc
  have lf := (List.getElem?_eq_some_iff.mp hf).1
  have lo := (List.getElem?_eq_some_iff.mp ho).1
  obtain ⟨bf, ef⟩ : ∃ b, c[f]? = some b := ⟨c[f]'(by omega), List.getElem?_eq_getElem _⟩
  obtain ⟨bo, eo⟩ : ∃ b, c[o]? = some b := ⟨c[o]'(by omega), List.getElem?_eq_getElem _⟩
  rw [comb_val c vs f y x bf hc hf ef, ← comb_coef c vs o y bo bf hc ho eo] at h0
  have h1 := I (c.set o (bo ^^ bf)) (by rw [List.length_set]; exact hc) h0
  have g : ∀ (i : Nat) (b : Bool), (c.set o (bo ^^ bf))[i]? = some b → b = false := fun i b e => h1 b (List.mem_of_getElem? e)
  have f0 : bf = false := g f bf (by rw [List.getElem?_set_ne (Ne.symm ne)]; exact ef)
  intro b hb
  obtain ⟨i, hi⟩ := List.getElem?_of_mem hb
  by_cases e : i = o
  · subst e
    rw [eo] at hi
    cases hi
    have := g i (bo ^^ bf) (by rw [List.getElem?_set_self (by omega)])
    rw [f0] at this
    simpa using this
  · exact g i b (by rw [List.getElem?_set_ne (Ne.symm e)]; exact hi)
def Spn (vs : List Nat) (x : Nat) : Prop := ∃ c : List Bool, c.length = vs.length ∧ comb c vs = x
theorem comb_snoc : ∀ (c : List Bool) (vs : List Nat) (b : Bool) (v : Nat), c.length = vs.length → comb (c ++ [b]) (vs ++ [v]) = comb c vs ^^^ (if b then v else 0)
  | [], [], b, v, _ => by simp [comb]
  | [], _ :: _, _, _, h => by simp at h
  | _ :: _, [], _, _, h => by simp at h
  | d :: c, w :: vs, b, v, h => by
    have ih := comb_snoc c vs b v (by simpa using h)
    show (if d then w else 0) ^^^ comb (c ++ [b]) (vs ++ [v]) = _
    rw [ih, ← Nat.xor_assoc]
    rfl
theorem comb_rx : ∀ (c d : List Bool) (vs : List Nat), c.length = vs.length → d.length = vs.length → comb (rx c d) vs = comb c vs ^^^ comb d vs
  | [], [], [], _, _ => rfl
  | [], _, _ :: _, h1, _ => by simp at h1
  | _ :: _, _, [], h1, _ => by simp at h1
  | _, [], _ :: _, _, h2 => by simp at h2
  | _, _ :: _, [], _, h2 => by simp at h2
  | a :: c, b :: d, v :: vs, h1, h2 => by
    have ih := comb_rx c d vs (by simpa using h1) (by simpa using h2)
    show (if a ^^ b then v else 0) ^^^ comb (rx c d) vs = ((if a then v else 0) ^^^ comb c vs) ^^^ ((if b then v else 0) ^^^ comb d vs)
    rw [ih]
    cases a <;> cases b
    · simp
    · simp only [Bool.false_bne, if_true, Bool.false_eq_true, if_false, Nat.zero_xor]
      show v ^^^ (comb c vs ^^^ comb d vs) = comb c vs ^^^ (v ^^^ comb d vs)
      exact xor_swap _ _ _
    · simp only [if_true, Bool.false_eq_true, if_false, Nat.zero_xor]
      show v ^^^ (comb c vs ^^^ comb d vs) = (v ^^^ comb c vs) ^^^ comb d vs
      exact (Nat.xor_assoc _ _ _).symm
    · show 0 ^^^ (comb c vs ^^^ comb d vs) = (v ^^^ comb c vs) ^^^ (v ^^^ comb d vs)
      rw [Nat.zero_xor, Nat.xor_comm v (comb c vs), Nat.xor_assoc, ← Nat.xor_assoc v v, Nat.xor_self, Nat.zero_xor]
theorem Spn.xor {vs : List Nat} {x y : Nat} (a : Spn vs x) (b : Spn vs y) : Spn vs (x ^^^ y) := by
  obtain ⟨c, h1, e1⟩ := a
  obtain ⟨d, h2, e2⟩ := b
  refine ⟨rx c d, by simp [rx, h1, h2], ?_⟩
  rw [comb_rx c d vs h1 h2, e1, e2]
theorem comb_zero : ∀ vs : List Nat, comb (List.replicate vs.length false) vs = 0
  | [] => rfl
  | v :: vs => by
    show (0 ^^^ comb (List.replicate vs.length false) vs) = 0
    rw [comb_zero vs]
    rfl
theorem Spn.zero (vs : List Nat) : Spn vs 0 := ⟨List.replicate vs.length false, by simp, comb_zero vs⟩
theorem Spn.snoc {vs : List Nat} {x v : Nat} (a : Spn vs x) : Spn (vs ++ [v]) x := by
  obtain ⟨c, h1, e1⟩ := a
  refine ⟨c ++ [false], by simp [h1], ?_⟩
  rw [comb_snoc c vs false v h1, e1]
  simp
theorem Spn.last (vs : List Nat) (v : Nat) : Spn (vs ++ [v]) v := by
  refine ⟨List.replicate vs.length false ++ [true], by simp, ?_⟩
  rw [comb_snoc _ _ _ _ (by simp), comb_zero]
  simp
theorem comb_app : ∀ (c d : List Bool) (vs ws : List Nat), c.length = vs.length → comb (c ++ d) (vs ++ ws) = comb c vs ^^^ comb d ws
  | [], d, [], ws, _ => by simp [comb]
  | [], _, _ :: _, _, h => by simp at h
  | _ :: _, _, [], _, h => by simp at h
  | b :: c, d, v :: vs, ws, h => by
    have ih := comb_app c d vs ws (by simpa using h)
    show (if b then v else 0) ^^^ comb (c ++ d) (vs ++ ws) = _
    rw [ih, ← Nat.xor_assoc]
    rfl

theorem Spn.mem {vs : List Nat} {x : Nat} (h : x ∈ vs) : Spn vs x := by
  obtain ⟨a, b, rfl⟩ := List.append_of_mem h
  refine ⟨List.replicate a.length false ++ true :: List.replicate b.length false, by simp, ?_⟩
  rw [comb_app _ _ _ _ (by simp), comb_zero]
  show 0 ^^^ (x ^^^ comb (List.replicate b.length false) b) = x
  rw [comb_zero]
  simp
theorem comb_spn {vs ws : List Nat} (h : ∀ v ∈ vs, Spn ws v) : ∀ (c : List Bool), Spn ws (comb c vs) := by
  induction vs with
  | nil => intro c; cases c <;> exact Spn.zero ws
  | cons v vs ih =>
    intro c
    cases c with
    | nil => exact Spn.zero ws
    | cons b c =>
      show Spn ws ((if b then v else 0) ^^^ comb c vs)
      refine Spn.xor ?_ (ih (fun x m => h x (List.mem_cons_of_mem _ m)) c)
      cases b
      · exact Spn.zero ws
      · exact h v (List.mem_cons_self ..)
theorem Spn.sub {vs ws : List Nat} (h : ∀ v ∈ vs, Spn ws v) {x : Nat} (s : Spn vs x) : Spn ws x := by
  obtain ⟨c, _, rfl⟩ := s
  exact comb_spn h c
theorem top_bit {x : Nat} (h : x ≠ 0) : x.testBit x.log2 = true := Nat.testBit_log2 h
theorem over_bit {x i : Nat} (h : x.log2 < i) : x.testBit i = false := by
  refine Nat.testBit_lt_two_pow ?_
  exact Nat.lt_of_lt_of_le Nat.lt_log2_self (Nat.pow_le_pow_right (by decide) h)
theorem le_top {x i : Nat} (h : x.testBit i = true) : i ≤ x.log2 := by
  refine Classical.byContradiction fun z => ?_
  rw [over_bit (by omega)] at h
  cases h
theorem log2_of {x i : Nat} (h : x.testBit i = true) (h2 : ∀ j, i < j → x.testBit j = false) : x.log2 = i := by
  have nz : x ≠ 0 := by intro z; rw [z] at h; simp at h
  have h3 := le_top h
  refine Nat.le_antisymm (Classical.byContradiction fun z => ?_) h3
  have := h2 x.log2 (by omega)
  rw [top_bit nz] at this
  cases this
structure RR (R : List Nat) : Prop where
  nz : ∀ x ∈ R, x ≠ 0
  red : R.Pairwise fun p q => p.testBit q.log2 = false ∧ q.testBit p.log2 = false
theorem comb_bit {k : Nat} : ∀ {R : List Nat} {c : List Bool}, (∀ x ∈ R, x.testBit k = false) → (comb c R).testBit k = false
  | [], c, _ => by cases c <;> exact Nat.zero_testBit k
  | r :: rs, [], _ => Nat.zero_testBit k
  | r :: rs, b :: c, h => by
    show ((if b then r else 0) ^^^ comb c rs).testBit k = false
    rw [Nat.testBit_xor, comb_bit fun x m => h x (List.mem_cons_of_mem _ m)]
    cases b
    · simp
    · simp [h r (List.mem_cons_self ..)]
theorem RR.tail {r : Nat} {R : List Nat} (h : RR (r :: R)) : RR R := ⟨fun x m => h.nz x (List.mem_cons_of_mem _ m), (List.pairwise_cons.mp h.red).2⟩
theorem RR.coef : ∀ {R : List Nat} {c : List Bool} {i r : Nat} {b : Bool}, RR R → c.length = R.length → R[i]? = some r → c[i]? = some b → (comb c R).testBit r.log2 = b
  | [], _, _, _, _, _, _, h, _ => by simp at h
  | r :: rs, [], _, _, _, _, h, _, _ => by simp at h
  | r :: rs, d :: c, i, x, b, h, hl, hr, hb => by
    have hp := List.pairwise_cons.mp h.red
    show ((if d then r else 0) ^^^ comb c rs).testBit x.log2 = b
    cases i with
    | zero =>
      simp at hr hb
      subst hr hb
      rw [Nat.testBit_xor, comb_bit fun y m => (hp.1 y m).2]
      cases d
      · simp
      · simp [top_bit (h.nz r (List.mem_cons_self ..))]
    | succ i =>
      simp at hr hb hl
      have m : x ∈ rs := List.mem_of_getElem? hr
      rw [Nat.testBit_xor, RR.coef h.tail hl hr hb]
      cases d
      · simp
      · simp [(hp.1 x m).1]
theorem RR.zero {R : List Nat} (h : RR R) {v : Nat} (s : Spn R v) (hz : ∀ r ∈ R, v.testBit r.log2 = false) : v = 0 := by
  obtain ⟨c, hc, rfl⟩ := s
  have : c = List.replicate R.length false := by
    apply List.ext_getElem
    · simp [hc]
    · intro i h1 h2
      have hi : i < R.length := by omega
      have e := h.coef hc (List.getElem?_eq_getElem hi) (List.getElem?_eq_getElem h1)
      rw [hz _ (List.getElem_mem hi)] at e
      simp [← e]
  rw [this, comb_zero]
theorem RR.ind {R : List Nat} (h : RR R) : Ind R := by
  intro c hc h0 b hb
  obtain ⟨i, hi⟩ := List.getElem?_of_mem hb
  have h1 := (List.getElem?_eq_some_iff.mp hi).1
  have e := h.coef hc (List.getElem?_eq_getElem (by omega : i < R.length)) hi
  rw [h0, Nat.zero_testBit] at e
  exact e.symm
theorem RR.uniq {R : List Nat} (h : RR R) {x y : Nat} (hx : x ∈ R) (hy : y ∈ R) (ne : x ≠ y) : x.testBit y.log2 = false := by
  obtain ⟨i, hi⟩ := List.getElem?_of_mem hx
  obtain ⟨j, hj⟩ := List.getElem?_of_mem hy
  have li := (List.getElem?_eq_some_iff.mp hi).1
  have lj := (List.getElem?_eq_some_iff.mp hj).1
  have hp := List.pairwise_iff_getElem.mp h.red
  have ei : R[i] = x := (List.getElem?_eq_some_iff.mp hi).2
  have ej : R[j] = y := (List.getElem?_eq_some_iff.mp hj).2
  rcases Nat.lt_trichotomy i j with z | z | z
  · have := (hp i j li lj z).1
    rwa [ei, ej] at this
  · subst z
    rw [ei] at ej
    exact absurd ej ne
  · have := (hp j i lj li z).2
    rwa [ei, ej] at this
theorem comb_top : ∀ {R : List Nat} {c : List Bool}, comb c R ≠ 0 → (∀ r ∈ R, r ≠ 0) → (∀ r ∈ R, ∀ s ∈ R, r ≠ s → r.log2 ≠ s.log2) → R.Nodup → ∃ r ∈ R, (comb c R).log2 = r.log2
  | [], c, h, _, _, _ => by cases c <;> exact absurd rfl h
  | r :: rs, [], h, _, _, _ => absurd rfl h
  | r :: rs, b :: c, h, nz, hd, nd => by
    have hrec : comb c rs ≠ 0 → ∃ s ∈ rs, (comb c rs).log2 = s.log2 := fun z => comb_top z (fun x m => nz x (List.mem_cons_of_mem _ m)) (fun x m y m2 => hd x (List.mem_cons_of_mem _ m) y (List.mem_cons_of_mem _ m2)) (List.nodup_cons.mp nd).2
    have e : comb (b :: c) (r :: rs) = (if b then r else 0) ^^^ comb c rs := rfl
    cases b with
    | false =>
      have e' : comb (false :: c) (r :: rs) = comb c rs := by rw [e]; simp
      rw [e'] at h ⊢
      obtain ⟨s, m, q⟩ := hrec h
      exact ⟨s, List.mem_cons_of_mem _ m, q⟩
    | true =>
      have e' : comb (true :: c) (r :: rs) = r ^^^ comb c rs := by rw [e]; simp
      rw [e']
      by_cases z : comb c rs = 0
      · rw [z, Nat.xor_zero]
        exact ⟨r, List.mem_cons_self .., rfl⟩
      · obtain ⟨s, m, q⟩ := hrec z
        have hne : r ≠ s := fun w => (List.nodup_cons.mp nd).1 (w ▸ m)
        have hl := hd r (List.mem_cons_self ..) s (List.mem_cons_of_mem _ m) hne
        have rz := nz r (List.mem_cons_self ..)
        rcases Nat.lt_or_ge r.log2 s.log2 with w | w
        · refine ⟨s, List.mem_cons_of_mem _ m, log2_of ?_ fun j hj => ?_⟩
          · rw [Nat.testBit_xor, over_bit w, ← q, top_bit z]; rfl
          · rw [Nat.testBit_xor, over_bit (by omega), over_bit (by omega)]; rfl
        · have w : s.log2 < r.log2 := by omega
          refine ⟨r, List.mem_cons_self .., log2_of ?_ fun j hj => ?_⟩
          · rw [Nat.testBit_xor, top_bit rz, over_bit (x := comb c rs) (by omega)]; rfl
          · rw [Nat.testBit_xor, over_bit (by omega), over_bit (by omega)]; rfl
theorem RR.leads {R : List Nat} (h : RR R) : ∀ r ∈ R, ∀ s ∈ R, r ≠ s → r.log2 ≠ s.log2 := fun r hr s hs ne e => by
  have := h.uniq hr hs ne
  rw [← e, top_bit (h.nz r hr)] at this
  cases this
theorem RR.nodup {R : List Nat} (h : RR R) : R.Nodup := by
  refine h.red.imp_of_mem fun {p q} hp _ z e => ?_
  subst e
  rw [top_bit (h.nz p hp)] at z
  cases z.1
theorem RR.top {R : List Nat} (h : RR R) {v : Nat} (s : Spn R v) (nz : v ≠ 0) : ∃ r ∈ R, v.log2 = r.log2 := by
  obtain ⟨c, _, rfl⟩ := s
  exact comb_top nz h.nz h.leads h.nodup
theorem RR.sub {R R' : List Nat} (h : RR R) (h' : RR R') (e : ∀ x, Spn R x ↔ Spn R' x) {x : Nat} (hx : x ∈ R) : x ∈ R' := by
  obtain ⟨r', hr', el⟩ := h'.top ((e x).mp (Spn.mem hx)) (h.nz x hx)
  have hz : x ^^^ r' = 0 := by
    refine h.zero (Spn.xor (Spn.mem hx) ((e r').mpr (Spn.mem hr'))) fun s hs => ?_
    rw [Nat.testBit_xor]
    by_cases z : s = x
    · subst z
      rw [top_bit (h.nz s hs), el, top_bit (h'.nz r' hr')]; rfl
    · rw [h.uniq hx hs (Ne.symm z)]
      obtain ⟨s', hs', el'⟩ := h'.top ((e s).mp (Spn.mem hs)) (h.nz s hs)
      have hne : r' ≠ s' := fun w => by
        rw [← w, ← el] at el'
        exact h.leads s hs x hx z el'
      rw [el', h'.uniq hr' hs' hne]; rfl
  have : x = r' := by
    have h1 : x ^^^ r' ^^^ r' = x := by rw [Nat.xor_assoc, Nat.xor_self, Nat.xor_zero]
    rw [hz, Nat.zero_xor] at h1
    exact h1.symm
  rw [this]; exact hr'
theorem sorted_eq : ∀ {R R' : List Nat}, R.Pairwise (· > ·) → R'.Pairwise (· > ·) → (∀ x, x ∈ R ↔ x ∈ R') → R = R'
  | [], [], _, _, _ => rfl
  | [], y :: _, _, _, h => absurd ((h y).mpr (List.mem_cons_self ..)) (by simp)
  | x :: _, [], _, _, h => absurd ((h x).mp (List.mem_cons_self ..)) (by simp)
  | x :: R, y :: R', h1, h2, h => by
    obtain ⟨a1, a2⟩ := List.pairwise_cons.mp h1
    obtain ⟨b1, b2⟩ := List.pairwise_cons.mp h2
    have exy : x = y := by
      rcases List.mem_cons.mp ((h x).mp (List.mem_cons_self ..)) with e | m
      · exact e
      · rcases List.mem_cons.mp ((h y).mpr (List.mem_cons_self ..)) with e | m2
        · exact e.symm
        · have := b1 x m
          have := a1 y m2
          omega
    subst exy
    rw [sorted_eq a2 b2 fun z => ⟨fun m => ?_, fun m => ?_⟩]
    · rcases List.mem_cons.mp ((h z).mp (List.mem_cons_of_mem _ m)) with e | m2
      · subst e
        have : z > z := a1 z m
        omega
      · exact m2
    · rcases List.mem_cons.mp ((h z).mpr (List.mem_cons_of_mem _ m)) with e | m2
      · subst e
        have : z > z := b1 z m
        omega
      · exact m2
theorem RR.unique {R R' : List Nat} (h : RR R) (h' : RR R') (s : R.Pairwise (· > ·)) (s' : R'.Pairwise (· > ·)) (e : ∀ x, Spn R x ↔ Spn R' x) : R = R' :=
  sorted_eq s s' fun x => ⟨h.sub h' e, h'.sub h fun x => (e x).symm⟩
end QC
set_option Elab.async false
set_option linter.all false
namespace QC
def msk (m n : Nat) : List Bool := (List.range n).map fun i => m.testBit i
def combM (m : Nat) (rows : List Nat) : Nat := comb (msk m rows.length) rows
theorem msk_len (m n : Nat) : (msk m n).length = n := by simp [msk]
theorem msk_xor (a b n : Nat) : msk (a ^^^ b) n = rx (msk a n) (msk b n) := by
  unfold msk rx
  apply List.ext_getElem
  · simp
  · intro i h1 h2
    simp
theorem combM_xor (a b : Nat) (rows : List Nat) : combM (a ^^^ b) rows = combM a rows ^^^ combM b rows := by
  unfold combM
  rw [msk_xor, comb_rx _ _ _ (msk_len _ _) (msk_len _ _)]
theorem msk_pow {i n : Nat} (h : i < n) : msk (2 ^ i) n = List.replicate i false ++ true :: List.replicate (n - i - 1) false := by
  unfold msk
  apply List.ext_getElem
  · simp; omega
  · intro j h1 h2
    simp only [List.getElem_map, List.getElem_range, Nat.testBit_two_pow]
    rcases Nat.lt_trichotomy j i with z | z | z
    · rw [List.getElem_append_left (by simpa using z)]
      simp; omega
    · subst z
      rw [List.getElem_append_right (by simp)]
      simp
    · rw [List.getElem_append_right (by simp; omega)]
      have : j - (List.replicate i false).length = (j - i - 1) + 1 := by simp; omega
      simp only [this, List.getElem_cons_succ, List.getElem_replicate]
      simp; omega
theorem combM_pow {rows : List Nat} {i r : Nat} (h : rows[i]? = some r) : combM (2 ^ i) rows = r := by
  obtain ⟨hi, e⟩ := List.getElem?_eq_some_iff.mp h
  unfold combM
  rw [msk_pow hi]
  have er : rows = rows.take i ++ r :: rows.drop (i + 1) := by
    rw [← e, List.getElem_cons_drop, List.take_append_drop]
  have hl : (rows.take i).length = i := by rw [List.length_take]; omega
  have hd : (rows.drop (i + 1)).length = rows.length - i - 1 := by rw [List.length_drop]; omega
  have key := comb_app (List.replicate i false) (true :: List.replicate (rows.length - i - 1) false) (rows.take i) (r :: rows.drop (i + 1)) (by simp [hl])
  rw [← er] at key
  rw [key]
  have z1 := comb_zero (rows.take i)
  rw [hl] at z1
  have z2 := comb_zero (rows.drop (i + 1))
  rw [hd] at z2
  rw [z1]
  show 0 ^^^ (r ^^^ comb (List.replicate (rows.length - i - 1) false) (rows.drop (i + 1))) = r
  rw [z2]
  simp
abbrev Fd := List (Nat × Nat)
def redStep (p q : Nat × Nat) : Nat × Nat := if p.1.testBit q.1.log2 then (p.1 ^^^ q.1, p.2 ^^^ q.2) else p
def redRow (F : Fd) (p : Nat × Nat) : Nat × Nat := F.foldl redStep p
def clrStep (q o : Nat × Nat) : Nat × Nat := if o.1.testBit q.1.log2 then (o.1 ^^^ q.1, o.2 ^^^ q.2) else o
def addRow (F : Fd) (p : Nat × Nat) : Fd := if (redRow F p).1 = 0 then F else F.map (clrStep (redRow F p)) ++ [redRow F p]
def rrGo : Nat → Fd → List Nat → Fd
  | _, F, [] => F
  | i, F, r :: rs => rrGo (i + 1) (addRow F (r, 2 ^ i)) rs
def rr (rows : List Nat) : Fd := rrGo 0 [] rows
theorem red_go {rows : List Nat} {k : Nat} : ∀ (rest dn : Fd) (p : Nat × Nat), RR ((dn ++ rest).map (·.1)) → (∀ o ∈ dn, p.1.testBit o.1.log2 = false) → combM p.2 rows = p.1 → p.2 < 2 ^ k → (∀ o ∈ dn ++ rest, combM o.2 rows = o.1 ∧ o.2 < 2 ^ k) →
    (∀ o ∈ dn ++ rest, (rest.foldl redStep p).1.testBit o.1.log2 = false) ∧ Spn ((dn ++ rest).map (·.1)) (p.1 ^^^ (rest.foldl redStep p).1) ∧ combM (rest.foldl redStep p).2 rows = (rest.foldl redStep p).1 ∧ (rest.foldl redStep p).2 < 2 ^ k
  | [], dn, p, _, h1, h2, h3, _ => by
    rw [List.append_nil]
    exact ⟨h1, by rw [List.foldl_nil, Nat.xor_self]; exact Spn.zero _, h2, h3⟩
  | q :: rest, dn, p, R, h1, h2, h3, h4 => by
    have e : dn ++ q :: rest = (dn ++ [q]) ++ rest := by simp
    have mq : q.1 ∈ (dn ++ q :: rest).map (·.1) := List.mem_map.mpr ⟨q, by simp, rfl⟩
    have hq := h4 q (by simp)
    have nq := R.nz _ mq
    have step : (∀ o ∈ dn ++ [q], (redStep p q).1.testBit o.1.log2 = false) ∧ combM (redStep p q).2 rows = (redStep p q).1 ∧ (redStep p q).2 < 2 ^ k ∧ Spn ((dn ++ q :: rest).map (·.1)) (p.1 ^^^ (redStep p q).1) := by
      unfold redStep
      by_cases hb : p.1.testBit q.1.log2 = true
      · rw [if_pos hb]
        refine ⟨fun o ho => ?_, by rw [combM_xor, h2, hq.1], Nat.xor_lt_two_pow h3 hq.2, ?_⟩
        · rw [Nat.testBit_xor]
          rcases List.mem_append.mp ho with m | m
          · have mo : o.1 ∈ (dn ++ q :: rest).map (·.1) := List.mem_map.mpr ⟨o, by simp [m], rfl⟩
            rw [h1 o m]
            by_cases z : q.1 = o.1
            · have := h1 o m
              rw [← z, hb] at this
              cases this
            · rw [R.uniq mq mo z]; rfl
          · have : o = q := by simpa using m
            subst this
            rw [hb, top_bit nq]; rfl
        · rw [← Nat.xor_assoc, Nat.xor_self, Nat.zero_xor]
          exact Spn.mem mq
      · rw [if_neg hb]
        refine ⟨fun o ho => ?_, h2, h3, by rw [Nat.xor_self]; exact Spn.zero _⟩
        rcases List.mem_append.mp ho with m | m
        · exact h1 o m
        · have : o = q := by simpa using m
          subst this
          simpa using hb
    rw [List.foldl_cons]
    obtain ⟨a1, a2, a3, a4⟩ := red_go rest (dn ++ [q]) (redStep p q) (by rw [← e]; exact R) step.1 step.2.1 step.2.2.1 (by rw [← e]; exact h4)
    rw [← e] at a1 a2
    refine ⟨a1, ?_, a3, a4⟩
    have := step.2.2.2.xor a2
    rw [← Nat.xor_assoc, Nat.xor_assoc p.1, Nat.xor_self, Nat.xor_zero] at this
    exact this
structure FO (rows : List Nat) (k : Nat) (F : Fd) : Prop where
  rr : RR (F.map (·.1))
  mm : ∀ p ∈ F, combM p.2 rows = p.1 ∧ p.2 < 2 ^ k
  sp : ∀ x ∈ rows.take k, Spn (F.map (·.1)) x
  ps : ∀ p ∈ F, Spn (rows.take k) p.1
  ln : F.length ≤ k
  id : F.length = k ↔ Ind (rows.take k)
theorem FO.span {rows : List Nat} {k : Nat} {F : Fd} (h : FO rows k F) (x : Nat) : Spn (F.map (·.1)) x ↔ Spn (rows.take k) x :=
  ⟨fun s => s.sub fun v m => by obtain ⟨p, hp, rfl⟩ := List.mem_map.mp m; exact h.ps p hp, fun s => s.sub h.sp⟩
theorem ind_nil : Ind [] := fun c h _ b hb => by
  have : c = [] := List.eq_nil_of_length_eq_zero h
  rw [this] at hb
  simp at hb
theorem ind_snoc {vs : List Nat} {v : Nat} : Ind (vs ++ [v]) ↔ Ind vs ∧ ¬ Spn vs v := by
  constructor
  · intro I
    refine ⟨fun c hc h0 b hb => ?_, fun ⟨c, hc, e⟩ => ?_⟩
    · refine I (c ++ [false]) (by simp [hc]) ?_ b (by simp [hb])
      rw [comb_snoc c vs false v hc, h0]; simp
    · have := I (c ++ [true]) (by simp [hc]) (by rw [comb_snoc c vs true v hc, e]; simp) true (by simp)
      cases this
  · rintro ⟨I, ns⟩ c hc h0 b hb
    have hc' : c.length = vs.length + 1 := by simpa using hc
    obtain ⟨d, l, rfl⟩ : ∃ d l, c = d ++ [l] := ⟨c.dropLast, c.getLast (by intro z; rw [z] at hc'; simp at hc'), (List.dropLast_concat_getLast _).symm⟩
    have hd : d.length = vs.length := by simpa using hc'
    rw [comb_snoc d vs l v hd] at h0
    have hl : l = false := by
      cases l
      · rfl
      · refine absurd ⟨d, hd, ?_⟩ ns
        simp only [if_true] at h0
        have : comb d vs ^^^ v ^^^ v = comb d vs := by rw [Nat.xor_assoc, Nat.xor_self, Nat.xor_zero]
        rw [h0, Nat.zero_xor] at this
        exact this.symm
    subst hl
    rcases List.mem_append.mp hb with m | m
    · exact I d hd (by simpa using h0) b m
    · simpa using m
theorem clr_log {q o : Nat × Nat} (nz : o.1 ≠ 0) (h : q.1.testBit o.1.log2 = false) (hq : q.1 ≠ 0) : (clrStep q o).1.log2 = o.1.log2 ∧ (clrStep q o).1 ≠ 0 := by
  unfold clrStep
  by_cases hb : o.1.testBit q.1.log2 = true
  · rw [if_pos hb]
    have h1 := le_top hb
    have hlt : q.1.log2 < o.1.log2 := by
      rcases Nat.lt_or_ge q.1.log2 o.1.log2 with z | z
      · exact z
      · have : q.1.log2 = o.1.log2 := by omega
        rw [← this, top_bit hq] at h
        cases h
    have e : (o.1 ^^^ q.1).log2 = o.1.log2 := log2_of (by rw [Nat.testBit_xor, top_bit nz, h]; rfl) fun j hj => by
      rw [Nat.testBit_xor, over_bit hj, over_bit (by omega)]; rfl
    refine ⟨e, fun z => ?_⟩
    have t : (o.1 ^^^ q.1).testBit o.1.log2 = true := by rw [Nat.testBit_xor, top_bit nz, h]; rfl
    have z' : o.1 ^^^ q.1 = 0 := z
    rw [z', Nat.zero_testBit] at t
    cases t
  · rw [if_neg hb]
    exact ⟨rfl, nz⟩
theorem clr_bit {q o : Nat × Nat} {i : Nat} (h : q.1.testBit i = false) : (clrStep q o).1.testBit i = o.1.testBit i := by
  unfold clrStep
  split
  · show (o.1 ^^^ q.1).testBit i = _
    rw [Nat.testBit_xor, h]; simp
  · rfl
theorem clr_own {q o : Nat × Nat} (hq : q.1 ≠ 0) : (clrStep q o).1.testBit q.1.log2 = false := by
  unfold clrStep
  split
  · rename_i h
    show (o.1 ^^^ q.1).testBit q.1.log2 = false
    rw [Nat.testBit_xor, h, top_bit hq]; rfl
  · rename_i h
    simpa using h
theorem FO.next {rows : List Nat} {k r : Nat} {F : Fd} (h : FO rows k F) (hr : rows[k]? = some r) : FO rows (k + 1) (addRow F (r, 2 ^ k)) := by
  have htk : rows.take (k + 1) = rows.take k ++ [r] := by rw [List.take_add_one, hr]; rfl
  have hp : 2 ^ k < 2 ^ (k + 1) := Nat.pow_lt_pow_right (by decide) (by omega)
  obtain ⟨a1, a2, a3, a4⟩ := red_go (rows := rows) (k := k + 1) F [] (r, 2 ^ k) h.rr (by simp) (combM_pow hr) hp (fun o ho => ⟨(h.mm o ho).1, Nat.lt_trans (h.mm o ho).2 hp⟩)
  simp only [List.nil_append] at a1 a2
  have e0 : (F.foldl redStep (r, 2 ^ k)) = redRow F (r, 2 ^ k) := rfl
  rw [e0] at a1 a2 a3 a4
  generalize hq : redRow F (r, 2 ^ k) = q at a1 a2 a3 a4
  have a2 : Spn (F.map (·.1)) (r ^^^ q.1) := a2
  have up : ∀ {x : Nat}, Spn (rows.take k) x → Spn (rows.take (k + 1)) x := fun s => by rw [htk]; exact s.snoc
  have rl : Spn (rows.take (k + 1)) r := by rw [htk]; exact Spn.last _ _
  by_cases z : q.1 = 0
  · have ea : addRow F (r, 2 ^ k) = F := by unfold addRow; rw [hq, if_pos z]
    rw [z, Nat.xor_zero] at a2
    rw [ea]
    refine ⟨h.rr, fun p m => ⟨(h.mm p m).1, Nat.lt_trans (h.mm p m).2 hp⟩, fun x hx => ?_, fun p m => up (h.ps p m), by have := h.ln; omega, ?_⟩
    · rw [htk] at hx
      rcases List.mem_append.mp hx with m | m
      · exact h.sp x m
      · have : x = r := by simpa using m
        subst this; exact a2
    · rw [htk, ind_snoc]
      constructor
      · intro e
        have := h.ln
        omega
      · rintro ⟨_, ns⟩
        exact absurd ((h.span r).mp a2) ns
  · have ea : addRow F (r, 2 ^ k) = F.map (clrStep q) ++ [q] := by unfold addRow; rw [hq, if_neg z]
    rw [ea]
    have nzF : ∀ o ∈ F, o.1 ≠ 0 := fun o m => h.rr.nz _ (List.mem_map.mpr ⟨o, m, rfl⟩)
    have cl : ∀ o ∈ F, (clrStep q o).1.log2 = o.1.log2 ∧ (clrStep q o).1 ≠ 0 := fun o m => clr_log (nzF o m) (a1 o m) z
    have spq : Spn (rows.take (k + 1)) q.1 := by
      have s1 := (up ((h.span _).mp a2)).xor rl
      rw [Nat.xor_comm r, Nat.xor_assoc, Nat.xor_self, Nat.xor_zero] at s1
      exact s1
    have RRn : RR ((F.map (clrStep q) ++ [q]).map (·.1)) := by
      refine ⟨fun x hx => ?_, ?_⟩
      · obtain ⟨p, hp, rfl⟩ := List.mem_map.mp hx
        rcases List.mem_append.mp hp with m | m
        · obtain ⟨o, ho, rfl⟩ := List.mem_map.mp m
          exact (cl o ho).2
        · have : p = q := by simpa using m
          subst this; exact z
      · rw [List.map_append, List.map_map, List.pairwise_append]
        refine ⟨?_, by simp, fun x hx y hy => ?_⟩
        · rw [List.pairwise_map]
          have hF := List.pairwise_map.mp h.rr.red
          refine hF.imp_of_mem fun {a b} ma mb hab => ?_
          show (clrStep q a).1.testBit (clrStep q b).1.log2 = false ∧ (clrStep q b).1.testBit (clrStep q a).1.log2 = false
          rw [(cl a ma).1, (cl b mb).1, clr_bit (a1 b mb), clr_bit (a1 a ma)]
          exact hab
        · obtain ⟨o, ho, rfl⟩ := List.mem_map.mp hx
          have : y = q.1 := by simpa using hy
          subst this
          show (clrStep q o).1.testBit q.1.log2 = false ∧ q.1.testBit (clrStep q o).1.log2 = false
          rw [(cl o ho).1]
          exact ⟨clr_own z, a1 o ho⟩
    have memq : Spn ((F.map (clrStep q) ++ [q]).map (·.1)) q.1 := Spn.mem (List.mem_map.mpr ⟨q, by simp, rfl⟩)
    have memF : ∀ o ∈ F, Spn ((F.map (clrStep q) ++ [q]).map (·.1)) o.1 := fun o ho => by
      have m1 : Spn ((F.map (clrStep q) ++ [q]).map (·.1)) (clrStep q o).1 := Spn.mem (List.mem_map.mpr ⟨clrStep q o, by simp; exact .inl ⟨o.1, o.2, ho, rfl⟩, rfl⟩)
      by_cases hb : o.1.testBit q.1.log2 = true
      · have e : (clrStep q o).1 = o.1 ^^^ q.1 := by unfold clrStep; rw [if_pos hb]
        rw [e] at m1
        have := m1.xor memq
        rw [Nat.xor_assoc, Nat.xor_self, Nat.xor_zero] at this
        exact this
      · have e : (clrStep q o).1 = o.1 := by unfold clrStep; rw [if_neg hb]
        rw [e] at m1
        exact m1
    have subF : ∀ {x : Nat}, Spn (F.map (·.1)) x → Spn ((F.map (clrStep q) ++ [q]).map (·.1)) x := fun s => s.sub fun v m => by
      obtain ⟨o, ho, rfl⟩ := List.mem_map.mp m
      exact memF o ho
    refine ⟨RRn, fun p hp => ?_, fun x hx => ?_, fun p hp => ?_, by have := h.ln; simp; exact this, ?_⟩
    · rcases List.mem_append.mp hp with m | m
      · obtain ⟨o, ho, rfl⟩ := List.mem_map.mp m
        have h1 := h.mm o ho
        have h2 : o.2 < 2 ^ (k + 1) := Nat.lt_trans h1.2 (Nat.pow_lt_pow_right (by decide) (by omega))
        unfold clrStep
        split
        · exact ⟨by show combM (o.2 ^^^ q.2) rows = o.1 ^^^ q.1; rw [combM_xor, h1.1, a3], Nat.xor_lt_two_pow h2 a4⟩
        · exact ⟨h1.1, h2⟩
      · have : p = q := by simpa using m
        subst this
        exact ⟨a3, a4⟩
    · rw [htk] at hx
      rcases List.mem_append.mp hx with m | m
      · exact subF (h.sp x m)
      · have : x = r := by simpa using m
        subst this
        have s1 := (subF a2).xor memq
        rw [Nat.xor_assoc, Nat.xor_self, Nat.xor_zero] at s1
        exact s1
    · rcases List.mem_append.mp hp with m | m
      · obtain ⟨o, ho, rfl⟩ := List.mem_map.mp m
        unfold clrStep
        split
        · exact (up (h.ps o ho)).xor spq
        · exact up (h.ps o ho)
      · have : p = q := by simpa using m
        subst this
        exact spq
    · rw [htk, ind_snoc, ← h.id]
      simp only [List.length_append, List.length_map, List.length_cons, List.length_nil]
      refine ⟨fun e => ⟨by omega, fun s => ?_⟩, fun e => by omega⟩
      have s1 := ((h.span r).mpr s).xor a2
      rw [← Nat.xor_assoc, Nat.xor_self, Nat.zero_xor] at s1
      exact z (h.rr.zero s1 fun x hx => by obtain ⟨o, ho, rfl⟩ := List.mem_map.mp hx; exact a1 o ho)
theorem rrGo_ok {rows : List Nat} : ∀ (rest : List Nat) (i : Nat) (F : Fd), rows.drop i = rest → FO rows i F → i + rest.length = rows.length → FO rows rows.length (rrGo i F rest)
  | [], i, F, _, h, hl => by
    have : i = rows.length := by simpa using hl
    subst this
    exact h
  | r :: rest, i, F, hd, h, hl => by
    have hr : rows[i]? = some r := by
      have : (rows.drop i)[0]? = some r := by rw [hd]; rfl
      rwa [List.getElem?_drop, Nat.add_zero] at this
    refine rrGo_ok rest (i + 1) _ ?_ (h.next hr) (by simp at hl; omega)
    rw [← List.drop_drop, hd]
    rfl
theorem rr_ok (rows : List Nat) : FO rows rows.length (rr rows) :=
  rrGo_ok rows 0 [] rfl ⟨⟨by simp, by simp⟩, by simp, by simp, by simp, by simp, by simp [ind_nil]⟩ (by simp)
theorem rr_ind (rows : List Nat) : (rr rows).length = rows.length ↔ Ind rows := by
  have := (rr_ok rows).id
  rwa [List.take_length] at this
theorem rr_span (rows : List Nat) (x : Nat) : Spn ((rr rows).map (·.1)) x ↔ Spn rows x := by
  have := (rr_ok rows).span x
  rwa [List.take_length] at this
end QC
set_option Elab.async false
set_option linter.all false
namespace QC
open P4
def bl (l : Ls) : List Bool := l.map xb ++ l.map zb
def sg (l : Ls) : Nat := vb (bl l)
theorem rx_app : ∀ (a b c d : List Bool), a.length = c.length → rx (a ++ b) (c ++ d) = rx a c ++ rx b d
  | [], b, [], d, _ => rfl
  | x :: a, b, y :: c, d, h => by
    have := rx_app a b c d (by simpa using h)
    simp only [rx, List.cons_append, List.zipWith_cons_cons] at this ⊢
    rw [this]
theorem map_mul (f : P4 → Bool) (hf : ∀ a b, f (mul a b) = (f a ^^ f b)) : ∀ a b : Ls, (lmul a b).map f = rx (a.map f) (b.map f)
  | [], [] => rfl
  | [], _ :: _ => rfl
  | _ :: _, [] => rfl
  | a :: as, b :: bs => by
    have := map_mul f hf as bs
    simp only [lmul, rx, List.zipWith_cons_cons, List.map_cons] at this ⊢
    rw [this, hf]
theorem sg_mul {a b : Ls} (h : a.length = b.length) : sg (lmul a b) = sg a ^^^ sg b := by
  unfold sg bl
  rw [map_mul xb xb_mul, map_mul zb zb_mul, ← rx_app _ _ _ _ (by simpa using h), vb_xor (by simp [h])]
theorem vb_inj_go : ∀ (a b : List Bool) (x y : Nat), a.length = b.length → a.foldl (fun a b => a * 2 + (if b then 1 else 0)) x = b.foldl (fun a b => a * 2 + (if b then 1 else 0)) y → x = y ∧ a = b
  | [], [], x, y, _, h => ⟨h, rfl⟩
  | a :: as, b :: bs, x, y, hl, h => by
    obtain ⟨h1, h2⟩ := vb_inj_go as bs _ _ (by simpa using hl) h
    have : x = y ∧ a = b := by cases a <;> cases b <;> simp at h1 ⊢ <;> omega
    exact ⟨this.1, by rw [this.2, h2]⟩
theorem vb_inj {a b : List Bool} (hl : a.length = b.length) (h : vb a = vb b) : a = b := (vb_inj_go a b 0 0 hl h).2
theorem sg_inj {a b : Ls} (hl : a.length = b.length) (h : sg a = sg b) : a = b := by
  have e := vb_inj (by simp [bl, hl]) h
  obtain ⟨e1, e2⟩ := List.append_inj e (by simp [hl])
  apply List.ext_getElem hl
  intro i h1 h2
  refine of_inj ?_ ?_
  · have := congrArg (fun l : List Bool => l[i]?) e1
    simpa [h1, h2] using this
  · have := congrArg (fun l : List Bool => l[i]?) e2
    simpa [h1, h2] using this
theorem sg_ones (n : Nat) : sg (ones n) = 0 := by
  have h := sg_mul (a := ones n) (b := ones n) rfl
  rw [lmul_self (by simp [ones] : (ones n).length = n), Nat.xor_self] at h
  exact h
def gpr (n : Nat) : List Bool → List Pw → Pw
  | b :: c, w :: ws => pmul (if b then w else one n) (gpr n c ws)
  | _, _ => one n
def gpf : Pw → List Bool → List Pw → Pw
  | acc, b :: c, w :: ws => gpf (if b then pmul acc w else acc) c ws
  | acc, _, _ => acc
structure Sys (n : Nat) (ws : List Pw) : Prop where
  up : ∀ w ∈ ws, Up n w
  mt : ∀ a ∈ ws, ∀ b ∈ ws, meets a b
theorem Sys.tail {n : Nat} {w : Pw} {ws : List Pw} (S : Sys n (w :: ws)) : Sys n ws := ⟨fun x m => S.up x (List.mem_cons_of_mem _ m), fun a ha b hb => S.mt a (List.mem_cons_of_mem _ ha) b (List.mem_cons_of_mem _ hb)⟩
section
variable {n : Nat}
theorem sel_up {b : Bool} {w : Pw} (h : Up n w) : Up n (if b then w else one n) := by
  cases b
  · exact up_one n
  · exact h
theorem sel_mt {b : Bool} {w a : Pw} (h : meets a w) : meets a (if b then w else one n) := by
  cases b
  · exact meets_one a
  · exact h
theorem gpr_ok : ∀ (ws : List Pw) (c : List Bool), Sys n ws → Up n (gpr n c ws) ∧ ∀ a : Pw, a.l.length = n → (∀ w ∈ ws, meets a w) → meets a (gpr n c ws)
  | [], c, _ => by
    have : gpr n c [] = one n := by cases c <;> rfl
    rw [this]
    exact ⟨up_one n, fun a _ _ => meets_one a⟩
  | w :: ws, [], _ => ⟨up_one n, fun a _ _ => meets_one a⟩
  | w :: ws, b :: c, S => by
    obtain ⟨h1, h2⟩ := gpr_ok ws c S.tail
    have hw := S.up w (List.mem_cons_self ..)
    have hs : Up n (if b then w else one n) := sel_up hw
    have m1 : meets w (gpr n c ws) := h2 w hw.len fun x m => S.mt w (List.mem_cons_self ..) x (List.mem_cons_of_mem _ m)
    have m2 : meets (if b then w else one n) (gpr n c ws) := meets_comm (sel_mt (meets_comm m1))
    refine ⟨up_mul hs h1 m2, fun a la ha => ?_⟩
    exact meets_mul la hs.len h1.len (sel_mt (ha w (List.mem_cons_self ..))) (h2 a la fun x m => ha x (List.mem_cons_of_mem _ m))
theorem gpr_up {ws : List Pw} (S : Sys n ws) (c : List Bool) : Up n (gpr n c ws) := (gpr_ok ws c S).1
theorem gpr_meets {ws : List Pw} (S : Sys n ws) (c d : List Bool) : meets (gpr n c ws) (gpr n d ws) :=
  (gpr_ok ws d S).2 _ (gpr_up S c).len fun w m => meets_comm ((gpr_ok ws c S).2 w (S.up w m).len fun x mx => S.mt w m x mx)
theorem gpf_eq : ∀ (ws : List Pw) (c : List Bool) (acc : Pw), (∀ w ∈ ws, Up n w) → Sys n ws → Up n acc → (∀ w ∈ ws, meets acc w) → gpf acc c ws = pmul acc (gpr n c ws)
  | [], c, acc, _, _, ha, _ => by
    have h1 : gpf acc c [] = acc := by cases c <;> rfl
    have h2 : gpr n c [] = one n := by cases c <;> rfl
    rw [h1, h2, pmul_one ha]
  | w :: ws, [], acc, _, _, ha, _ => by
    show acc = pmul acc (one n)
    rw [pmul_one ha]
  | w :: ws, b :: c, acc, hu, S, ha, hm => by
    have hw := S.up w (List.mem_cons_self ..)
    have mw := hm w (List.mem_cons_self ..)
    show gpf (if b then pmul acc w else acc) c ws = pmul acc (pmul (if b then w else one n) (gpr n c ws))
    have h3 := gpr_up S.tail c
    rw [gpf_eq ws c _ (fun x m => hu x (List.mem_cons_of_mem _ m)) S.tail (by
      cases b
      · exact ha
      · exact up_mul ha hw mw) fun x m => by
      cases b
      · exact hm x (List.mem_cons_of_mem _ m)
      · exact meets_comm (meets_mul (hu x (List.mem_cons_of_mem _ m)).len ha.len hw.len (meets_comm (hm x (List.mem_cons_of_mem _ m))) (S.mt x (List.mem_cons_of_mem _ m) w (List.mem_cons_self ..)))]
    cases b
    · show pmul acc (gpr n c ws) = pmul acc (pmul (one n) (gpr n c ws))
      rw [one_pmul h3]
    · show pmul (pmul acc w) (gpr n c ws) = pmul acc (pmul w (gpr n c ws))
      exact pmul_assoc ha.len hw.len h3.len
theorem gpf_one {ws : List Pw} (S : Sys n ws) (c : List Bool) : gpf (one n) c ws = gpr n c ws := by
  rw [gpf_eq ws c (one n) S.up S (up_one n) fun w _ => meets_comm (meets_one w), one_pmul (gpr_up S c)]
theorem gpr_rx : ∀ (ws : List Pw) (c d : List Bool), Sys n ws → c.length = ws.length → d.length = ws.length → gpr n (rx c d) ws = pmul (gpr n c ws) (gpr n d ws)
  | [], [], [], _, _, _ => (pmul_one (up_one n)).symm
  | w :: ws, b :: c, e :: d, S, h1, h2 => by
    have ih := gpr_rx ws c d S.tail (by simpa using h1) (by simpa using h2)
    have hw := S.up w (List.mem_cons_self ..)
    have hP := gpr_up S.tail c
    have hQ := gpr_up S.tail d
    have mP : meets (gpr n c ws) w := meets_comm ((gpr_ok ws c S.tail).2 w hw.len fun x m => S.mt w (List.mem_cons_self ..) x (List.mem_cons_of_mem _ m))
    have mPe : meets (gpr n c ws) (if e then w else one n) := sel_mt mP
    have ue : Up n (if e then w else one n) := sel_up hw
    have ub : Up n (if b then w else one n) := sel_up hw
    show pmul (if b ^^ e then w else one n) (gpr n (rx c d) ws) = pmul (pmul (if b then w else one n) (gpr n c ws)) (pmul (if e then w else one n) (gpr n d ws))
    have hPQ : (pmul (gpr n c ws) (gpr n d ws)).l.length = n := lmul_len hP.len hQ.len
    rw [ih, pmul_assoc ub.len hP.len (lmul_len ue.len hQ.len), ← pmul_assoc hP.len ue.len hQ.len, pmul_comm hP.len ue.len mPe, pmul_assoc ue.len hP.len hQ.len, ← pmul_assoc ub.len ue.len hPQ]
    congr 1
    cases b <;> cases e
    · exact (pmul_one (up_one n)).symm
    · exact (one_pmul hw).symm
    · exact (pmul_one hw).symm
    · exact (pmul_self hw).symm
theorem gpr_sg : ∀ (ws : List Pw) (c : List Bool), Sys n ws → sg (gpr n c ws).l = comb c (ws.map fun w => sg w.l)
  | [], c, _ => by
    have h2 : gpr n c [] = one n := by cases c <;> rfl
    rw [h2]
    have : comb c (([] : List Pw).map fun w => sg w.l) = 0 := by cases c <;> rfl
    rw [this]
    exact sg_ones n
  | w :: ws, [], _ => sg_ones n
  | w :: ws, b :: c, S => by
    have ih := gpr_sg ws c S.tail
    have hw := S.up w (List.mem_cons_self ..)
    have ub : Up n (if b then w else one n) := sel_up hw
    show sg (lmul (if b then w else one n).l (gpr n c ws).l) = (if b then sg w.l else 0) ^^^ comb c (ws.map fun w => sg w.l)
    rw [sg_mul (ub.len.trans (gpr_up S.tail c).len.symm), ih]
    cases b
    · show sg (ones n) ^^^ _ = 0 ^^^ _
      rw [sg_ones]
    · rfl
end
abbrev rowsOf (ws : List Pw) : List Nat := ws.map fun w => sg w.l
def InG (n : Nat) (ws : List Pw) (g : Pw) : Prop := ∃ c : List Bool, c.length = ws.length ∧ gpr n c ws = g
section
variable {n : Nat} {ws : List Pw}
theorem InG.up (S : Sys n ws) {g : Pw} (h : InG n ws g) : Up n g := by obtain ⟨c, _, rfl⟩ := h; exact gpr_up S c
theorem InG.mul (S : Sys n ws) {g k : Pw} (h : InG n ws g) (h' : InG n ws k) : InG n ws (pmul g k) := by
  obtain ⟨c, hc, rfl⟩ := h
  obtain ⟨d, hd, rfl⟩ := h'
  exact ⟨rx c d, by simp [rx, hc, hd], gpr_rx ws c d S hc hd⟩
theorem InG.meets (S : Sys n ws) {g k : Pw} (h : InG n ws g) (h' : InG n ws k) : meets g k := by
  obtain ⟨c, hc, rfl⟩ := h
  obtain ⟨d, hd, rfl⟩ := h'
  exact gpr_meets S c d
theorem gpr_false : ∀ ws : List Pw, gpr n (List.replicate ws.length false) ws = one n
  | [] => rfl
  | w :: ws => by
    show pmul (one n) (gpr n (List.replicate ws.length false) ws) = one n
    rw [gpr_false ws, pmul_one (up_one n)]
theorem InG.one (n : Nat) (ws : List Pw) : InG n ws (one n) := ⟨List.replicate ws.length false, by simp, gpr_false ws⟩
theorem InG.mem : ∀ {ws : List Pw}, Sys n ws → ∀ {w : Pw}, w ∈ ws → InG n ws w
  | v :: ws, S, w, h => by
    rcases List.mem_cons.mp h with rfl | h
    · refine ⟨true :: List.replicate ws.length false, by simp, ?_⟩
      show pmul w (gpr n (List.replicate ws.length false) ws) = w
      rw [gpr_false, pmul_one (S.up w (List.mem_cons_self ..))]
    · obtain ⟨c, hc, rfl⟩ := InG.mem S.tail h
      refine ⟨false :: c, by simp [hc], ?_⟩
      show pmul (QC.one n) (gpr n c ws) = gpr n c ws
      exact one_pmul (gpr_up S.tail c)
theorem InG.gpr {ws' : List Pw} (S : Sys n ws) : ∀ (vs : List Pw) (c : List Bool), (∀ v ∈ vs, InG n ws v) → InG n ws (gpr n c vs)
  | [], c, _ => by
    have h2 : QC.gpr n c [] = QC.one n := by cases c <;> rfl
    rw [h2]; exact InG.one n ws
  | v :: vs, [], _ => InG.one n ws
  | v :: vs, b :: c, h => by
    refine InG.mul S ?_ (InG.gpr (ws' := ws') S vs c fun x m => h x (List.mem_cons_of_mem _ m))
    cases b
    · exact InG.one n ws
    · exact h v (List.mem_cons_self ..)
theorem InG.sub (S : Sys n ws) {vs : List Pw} (h : ∀ v ∈ vs, InG n ws v) {g : Pw} (hg : InG n vs g) : InG n ws g := by
  obtain ⟨c, _, rfl⟩ := hg
  exact InG.gpr (ws' := vs) S vs c h
theorem InG.sg (S : Sys n ws) {g : Pw} (h : InG n ws g) : Spn (rowsOf ws) (sg g.l) := by
  obtain ⟨c, hc, rfl⟩ := h
  exact ⟨c, by simpa using hc, (gpr_sg ws c S).symm⟩
theorem spn_g (S : Sys n ws) {x : Nat} (h : Spn (rowsOf ws) x) : ∃ g, InG n ws g ∧ QC.sg g.l = x := by
  obtain ⟨c, hc, rfl⟩ := h
  exact ⟨QC.gpr n c ws, ⟨c, by simpa using hc, rfl⟩, gpr_sg ws c S⟩
theorem comb_inj {vs : List Nat} (I : Ind vs) {c d : List Bool} (hc : c.length = vs.length) (hd : d.length = vs.length) (e : comb c vs = comb d vs) : c = d := by
  have h := I (rx c d) (by simp [rx, hc, hd]) (by rw [comb_rx c d vs hc hd, e, Nat.xor_self])
  apply List.ext_getElem (hc.trans hd.symm)
  intro i h1 h2
  have := h (c[i] ^^ d[i]) (by
    have hi : i < (rx c d).length := by simp [rx]; omega
    have : (rx c d)[i] = (c[i] ^^ d[i]) := by simp [rx]
    rw [← this]; exact List.getElem_mem hi)
  revert this
  cases c[i] <;> cases d[i] <;> simp
theorem InG.uniq (S : Sys n ws) (I : Ind (rowsOf ws)) {g k : Pw} (h : InG n ws g) (h' : InG n ws k) (e : QC.sg g.l = QC.sg k.l) : g = k := by
  obtain ⟨c, hc, rfl⟩ := h
  obtain ⟨d, hd, rfl⟩ := h'
  rw [gpr_sg ws c S, gpr_sg ws d S] at e
  rw [comb_inj I (by simpa using hc) (by simpa using hd) e]
end
structure RedOf (n : Nat) (ws L : List Pw) : Prop where
  ing : ∀ w ∈ L, InG n ws w
  rr : RR (rowsOf L)
  st : (rowsOf L).Pairwise (· > ·)
  sp : ∀ w ∈ ws, Spn (rowsOf L) (sg w.l)
section
variable {n : Nat} {ws ws' L L' : List Pw}
theorem RedOf.sys (R : RedOf n ws L) (S : Sys n ws) : Sys n L := ⟨fun w m => (R.ing w m).up S, fun a ha b hb => (R.ing a ha).meets S (R.ing b hb)⟩
theorem RedOf.ind (R : RedOf n ws L) : Ind (rowsOf L) := R.rr.ind
theorem RedOf.span (R : RedOf n ws L) (S : Sys n ws) (x : Nat) : Spn (rowsOf L) x ↔ Spn (rowsOf ws) x :=
  ⟨fun s => s.sub fun v m => by obtain ⟨w, hw, rfl⟩ := List.mem_map.mp m; exact (R.ing w hw).sg S, fun s => s.sub fun v m => by obtain ⟨w, hw, rfl⟩ := List.mem_map.mp m; exact R.sp w hw⟩
theorem RedOf.grp (R : RedOf n ws L) (S : Sys n ws) (I : Ind (rowsOf ws)) (g : Pw) : InG n L g ↔ InG n ws g := by
  refine ⟨fun h => InG.sub S R.ing h, fun h => ?_⟩
  obtain ⟨k, hk, e⟩ := spn_g (R.sys S) ((R.span S _).mpr (h.sg S))
  have := InG.uniq S I (InG.sub S R.ing hk) h e
  rw [← this]; exact hk
theorem map_eq_of {f : Pw → Nat} : ∀ {L L' : List Pw}, (∀ a ∈ L, ∀ b ∈ L', f a = f b → a = b) → L.map f = L'.map f → L = L'
  | [], [], _, _ => rfl
  | [], _ :: _, _, e => by simp at e
  | _ :: _, [], _, e => by simp at e
  | a :: L, b :: L', H, e => by
    simp only [List.map_cons, List.cons.injEq] at e
    rw [H a (List.mem_cons_self ..) b (List.mem_cons_self ..) e.1, map_eq_of (fun x hx y hy => H x (List.mem_cons_of_mem _ hx) y (List.mem_cons_of_mem _ hy)) e.2]
theorem RedOf.unique (S : Sys n ws) (I : Ind (rowsOf ws)) (S' : Sys n ws') (G : ∀ g, InG n ws g ↔ InG n ws' g) (R : RedOf n ws L) (R' : RedOf n ws' L') : L = L' := by
  have spe : ∀ x, Spn (rowsOf ws) x ↔ Spn (rowsOf ws') x := fun x => ⟨fun s => by
    obtain ⟨g, hg, rfl⟩ := spn_g S s
    exact ((G g).mp hg).sg S', fun s => by
    obtain ⟨g, hg, rfl⟩ := spn_g S' s
    exact ((G g).mpr hg).sg S⟩
  have er := RR.unique R.rr R'.rr R.st R'.st fun x => (R.span S x).trans ((spe x).trans (R'.span S' x).symm)
  exact map_eq_of (fun a ha b hb e => InG.uniq S I (R.ing a ha) ((G b).mpr (R'.ing b hb)) e) er
theorem turned_ne (S : Sys n ws) (I : Ind (rowsOf ws)) (S' : Sys n ws') (I' : Ind (rowsOf ws')) {g k : Pw} (hg : InG n ws g) (hk : InG n ws' k) (el : g.l = k.l) (ne : g ≠ k) (R : RedOf n ws L) (R' : RedOf n ws' L) : False := by
  have h1 := (R.grp S I g).mpr hg
  have h2 := (R'.grp S' I' k).mpr hk
  exact ne (InG.uniq (R.sys S) R.ind h1 h2 (by rw [el]))
end
end QC
set_option Elab.async false
set_option linter.all false
namespace QC
open P4
def leP (p q : Nat × Nat) : Bool := decide (q.1 < p.1 ∨ (q.1 = p.1 ∧ q.2 ≤ p.2))
theorem leP_trans (a b c : Nat × Nat) (h1 : leP a b = true) (h2 : leP b c = true) : leP a c = true := by
  unfold leP at *
  simp only [decide_eq_true_eq] at *
  omega
theorem leP_total (a b : Nat × Nat) : (leP a b || leP b a) = true := by
  unfold leP
  simp only [Bool.or_eq_true, decide_eq_true_eq]
  omega
def srt (F : Fd) : Fd := F.mergeSort leP
theorem srt_pw (F : Fd) : (srt F).Pairwise fun p q => leP p q = true := List.pairwise_mergeSort leP_trans leP_total F
theorem srt_perm (F : Fd) : (srt F).Perm F := List.mergeSort_perm F leP
theorem spn_perm {R R' : List Nat} (p : R.Perm R') (x : Nat) : Spn R x ↔ Spn R' x :=
  ⟨fun s => s.sub fun v m => Spn.mem (p.mem_iff.mp m), fun s => s.sub fun v m => Spn.mem (p.mem_iff.mpr m)⟩
theorem RR.perm {R R' : List Nat} (p : R.Perm R') (h : RR R) : RR R' :=
  ⟨fun x m => h.nz x (p.mem_iff.mpr m), (p.pairwise_iff fun {a b} z => ⟨z.2, z.1⟩).mp h.red⟩
def redW (n : Nat) (ws : List Pw) : List Pw := (srt (rr (rowsOf ws))).map fun p => gpr n (msk p.2 ws.length) ws
theorem redW_rows {n : Nat} {ws : List Pw} (S : Sys n ws) : rowsOf (redW n ws) = (srt (rr (rowsOf ws))).map (·.1) := by
  unfold redW rowsOf
  rw [List.map_map]
  apply List.map_congr_left
  intro p hp
  have h := ((rr_ok (rowsOf ws)).mm p ((srt_perm _).mem_iff.mp hp)).1
  show sg (gpr n (msk p.2 ws.length) ws).l = p.1
  rw [gpr_sg ws _ S]
  unfold combM at h
  rw [List.length_map] at h
  exact h
theorem redW_ok {n : Nat} {ws : List Pw} (S : Sys n ws) : RedOf n ws (redW n ws) := by
  have hp := (srt_perm (rr (rowsOf ws))).map (·.1)
  have hrr : RR (rowsOf (redW n ws)) := by rw [redW_rows S]; exact RR.perm hp.symm (rr_ok _).rr
  refine ⟨fun w hw => ?_, hrr, ?_, fun w hw => ?_⟩
  · obtain ⟨p, _, rfl⟩ := List.mem_map.mp hw
    exact ⟨_, msk_len _ _, rfl⟩
  · have hnd := hrr.nodup
    rw [redW_rows S] at hnd ⊢
    have h1 := srt_pw (rr (rowsOf ws))
    rw [List.pairwise_map]
    have h2 : (srt (rr (rowsOf ws))).Pairwise fun p q => p.1 ≠ q.1 := List.pairwise_map.mp hnd
    refine (h1.and h2).imp fun {p q} z => ?_
    obtain ⟨z1, z2⟩ := z
    unfold leP at z1
    simp only [decide_eq_true_eq] at z1
    omega
  · rw [redW_rows S, spn_perm hp, rr_span]
    exact Spn.mem (List.mem_map.mpr ⟨w, hw, rfl⟩)
theorem redW_len {n : Nat} {ws : List Pw} (I : Ind (rowsOf ws)) : (redW n ws).length = ws.length := by
  unfold redW
  rw [List.length_map, (srt_perm _).length_eq, (rr_ind _).mpr I, List.length_map]
def sel (m : Nat) (b : Nat) : List Nat := (List.range b).filter fun i => m.testBit i
theorem sel_fold (m : Nat) : ∀ (ws : List Pw) (s : Nat) (acc : Pw), (((List.range ws.length).filter fun i => m.testBit (i + s)).map fun i => ws.getD i default).foldl pmul acc = gpf acc ((List.range ws.length).map fun i => m.testBit (i + s)) ws
  | [], s, acc => rfl
  | w :: ws, s, acc => by
    have ih := sel_fold m ws (s + 1)
    rw [List.length_cons, List.range_succ_eq_map, List.filter_cons, List.map_cons, List.filter_map, List.map_map]
    have e1 : ((fun i => m.testBit (i + s)) ∘ Nat.succ) = fun i => m.testBit (i + (s + 1)) := by funext i; show m.testBit (i + 1 + s) = _; congr 1; omega
    have e2 : ((fun i => (w :: ws).getD i default) ∘ Nat.succ) = fun i => ws.getD i default := by funext i; rfl
    show List.foldl pmul acc (List.map (fun i => (w :: ws).getD i default) (if m.testBit (0 + s) then _ else _)) = gpf (if m.testBit (0 + s) then pmul acc w else acc) _ ws
    rw [e1]
    cases hb : m.testBit (0 + s)
    · simp only [Bool.false_eq_true, if_false]
      rw [List.map_map, e2, ih]
    · simp only [if_true]
      rw [List.map_cons, List.map_map, e2, List.foldl_cons, ih]
      rfl
theorem sel_gpr {n m : Nat} {ws : List Pw} (S : Sys n ws) : ((sel m ws.length).map fun i => ws.getD i default).foldl pmul (one n) = gpr n (msk m ws.length) ws := by
  rw [← gpf_one S]
  exact sel_fold m ws 0 (one n)
theorem sel_cut {m b k : Nat} (h : m < 2 ^ b) (hk : b ≤ k) : sel m b = sel m k := by
  unfold sel
  have e : List.range k = List.range b ++ (List.range (k - b)).map (b + ·) := by
    rw [← List.range_add]
    congr 1
    omega
  rw [e, List.filter_append]
  have : ((List.range (k - b)).map (b + ·)).filter (fun i => m.testBit i) = [] := by
    rw [List.filter_eq_nil_iff]
    intro i hi
    obtain ⟨j, _, rfl⟩ := List.mem_map.mp hi
    rw [Nat.testBit_lt_two_pow (Nat.lt_of_lt_of_le h (Nat.pow_le_pow_right (by decide) (by omega)))]
    simp
  rw [this, List.append_nil]
def grp (n : Nat) (ws : List Pw) : List Pw := ws.foldl (fun F w => F ++ F.map fun g => pmul g w) [one n]
theorem grp_go : ∀ (ws : List Pw) (F : List Pw) (g : Pw), g ∈ ws.foldl (fun F w => F ++ F.map fun g => pmul g w) F ↔ ∃ f ∈ F, ∃ c : List Bool, c.length = ws.length ∧ gpf f c ws = g
  | [], F, g => by
    constructor
    · intro h; exact ⟨g, h, [], rfl, rfl⟩
    · rintro ⟨f, hf, c, _, rfl⟩
      have : gpf f c [] = f := by cases c <;> rfl
      rw [this]; exact hf
  | w :: ws, F, g => by
    rw [List.foldl_cons, grp_go ws]
    constructor
    · rintro ⟨f, hf, c, hc, rfl⟩
      rcases List.mem_append.mp hf with hf | hf
      · exact ⟨f, hf, false :: c, by simp [hc], rfl⟩
      · obtain ⟨f', hf', rfl⟩ := List.mem_map.mp hf
        exact ⟨f', hf', true :: c, by simp [hc], rfl⟩
    · rintro ⟨f, hf, c, hc, rfl⟩
      cases c with
      | nil => simp at hc
      | cons b c =>
        cases b
        · exact ⟨f, List.mem_append.mpr (.inl hf), c, by simpa using hc, rfl⟩
        · exact ⟨pmul f w, List.mem_append.mpr (.inr (List.mem_map.mpr ⟨f, hf, rfl⟩)), c, by simpa using hc, rfl⟩
theorem mem_grp {n : Nat} {ws : List Pw} (S : Sys n ws) (g : Pw) : g ∈ grp n ws ↔ InG n ws g := by
  unfold grp
  rw [grp_go]
  constructor
  · rintro ⟨f, hf, c, hc, rfl⟩
    have : f = one n := by simpa using hf
    subst this
    exact ⟨c, hc, (gpf_one S c).symm⟩
  · rintro ⟨c, hc, rfl⟩
    exact ⟨one n, by simp, c, hc, gpf_one S c⟩
theorem grp_len_go : ∀ (ws F : List Pw), (ws.foldl (fun F w => F ++ F.map fun g => pmul g w) F).length = F.length * 2 ^ ws.length
  | [], F => by simp
  | w :: ws, F => by
    rw [List.foldl_cons, grp_len_go ws, List.length_append, List.length_map, List.length_cons, Nat.pow_succ]
    rw [← Nat.two_mul, Nat.mul_comm 2 F.length, Nat.mul_assoc, Nat.mul_comm 2]
theorem grp_len (n : Nat) (ws : List Pw) : (grp n ws).length = 2 ^ ws.length := by
  unfold grp
  rw [grp_len_go]
  simp
end QC
set_option Elab.async false
set_option linter.all false
set_option maxRecDepth 100000
namespace WC
open PySem PySem.Spec PyProof.Rows L2
def plAt (σ : Sg) (i : Nat) : Bool := match σ[i]? with
  | some x => x.plain
  | none => false
@[simp high] theorem setS_if (σ : Sg) (i : Nat) (s : Sl) : setS σ i s = if plAt σ i then some (σ.set i s) else none := by
  unfold setS plAt
  cases e : σ[i]? with
  | none => rfl
  | some x => cases x <;> rfl
@[simp] theorem plAt_0 (x : Sl) (σ : Sg) : plAt (x :: σ) 0 = x.plain := rfl
@[simp] theorem plAt_s (x : Sl) (σ : Sg) (i : Nat) : plAt (x :: σ) (i + 1) = plAt σ i := rfl
@[simp] theorem pl_no : Sl.no.plain = true := rfl
@[simp] theorem pl_ownd (kvs : List (D × D)) : (Sl.ownd kvs).plain = true := rfl
@[simp] theorem pl_lent (xs : List D) : (Sl.lent xs).plain = false := rfl
section
variable {σ : Sg} {h : Hs}
@[simp] theorem e_eBits (m : EM) : eBits m σ h = (m σ h).bind fun x h1 => match x with | .int i => .ok (.int (bitsN i)) h1 | _ => .bad := rfl
@[simp] theorem e_eSortK (ms mk : AM) : eSortK ms mk σ h = (ms σ h).bind fun xs h1 => (mk σ h1).bind fun zs h2 => match zs with | [.bl b] => optR (gSort b h2 xs) h2 | _ => .bad := rfl
@[simp] theorem e_eNew (m : LM) : eNew m σ h = (m σ h).bind fun xs h1 => .ok (.ref h1.length) (h1 ++ [.lst xs]) := rfl
@[simp] theorem g_count (a : List Nat) (c : Nat) : gCount h (.str a) [.str [c]] = some (.int (a.count c)) := rfl
theorem g_index {ns : List Int} {k : Int} (hk : k ∈ ns) : gIndex h (.lst (ns.map .int)) [.int k] = some (.int (ns.idxOf k)) := by
  show ((some (ns.map D.int)).bind toInts).bind _ = _
  have : toInts (ns.map D.int) = some ns := by
    clear hk
    induction ns with
    | nil => rfl
    | cons x xs ih => rw [List.map_cons]; unfold toInts; rw [ih]; rfl
  rw [Option.bind_some, this, Option.bind_some, if_pos hk]
theorem toInts_mapI {α : Type} (xs : List α) (p : α → Int) : toInts (xs.map fun x => .int (p x)) = some (xs.map p) := by
  induction xs with
  | nil => rfl
  | cons x xs ih => rw [List.map_cons]; unfold toInts; rw [ih]; rfl
@[simp] theorem g_sum {α : Type} (xs : List α) (p : α → Int) : gSum h [.lst (xs.map fun x => .int (p x))] = some (.int (xs.map p).sum) := by
  show ((some (xs.map fun x => D.int (p x))).bind toInts).map _ = _
  rw [Option.bind_some, toInts_mapI]
  rfl
@[simp] theorem g_inS (c : Nat) (l : List Nat) : gIn h (.str [c]) (.str l) = some (.bl (decide (c ∈ l))) := rfl
@[simp] theorem g_notinS (c : Nat) (l : List Nat) : gNotIn h (.str [c]) (.str l) = some (.bl (!decide (c ∈ l))) := rfl
theorem g_shl1 {j : Nat} (hj : j ≤ 1000000) : gShl h (.int 1) (.int j) = some (.int ((2 ^ j : Nat) : Int)) := by
  show (if cPow 1 j then some (D.int (1 * 2 ^ (j : Int).toNat)) else none) = _
  rw [if_pos]
  · simp
  · unfold cPow; simp; omega
theorem g_shl {i : Nat} {j : Nat} (hi : i < 2 ^ 64) (hj : j ≤ 1000000) : gShl h (.int i) (.int j) = some (.int ((i : Int) * 2 ^ j)) := by
  show (if cPow i j then some (D.int ((i : Int) * 2 ^ (j : Int).toNat)) else none) = _
  rw [if_pos]
  · simp
  · unfold cPow
    rw [Bool.and_eq_true, Bool.and_eq_true, decide_eq_true_eq, decide_eq_true_eq, decide_eq_true_eq]
    exact ⟨⟨by omega, by omega⟩, by rw [Int.natAbs_natCast]; exact hi⟩
theorem g_shr {i j : Nat} : gShr h (.int i) (.int j) = some (.int ((i / 2 ^ j : Nat) : Int)) := by
  show (if decide (0 ≤ (j : Int)) then some (D.int ((i : Int) / 2 ^ (j : Int).toNat)) else none) = _
  rw [if_pos (by simp)]
  simp
end
theorem bits_nat {n : Nat} (hn : n ≠ 0) : bitsN (n : Int) = n.log2 + 1 := by
  unfold bitsN Builtin.Int.intBits
  rw [if_neg (by simp; exact hn)]
  simp
theorem bits_0 : bitsN 0 = 0 := rfl
theorem bits_le {n k : Nat} (h : n < 2 ^ k) : bitsN (n : Int) ≤ k := by
  by_cases hn : n = 0
  · subst hn; exact Nat.zero_le _
  · rw [bits_nat hn]
    exact (Nat.log2_lt hn).mpr h
theorem lt_bits (n : Nat) : n < 2 ^ bitsN (n : Int) := by
  by_cases hn : n = 0
  · subst hn; decide
  · rw [bits_nat hn]
    exact Nat.lt_log2_self
theorem or_split : ∀ (a b : Nat), a ||| b = (a ^^^ b) + (a &&& b) := by
  intro a
  induction a using Nat.strongRecOn with
  | _ a ih =>
    intro b
    by_cases ha : a = 0
    · subst ha; simp
    · have h := ih (a / 2) (by omega) (b / 2)
      have d1 := @Nat.or_div_two a b
      have d2 := @Nat.xor_div_two_pow a b 1
      have d3 := @Nat.and_div_two a b
      have m1 := @Nat.or_mod_two_eq_one a b
      have m2 := @Nat.xor_mod_two_eq_one a b
      have m3 := @Nat.and_mod_two_eq_one a b
      simp only [Nat.pow_one] at d2
      rw [← d1, ← d2, ← d3] at h
      omega
@[simp high] theorem g_xorN {h : Hs} (a b : Nat) : gXor h (.int a) (.int b) = some (.int ((a ^^^ b : Nat) : Int)) := by
  show some (D.int (Builtin.bitXor a b)) = _
  have e : Builtin.bitXor (a : Int) (b : Int) = Builtin.bitOr a b - Builtin.bitAnd a b := rfl
  have o := L2.bitOr_nn (Int.natCast_nonneg a) (Int.natCast_nonneg b)
  have n := PySem.W.os_band a b
  rw [e, o, n]
  have := or_split a b
  simp only [Int.toNat_natCast]
  rw [this]
  congr 2
  omega
theorem bit_one (x j : Nat) : Builtin.bitAnd ((x / 2 ^ j : Nat) : Int) 1 = if x.testBit j then 1 else 0 := by
  have n := PySem.W.os_band (x / 2 ^ j) 1
  have n' : Builtin.bitAnd ((x / 2 ^ j : Nat) : Int) 1 = (((x / 2 ^ j) &&& 1 : Nat) : Int) := n
  rw [n', Nat.and_one_is_mod]
  rw [Nat.testBit_eq_decide_div_mod_eq]
  by_cases h : x / 2 ^ j % 2 = 1
  · simp [h]
  · have : x / 2 ^ j % 2 = 0 := by omega
    simp [this]
theorem or_low {h : Hs} {f t n : Nat} (ht : t < 2 ^ n) : gOr h (.int ((f : Int) * 2 ^ n)) (.int t) = some (.int ((f : Int) * 2 ^ n + t)) := by
  show some (D.int (Builtin.bitOr _ _)) = _
  have := L2.or_low (q := (f : Int)) (r := (t : Int)) (k := n) (by omega) (by omega) (by exact_mod_cast ht)
  rw [this]
theorem lc_filt {α : Type} {m : IM} {t : GT} {tt : TM} {te : EM} {vs : List Nat} {σ : Sg} {h : Hs} (xs : List α) (c g : α → D) (p : α → Bool) (hm : m σ h = .ok (xs.map c) h) (hl : xs.length ≤ 16777216)
    (H : ∀ x ∈ xs, ∃ σ', t (c x) (wipeS σ vs) = some σ' ∧ tt σ' h = .ok (p x) h ∧ (p x = true → te σ' h = .ok (g x) h)) : lcL m t tt te vs σ h = .ok ((xs.filter p).map g) h := by
  unfold lcL
  rw [hm, R.bind_ok, if_pos (by rw [List.length_map]; exact hl)]
  have : ∀ ys : List α, (∀ x ∈ ys, ∃ σ', t (c x) (wipeS σ vs) = some σ' ∧ tt σ' h = .ok (p x) h ∧ (p x = true → te σ' h = .ok (g x) h)) → lcGo t tt te (wipeS σ vs) (ys.map c) h = .ok ((ys.filter p).map g) h := by
    intro ys
    induction ys with
    | nil => intro _; rfl
    | cons y ys ih =>
      intro H
      obtain ⟨σ', e1, e2, e3⟩ := H y (List.mem_cons_self ..)
      have ih := ih fun y m => H y (List.mem_cons_of_mem _ m)
      rw [List.map_cons]
      unfold lcGo
      rw [e1]
      simp only [e2, R.bind_ok]
      cases hp : p y with
      | true => simp only [e3 hp, R.bind_ok, ih, List.filter_cons_of_pos hp, List.map_cons]
      | false =>
        simp only [ih]
        rw [List.filter_cons_of_neg (by simp [hp])]
  exact this xs H
theorem lc_leave {α : Type} {m : IM} {t : GT} {te : EM} {vs : List Nat} {σ : Sg} {h0 h : Hs} {r : R (List D)} (hr : lcL m t tYesM te vs σ h = r) (J : Hs → Prop) (xs : List α) (c g : α → D) (hm : m σ h = .ok (xs.map c) h) (hl : xs.length ≤ 16777216) (j : J h)
    (H : ∀ x ∈ xs, ∀ h, J h → ∃ σ' h', t (c x) (wipeS σ vs) = some σ' ∧ te σ' h = .ok (g x) h' ∧ J h') : ∃ h', r = .ok (xs.map g) h' ∧ J h' := by
  subst hr
  unfold lcL
  rw [hm, R.bind_ok, if_pos (by rw [List.length_map]; exact hl)]
  clear hm hl
  induction xs generalizing h with
  | nil => exact ⟨h, rfl, j⟩
  | cons y ys ih =>
    obtain ⟨σ', h1, e1, e2, j1⟩ := H y (List.mem_cons_self ..) h j
    obtain ⟨h2, e3, j2⟩ := ih j1 fun y m => H y (List.mem_cons_of_mem _ m)
    refine ⟨h2, ?_, j2⟩
    rw [List.map_cons]
    unfold lcGo
    rw [e1]
    simp only [e_yes, R.bind_ok, e2, e3, List.map_cons]
theorem for_any {β : Type} {t : GT} {body : SM} {ys : List D} {σ : Sg} {h : Hs} {r : RS} (hr : forGo t body ys σ h = r) (cb : β → D) (xs : List β) (hx : ys = xs.map cb) (I : List β → Sg → Hs → Prop) (i0 : I [] σ h)
    (H : ∀ (done : List β) (x : β) (rest : List β) (σ : Sg) (h : Hs), xs = done ++ x :: rest → I done σ h → ∃ σ1 σ2 h2, t (cb x) σ = some σ1 ∧ (body σ1 h = .nx σ2 h2 ∨ body σ1 h = .ct σ2 h2) ∧ I (done ++ [x]) σ2 h2) : ∃ σ' h', r = .nx σ' h' ∧ I xs σ' h' := by
  subst hx hr
  have key : ∀ (zs done : List β) (σ : Sg) (h : Hs), xs = done ++ zs → I done σ h → ∃ σ' h', forGo t body (zs.map cb) σ h = .nx σ' h' ∧ I xs σ' h' := by
    intro zs
    induction zs with
    | nil => exact fun done σ h e i => ⟨σ, h, rfl, by rw [e, List.append_nil]; exact i⟩
    | cons z zs ih =>
      intro done σ h e i
      obtain ⟨σ1, σ2, h2, e1, e2, i2⟩ := H done z zs σ h e i
      obtain ⟨σ', h', e3, i3⟩ := ih (done ++ [z]) σ2 h2 (by rw [e]; simp) i2
      refine ⟨σ', h', ?_, i3⟩
      rw [List.map_cons]
      unfold forGo
      rw [e1]
      rcases e2 with e2 | e2 <;> simp only [e2, e_loop_nx, e_loop_ct, e3]
  exact key xs [] σ h rfl i0
theorem forV_own {i : Nat} {t : GT} {body : SM} {σ : Sg} {h : Hs} {xs : List D} (e : σ[i]? = some (.own xs)) : sForV i t body σ h = (forGo t body xs (σ.set i (.lent xs)) h).unl i := by
  unfold sForV
  rw [e]
end WC
set_option Elab.async false
set_option linter.all false
set_option maxRecDepth 100000
namespace WC
open PySem PySem.Spec PyProof.Rows L2
def B_is_integer : SM := (sRet (eAnd (eIsI [.int] (oVar 0)) (eNot (eIsI [.bool] (oVar 0)))))
def B_reduced_rows : SM := (sSeq (sSet 1 (xOwn (lLst aNil)))
  (sSeq (sFor (iEnumL (aCons (eVar 0) aNil)) (tgTup [(tgName 2), (tgName 3)])
  (sSeq (sSet 4 (xVal (eOp gShl (eC (.int 1)) (oVar 2))))
  (sSeq (sForV 1 (tgTup [(tgName 5), (tgName 6)])
  (sIf (tB (eOp gEq (eOp gAnd (eOp gShr (oVar 3) (eOp gSub (eBits (oVar 5)) (eC (.int 1)))) (eC (.int 1))) (eC (.int 1))))
  (sAsg (tgTup [(tgName 3), (tgName 4)]) (eTup (aCons (eOp gXor (oVar 3) (oVar 5)) (aCons (eOp gXor (oVar 4) (oVar 6)) aNil))))
  sNil))
  (sSeq (sIf (tB (eOp gEq (oVar 3) (eC (.int 0))))
  sCont
  sNil)
  (sSeq (sSet 7 (xVal (eOp gSub (eBits (oVar 3)) (eC (.int 1)))))
  (sSeq (sSet 1 (xOwn (lcL (iVal (oVar 1)) (tgTup [(tgName 5), (tgName 6)]) tYesM (eIf (tB (eOp gEq (eOp gAnd (eOp gShr (oVar 5) (oVar 7)) (eC (.int 1))) (eC (.int 1)))) (eTup (aCons (eOp gXor (oVar 5) (oVar 3)) (aCons (eOp gXor (oVar 6) (oVar 4)) aNil))) (eTup (aCons (eVar 5) (aCons (eVar 6) aNil)))) [5, 6])))
  (sAppend 1 (eTup (aCons (eVar 3) (aCons (eVar 4) aNil))))))))))
  (sRet (eSortK (aCons (oVar 1) aNil) (aCons (eC (.bl true)) aNil)))))
def B_rank_of (f_reduced_rows : FD) : SM := (sRet (eCall gLen (aCons (eFn 1 f_reduced_rows (aCons (eVar 0) aNil)) aNil)))
def B_are_independent (f_rank_of : FD) : SM := (sRet (eOp gEq (eFn 1 f_rank_of (aCons (eVar 0) aNil)) (eCall gLen (aCons (oVar 0) aNil))))
def B_indexes_of : SM := (sRet (eFrz (lcL (iRange1 (aCons (eBits (oVar 0)) aNil)) (tgName 1) (tB (eOp gEq (eOp gAnd (eOp gShr (oVar 0) (oVar 1)) (eC (.int 1))) (eC (.int 1)))) (eVar 1) [1])))
def B_row_of : SM := (sSeq (sSet 1 (xVal (eC (.int 0))))
  (sSeq (sForV 0 (tgName 2)
  (sSet 1 (xVal (eOp gAdd (eOp gMul (eC (.int 2)) (oVar 1)) (eCall gIntA (aCons (oVar 2) aNil))))))
  (sRet (eVar 1))))
def B_is_pauli (f_is_integer : FD) : SM := (sSeq (sIf (tOr (tNot (tB (eIsI [.tuple] (oVar 0)))) (tOr (tB (eOp gNe (eCall gLen (aCons (oVar 0) aNil)) (eC (.int 2)))) (tOr (tNot (tB (eFn 1 f_is_integer (aCons (eOp atD (oVar 0) (eC (.int 0))) aNil)))) (tNot (tB (eChain gLeI gLeI (eC (.int 0)) (eOp atD (oVar 0) (eC (.int 0))) (eC (.int 3))))))))
  (sRet (eC (.bl false)))
  sNil)
  (sSeq (sSet 1 (xVal (eOp atD (oVar 0) (eC (.int 1)))))
  (sRet (eAnd (eIsI [.str] (oVar 1)) (eAnd (eOp gNe (oVar 1) (eC (.str []))) (eCall gAll (aCons (eFrz (lcL (iVal (oVar 1)) (tgName 2) tYesM (eOp gIn (oVar 2) (eC (.str [73, 88, 89, 90]))) [2])) aNil)))))))
def B_is_upright (f_is_pauli : FD) : SM := (sRet (eAnd (eFn 1 f_is_pauli (aCons (eVar 0) aNil)) (eOp gEq (eOp gMod (eOp atD (oVar 0) (eC (.int 0))) (eC (.int 2))) (eC (.int 0)))))
def B_check_pauli (f_is_pauli : FD) : SM := (sIf (tOr (tNot (tB (eFn 1 f_is_pauli (aCons (eVar 0) aNil)))) (tAnd (tB (eOp gNotN (oVar 1) (eC .non))) (tB (eOp gNe (eCall gLen (aCons (eOp atD (oVar 0) (eC (.int 1))) aNil)) (oVar 1)))))
  sBad
  sNil)
def B_product_of (k_PRODUCTS : KVs) : SM := (sSeq (sPar2 2 3 (xsCons (xVal (eOp gAdd (eOp atD (oVar 0) (eC (.int 0))) (eOp atD (oVar 1) (eC (.int 0))))) (xsCons (xOwn (lLst aNil)) xsNil)))
  (sSeq (sFor (iZipD (aCons (eOp atD (oVar 0) (eC (.int 1))) (aCons (eOp atD (oVar 1) (eC (.int 1))) aNil))) (tgTup [(tgName 4), (tgName 5)])
  (sSeq (sAsg (tgTup [(tgName 6), (tgName 7)]) (eGetG k_PRODUCTS (eOp gAdd (oVar 4) (oVar 5))))
  (sSeq (sAug 2 gIAdd (eVar 6))
  (sAppend 3 (eVar 7)))))
  (sRet (eTup (aCons (eOp gMod (oVar 2) (eC (.int 4))) (aCons (eMeth .str gJoin (eC (.str [])) (aCons (oVar 3) aNil)) aNil))))))
def B_product_of_all (f_product_of : FD) : SM := (sSeq (sSet 2 (xVal (eTup (aCons (eC (.int 0)) (aCons (eOp gMul (eC (.str [73])) (oVar 0)) aNil)))))
  (sSeq (sForV 1 (tgName 3)
  (sSet 2 (xVal (eFn 2 f_product_of (aCons (eVar 2) (aCons (eVar 3) aNil))))))
  (sRet (eVar 2))))
def B_meets_of : SM := (sSeq (sSet 2 (xVal (eFrz (lcL (iZipD (aCons (eOp atD (oVar 0) (eC (.int 1))) (aCons (eOp atD (oVar 1) (eC (.int 1))) aNil))) (tgTup [(tgName 3), (tgName 4)]) (tAnd (tB (eOp gNe (oVar 3) (oVar 4))) (tB (eOp gNotIn (eC (.str [73])) (eTup (aCons (eVar 3) (aCons (eVar 4) aNil)))))) (eVar 3) [3, 4]))))
  (sRet (eOp gEq (eOp gMod (eCall gLen (aCons (oVar 2) aNil)) (eC (.int 2))) (eC (.int 0)))))
def B_flips_of (f_row_of : FD) : SM := (sRet (eFn 1 f_row_of (aCons (eFrz (lcL (iVal (oVar 0)) (tgName 1) tYesM (eOp gIn (oVar 1) (eC (.str [88, 89]))) [1])) aNil)))
def B_turns_of (f_row_of : FD) : SM := (sRet (eFn 1 f_row_of (aCons (eFrz (lcL (iVal (oVar 0)) (tgName 1) tYesM (eOp gIn (oVar 1) (eC (.str [89, 90]))) [1])) aNil)))
def B_signs_of (f_flips_of f_turns_of : FD) : SM := (sRet (eOp gOr (eOp gShl (eFn 1 f_flips_of (aCons (eOp atD (oVar 0) (eC (.int 1))) aNil)) (eCall gLen (aCons (eOp atD (oVar 0) (eC (.int 1))) aNil))) (eFn 1 f_turns_of (aCons (eOp atD (oVar 0) (eC (.int 1))) aNil))))
def B_are_group_words (f_is_upright f_meets_of f_are_independent f_signs_of : FD) : SM := (sSeq (sIf (tOr (tNot (tB (eIsI [.tuple] (oVar 0)))) (tOr (tB (eOp gEq (eCall gLen (aCons (oVar 0) aNil)) (eC (.int 0)))) (tNot (tB (eCall gAll (aCons (eFrz (lcL (iVal (oVar 0)) (tgName 3) tYesM (eFn 1 f_is_upright (aCons (eVar 3) aNil)) [3])) aNil))))))
  (sRet (eC (.bl false)))
  sNil)
  (sSeq (sSet 1 (xVal (eCall gLen (aCons (eOp atD (eOp atD (oVar 0) (eC (.int 0))) (eC (.int 1))) aNil))))
  (sSeq (sIf (tNot (tB (eCall gAll (aCons (eFrz (lcL (iVal (oVar 0)) (tgName 3) tYesM (eOp gEq (eCall gLen (aCons (eOp atD (oVar 3) (eC (.int 1))) aNil)) (oVar 1)) [3])) aNil))))
  (sRet (eC (.bl false)))
  sNil)
  (sSeq (sFor (iEnumL (aCons (eVar 0) aNil)) (tgTup [(tgName 2), (tgName 3)])
  (sIf (tNot (tB (eCall gAll (aCons (eFrz (lcL (iVal (eSlice (oVar 0) (oSome (eOp gAdd (oVar 2) (eC (.int 1)))) oNone)) (tgName 4) tYesM (eFn 2 f_meets_of (aCons (eVar 3) (aCons (eVar 4) aNil))) [4])) aNil))))
  (sRet (eC (.bl false)))
  sNil))
  (sRet (eFn 1 f_are_independent (aCons (eFrz (lcL (iVal (oVar 0)) (tgName 3) tYesM (eFn 1 f_signs_of (aCons (eVar 3) aNil)) [3])) aNil)))))))
def B_combined (f_product_of_all f_indexes_of : FD) : SM := (sRet (eFn 2 f_product_of_all (aCons (eCall gLen (aCons (eOp atD (eOp atD (oVar 0) (eC (.int 0))) (eC (.int 1))) aNil)) (aCons (eFrz (lcL (iVal (eFn 1 f_indexes_of (aCons (eVar 1) aNil))) (tgName 2) tYesM (eOp atD (oVar 0) (oVar 2)) [2])) aNil))))
def B_reduced_of (f_reduced_rows f_signs_of f_combined : FD) : SM := (sRet (eCall gTuple (aCons (eFrz (lcL (iVal (eFn 1 f_reduced_rows (aCons (eFrz (lcL (iVal (oVar 0)) (tgName 3) tYesM (eFn 1 f_signs_of (aCons (eVar 3) aNil)) [3])) aNil))) (tgTup [(tgName 1), (tgName 2)]) tYesM (eFn 2 f_combined (aCons (eVar 0) (aCons (eVar 2) aNil))) [1, 2])) aNil)))
def B_is_code (f_are_group_words : FD) : SM := (sRet (eFn 1 f_are_group_words (aCons (eVar 0) aNil)))
def B_check_code (f_is_code : FD) : SM := (sIf (tNot (tB (eFn 1 f_is_code (aCons (eVar 0) aNil))))
  sBad
  sNil)
def B_lines_of : SM := (sRet (eCall gLen (aCons (eOp atD (eOp atD (oVar 0) (eC (.int 0))) (eC (.int 1))) aNil)))
def B_code_reduced (f_check_code f_reduced_of : FD) : SM := (sSeq (sExpr (eFn 1 f_check_code (aCons (eVar 0) aNil)))
  (sRet (eFn 1 f_reduced_of (aCons (eVar 0) aNil))))
def B_same_code (f_check_code f_lines_of f_reduced_of : FD) : SM := (sSeq (sExpr (eFn 1 f_check_code (aCons (eVar 0) aNil)))
  (sSeq (sExpr (eFn 1 f_check_code (aCons (eVar 1) aNil)))
  (sSeq (sIf (tOr (tB (eOp gNe (eCall gLen (aCons (oVar 0) aNil)) (eCall gLen (aCons (oVar 1) aNil)))) (tB (eOp gNe (eFn 1 f_lines_of (aCons (eVar 0) aNil)) (eFn 1 f_lines_of (aCons (eVar 1) aNil)))))
  sBad
  sNil)
  (sRet (eOp gEq (eFn 1 f_reduced_of (aCons (eVar 0) aNil)) (eFn 1 f_reduced_of (aCons (eVar 1) aNil)))))))
def B_syndrome (f_check_code f_check_pauli f_lines_of f_meets_of : FD) : SM := (sSeq (sExpr (eFn 1 f_check_code (aCons (eVar 0) aNil)))
  (sSeq (sExpr (eFn 2 f_check_pauli (aCons (eVar 1) (aCons (eFn 1 f_lines_of (aCons (eVar 0) aNil)) aNil))))
  (sRet (eMeth .str gJoin (eC (.str [])) (aCons (eFrz (lcL (iVal (oVar 0)) (tgName 2) tYesM (eIf (tB (eFn 2 f_meets_of (aCons (eVar 2) (aCons (eVar 1) aNil)))) (eC (.str [48])) (eC (.str [49]))) [2])) aNil)))))
def B_law_draw : SM := (sSeq (sAugS 0 gIAdd (eC (.int 2)) (eC (.int 1)))
  (sSeq (sIf (tAnd (tB (eOp gEq (eOp atD (oVar 0) (eC (.int 0))) (eC (.int 0)))) (tB (eOp gLt (eOp atD (oVar 0) (eC (.int 3))) (eCall gLen (aCons (eOp atD (oVar 0) (eC (.int 4))) aNil)))))
  (sSeq (sSet 2 (xVal (eOp atD (eOp atD (oVar 0) (eC (.int 4))) (eOp atD (oVar 0) (eC (.int 3))))))
  (sSeq (sAugS 0 gIAdd (eC (.int 3)) (eC (.int 1)))
  (sIf (tB (eOp gGe (oVar 2) (eOp gPow (eC (.int 10)) (eC (.int 18)))))
  (sStore 0 (eOp gSub (oVar 2) (eOp gPow (eC (.int 10)) (eC (.int 18)))) (eC (.int 0)))
  (sSeq (sSet 3 (xVal (eOp gMod (eCall gIntA (aCons (oVar 2) aNil)) (eC (.int 998244353)))))
  (sStore 0 (eOp gMod (eCall gIntA (aCons (eOp gAdd (eOp gAdd (eOp gAdd (eOp gMul (eOp atD (oVar 0) (eC (.int 1))) (eC (.int 69069))) (eOp gMul (oVar 3) (oVar 3))) (eOp gMul (eC (.int 7)) (oVar 3))) (eOp gMul (eC (.int 3)) (eOp atD (oVar 0) (eC (.int 3))))) aNil)) (eC (.int 2147483587))) (eC (.int 1)))))))
  sNil)
  (sSeq (sIf (tB (eOp gGt (eOp atD (oVar 0) (eC (.int 0))) (eC (.int 0))))
  (sSeq (sSet 4 (xVal (eOp gMod (eCall gIntA (aCons (eOp atD (oVar 0) (eC (.int 0))) aNil)) (oVar 1))))
  (sSeq (sStore 0 (eOp gFdiv (eOp atD (oVar 0) (eC (.int 0))) (oVar 1)) (eC (.int 0)))
  (sRet (eVar 4))))
  sNil)
  (sSeq (sStore 0 (eOp gMod (eCall gIntA (aCons (eOp gAdd (eOp gAdd (eOp gMul (eOp atD (oVar 0) (eC (.int 1))) (eOp atD (oVar 0) (eC (.int 1)))) (eOp gMul (eC (.int 16807)) (eOp atD (oVar 0) (eC (.int 2))))) (eC (.int 29))) aNil)) (eC (.int 2147483587))) (eC (.int 1)))
  (sRet (eOp gMod (eCall gIntA (aCons (eOp gAdd (eOp gFdiv (eOp atD (oVar 0) (eC (.int 1))) (eC (.int 16))) (eOp gMul (eOp atD (oVar 0) (eC (.int 2))) (eOp atD (oVar 0) (eC (.int 2))))) aNil)) (oVar 1)))))))
def B_law_like (f_law_like : FD) : SM := (sSeq (sIf (tB (eIsI [.list, .tuple] (oVar 1)))
  (sSeq (sIf (tOr (tNot (tB (eIsI [.list, .tuple] (oVar 0)))) (tOr (tB (eOp gNe (eIsI [.list] (oVar 0)) (eIsI [.list] (oVar 1)))) (tB (eOp gNe (eCall gLen (aCons (oVar 0) aNil)) (eCall gLen (aCons (oVar 1) aNil))))))
  (sRet (eC (.bl false)))
  sNil)
  (sRet (eCall gAll (aCons (eFrz (lcL (iRange1 (aCons (eCall gLen (aCons (oVar 1) aNil)) aNil)) (tgName 2) tYesM (eFn 2 f_law_like (aCons (eOp atD (oVar 0) (oVar 2)) (aCons (eOp atD (oVar 1) (oVar 2)) aNil))) [2])) aNil))))
  sNil)
  (sSeq (sIf (tB (eOp gIsN (oVar 1) (eC .non)))
  (sRet (eOp gIsN (oVar 0) (eC .non)))
  sNil)
  (sSeq (sIf (tB (eIsI [.bool] (oVar 1)))
  (sRet (eAnd (eIsI [.bool] (oVar 0)) (eOp gEq (oVar 0) (oVar 1))))
  sNil)
  (sSeq (sIf (tB (eIsI [.str] (oVar 1)))
  (sRet (eAnd (eIsI [.str] (oVar 0)) (eOp gEq (oVar 0) (oVar 1))))
  sNil)
  (sRet (eAnd (eIsI [.int] (oVar 0)) (eAnd (eNot (eIsI [.bool] (oVar 0))) (eOp gEq (oVar 0) (oVar 1)))))))))
def B_law_gates (f_law_draw : FD) : SM := (sSeq (sSet 4 (xOwn (lLst aNil)))
  (sSeq (sFor (iRange1 (aCons (eFn 2 f_law_draw (aCons (eVar 0) (aCons (eOp gAdd (oVar 2) (eC (.int 1))) aNil))) aNil)) (tgName 5)
  (sSeq (sSet 6 (xVal (eOp atD (oVar 3) (eFn 2 f_law_draw (aCons (eVar 0) (aCons (eCall gLen (aCons (oVar 3) aNil)) aNil))))))
  (sSeq (sSet 7 (xVal (eFn 2 f_law_draw (aCons (eVar 0) (aCons (eVar 1) aNil)))))
  (sIf (tB (eOp gEq (oVar 6) (eC (.str [119]))))
  (sAppend 4 (eTup (aCons (eVar 6) aNil)))
  (sIf (tB (eOp gNotIn (oVar 6) (eTup (aCons (eC (.str [99, 120])) (aCons (eC (.str [99, 122])) (aCons (eC (.str [115, 119, 97, 112])) aNil))))))
  (sAppend 4 (eTup (aCons (eVar 6) (aCons (eVar 7) aNil))))
  (sIf (tB (eOp gGt (oVar 1) (eC (.int 1))))
  (sAppend 4 (eTup (aCons (eVar 6) (aCons (eVar 7) (aCons (eOp gMod (eCall gIntA (aCons (eOp gAdd (eOp gAdd (oVar 7) (eC (.int 1))) (eFn 2 f_law_draw (aCons (eVar 0) (aCons (eOp gSub (oVar 1) (eC (.int 1))) aNil)))) aNil)) (oVar 1)) aNil)))))
  sNil))))))
  (sRet (eCall gTuple (aCons (oVar 4) aNil)))))
def B_law_signs : SM := (sSeq (sAsg (tgTup [(tgName 1), (tgName 2)]) (eVar 0))
  (sRet (eFrz (lLst (aCons (eOp gAdd (oVar 1) (eMeth .str gCount (oVar 2) (aCons (eC (.str [89])) aNil))) (aCons (eNew (lcL (iVal (oVar 2)) (tgName 3) tYesM (eCall gIntA (aCons (eOp gIn (oVar 3) (eC (.str [88, 89]))) aNil)) [3])) (aCons (eNew (lcL (iVal (oVar 2)) (tgName 3) tYesM (eCall gIntA (aCons (eOp gIn (oVar 3) (eC (.str [89, 90]))) aNil)) [3])) aNil)))))))
def B_law_word : SM := (sSeq (sSet 3 (xVal (eMeth .str gJoin (eC (.str [])) (aCons (eFrz (lcL (iRange1 (aCons (eCall gLen (aCons (oVar 1) aNil)) aNil)) (tgName 4) tYesM (eOp atD (eC (.str [73, 90, 88, 89])) (eOp gAdd (eOp gMul (eC (.int 2)) (eOp atD (oVar 1) (oVar 4))) (eOp atD (oVar 2) (oVar 4)))) [4])) aNil))))
  (sRet (eTup (aCons (eOp gMod (eCall gIntA (aCons (eOp gSub (oVar 0) (eMeth .str gCount (oVar 3) (aCons (eC (.str [89])) aNil))) aNil)) (eC (.int 4))) (aCons (eVar 3) aNil)))))
def B_law_times (f_law_signs f_law_word : FD) : SM := (sSeq (sAsg (tgTup [(tgName 2), (tgName 3)]) (eTup (aCons (eFn 1 f_law_signs (aCons (eVar 0) aNil)) (aCons (eFn 1 f_law_signs (aCons (eVar 1) aNil)) aNil))))
  (sSeq (sSet 4 (xVal (eCall gSum (aCons (eFrz (lcL (iRange1 (aCons (eCall gLen (aCons (eOp atD (oVar 0) (eC (.int 1))) aNil)) aNil)) (tgName 7) tYesM (eOp gMul (eOp atD (eOp atD (oVar 2) (eC (.int 2))) (oVar 7)) (eOp atD (eOp atD (oVar 3) (eC (.int 1))) (oVar 7))) [7])) aNil))))
  (sSeq (sSet 5 (xVal (eFrz (lcL (iRange1 (aCons (eCall gLen (aCons (eOp atD (oVar 0) (eC (.int 1))) aNil)) aNil)) (tgName 7) tYesM (eOp gMod (eCall gIntA (aCons (eOp gAdd (eOp atD (eOp atD (oVar 2) (eC (.int 1))) (oVar 7)) (eOp atD (eOp atD (oVar 3) (eC (.int 1))) (oVar 7))) aNil)) (eC (.int 2))) [7]))))
  (sSeq (sSet 6 (xVal (eFrz (lcL (iRange1 (aCons (eCall gLen (aCons (eOp atD (oVar 0) (eC (.int 1))) aNil)) aNil)) (tgName 7) tYesM (eOp gMod (eCall gIntA (aCons (eOp gAdd (eOp atD (eOp atD (oVar 2) (eC (.int 2))) (oVar 7)) (eOp atD (eOp atD (oVar 3) (eC (.int 2))) (oVar 7))) aNil)) (eC (.int 2))) [7]))))
  (sRet (eFn 3 f_law_word (aCons (eOp gAdd (eOp gAdd (eOp atD (oVar 2) (eC (.int 0))) (eOp atD (oVar 3) (eC (.int 0)))) (eOp gMul (eC (.int 2)) (oVar 4))) (aCons (eVar 5) (aCons (eVar 6) aNil)))))))))
def B_law_group (f_law_times : FD) : SM := (sSeq (sSet 1 (xVal (eFrz (lLst (aCons (eTup (aCons (eC (.int 0)) (aCons (eOp gMul (eC (.str [73])) (eCall gLen (aCons (eOp atD (eOp atD (oVar 0) (eC (.int 0))) (eC (.int 1))) aNil))) aNil))) aNil)))))
  (sSeq (sForV 0 (tgName 2)
  (sSet 1 (xVal (eOp gAdd (oVar 1) (eFrz (lcL (iVal (oVar 1)) (tgName 3) tYesM (eFn 2 f_law_times (aCons (eVar 3) (aCons (eVar 2) aNil))) [3]))))))
  (sRet (eVar 1))))
def B_law_meets : SM := (sSeq (sSet 2 (xVal (eFrz (lcL (iRange1 (aCons (eCall gLen (aCons (eOp atD (oVar 0) (eC (.int 1))) aNil)) aNil)) (tgName 3) (tAnd (tB (eOp gNe (eOp atD (eOp atD (oVar 0) (eC (.int 1))) (oVar 3)) (eOp atD (eOp atD (oVar 1) (eC (.int 1))) (oVar 3)))) (tB (eOp gNotIn (eC (.str [73])) (eTup (aCons (eOp atD (eOp atD (oVar 0) (eC (.int 1))) (oVar 3)) (aCons (eOp atD (eOp atD (oVar 1) (eC (.int 1))) (oVar 3)) aNil)))))) (eVar 3) [3]))))
  (sRet (eOp gEq (eOp gMod (eCall gIntA (aCons (eCall gLen (aCons (oVar 2) aNil)) aNil)) (eC (.int 2))) (eC (.int 0)))))
def B_law_led (f_law_signs f_law_word : FD) : SM := (sSeq (sAsg (tgTup [(tgName 2), (tgName 3), (tgName 4)]) (eFn 1 f_law_signs (aCons (eVar 1) aNil)))
  (sSeq (sForV 0 (tgName 5)
  (sSeq (sPar3 6 7 8 (xsCons (xVal (eOp atD (oVar 5) (eC (.int 0)))) (xsCons (xVal (eC (.int 0))) (xsCons (xVal (eC (.int 0))) xsNil))))
  (sSeq (sIf (tB (eOp gGt (eCall gLen (aCons (oVar 5) aNil)) (eC (.int 1))))
  (sPar2 7 8 (xsCons (xVal (eOp atD (oVar 5) (eC (.int 1)))) (xsCons (xVal (eOp atD (oVar 5) (eNeg (eC (.int 1))))) xsNil)))
  sNil)
  (sSeq (sPar2 9 10 (xsCons (xVal (eOp atD (oVar 3) (oVar 7))) (xsCons (xVal (eOp atD (oVar 4) (oVar 7))) xsNil)))
  (sSeq (sIf (tB (eOp gEq (oVar 6) (eC (.str [104]))))
  (sSeq (sAug 2 gIAdd (eOp gMul (eOp gMul (eC (.int 2)) (oVar 9)) (oVar 10)))
  (sSeq (sStore 3 (eVar 10) (eVar 7))
  (sStore 4 (eVar 9) (eVar 7))))
  sNil)
  (sSeq (sIf (tOr (tB (eOp gEq (oVar 6) (eC (.str [115])))) (tB (eOp gEq (oVar 6) (eC (.str [115, 100])))))
  (sSeq (sAug 2 gIAdd (eOp gMul (oVar 9) (eIf (tB (eOp gEq (oVar 6) (eC (.str [115])))) (eC (.int 1)) (eC (.int 3)))))
  (sStore 4 (eOp gMod (eCall gIntA (aCons (eOp gAdd (oVar 9) (oVar 10)) aNil)) (eC (.int 2))) (eVar 7)))
  sNil)
  (sSeq (sIf (tOr (tB (eOp gEq (oVar 6) (eC (.str [120])))) (tB (eOp gEq (oVar 6) (eC (.str [121])))))
  (sAug 2 gIAdd (eOp gMul (eC (.int 2)) (oVar 10)))
  sNil)
  (sSeq (sIf (tOr (tB (eOp gEq (oVar 6) (eC (.str [122])))) (tB (eOp gEq (oVar 6) (eC (.str [121])))))
  (sAug 2 gIAdd (eOp gMul (eC (.int 2)) (oVar 9)))
  sNil)
  (sSeq (sIf (tB (eOp gEq (oVar 6) (eC (.str [99, 120]))))
  (sSeq (sStore 3 (eOp gMod (eCall gIntA (aCons (eOp gAdd (eOp atD (oVar 3) (oVar 8)) (oVar 9)) aNil)) (eC (.int 2))) (eVar 8))
  (sStore 4 (eOp gMod (eCall gIntA (aCons (eOp gAdd (oVar 10) (eOp atD (oVar 4) (oVar 8))) aNil)) (eC (.int 2))) (eVar 7)))
  sNil)
  (sSeq (sIf (tB (eOp gEq (oVar 6) (eC (.str [99, 122]))))
  (sSeq (sAug 2 gIAdd (eOp gMul (eOp gMul (eC (.int 2)) (oVar 9)) (eOp atD (oVar 3) (oVar 8))))
  (sSeq (sStore 4 (eOp gMod (eCall gIntA (aCons (eOp gAdd (oVar 10) (eOp atD (oVar 3) (oVar 8))) aNil)) (eC (.int 2))) (eVar 7))
  (sStore 4 (eOp gMod (eCall gIntA (aCons (eOp gAdd (eOp atD (oVar 4) (oVar 8)) (oVar 9)) aNil)) (eC (.int 2))) (eVar 8))))
  sNil)
  (sIf (tB (eOp gEq (oVar 6) (eC (.str [115, 119, 97, 112]))))
  (sSeq (sStore 3 (eOp atD (oVar 3) (oVar 8)) (eVar 7))
  (sSeq (sStore 4 (eOp atD (oVar 4) (oVar 8)) (eVar 7))
  (sSeq (sStore 3 (eVar 9) (eVar 8))
  (sStore 4 (eVar 10) (eVar 8)))))
  sNil)))))))))))
  (sRet (eFn 3 f_law_word (aCons (eVar 2) (aCons (eVar 3) (aCons (eVar 4) aNil)))))))
def B_law_are_words : SM := (sSeq (sIf (tOr (tNot (tB (eIsI [.tuple] (oVar 0)))) (tB (eOp gNe (eCall gLen (aCons (oVar 0) aNil)) (oVar 2))))
  (sRet (eC (.bl false)))
  sNil)
  (sSeq (sForV 0 (tgName 3)
  (sSeq (sIf (tOr (tNot (tB (eIsI [.tuple] (oVar 3)))) (tOr (tB (eOp gNe (eCall gLen (aCons (oVar 3) aNil)) (eC (.int 2)))) (tOr (tNot (tB (eIsI [.int] (eOp atD (oVar 3) (eC (.int 0)))))) (tB (eIsI [.bool] (eOp atD (oVar 3) (eC (.int 0))))))))
  (sRet (eC (.bl false)))
  sNil)
  (sSeq (sIf (tOr (tB (eOp gNotIn (eOp atD (oVar 3) (eC (.int 0))) (eTup (aCons (eC (.int 0)) (aCons (eC (.int 2)) aNil))))) (tOr (tNot (tB (eIsI [.str] (eOp atD (oVar 3) (eC (.int 1)))))) (tB (eOp gNe (eCall gLen (aCons (eOp atD (oVar 3) (eC (.int 1))) aNil)) (oVar 1)))))
  (sRet (eC (.bl false)))
  sNil)
  (sIf (tB (eOp gNe (eFrz (lcL (iVal (eOp atD (oVar 3) (eC (.int 1)))) (tgName 4) (tB (eOp gNotIn (oVar 4) (eC (.str [73, 88, 89, 90])))) (eVar 4) [4])) (eFrz (lLst aNil))))
  (sRet (eC (.bl false)))
  sNil))))
  (sRet (eC (.bl true)))))
def B_law_same_group (f_law_group : FD) : SM := (sSeq (sSet 2 (xVal (eFn 1 f_law_group (aCons (eVar 0) aNil))))
  (sRet (eAnd (eOp gEq (eCall gLen (aCons (oVar 2) aNil)) (eCall gLen (aCons (oVar 1) aNil))) (eOp gEq (eFrz (lcL (iVal (oVar 1)) (tgName 3) (tB (eOp gNotIn (oVar 3) (oVar 2))) (eVar 3) [3])) (eFrz (lLst aNil))))))
def B_law_is_reduced (f_law_signs : FD) : SM := (sSeq (sSet 1 (xVal (eFrz (lcL (iVal (oVar 0)) (tgName 4) tYesM (eOp gAdd (eOp atD (eFn 1 f_law_signs (aCons (eVar 4) aNil)) (eC (.int 1))) (eOp atD (eFn 1 f_law_signs (aCons (eVar 4) aNil)) (eC (.int 2)))) [4]))))
  (sSeq (sSet 2 (xVal (eNeg (eC (.int 1)))))
  (sSeq (sForV 1 (tgName 3)
  (sSeq (sIf (tOr (tB (eOp gNotIn (eC (.int 1)) (oVar 3))) (tOr (tB (eOp gLeI (eMeth .list gIndex (oVar 3) (aCons (eC (.int 1)) aNil)) (oVar 2))) (tB (eOp gNe (eCall gSum (aCons (eFrz (lcL (iVal (oVar 1)) (tgName 5) tYesM (eOp atD (oVar 5) (eMeth .list gIndex (oVar 3) (aCons (eC (.int 1)) aNil))) [5])) aNil)) (eC (.int 1))))))
  (sRet (eC (.bl false)))
  sNil)
  (sSet 2 (xVal (eMeth .list gIndex (oVar 3) (aCons (eC (.int 1)) aNil))))))
  (sRet (eC (.bl true))))))
def B_law_at : SM := (sRet (eTup (aCons (eC (.int 0)) (aCons (eOp gAdd (eOp gAdd (eOp gMul (eC (.str [73])) (oVar 1)) (oVar 2)) (eOp gMul (eC (.str [73])) (eOp gSub (eOp gSub (oVar 0) (eC (.int 1))) (oVar 1)))) aNil))))
def B_law_code (f_law_gates f_law_led f_law_at f_law_draw f_law_mixed : FD) : SM := (sSeq (sSet 3 (xVal (eFn 4 f_law_gates (aCons (eVar 0) (aCons (eVar 1) (aCons (eC (.int 12)) (aCons (eFrz (lLst (aCons (eC (.str [104])) (aCons (eC (.str [104])) (aCons (eC (.str [104])) (aCons (eC (.str [115])) (aCons (eC (.str [115, 100])) (aCons (eC (.str [120])) (aCons (eC (.str [121])) (aCons (eC (.str [122])) (aCons (eC (.str [99, 120])) (aCons (eC (.str [99, 120])) (aCons (eC (.str [99, 120])) (aCons (eC (.str [99, 122])) (aCons (eC (.str [115, 119, 97, 112])) (aCons (eC (.str [119])) aNil)))))))))))))))) aNil)))))))
  (sSeq (sSet 4 (xOwn (lLst aNil)))
  (sSeq (sFor (iRange1 (aCons (eVar 2) aNil)) (tgName 5)
  (sSeq (sAsg (tgTup [(tgName 6), (tgName 7)]) (eFn 2 f_law_led (aCons (eVar 3) (aCons (eFn 3 f_law_at (aCons (eVar 1) (aCons (eVar 5) (aCons (eC (.str [90])) aNil)))) aNil))))
  (sAppend 4 (eTup (aCons (eOp gMod (eCall gIntA (aCons (eOp gAdd (oVar 6) (eOp gMul (eC (.int 2)) (eFn 2 f_law_draw (aCons (eVar 0) (aCons (eC (.int 2)) aNil))))) aNil)) (eC (.int 4))) (aCons (eVar 7) aNil))))))
  (sFrz [4] (sRet (eFn 2 f_law_mixed (aCons (eVar 0) (aCons (eVar 4) aNil))))))))
def B_law_mixed (f_law_draw f_law_times : FD) : SM := (sSeq (sSet 1 (xOwn (lListOf (aCons (oVar 1) aNil))))
  (sSeq (sFor (iRange1 (aCons (eCall gLen (aCons (oVar 1) aNil)) aNil)) (tgName 2)
  (sSeq (sSet 3 (xVal (eOp gMod (eCall gIntA (aCons (eOp gAdd (eOp gAdd (oVar 2) (eC (.int 1))) (eFn 2 f_law_draw (aCons (eVar 0) (aCons (eCall gMax2 (aCons (eC (.int 1)) (aCons (eOp gSub (eCall gLen (aCons (oVar 1) aNil)) (eC (.int 1))) aNil))) aNil)))) aNil)) (eCall gLen (aCons (oVar 1) aNil)))))
  (sIf (tAnd (tB (eOp gNe (oVar 3) (oVar 2))) (tB (eOp gEq (eFn 2 f_law_draw (aCons (eVar 0) (aCons (eC (.int 2)) aNil))) (eC (.int 1)))))
  (sStore 1 (eFn 2 f_law_times (aCons (eOp atD (oVar 1) (oVar 2)) (aCons (eOp atD (oVar 1) (oVar 3)) aNil))) (eVar 2))
  sNil)))
  (sRet (eCall gTuple (aCons (oVar 1) aNil)))))
def B_law_pauli (f_law_draw : FD) : SM := (sRet (eTup (aCons (eFn 2 f_law_draw (aCons (eVar 0) (aCons (eC (.int 4)) aNil))) (aCons (eMeth .str gJoin (eC (.str [])) (aCons (eFrz (lcL (iRange1 (aCons (eVar 1) aNil)) (tgName 2) tYesM (eOp atD (eC (.str [73, 88, 89, 90])) (eFn 2 f_law_draw (aCons (eVar 0) (aCons (eC (.int 4)) aNil)))) [2])) aNil)) aNil))))
def B_law_bent (f_law_at f_law_times f_law_draw : FD) : SM := (sSeq (sAsg (tgTup [(tgName 2), (tgName 3)]) (eTup (aCons (eCall gLen (aCons (eOp atD (eOp atD (oVar 1) (eC (.int 0))) (eC (.int 1))) aNil)) (aCons (eOp atD (oVar 1) (eC (.int 0))) aNil))))
  (sSeq (sSet 4 (xVal (eOp atD (eFrz (lcL (iRange1 (aCons (eVar 2) aNil)) (tgName 7) (tB (eOp gNe (eOp atD (eOp atD (oVar 3) (eC (.int 1))) (oVar 7)) (eC (.str [73])))) (eVar 7) [7])) (eC (.int 0)))))
  (sSeq (sSet 5 (xVal (eFn 3 f_law_at (aCons (eVar 2) (aCons (eVar 4) (aCons (eGetG [([88], .str [90]), ([89], .str [88]), ([90], .str [88])] (eOp atD (eOp atD (oVar 3) (eC (.int 1))) (oVar 4))) aNil))))))
  (sSeq (sSet 6 (xVal (eFrz (lLst (aCons (eFrz (lListOf (aCons (oVar 1) aNil))) (aCons (eTup aNil) (aCons (eOp gAdd (oVar 1) (eTup (aCons (eVar 3) aNil))) (aCons (eOp gAdd (oVar 1) (eTup (aCons (eFn 2 f_law_times (aCons (eVar 3) (aCons (eOp atD (oVar 1) (eNeg (eC (.int 1)))) aNil))) aNil))) (aCons (eOp gAdd (eTup (aCons (eTup (aCons (eC (.int 1)) (aCons (eOp atD (oVar 3) (eC (.int 1))) aNil))) aNil)) (eSlice (oVar 1) (oSome (eC (.int 1))) oNone)) (aCons (eC .non) aNil))))))))))
  (sSeq (sSet 6 (xVal (eOp gAdd (oVar 6) (eFrz (lLst (aCons (eOp gAdd (eTup (aCons (eTup (aCons (eC (.int 0)) (aCons (eOp gMul (eC (.str [73])) (oVar 2)) aNil))) aNil)) (eSlice (oVar 1) (oSome (eC (.int 1))) oNone)) (aCons (eOp gAdd (oVar 1) (eTup (aCons (eTup (aCons (eC (.int 0)) (aCons (eOp gAdd (eC (.str [90])) (eOp atD (oVar 3) (eC (.int 1)))) aNil))) aNil))) (aCons (eOp gAdd (oVar 1) (eTup (aCons (eVar 5) aNil))) (aCons (eOp gAdd (eTup (aCons (eVar 5) aNil)) (oVar 1)) aNil)))))))))
  (sSeq (sSet 6 (xVal (eOp gAdd (oVar 6) (eFrz (lLst (aCons (eOp gAdd (eTup (aCons (eTup (aCons (eC (.bl true)) (aCons (eOp atD (oVar 3) (eC (.int 1))) aNil))) aNil)) (eSlice (oVar 1) (oSome (eC (.int 1))) oNone)) (aCons (eOp gAdd (eTup (aCons (eFrz (lListOf (aCons (oVar 3) aNil))) aNil)) (eSlice (oVar 1) (oSome (eC (.int 1))) oNone)) (aCons (eOp gAdd (eTup (aCons (eTup (aCons (eC (.int 0)) (aCons (eOp gMul (eC (.str [65])) (oVar 2)) aNil))) aNil)) (eSlice (oVar 1) (oSome (eC (.int 1))) oNone)) (aCons (eTup (aCons (eTup (aCons (eC (.int 0)) (aCons (eC (.str [])) aNil))) aNil)) (aCons (eTup (aCons (eOp atD (oVar 3) (eC (.int 1))) aNil)) aNil))))))))))
  (sRet (eOp atD (oVar 6) (eFn 2 f_law_draw (aCons (eVar 0) (aCons (eCall gLen (aCons (oVar 6) aNil)) aNil)))))))))))
def B_law (f_law_draw f_law_code f_law_mixed f_law_pauli f_is_code f_law_bent f_law_like f_law_meets f_syndrome f_code_reduced f_law_are_words f_law_same_group f_law_group f_same_code f_law_is_reduced : FD) : SM := (sSeq (sSet 1 (xHeap (lLst (aCons (eC (.int 0)) (aCons (eC (.int 83)) (aCons (eC (.int 0)) (aCons (eC (.int 0)) (aCons (eFrz (lListOf (aCons (oVar 0) aNil))) aNil))))))))
  (sSeq (sFor (iRange1 (aCons (eC (.int 2)) aNil)) (tgName 2)
  (sSeq (sSet 3 (xVal (eOp gAdd (eC (.int 1)) (eFn 2 f_law_draw (aCons (eVar 1) (aCons (eC (.int 5)) aNil))))))
  (sSeq (sSet 4 (xVal (eFn 3 f_law_code (aCons (eVar 1) (aCons (eVar 3) (aCons (eOp gAdd (eC (.int 1)) (eFn 2 f_law_draw (aCons (eVar 1) (aCons (eVar 3) aNil)))) aNil))))))
  (sSeq (sAsg (tgTup [(tgName 5), (tgName 6)]) (eTup (aCons (eFn 2 f_law_mixed (aCons (eVar 1) (aCons (eVar 4) aNil))) (aCons (eFn 2 f_law_pauli (aCons (eVar 1) (aCons (eVar 3) aNil))) aNil))))
  (sSeq (sSet 7 (xVal (eFrz (lLst (aCons (eFn 1 f_is_code (aCons (eVar 4) aNil)) (aCons (eFnK 1 0 1 [0] f_is_code aNil (aCons (eVar 5) aNil)) (aCons (eFn 1 f_is_code (aCons (eFn 2 f_law_bent (aCons (eVar 1) (aCons (eVar 4) aNil))) aNil)) aNil)))))))
  (sSeq (sIf (tNot (tB (eFn 2 f_law_like (aCons (eVar 7) (aCons (eFrz (lLst (aCons (eC (.bl true)) (aCons (eC (.bl true)) (aCons (eC (.bl false)) aNil))))) aNil)))))
  (sRet (eC (.bl false)))
  sNil)
  (sSeq (sSet 8 (xVal (eMeth .str gJoin (eC (.str [])) (aCons (eFrz (lcL (iVal (oVar 4)) (tgName 12) tYesM (eIf (tB (eFn 2 f_law_meets (aCons (eVar 12) (aCons (eVar 6) aNil)))) (eC (.str [48])) (eC (.str [49]))) [12])) aNil))))
  (sSeq (sIf (tNot (tB (eFn 2 f_law_like (aCons (eFrz (lLst (aCons (eFn 2 f_syndrome (aCons (eVar 4) (aCons (eVar 6) aNil))) (aCons (eFnK 2 0 2 [1, 0] f_syndrome aNil (aCons (eVar 6) (aCons (eVar 4) aNil))) aNil)))) (aCons (eFrz (lLst (aCons (eVar 8) (aCons (eVar 8) aNil)))) aNil)))))
  (sRet (eC (.bl false)))
  sNil)
  (sSeq (sPar2 9 10 (xsCons (xVal (eFn 1 f_code_reduced (aCons (eVar 4) aNil))) (xsCons (xVal (eFn 2 f_law_draw (aCons (eVar 1) (aCons (eCall gLen (aCons (oVar 4) aNil)) aNil)))) xsNil)))
  (sSeq (sIf (tOr (tNot (tB (eFn 3 f_law_are_words (aCons (eVar 9) (aCons (eVar 3) (aCons (eCall gLen (aCons (oVar 4) aNil)) aNil)))))) (tNot (tB (eFn 2 f_law_same_group (aCons (eVar 9) (aCons (eFn 1 f_law_group (aCons (eVar 4) aNil)) aNil))))))
  (sRet (eC (.bl false)))
  sNil)
  (sSeq (sSet 11 (xVal (eOp gAdd (eOp gAdd (eSlice (oVar 5) oNone (oSome (eVar 10))) (eTup (aCons (eTup (aCons (eOp gMod (eCall gIntA (aCons (eOp gAdd (eOp atD (eOp atD (oVar 5) (oVar 10)) (eC (.int 0))) (eC (.int 2))) aNil)) (eC (.int 4))) (aCons (eOp atD (eOp atD (oVar 5) (oVar 10)) (eC (.int 1))) aNil))) aNil))) (eSlice (oVar 5) (oSome (eOp gAdd (oVar 10) (eC (.int 1)))) oNone))))
  (sSeq (sSet 7 (xVal (eFrz (lLst (aCons (eFnK 1 0 1 [0] f_code_reduced aNil (aCons (eVar 5) aNil)) (aCons (eFn 2 f_same_code (aCons (eVar 4) (aCons (eVar 5) aNil))) (aCons (eFnK 2 0 2 [1, 0] f_same_code aNil (aCons (eVar 11) (aCons (eVar 4) aNil))) (aCons (eFn 2 f_same_code (aCons (eVar 9) (aCons (eVar 4) aNil))) aNil))))))))
  (sIf (tOr (tNot (tB (eFn 1 f_law_is_reduced (aCons (eVar 9) aNil)))) (tNot (tB (eFn 2 f_law_like (aCons (eVar 7) (aCons (eFrz (lLst (aCons (eVar 9) (aCons (eC (.bl true)) (aCons (eC (.bl false)) (aCons (eC (.bl true)) aNil)))))) aNil))))))
  (sRet (eC (.bl false)))
  sNil)))))))))))))
  (sRet (eC (.bl true)))))
end WC
set_option Elab.async false
set_option linter.all false
set_option maxRecDepth 100000
namespace WC
open PySem PySem.Spec PyProof.Rows L2 QC
variable {h : Hs}
def cd (l : Ls) : List Nat := l.map P4.code
@[simp] theorem cd_len (l : Ls) : (cd l).length = l.length := by simp [cd]
theorem cd_items (l : Ls) : ((cd l).map fun c => D.str [c]) = l.map fun a => .str [P4.code a] := by unfold cd; rw [List.map_map]; rfl
abbrev pwD (w : Pw) : D := .tup [.int w.e, .str (cd w.l)]
abbrev wsD (ws : List Pw) : D := .tup (ws.map pwD)
abbrev FRow (f : FD) : Prop := ∀ (bs : List Bool) (h : Hs), f [.lst (bs.map .bl)] h = .ok (.int (vb bs)) h
theorem vb_snoc (bs : List Bool) (b : Bool) : vb (bs ++ [b]) = vb bs * 2 + (if b then 1 else 0) := by simp [vb]
theorem row_of_ok : FRow (defF 3 B_row_of) := fun bs h => by
  simp [B_row_of]
  generalize hr : forGo _ _ _ _ _ = r
  obtain ⟨σ', rfl, i⟩ := for_pure_of hr D.bl bs rfl (fun done σ => ∃ x, σ = [.val (.lst (bs.map .bl)), .val (.int (vb done)), x] ∧ x.plain = true) ⟨_, rfl, rfl⟩ fun done x rest σ e i => by
    obtain ⟨y, rfl, py⟩ := i
    have m2 : cMul 2 (vb done) = true := cMul_l (by decide)
    refine ⟨[.val (.lst (bs.map .bl)), .val (.int (vb done)), .val (.bl x)], _, by simp [py], .inl rfl, .val (.bl x), ?_, rfl⟩
    cases x <;> simp [g_mulOk m2, vb_snoc] <;> omega
  obtain ⟨y, rfl, _⟩ := i
  simp
theorem flips_ok {f : FD} (hf : FRow f) (l : Ls) (hl : l.length ≤ 1000) : defF 2 (B_flips_of f) [.str (cd l)] h = .ok (.int (vb (l.map P4.xb))) h := by
  have key := lc_typed (m := iVal (oVar 0)) (t := tgName 1) (vs := [1]) (te := eOp gIn (oVar 1) (eC (.str [88, 89]))) (σ := [.val (.str (cd l)), .no]) (h := h) l (fun a => .str [P4.code a]) (fun a => .bl (P4.xb a)) (by simp [cd_items]) (by omega) fun a _ => ⟨_, rfl, by cases a <;> rfl⟩
  have e := hf (l.map P4.xb) h
  rw [List.map_map] at e
  have e : f [.lst (l.map fun a => .bl (P4.xb a))] h = .ok (.int (vb (l.map P4.xb))) h := e
  simp [B_flips_of, key, e]
theorem turns_ok {f : FD} (hf : FRow f) (l : Ls) (hl : l.length ≤ 1000) : defF 2 (B_turns_of f) [.str (cd l)] h = .ok (.int (vb (l.map P4.zb))) h := by
  have key := lc_typed (m := iVal (oVar 0)) (t := tgName 1) (vs := [1]) (te := eOp gIn (oVar 1) (eC (.str [89, 90]))) (σ := [.val (.str (cd l)), .no]) (h := h) l (fun a => .str [P4.code a]) (fun a => .bl (P4.zb a)) (by simp [cd_items]) (by omega) fun a _ => ⟨_, rfl, by cases a <;> rfl⟩
  have e := hf (l.map P4.zb) h
  rw [List.map_map] at e
  have e : f [.lst (l.map fun a => .bl (P4.zb a))] h = .ok (.int (vb (l.map P4.zb))) h := e
  simp [B_turns_of, key, e]
theorem vb_lt_go : ∀ (r : List Bool) (a n : Nat), a < 2 ^ n → r.foldl (fun a b => a * 2 + (if b then 1 else 0)) a < 2 ^ (n + r.length)
  | [], a, n, h => by simpa using h
  | b :: r, a, n, h => by
    have ih := vb_lt_go r (a * 2 + (if b then 1 else 0)) (n + 1) (by rw [Nat.pow_succ]; split <;> omega)
    rw [List.length_cons, show n + (r.length + 1) = n + 1 + r.length by omega]
    exact ih
theorem vb_lt (r : List Bool) : vb r < 2 ^ r.length := by
  have := vb_lt_go r 0 0 (by decide)
  unfold vb
  simpa using this
theorem vb_app : ∀ (b a : List Bool), vb (a ++ b) = vb a * 2 ^ b.length + vb b := by
  intro b
  have key : ∀ (b : List Bool) (x : Nat), b.foldl (fun a b => a * 2 + (if b then 1 else 0)) x = x * 2 ^ b.length + b.foldl (fun a b => a * 2 + (if b then 1 else 0)) 0 := by
    intro b
    induction b with
    | nil => intro x; simp
    | cons c b ih =>
      intro x
      rw [List.foldl_cons, List.foldl_cons, ih, ih (0 * 2 + _), List.length_cons, Nat.pow_succ]
      rw [Nat.add_mul, Nat.mul_assoc, Nat.mul_comm 2 (2 ^ b.length)]
      cases c <;> simp <;> omega
  intro a
  unfold vb
  rw [List.foldl_append, key b]
theorem sg_lt {l : Ls} : sg l < 2 ^ (2 * l.length) := by
  have := vb_lt (bl l)
  unfold sg
  simp [bl] at this
  rw [Nat.two_mul]
  exact this
abbrev FSg (f : FD) : Prop := ∀ (w : Pw) (h : Hs), w.l.length ≤ 30 → f [pwD w] h = .ok (.int (sg w.l)) h
theorem signs_ok {f g : FD} (hf : ∀ (l : Ls) (h : Hs), l.length ≤ 1000 → f [.str (cd l)] h = .ok (.int (vb (l.map P4.xb))) h) (hg : ∀ (l : Ls) (h : Hs), l.length ≤ 1000 → g [.str (cd l)] h = .ok (.int (vb (l.map P4.zb))) h) : FSg (defF 1 (B_signs_of f g)) := fun w h hl => by
  have e1 := hf w.l h (by omega)
  have e2 := hg w.l h (by omega)
  have l1 : vb (w.l.map P4.xb) < 2 ^ 64 := by
    have := vb_lt (w.l.map P4.xb)
    simp at this
    exact Nat.lt_of_lt_of_le this (Nat.pow_le_pow_right (by decide) (by omega))
  have l2 : vb (w.l.map P4.zb) < 2 ^ w.l.length := by
    have := vb_lt (w.l.map P4.zb)
    simpa using this
  have e3 := g_shl (h := h) (i := vb (w.l.map P4.xb)) (j := w.l.length) l1 (by omega)
  have e4 := or_low (h := h) (f := vb (w.l.map P4.xb)) l2
  have e5 : sg w.l = vb (w.l.map P4.xb) * 2 ^ w.l.length + vb (w.l.map P4.zb) := by
    unfold sg bl
    rw [vb_app]
    simp
  have hl2 : w.l.length ≤ 16777216 := by omega
  simp [B_signs_of, e1, e2, e3, e4, hl2, e5]
abbrev FMeets (f : FD) : Prop := ∀ (a b : Pw) (h : Hs), a.l.length = b.l.length → a.l.length ≤ 1000 → f [pwD a, pwD b] h = .ok (.bl (!lanti a.l b.l)) h
theorem code_I {a : P4} : (decide (P4.code a = 73)) = (a == .I) := by cases a <;> rfl
theorem anti_count : ∀ (a b : Ls), (((a.zip b).filter fun p => P4.anti p.1 p.2).length % 2 == 0) = !lanti a b
  | [], _ => rfl
  | _ :: _, [] => rfl
  | x :: a, y :: b => by
    have ih := anti_count a b
    rw [List.zip_cons_cons]
    show _ = !(P4.anti x y ^^ lanti a b)
    cases e : P4.anti x y with
    | false =>
      rw [List.filter_cons_of_neg (by simp [e]), ih]
      simp
    | true =>
      rw [List.filter_cons_of_pos (by simp [e]), List.length_cons]
      have e2 : ((((a.zip b).filter fun p => P4.anti p.1 p.2).length + 1) % 2 == 0) = !((((a.zip b).filter fun p => P4.anti p.1 p.2).length) % 2 == 0) := by
        generalize ((a.zip b).filter fun p => P4.anti p.1 p.2).length = m
        by_cases hm : m % 2 = 0
        · have : (m + 1) % 2 = 1 := by omega
          simp [hm, this]
        · have h1 : m % 2 = 1 := by omega
          have : (m + 1) % 2 = 0 := by omega
          simp [h1, this]
      rw [e2, ih]
      simp
theorem zipD_cd (a b : Ls) : zipD ((cd a).map fun c => .str [c]) ((cd b).map fun c => .str [c]) = (a.zip b).map fun p => .tup [.str [P4.code p.1], .str [P4.code p.2]] := by
  unfold zipD
  rw [cd_items, cd_items]
  induction a generalizing b with
  | nil => rfl
  | cons x a ih =>
    cases b with
    | nil => rfl
    | cons y b =>
      simp only [List.map_cons, List.zipWith_cons_cons, List.zip_cons_cons] at ih ⊢
      rw [ih]
theorem t_anti (a b : P4) {i j : Nat} {σ : Sg} (e1 : σ[i]? = some (.val (.str [P4.code a]))) (e2 : σ[j]? = some (.val (.str [P4.code b]))) : (tAnd (tB (eOp gNe (oVar i) (oVar j))) (tB (eOp gNotIn (eC (.str [73])) (eTup (aCons (eVar i) (aCons (eVar j) aNil)))))) σ h = .ok (P4.anti a b) h := by
  simp [e1, e2]
  cases a <;> cases b <;> rfl
theorem meets_ok : FMeets (defF 5 B_meets_of) := fun a b h hl hn => by
  have key := lc_filt (m := iZipD (aCons (eOp atD (oVar 0) (eC (.int 1))) (aCons (eOp atD (oVar 1) (eC (.int 1))) aNil))) (t := tgTup [(tgName 3), (tgName 4)]) (tt := (tAnd (tB (eOp gNe (oVar 3) (oVar 4))) (tB (eOp gNotIn (eC (.str [73])) (eTup (aCons (eVar 3) (aCons (eVar 4) aNil))))))) (te := eVar 3) (vs := [3, 4]) (σ := [.val (pwD a), .val (pwD b), .no, .no, .no]) (h := h) (a.l.zip b.l) (fun p => .tup [.str [P4.code p.1], .str [P4.code p.2]]) (fun p => .str [P4.code p.1]) (fun p => P4.anti p.1 p.2) (by simp [zipD_cd]) (by simp; omega) fun p _ => ⟨_, rfl, t_anti p.1 p.2 rfl rfl, fun _ => rfl⟩
  have e := anti_count a.l b.l
  have m2 : ∀ z : Int, gMod h (.int z) (.int 2) = some (.int (z % 2)) := fun z => g_mod (by decide)
  simp only [B_meets_of, e_defF, e_startS, List.map_cons, List.map_nil, List.length_cons, List.length_nil, e_sSeq, e_sSet, e_xVal, e_eFrz]
  show (match (match eDo (((lcL _ _ _ _ _ [.val (pwD a), .val (pwD b), .no, .no, .no] h).bind _).bind _) _ with | .nx σ' h' => _ | r => r) with | .nx _ h' => R.ok D.non h' | .rt d h' => .ok d h' | _ => .bad) = _
  rw [key]
  simp [m2]
  rw [← e]
  generalize ((a.l.zip b.l).filter fun p => P4.anti p.1 p.2).length = m
  by_cases hm : m % 2 = 0
  · have : (m : Int) % 2 = 0 := by omega
    simp [hm, this]
  · have h1 : m % 2 = 1 := by omega
    have : (m : Int) % 2 = 1 := by omega
    simp [h1, this]
end WC
set_option Elab.async false
set_option linter.all false
set_option maxRecDepth 100000
namespace WC
open PySem PySem.Spec PyProof.Rows L2 QC
variable {h : Hs}
theorem joinD_one : ∀ l : List Nat, joinD [] (l.map fun c => [c]) = l
  | [] => rfl
  | [c] => rfl
  | c :: d :: r => by
    have := joinD_one (d :: r)
    show [c] ++ ([] ++ joinD [] ((d :: r).map fun c => [c])) = _
    rw [this]
    rfl
theorem g_join1 {l : List Nat} (hl : l.length ≤ 1000000) : gJoin h (.str []) [.lst (l.map fun c => .str [c])] = some (.str l) := by
  have := g_joinM (h := h) (a := []) (xs := l) (p := fun c => [c]) 1 (by simp) (by simp; omega)
  rw [joinD_one] at this
  exact this
abbrev KProd (K : KVs) : Prop := ∀ a b : P4, K.lookup [P4.code a, P4.code b] = some (.tup [.int (P4.ph a b), .str [P4.code (P4.mul a b)]])
abbrev FProd (f : FD) : Prop := ∀ (a b : Pw) (h : Hs), a.l.length = b.l.length → a.l.length ≤ 1000 → f [pwD a, pwD b] h = .ok (pwD (pmul a b)) h
theorem lph_zip : ∀ a b : Ls, lph a b = ((a.zip b).map fun p => P4.ph p.1 p.2).sum
  | [], _ => rfl
  | _ :: _, [] => rfl
  | x :: a, y :: b => by
    have := lph_zip a b
    simp only [List.zip_cons_cons, List.map_cons, List.sum_cons, ← this]
    rfl
theorem lmul_zip : ∀ a b : Ls, lmul a b = (a.zip b).map fun p => P4.mul p.1 p.2
  | [], _ => rfl
  | _ :: _, [] => rfl
  | x :: a, y :: b => by
    have := lmul_zip a b
    simp only [lmul, List.zip_cons_cons, List.map_cons, List.zipWith_cons_cons] at this ⊢
    rw [this]
theorem prod_ok {K : KVs} (hK : KProd K) : FProd (defF 8 (B_product_of K)) := fun a b h hl hn => by
  have e0 := zipD_cd a.l b.l
  simp [B_product_of, e0]
  generalize hr : forGo _ _ _ _ _ = r
  obtain ⟨σ', rfl, i⟩ := for_pure_of hr (fun p : P4 × P4 => .tup [.str [P4.code p.1], .str [P4.code p.2]]) (a.l.zip b.l) rfl (fun done σ => ∃ x4 x5 x6 x7, σ = [.val (pwD a), .val (pwD b), .val (.int ((a.e : Int) + b.e + ((done.map fun p => P4.ph p.1 p.2).sum : Nat))), .own (done.map fun p => .str [P4.code (P4.mul p.1 p.2)]), x4, x5, x6, x7] ∧ x4.plain = true ∧ x5.plain = true ∧ x6.plain = true ∧ x7.plain = true) ⟨_, _, _, _, rfl, rfl, rfl, rfl, rfl⟩ fun done x rest σ e i => by
    obtain ⟨x4, x5, x6, x7, rfl, p4, p5, p6, p7⟩ := i
    have hd : done.length < 16777216 := by
      have := congrArg List.length e
      simp at this
      omega
    refine ⟨_, _, by simp [p4, p5]; rfl, .inl ?_, .val (.str [P4.code x.1]), .val (.str [P4.code x.2]), .val (.int (P4.ph x.1 x.2)), .val (.str [P4.code (P4.mul x.1 x.2)]), rfl, rfl, rfl, rfl, rfl⟩
    simp [p6, p7, hK, hd]
    omega
  obtain ⟨x4, x5, x6, x7, rfl, p4, p5, p6, p7⟩ := i
  have hj := g_join1 (h := h) (l := cd (lmul a.l b.l)) (by simp [lmul]; omega)
  rw [cd_items, lmul_zip, List.map_map] at hj
  have hj : gJoin h (.str []) [.lst ((a.l.zip b.l).map fun p => .str [P4.code (P4.mul p.1 p.2)])] = some (.str (cd ((a.l.zip b.l).map fun p => P4.mul p.1 p.2))) := hj
  have m4 : ∀ z : Int, gMod h (.int z) (.int 4) = some (.int (z % 4)) := fun z => g_mod (by decide)
  simp [tyM, hj, m4, pmul, lph_zip, lmul_zip]
abbrev FProdAll (f : FD) : Prop := ∀ (n : Nat) (ws : List Pw) (h : Hs), n ≤ 1000 → (∀ w ∈ ws, w.l.length = n) → f [.int n, .lst (ws.map pwD)] h = .ok (pwD (ws.foldl pmul (one n))) h
theorem fold_len {n : Nat} : ∀ (ws : List Pw) (a : Pw), a.l.length = n → (∀ w ∈ ws, w.l.length = n) → (ws.foldl pmul a).l.length = n
  | [], a, ha, _ => ha
  | w :: ws, a, ha, hw => fold_len ws (pmul a w) (lmul_len ha (hw w (List.mem_cons_self ..))) fun x m => hw x (List.mem_cons_of_mem _ m)
theorem prodAll_ok {f : FD} (hf : FProd f) : FProdAll (defF 4 (B_product_of_all f)) := fun n ws h hn hw => by
  have e1 : gMul h (.str [73]) (.int n) = some (.str (List.replicate n [73]).flatten) := g_mulS (by omega) (by simp)
  have e2 : (List.replicate n [73]).flatten = cd (ones n) := by simp [cd, ones, P4.code]
  rw [e2] at e1
  simp [B_product_of_all, e1]
  generalize hr : forGo _ _ _ _ _ = r
  obtain ⟨σ', rfl, i⟩ := for_pure_of hr pwD ws rfl (fun done σ => ∃ x3, σ = [.val (.int n), .val (.lst (ws.map pwD)), .val (pwD (done.foldl pmul (one n))), x3] ∧ x3.plain = true) ⟨_, rfl, rfl⟩ fun done x rest σ e i => by
    obtain ⟨x3, rfl, p3⟩ := i
    have hx : x.l.length = n := hw x (by rw [e]; simp)
    have hd : (done.foldl pmul (one n)).l.length = n := fold_len done (one n) (by simp [one, ones]) fun w m => hw w (by rw [e]; simp [m])
    refine ⟨_, _, by simp [p3]; rfl, .inl ?_, .val (pwD x), rfl, rfl⟩
    simp [hf _ _ h (hd.trans hx.symm) (by omega)]
  obtain ⟨x3, rfl, p3⟩ := i
  simp
abbrev prD (p : Nat × Nat) : D := .tup [.int p.1, .int p.2]
theorem leD_pr (p q : Nat × Nat) : leD true (prD p) (prD q) = leP p q := by
  show (!PySem.W.dataLt (.tuple [.int p.1, .int p.2]) (.tuple [.int q.1, .int q.2])) = _
  rw [PySem.W.dataLt_ii]
  unfold leP
  rw [← decide_not]
  congr 1
  apply propext
  omega
theorem sort_pr (F : Fd) : gSort true h [.lst (F.map prD)] = some (.lst ((srt F).map prD)) := by
  have ok : srtOk (F.map prD) = true := by
    unfold srtOk
    rw [Bool.and_eq_true, Bool.and_eq_true, Bool.or_eq_true]
    refine ⟨⟨?_, ?_⟩, .inl ?_⟩
    · rw [List.all_eq_true]
      intro x hx
      obtain ⟨p, _, rfl⟩ := List.mem_map.mp hx
      rfl
    · rw [List.all_eq_true]
      intro x hx
      rw [List.all_eq_true]
      intro y hy
      obtain ⟨p, _, rfl⟩ := List.mem_map.mp hx
      obtain ⟨q, _, rfl⟩ := List.mem_map.mp hy
      rfl
    · rw [List.all_eq_true]
      intro x hx
      obtain ⟨p, _, rfl⟩ := List.mem_map.mp hx
      rfl
  have e : sortD true (F.map prD) = (srt F).map prD := (List.map_mergeSort (r := leP) (s := leD true) (f := prD) (l := F) fun p _ q _ => (leD_pr p q).symm).symm
  have d : gSort true h [.lst (F.map prD)] = if srtOk (F.map prD) then some (.lst (sortD true (F.map prD))) else none := rfl
  rw [d, if_pos ok, e]
theorem t_bit {σ : Sg} {i j x y : Nat} (e1 : σ[i]? = some (.val (.int x))) (e2 : σ[j]? = some (.val (.int y))) (hy : y ≠ 0) : (tB (eOp gEq (eOp gAnd (eOp gShr (oVar i) (eOp gSub (eBits (oVar j)) (eC (.int 1)))) (eC (.int 1))) (eC (.int 1)))) σ h = .ok (x.testBit y.log2) h := by
  have e3 : ((bitsN (y : Int) : Nat) : Int) - 1 = (y.log2 : Int) := by rw [bits_nat hy]; omega
  have e4 := g_shr (h := h) (i := x) (j := y.log2)
  simp only [e_tB, e_eOp, e_oVar, e1, e2, e_eBits, R.bind_ok, e_eC, g_sub, e_optR_some, e3, e4, g_and, bit_one, g_eqI]
  cases x.testBit y.log2 <;> rfl
theorem t_bit2 {σ : Sg} {i j x y : Nat} (e1 : σ[i]? = some (.val (.int x))) (e2 : σ[j]? = some (.val (.int y))) : (tB (eOp gEq (eOp gAnd (eOp gShr (oVar i) (oVar j)) (eC (.int 1))) (eC (.int 1)))) σ h = .ok (x.testBit y) h := by
  have e4 := g_shr (h := h) (i := x) (j := y)
  simp only [e_tB, e_eOp, e_oVar, e1, e2, R.bind_ok, e_eC, e_optR_some, e4, g_and, bit_one, g_eqI]
  cases x.testBit y <;> rfl
def rrN (rows : List Nat) : Nat → Fd
  | 0 => []
  | i + 1 => addRow (rrN rows i) (rows.getD i 0, 2 ^ i)
theorem rrN_ok (rows : List Nat) : ∀ i, i ≤ rows.length → FO rows i (rrN rows i)
  | 0, _ => ⟨⟨by simp [rrN], by simp [rrN]⟩, by simp [rrN], by simp, by simp [rrN], by simp [rrN], by simp [rrN, ind_nil]⟩
  | i + 1, hi => (rrN_ok rows i (by omega)).next (by rw [List.getD_eq_getElem?_getD, List.getElem?_eq_getElem (by omega)]; rfl)
theorem rrGo_N (rows : List Nat) : ∀ (rest : List Nat) (i : Nat), rows.drop i = rest → i ≤ rows.length → rrGo i (rrN rows i) rest = rrN rows rows.length
  | [], i, hd, hi => by
    have : rows.length ≤ i := List.drop_eq_nil_iff.mp hd
    have : i = rows.length := by omega
    subst this; rfl
  | r :: rest, i, hd, hi => by
    have hr : rows[i]? = some r := by
      have : (rows.drop i)[0]? = some r := by rw [hd]; rfl
      rwa [List.getElem?_drop, Nat.add_zero] at this
    have hlt := (List.getElem?_eq_some_iff.mp hr).1
    have e : rrN rows (i + 1) = addRow (rrN rows i) (r, 2 ^ i) := by
      show addRow (rrN rows i) (rows.getD i 0, 2 ^ i) = _
      rw [List.getD_eq_getElem?_getD, hr]; rfl
    show rrGo (i + 1) (addRow (rrN rows i) (r, 2 ^ i)) rest = _
    rw [← e]
    refine rrGo_N rows rest (i + 1) ?_ hlt
    rw [← List.drop_drop, hd]
    rfl
theorem rr_N (rows : List Nat) : rr rows = rrN rows rows.length := rrGo_N rows rows 0 rfl (Nat.zero_le _)
theorem enumD_ints (rows : List Nat) : enumD (rows.map fun r : Nat => D.int r) = (List.range rows.length).map fun i => .tup [.int i, .int (rows.getD i 0)] := by
  apply List.ext_getElem?
  intro i
  rw [enumD_get, List.getElem?_map, List.getElem?_map]
  by_cases hi : i < rows.length
  · have e : rows.getD i 0 = rows[i] := by rw [List.getD_eq_getElem?_getD, List.getElem?_eq_getElem hi]; rfl
    rw [List.getElem?_eq_getElem hi, List.getElem?_range hi, Option.map_some, Option.map_some, Option.map_some, e]
  · rw [List.getElem?_eq_none (by omega), List.getElem?_eq_none (by simp; omega)]; rfl
abbrev FRed (f : FD) : Prop := ∀ (rows : List Nat) (h : Hs), rows.length ≤ 1000 → f [.lst (rows.map fun r : Nat => D.int r)] h = .ok (.lst ((srt (rr rows)).map prD)) h
def redIn : SM := (sForV 1 (tgTup [(tgName 5), (tgName 6)])
  (sIf (tB (eOp gEq (eOp gAnd (eOp gShr (oVar 3) (eOp gSub (eBits (oVar 5)) (eC (.int 1)))) (eC (.int 1))) (eC (.int 1))))
  (sAsg (tgTup [(tgName 3), (tgName 4)]) (eTup (aCons (eOp gXor (oVar 3) (oVar 5)) (aCons (eOp gXor (oVar 4) (oVar 6)) aNil))))
  sNil))
theorem redIn_ok {x0 x2 x5 x6 x7 : Sl} {F : Fd} {p : Nat × Nat} (hF : ∀ q ∈ F, q.1 ≠ 0) (p5 : x5.plain = true) (p6 : x6.plain = true) : ∃ y5 y6, redIn [x0, .own (F.map prD), x2, .val (.int p.1), .val (.int p.2), x5, x6, x7] h = .nx [x0, .own (F.map prD), x2, .val (.int (redRow F p).1), .val (.int (redRow F p).2), y5, y6, x7] h ∧ y5.plain = true ∧ y6.plain = true := by
  unfold redIn
  rw [forV_own rfl]
  generalize hr : forGo _ _ _ _ _ = r
  obtain ⟨σ', rfl, i⟩ := for_pure_of hr prD F rfl (fun done σ => ∃ y5 y6, σ = [x0, .lent (F.map prD), x2, .val (.int (done.foldl redStep p).1), .val (.int (done.foldl redStep p).2), y5, y6, x7] ∧ y5.plain = true ∧ y6.plain = true) ⟨_, _, rfl, p5, p6⟩ fun done x rest σ e i => by
    obtain ⟨y5, y6, rfl, q5, q6⟩ := i
    have hx := hF x (by rw [e]; simp)
    generalize hq : done.foldl redStep p = q
    have t := t_bit (h := h) (σ := [x0, .lent (F.map prD), x2, .val (.int q.1), .val (.int q.2), .val (.int x.1), .val (.int x.2), x7]) (i := 3) (j := 5) (x := q.1) (y := x.1) rfl rfl hx
    refine ⟨[x0, .lent (F.map prD), x2, .val (.int q.1), .val (.int q.2), .val (.int x.1), .val (.int x.2), x7], [x0, .lent (F.map prD), x2, .val (.int (redStep q x).1), .val (.int (redStep q x).2), .val (.int x.1), .val (.int x.2), x7], by simp [q5, q6], .inl ?_, .val (.int x.1), .val (.int x.2), ?_, rfl, rfl⟩
    · rw [e_sIf, t, e_eDo_ok]
      unfold redStep
      cases hb : q.1.testBit x.1.log2 <;> simp [hb]
    · simp [hq]
  obtain ⟨y5, y6, rfl, q5, q6⟩ := i
  exact ⟨y5, y6, rfl, q5, q6⟩
theorem red_ok : FRed (defF 8 B_reduced_rows) := fun rows h hl => by
  have body : ∀ (i : Nat) (x2 x3 x4 x5 x6 x7 : Sl), i < rows.length → x2.plain = true → x3.plain = true → x4.plain = true → x5.plain = true → x6.plain = true → x7.plain = true → ∃ σ1 y2 y3 y4 y5 y6 y7,
      tgTup [(tgName 2), (tgName 3)] (.tup [.int i, .int (rows.getD i 0)]) [.val (.lst (rows.map fun r : Nat => D.int r)), .own ((rrN rows i).map prD), x2, x3, x4, x5, x6, x7] = some σ1 ∧
      ((sSeq (sSet 4 (xVal (eOp gShl (eC (.int 1)) (oVar 2)))) (sSeq redIn (sSeq (sIf (tB (eOp gEq (oVar 3) (eC (.int 0)))) sCont sNil) (sSeq (sSet 7 (xVal (eOp gSub (eBits (oVar 3)) (eC (.int 1)))))
        (sSeq (sSet 1 (xOwn (lcL (iVal (oVar 1)) (tgTup [(tgName 5), (tgName 6)]) tYesM (eIf (tB (eOp gEq (eOp gAnd (eOp gShr (oVar 5) (oVar 7)) (eC (.int 1))) (eC (.int 1)))) (eTup (aCons (eOp gXor (oVar 5) (oVar 3)) (aCons (eOp gXor (oVar 6) (oVar 4)) aNil))) (eTup (aCons (eVar 5) (aCons (eVar 6) aNil)))) [5, 6])))
        (sAppend 1 (eTup (aCons (eVar 3) (aCons (eVar 4) aNil))))))))) σ1 h = .nx [.val (.lst (rows.map fun r : Nat => D.int r)), .own ((rrN rows (i + 1)).map prD), y2, y3, y4, y5, y6, y7] h ∨
       (sSeq (sSet 4 (xVal (eOp gShl (eC (.int 1)) (oVar 2)))) (sSeq redIn (sSeq (sIf (tB (eOp gEq (oVar 3) (eC (.int 0)))) sCont sNil) (sSeq (sSet 7 (xVal (eOp gSub (eBits (oVar 3)) (eC (.int 1)))))
        (sSeq (sSet 1 (xOwn (lcL (iVal (oVar 1)) (tgTup [(tgName 5), (tgName 6)]) tYesM (eIf (tB (eOp gEq (eOp gAnd (eOp gShr (oVar 5) (oVar 7)) (eC (.int 1))) (eC (.int 1)))) (eTup (aCons (eOp gXor (oVar 5) (oVar 3)) (aCons (eOp gXor (oVar 6) (oVar 4)) aNil))) (eTup (aCons (eVar 5) (aCons (eVar 6) aNil)))) [5, 6])))
        (sAppend 1 (eTup (aCons (eVar 3) (aCons (eVar 4) aNil))))))))) σ1 h = .ct [.val (.lst (rows.map fun r : Nat => D.int r)), .own ((rrN rows (i + 1)).map prD), y2, y3, y4, y5, y6, y7] h) ∧ y2.plain = true ∧ y3.plain = true ∧ y4.plain = true ∧ y5.plain = true ∧ y6.plain = true ∧ y7.plain = true := by
    intro i x2 x3 x4 x5 x6 x7 hi p2 p3 p4 p5 p6 p7
    have O := rrN_ok rows i (by omega)
    have nz : ∀ q ∈ rrN rows i, q.1 ≠ 0 := fun q m => O.rr.nz _ (List.mem_map.mpr ⟨q, m, rfl⟩)
    have e1 := g_shl1 (h := h) (j := i) (by omega)
    obtain ⟨y5, y6, e2, q5, q6⟩ := redIn_ok (h := h) (x0 := .val (.lst (rows.map fun r : Nat => D.int r))) (x2 := .val (.int i)) (x5 := x5) (x6 := x6) (x7 := x7) (F := rrN rows i) (p := (rows.getD i 0, 2 ^ i)) nz p5 p6
    simp only at e2
    have hn : rrN rows (i + 1) = addRow (rrN rows i) (rows.getD i 0, 2 ^ i) := rfl
    generalize hq : redRow (rrN rows i) (rows.getD i 0, 2 ^ i) = q at e2
    have hlen : (rrN rows i).length < 16777216 := by have := O.ln; omega
    by_cases hz : q.1 = 0
    · have hn' : rrN rows (i + 1) = rrN rows i := by rw [hn]; unfold addRow; rw [hq, if_pos hz]
      refine ⟨[.val (.lst (rows.map fun r : Nat => D.int r)), .own ((rrN rows i).map prD), .val (.int i), .val (.int (rows.getD i 0 : Nat)), x4, x5, x6, x7], .val (.int i), .val (.int q.1), .val (.int q.2), y5, y6, x7, by simp [p2, p3], .inr ?_, rfl, rfl, rfl, q5, q6, p7⟩
      rw [hn', e_sSeq]
      have s1 : sSet 4 (xVal (eOp gShl (eC (.int 1)) (oVar 2))) [.val (.lst (rows.map fun r : Nat => D.int r)), .own ((rrN rows i).map prD), .val (.int i), .val (.int (rows.getD i 0 : Nat)), x4, x5, x6, x7] h = .nx [.val (.lst (rows.map fun r : Nat => D.int r)), .own ((rrN rows i).map prD), .val (.int i), .val (.int (rows.getD i 0 : Nat)), .val (.int ((2 ^ i : Nat) : Int)), x5, x6, x7] h := by
        rw [e_sSet, e_xVal, e_eOp, e_eC, R.bind_ok]
        show eDo ((((R.ok (D.int i) h).bind fun y h2 => optR (gShl h2 (.int 1) y) h2)).bind _) _ = _
        rw [R.bind_ok, e1]
        simp [p4]
      rw [s1]
      dsimp only
      rw [e_sSeq, e2]
      dsimp only
      simp [hz]
    · have hn' : rrN rows (i + 1) = (rrN rows i).map (clrStep q) ++ [q] := by rw [hn]; unfold addRow; rw [hq, if_neg hz]
      refine ⟨[.val (.lst (rows.map fun r : Nat => D.int r)), .own ((rrN rows i).map prD), .val (.int i), .val (.int (rows.getD i 0 : Nat)), x4, x5, x6, x7], .val (.int i), .val (.int q.1), .val (.int q.2), y5, y6, .val (.int q.1.log2), by simp [p2, p3], .inl ?_, rfl, rfl, rfl, q5, q6, rfl⟩
      rw [hn', e_sSeq]
      have s1 : sSet 4 (xVal (eOp gShl (eC (.int 1)) (oVar 2))) [.val (.lst (rows.map fun r : Nat => D.int r)), .own ((rrN rows i).map prD), .val (.int i), .val (.int (rows.getD i 0 : Nat)), x4, x5, x6, x7] h = .nx [.val (.lst (rows.map fun r : Nat => D.int r)), .own ((rrN rows i).map prD), .val (.int i), .val (.int (rows.getD i 0 : Nat)), .val (.int ((2 ^ i : Nat) : Int)), x5, x6, x7] h := by
        rw [e_sSet, e_xVal, e_eOp, e_eC, R.bind_ok]
        show eDo ((((R.ok (D.int i) h).bind fun y h2 => optR (gShl h2 (.int 1) y) h2)).bind _) _ = _
        rw [R.bind_ok, e1]
        simp [p4]
      rw [s1]
      dsimp only
      rw [e_sSeq, e2]
      dsimp only
      have hz' : ((q.1 : Int) == 0) = false := by simpa using hz
      have s7 : ((bitsN (q.1 : Int) : Nat) : Int) - 1 = (q.1.log2 : Int) := by rw [bits_nat hz]; omega
      have key := lc_typed (m := iVal (oVar 1)) (t := tgTup [(tgName 5), (tgName 6)]) (vs := [5, 6]) (te := (eIf (tB (eOp gEq (eOp gAnd (eOp gShr (oVar 5) (oVar 7)) (eC (.int 1))) (eC (.int 1)))) (eTup (aCons (eOp gXor (oVar 5) (oVar 3)) (aCons (eOp gXor (oVar 6) (oVar 4)) aNil))) (eTup (aCons (eVar 5) (aCons (eVar 6) aNil))))) (σ := [.val (.lst (rows.map fun r : Nat => D.int r)), .own ((rrN rows i).map prD), .val (.int i), .val (.int q.1), .val (.int q.2), y5, y6, .val (.int q.1.log2)]) (h := h) (rrN rows i) prD (fun o => prD (clrStep q o)) (by simp) (by omega) fun o _ => ⟨[.val (.lst (rows.map fun r : Nat => D.int r)), .own ((rrN rows i).map prD), .val (.int i), .val (.int q.1), .val (.int q.2), .val (.int o.1), .val (.int o.2), .val (.int q.1.log2)], rfl, by
        rw [e_eIf, t_bit2 (x := o.1) (y := q.1.log2) rfl rfl, R.bind_ok]
        unfold clrStep
        cases o.1.testBit q.1.log2 <;> simp⟩
      simp [hz', s7, p7, key, hlen]
  simp [B_reduced_rows, enumD_ints]
  generalize hr : forGo _ _ _ _ _ = r
  obtain ⟨σ', rfl, i⟩ := for_pure_of hr (fun i : Nat => .tup [.int i, .int (rows.getD i 0)]) (List.range rows.length) (by simp) (fun done σ => ∃ x2 x3 x4 x5 x6 x7, σ = [.val (.lst (rows.map fun r : Nat => D.int r)), .own ((rrN rows done.length).map prD), x2, x3, x4, x5, x6, x7] ∧ x2.plain = true ∧ x3.plain = true ∧ x4.plain = true ∧ x5.plain = true ∧ x6.plain = true ∧ x7.plain = true) ⟨_, _, _, _, _, _, rfl, rfl, rfl, rfl, rfl, rfl, rfl⟩ fun done x rest σ e i => by
    obtain ⟨x2, x3, x4, x5, x6, x7, rfl, p2, p3, p4, p5, p6, p7⟩ := i
    have hx : x = done.length ∧ x < rows.length := by
      have h1 : (List.range rows.length)[done.length]? = some x := by rw [e]; simp
      obtain ⟨h3, h4⟩ := List.getElem?_eq_some_iff.mp h1
      simp at h3 h4
      omega
    obtain ⟨rfl, hx⟩ := hx
    obtain ⟨σ1, y2, y3, y4, y5, y6, y7, e1, e2, q⟩ := body done.length x2 x3 x4 x5 x6 x7 hx p2 p3 p4 p5 p6 p7
    refine ⟨σ1, _, e1, e2, y2, y3, y4, y5, y6, y7, ?_, q⟩
    simp
  obtain ⟨x2, x3, x4, x5, x6, x7, rfl, _⟩ := i
  have hs := sort_pr (h := h) (rrN rows rows.length)
  simp [hs, rr_N]
end WC
set_option Elab.async false
set_option linter.all false
set_option maxRecDepth 100000
namespace WC
open PySem PySem.Spec PyProof.Rows L2 QC
variable {h : Hs}
theorem for_all_of {β : Type} {t : GT} {body : SM} {ys : List D} {σ : Sg} {r : RS} (hr : forGo t body ys σ h = r) (cb : β → D) (xs : List β) (hx : ys = xs.map cb) (d : D) (p : β → Bool) (I : Sg → Prop) (i0 : I σ)
    (H : ∀ x ∈ xs, ∀ σ, I σ → ∃ σ1 σ2, t (cb x) σ = some σ1 ∧ I σ2 ∧ body σ1 h = if p x then .nx σ2 h else .rt d h) : (xs.all p = true ∧ ∃ σ', r = .nx σ' h ∧ I σ') ∨ (xs.all p = false ∧ r = .rt d h) := by
  subst hx hr
  induction xs generalizing σ with
  | nil => exact .inl ⟨rfl, σ, rfl, i0⟩
  | cons x xs ih =>
    obtain ⟨σ1, σ2, e1, i2, e2⟩ := H x (List.mem_cons_self ..) σ i0
    rw [List.map_cons]
    unfold forGo
    rw [e1]
    cases hp : p x with
    | false =>
      rw [hp] at e2
      refine .inr ⟨by rw [List.all_cons, hp]; rfl, ?_⟩
      simp only [e2]
      rfl
    | true =>
      rw [hp] at e2
      rcases ih i2 (fun y m => H y (List.mem_cons_of_mem _ m)) with ⟨a, σ', b, c⟩ | ⟨a, b⟩
      · refine .inl ⟨by rw [List.all_cons, hp, a]; rfl, σ', ?_, c⟩
        simp only [e2]
        exact b
      · refine .inr ⟨by rw [List.all_cons, hp, a]; rfl, ?_⟩
        simp only [e2]
        exact b
@[simp] theorem cut_fromS {α : Type} (xs : List α) (k : Nat) : cutL xs (some ((k : Int) + 1)) none = xs.drop (k + 1) := cut_from xs (k + 1)
theorem enumD_map {α : Type} [Inhabited α] (xs : List α) (c : α → D) : enumD (xs.map c) = (List.range xs.length).map fun i => .tup [.int i, c (xs.getD i default)] := by
  apply List.ext_getElem?
  intro i
  rw [enumD_get, List.getElem?_map, List.getElem?_map]
  by_cases hi : i < xs.length
  · have e : xs.getD i default = xs[i] := by rw [List.getD_eq_getElem?_getD, List.getElem?_eq_getElem hi]; rfl
    rw [List.getElem?_eq_getElem hi, List.getElem?_range hi, Option.map_some, Option.map_some, Option.map_some, e]
  · rw [List.getElem?_eq_none (by omega), List.getElem?_eq_none (by simp; omega)]; rfl
theorem rank_ok {f : FD} (hf : FRed f) (rows : List Nat) (hl : rows.length ≤ 1000) : defF 1 (B_rank_of f) [.lst (rows.map fun r : Nat => D.int r)] h = .ok (.int (rr rows).length) h := by
  have e : ((srt (rr rows)).map prD).length = (rr rows).length := by rw [List.length_map, (srt_perm _).length_eq]
  have e2 : (srt (rr rows)).length = (rr rows).length := (srt_perm _).length_eq
  simp [B_rank_of, hf rows h hl, e2]
abbrev FInd (f : FD) : Prop := ∀ (rows : List Nat) (h : Hs), rows.length ≤ 1000 → f [.lst (rows.map fun r : Nat => D.int r)] h = .ok (.bl ((rr rows).length == rows.length)) h
theorem ind_ok {f : FD} (hf : ∀ (rows : List Nat) (h : Hs), rows.length ≤ 1000 → f [.lst (rows.map fun r : Nat => D.int r)] h = .ok (.int (rr rows).length) h) : FInd (defF 1 (B_are_independent f)) := fun rows h hl => by
  have : (((rr rows).length : Int) == (rows.length : Int)) = ((rr rows).length == rows.length) := by
    by_cases e : (rr rows).length = rows.length
    · simp [e]
    · have : ¬ ((rr rows).length : Int) = (rows.length : Int) := by omega
      rw [beq_eq_false_iff_ne.mpr this, beq_eq_false_iff_ne.mpr e]
  simp [B_are_independent, hf rows h hl, this]
theorem idx_ok (m : Nat) (hm : m < 2 ^ 100) : defF 2 B_indexes_of [.int m] h = .ok (.lst ((sel m (bitsN (m : Int))).map fun i : Nat => D.int i)) h := by
  have hb := bits_le hm
  have hr := range1_ok (a := eBits (oVar 0)) (σ := [.val (.int m), .no]) (h := h) (j := bitsN (m : Int)) (by simp) (by omega) (by omega)
  have key := lc_filt (m := iRange1 (aCons (eBits (oVar 0)) aNil)) (t := tgName 1) (tt := (tB (eOp gEq (eOp gAnd (eOp gShr (oVar 0) (oVar 1)) (eC (.int 1))) (eC (.int 1))))) (te := eVar 1) (vs := [1]) (σ := [.val (.int m), .no]) (h := h) (List.range (bitsN (m : Int))) (fun i : Nat => .int (0 + i)) (fun i : Nat => .int i) (fun i => m.testBit i) (by rw [hr]; rfl) (by simp; omega) fun i _ => ⟨[.val (.int m), .val (.int i)], by simp, t_bit2 rfl rfl, fun _ => rfl⟩
  have k2 : eFrz (lcL (iRange1 (aCons (eBits (oVar 0)) aNil)) (tgName 1) (tB (eOp gEq (eOp gAnd (eOp gShr (oVar 0) (oVar 1)) (eC (.int 1))) (eC (.int 1)))) (eVar 1) [1]) [.val (.int m), .no] h = .ok (.lst ((sel m (bitsN (m : Int))).map fun i : Nat => D.int i)) h := by
    rw [e_eFrz, key, R.bind_ok]
    rfl
  have st : startS 2 [.int (m : Int)] = [.val (.int m), .no] := rfl
  rw [B_indexes_of, e_defF, st, e_sRet, k2]
  rfl
abbrev FComb (f : FD) : Prop := ∀ (n : Nat) (ws : List Pw) (m : Nat) (h : Hs), n ≤ 30 → ws ≠ [] → ws.length ≤ 100 → Sys n ws → m < 2 ^ ws.length → f [wsD ws, .int m] h = .ok (pwD (gpr n (msk m ws.length) ws)) h
theorem comb_ok {f g : FD} (hf : FProdAll f) (hg : ∀ (m : Nat) (h : Hs), m < 2 ^ 100 → g [.int m] h = .ok (.lst ((sel m (bitsN (m : Int))).map fun i : Nat => D.int i)) h) : FComb (defF 3 (B_combined f g)) := fun n ws m h hn ne hl S hm => by
  have hm2 : m < 2 ^ 100 := Nat.lt_of_lt_of_le hm (Nat.pow_le_pow_right (by decide) hl)
  have e1 := hg m h hm2
  have hb := bits_le hm
  have key := lc_typed (m := iVal (eFn 1 g (aCons (eVar 1) aNil))) (t := tgName 2) (vs := [2]) (te := eOp atD (oVar 0) (oVar 2)) (σ := [.val (wsD ws), .val (.int m), .no]) (h := h) (sel m (bitsN (m : Int))) (fun i : Nat => D.int i) (fun i => pwD (ws.getD i default)) (by simp [e1]) (by
    have : (sel m (bitsN (m : Int))).length ≤ bitsN (m : Int) := by unfold sel; exact Nat.le_trans (List.length_filter_le _ _) (by simp)
    omega) fun i hi => ⟨_, rfl, by
      have hlt : i < ws.length := by
        unfold sel at hi
        have := (List.mem_filter.mp hi).1
        simp at this
        omega
      simp [List.getElem?_eq_getElem hlt]⟩
  have e2 : ((sel m (bitsN (m : Int))).map fun i => pwD (ws.getD i default)) = ((sel m ws.length).map fun i => ws.getD i default).map pwD := by
    rw [sel_cut (lt_bits m) hb, List.map_map]; rfl
  rw [e2] at key
  obtain ⟨w, r, rfl⟩ := List.exists_cons_of_ne_nil ne
  have hw := (S.up w (List.mem_cons_self ..)).len
  have hlen : w.l.length ≤ 16777216 := by omega
  have e3 := hf n ((sel m (w :: r).length).map fun i => (w :: r).getD i default) h (by omega) (fun x hx => by
    obtain ⟨i, hi, rfl⟩ := List.mem_map.mp hx
    have hlt : i < (w :: r).length := by
      unfold sel at hi
      have := (List.mem_filter.mp hi).1
      simpa using this
    have e : (w :: r).getD i default = (w :: r)[i] := by rw [List.getD_eq_getElem?_getD, List.getElem?_eq_getElem hlt]; rfl
    rw [e]
    exact (S.up _ (List.getElem_mem hlt)).len)
  rw [sel_gpr S] at e3
  rw [B_combined, e_defF]
  have a1 : (eCall gLen (aCons (eOp atD (eOp atD (oVar 0) (eC (.int 0))) (eC (.int 1))) aNil)) [.val (wsD (w :: r)), .val (.int m), .no] h = .ok (.int n) h := by
    have hn2 : n ≤ 16777216 := by omega
    simp [hlen, hw, hn2]
  show (match eDo ((eFn 2 f (aCons (eCall gLen _) (aCons (eFrz (lcL _ _ _ _ _)) aNil))) [.val (wsD (w :: r)), .val (.int m), .no] h) _ with | .nx _ h' => R.ok D.non h' | .rt d h' => .ok d h' | _ => .bad) = _
  rw [e_eFn, e_aCons, a1, R.bind_ok, e_aCons, e_eFrz, key, R.bind_ok, R.bind_ok, e_aNil, R.bind_ok, R.bind_ok, R.bind_ok]
  have z : (if [D.int n, D.lst (((sel m (w :: r).length).map fun i => (w :: r).getD i default).map pwD)].length = 2 then f [D.int n, D.lst (((sel m (w :: r).length).map fun i => (w :: r).getD i default).map pwD)] h else R.bad) = .ok (pwD (gpr n (msk m (w :: r).length) (w :: r))) h := (if_pos rfl).trans e3
  rw [z]
  rfl
abbrev FRedOf (f : FD) : Prop := ∀ (n : Nat) (ws : List Pw) (h : Hs), n ≤ 30 → ws ≠ [] → ws.length ≤ 100 → Sys n ws → f [wsD ws] h = .ok (wsD (redW n ws)) h
theorem redOf_ok {f g k : FD} (hf : FRed f) (hg : FSg g) (hk : FComb k) : FRedOf (defF 4 (B_reduced_of f g k)) := fun n ws h hn ne hl S => by
  have k1 := lc_typed (m := iVal (oVar 0)) (t := tgName 3) (vs := [3]) (te := eFn 1 g (aCons (eVar 3) aNil)) (σ := [.val (wsD ws), .no, .no, .no]) (h := h) ws pwD (fun w => .int (sg w.l)) (by simp) (by omega) fun w hw => ⟨_, rfl, by
    have := (S.up w hw).len
    simp [hg w h (by omega)]⟩
  have e1 : (ws.map fun w => D.int (sg w.l)) = (rowsOf ws).map fun r : Nat => D.int r := by rw [List.map_map]; rfl
  rw [e1] at k1
  have e2 := hf (rowsOf ws) h (by simp; omega)
  have k2 := lc_typed (m := iVal (eFn 1 f (aCons (eFrz (lcL (iVal (oVar 0)) (tgName 3) tYesM (eFn 1 g (aCons (eVar 3) aNil)) [3])) aNil))) (t := tgTup [(tgName 1), (tgName 2)]) (vs := [1, 2]) (te := eFn 2 k (aCons (eVar 0) (aCons (eVar 2) aNil))) (σ := [.val (wsD ws), .no, .no, .no]) (h := h) (srt (rr (rowsOf ws))) prD (fun p => pwD (gpr n (msk p.2 ws.length) ws)) (by
      rw [e_iVal, e_eFn, e_aCons, e_eFrz, k1, R.bind_ok, R.bind_ok, e_aNil, R.bind_ok, R.bind_ok]
      have z : (if [D.lst ((rowsOf ws).map fun r : Nat => D.int r)].length = 1 then f [D.lst ((rowsOf ws).map fun r : Nat => D.int r)] h else R.bad) = .ok (.lst ((srt (rr (rowsOf ws))).map prD)) h := (if_pos rfl).trans e2
      rw [z]
      rfl) (by
      have := (rr_ok (rowsOf ws)).ln
      rw [(srt_perm _).length_eq]
      simp at this
      omega) fun p hp => ⟨[.val (wsD ws), .val (.int p.1), .val (.int p.2), .no], rfl, by
        have hm := ((rr_ok (rowsOf ws)).mm p ((srt_perm _).mem_iff.mp hp)).2
        simp [hk n ws p.2 h hn ne hl S (by simpa using hm)]⟩
  rw [B_reduced_of, e_defF]
  show (match eDo ((eCall gTuple (aCons (eFrz (lcL _ _ _ _ _)) aNil)) [.val (wsD ws), .no, .no, .no] h) _ with | .nx _ h' => R.ok D.non h' | .rt d h' => .ok d h' | _ => .bad) = _
  rw [e_eCall, e_aCons, e_eFrz, k2]
  simp [redW]
end WC
set_option Elab.async false
set_option linter.all false
set_option maxRecDepth 100000
namespace WC
open PySem PySem.Spec PyProof.Rows L2 QC
variable {h : Hs}
abbrev FInt (f : FD) : Prop := (∀ (i : Int) (h : Hs), f [.int i] h = .ok (.bl true) h) ∧ ∀ (b : Bool) (h : Hs), f [.bl b] h = .ok (.bl false) h
theorem int_ok : FInt (defF 1 B_is_integer) := ⟨fun i h => by simp [B_is_integer], fun b h => by simp [B_is_integer]⟩
theorem code_mem (a : P4) : P4.code a = 73 ∨ P4.code a = 88 ∨ P4.code a = 89 ∨ P4.code a = 90 := by cases a <;> decide
theorem cd_ne {l : Ls} (h : l ≠ []) : (cd l == []) = false := by
  cases l with
  | nil => exact absurd rfl h
  | cons a l => rfl
structure FPau (f : FD) : Prop where
  ok : ∀ (w : Pw) (h : Hs), w.l ≠ [] → w.e ≤ 3 → w.l.length ≤ 1000 → f [pwD w] h = .ok (.bl true) h
  bl : ∀ (b : Bool) (l : List Nat) (h : Hs), f [.tup [.bl b, .str l]] h = .ok (.bl false) h
  odd : ∀ (n : Nat) (h : Hs), 1 ≤ n → n ≤ 1000 → f [.tup [.int 0, .str (List.replicate n 65)]] h = .ok (.bl false) h
  emp : ∀ (h : Hs), f [.tup [.int 0, .str []]] h = .ok (.bl false) h
  str : ∀ (l : List Nat) (h : Hs), f [.str l] h = .ok (.bl false) h
  lst : ∀ (l : List D) (h : Hs), f [.lst l] h = .ok (.bl false) h
theorem pau_ok {f : FD} (hf : FInt f) : FPau (defF 3 (B_is_pauli f)) := by
  refine ⟨fun w h ne he hl => ?_, fun b l h => ?_, fun n h h1 h2 => ?_, fun h => ?_, fun l h => ?_, fun l h => ?_⟩
  · have e3 : (w.e : Int) ≤ 3 := by omega
    have key := all_typed (m := iVal (oVar 1)) (t := tgName 2) (vs := [2]) (te := eOp gIn (oVar 2) (eC (.str [73, 88, 89, 90]))) (σ := [.val (pwD w), .val (.str (cd w.l)), .no]) (h := h) w.l (fun a => .str [P4.code a]) (fun _ => true) (by simp [cd_items]) (by omega) fun a _ => ⟨_, rfl, by simp [code_mem]⟩
    simp only [B_is_pauli] at key ⊢
    simp [hf.1, e3, cd_ne ne]
    simp at key
    rw [key]
    rfl
  · simp [B_is_pauli, hf.2]
  · have ne : ((List.replicate n 65 : List Nat) == []) = false := by
      cases n with
      | zero => omega
      | succ n => rfl
    have key := all_typed (m := iVal (oVar 1)) (t := tgName 2) (vs := [2]) (te := eOp gIn (oVar 2) (eC (.str [73, 88, 89, 90]))) (σ := [.val (.tup [.int 0, .str (List.replicate n 65)]), .val (.str (List.replicate n 65)), .no]) (h := h) (List.replicate n 65) (fun a => .str [a]) (fun a => decide (a ∈ [73, 88, 89, 90])) (by simp) (by simp; omega) fun a _ => ⟨_, rfl, by simp⟩
    have e : (List.replicate n 65).all (fun a => decide (a ∈ [73, 88, 89, 90])) = false := by
      cases n with
      | zero => omega
      | succ n => rfl
    rw [e] at key
    simp only [B_is_pauli] at key ⊢
    simp [hf.1, ne]
    simp at key
    rw [key]
    rfl
  · simp [B_is_pauli, hf.1]
  · simp [B_is_pauli]
  · simp [B_is_pauli]
structure FUp (f : FD) : Prop where
  ok : ∀ (w : Pw) (h : Hs), w.l ≠ [] → w.e ≤ 3 → w.l.length ≤ 1000 → f [pwD w] h = .ok (.bl (w.e % 2 == 0)) h
  bl : ∀ (b : Bool) (l : List Nat) (h : Hs), f [.tup [.bl b, .str l]] h = .ok (.bl false) h
  odd : ∀ (n : Nat) (h : Hs), 1 ≤ n → n ≤ 1000 → f [.tup [.int 0, .str (List.replicate n 65)]] h = .ok (.bl false) h
  emp : ∀ (h : Hs), f [.tup [.int 0, .str []]] h = .ok (.bl false) h
  str : ∀ (l : List Nat) (h : Hs), f [.str l] h = .ok (.bl false) h
  lst : ∀ (l : List D) (h : Hs), f [.lst l] h = .ok (.bl false) h
theorem up_ok {f : FD} (hf : FPau f) : FUp (defF 1 (B_is_upright f)) := by
  refine ⟨fun w h ne he hl => ?_, fun b l h => ?_, fun n h h1 h2 => ?_, fun h => ?_, fun l h => ?_, fun l h => ?_⟩
  · have m2 : gMod h (.int w.e) (.int 2) = some (.int (w.e % 2)) := g_mod (by decide)
    have e : ((w.e : Int) % 2 == 0) = (w.e % 2 == 0) := by
      by_cases z : w.e % 2 = 0
      · have : (w.e : Int) % 2 = 0 := by omega
        simp [z, this]
      · have z1 : w.e % 2 = 1 := by omega
        have : (w.e : Int) % 2 = 1 := by omega
        simp [z1, this]
    simp [B_is_upright, hf.ok w h ne he hl, m2, e]
  · simp [B_is_upright, hf.bl]
  · simp [B_is_upright, hf.odd n h h1 h2]
  · simp [B_is_upright, hf.emp]
  · simp [B_is_upright, hf.str]
  · simp [B_is_upright, hf.lst]
def allMeet (ws : List Pw) : Bool := (List.range ws.length).all fun i => (ws.drop (i + 1)).all fun o => !lanti (ws.getD i default).l o.l
inductive OddW : D → Prop where
  | one (w : Pw) (a : w.l ≠ []) (b : w.e ≤ 3) (c : w.l.length ≤ 1000) (d : w.e % 2 = 1) : OddW (pwD w)
  | bl (b : Bool) (l : List Nat) : OddW (.tup [.bl b, .str l])
  | odd (n : Nat) (a : 1 ≤ n) (b : n ≤ 1000) : OddW (.tup [.int 0, .str (List.replicate n 65)])
  | emp : OddW (.tup [.int 0, .str []])
  | str (l : List Nat) : OddW (.str l)
  | lst (l : List D) : OddW (.lst l)
structure FGrp (f : FD) : Prop where
  bad : ∀ (x : D) (ws : List Pw) (h : Hs), ws.length ≤ 100 → (∀ w ∈ ws, w.l ≠ [] ∧ w.l.length ≤ 1000 ∧ w.e ≤ 3) → OddW x → f [.tup (x :: ws.map pwD)] h = .ok (.bl false) h
  lst : ∀ (l : List D) (h : Hs), f [.lst l] h = .ok (.bl false) h
  non : ∀ (h : Hs), f [.non] h = .ok (.bl false) h
  emp : ∀ (h : Hs), f [.tup []] h = .ok (.bl false) h
  ws : ∀ (n : Nat) (ws : List Pw) (h : Hs), ws ≠ [] → ws.length ≤ 100 → n ≤ 30 → 1 ≤ n → (∀ w ∈ ws, Up n w) → f [wsD ws] h = .ok (.bl (allMeet ws && ((rr (rowsOf ws)).length == ws.length))) h
  len : ∀ (n : Nat) (ws : List Pw) (h : Hs), ws ≠ [] → ws.length ≤ 100 → n ≤ 30 → (∀ w ∈ ws, w.l ≠ [] ∧ w.l.length ≤ 30 ∧ (w.e = 0 ∨ w.e = 2)) → (ws.getD 0 default).l.length = n → (∃ w ∈ ws, w.l.length ≠ n) → f [wsD ws] h = .ok (.bl false) h
def upG (f : FD) (h : Hs) (d : D) : Prop := ∃ b, f [d] h = .ok (.bl b) h
theorem grp_up {fu fm fi fs : FD} (ds : List D) (p : D → Bool) (hl : ds.length ≤ 1000) (ne : ds ≠ []) (hp : ∀ d ∈ ds, fu [d] h = .ok (.bl (p d)) h) (hx : ds.all p = false) : defF 5 (B_are_group_words fu fm fi fs) [.tup ds] h = .ok (.bl false) h := by
  have key := all_typed (m := iVal (oVar 0)) (t := tgName 3) (vs := [3]) (te := eFn 1 fu (aCons (eVar 3) aNil)) (σ := [.val (.tup ds), .no, .no, .no, .no]) (h := h) ds id p (by simp) (by omega) fun d hd => ⟨_, rfl, by simp [hp d hd]⟩
  rw [hx] at key
  have e0 : ((ds.length : Int) == 0) = false := by
    have : ds.length ≠ 0 := fun z => ne (List.eq_nil_of_length_eq_zero z)
    simp
    omega
  simp only [B_are_group_words] at key ⊢
  simp at key
  simp [e0]
  rw [key]
  rfl
theorem grp_s1 {G : EM} {ds : List D} (e0 : ((ds.length : Int) == 0) = false) (hG : G [.val (.tup ds), .no, .no, .no, .no] h = .ok (.bl true) h) : (sIf (tOr (tNot (tB (eIsI [.tuple] (oVar 0)))) (tOr (tB (eOp gEq (eCall gLen (aCons (oVar 0) aNil)) (eC (.int 0)))) (tNot (tB G)))) (sRet (eC (.bl false))) sNil) [.val (.tup ds), .no, .no, .no, .no] h = .nx [.val (.tup ds), .no, .no, .no, .no] h := by
  simp [e0, hG]
theorem grp_ok {fu fm fi fs : FD} (hu : FUp fu) (hm : FMeets fm) (hi : FInd fi) (hs : FSg fs) : FGrp (defF 5 (B_are_group_words fu fm fi fs)) := by
  refine ⟨fun x ws h hl hw ho => ?_, fun l h => by simp [B_are_group_words], fun h => by simp [B_are_group_words], fun h => by simp [B_are_group_words], fun n ws h ne hl hn h1 hup => ?_, fun n ws h ne hl hn hw h0 hx => ?_⟩
  · have hx : fu [x] h = .ok (.bl false) h := by
      cases ho with
      | one w a b c d =>
        rw [hu.ok w h a b c]
        have : (w.e % 2 == 0) = false := by rw [d]; rfl
        rw [this]
      | bl b l => exact hu.bl b l h
      | odd n a b => exact hu.odd n h a b
      | emp => exact hu.emp h
      | str l => exact hu.str l h
      | lst l => exact hu.lst l h
    classical
    refine grp_up _ (fun d => decide (fu [d] h = .ok (.bl true) h)) (by simp; omega) (by simp) (fun d hd => ?_) ?_
    · rcases List.mem_cons.mp hd with rfl | hd
      · rw [hx]
        congr 2
        exact (decide_eq_false (by simp)).symm
      · obtain ⟨w, hw', rfl⟩ := List.mem_map.mp hd
        obtain ⟨a, b, c⟩ := hw w hw'
        rw [hu.ok w h a c b]
        congr 2
        cases (w.e % 2 == 0)
        · exact (decide_eq_false (by simp)).symm
        · exact (decide_eq_true rfl).symm
    · rw [List.all_cons, hx]
      have : decide ((R.ok (D.bl false) h : R D) = .ok (.bl true) h) = false := decide_eq_false (by simp)
      rw [this]
      rfl
  · have e0 : ((ws.length : Int) == 0) = false := by
      have : ws.length ≠ 0 := fun z => ne (List.eq_nil_of_length_eq_zero z)
      simp
      omega
    have k1 := all_typed (m := iVal (oVar 0)) (t := tgName 3) (vs := [3]) (te := eFn 1 fu (aCons (eVar 3) aNil)) (σ := [.val (wsD ws), .no, .no, .no, .no]) (h := h) ws pwD (fun _ => true) (by simp) (by omega) fun w hw => ⟨_, rfl, by
      have u := hup w hw
      have hln := u.len
      have hne : w.l ≠ [] := by intro z; rw [z] at hln; simp at hln; omega
      have he : (w.e % 2 == 0) = true := by rcases u.ev with e | e <;> rw [e] <;> rfl
      have := hu.ok w h hne (by rcases u.ev with e | e <;> omega) (by omega)
      rw [he] at this
      simp [this]⟩
    obtain ⟨v, r, rfl⟩ := List.exists_cons_of_ne_nil ne
    have hv := (hup v (List.mem_cons_self ..)).len
    have hvl : v.l.length ≤ 16777216 := by omega
    have hn2 : n ≤ 16777216 := by omega
    have k2 := all_typed (m := iVal (oVar 0)) (t := tgName 3) (vs := [3]) (te := eOp gEq (eCall gLen (aCons (eOp atD (oVar 3) (eC (.int 1))) aNil)) (oVar 1)) (σ := [.val (wsD (v :: r)), .val (.int n), .no, .no, .no]) (h := h) (v :: r) pwD (fun _ => true) (by simp) (by omega) fun w hw => ⟨_, rfl, by
      have := (hup w hw).len
      have hw2 : w.l.length ≤ 16777216 := by omega
      simp [this, hn2]⟩
    generalize hws : v :: r = ws at *
    have hh : ws[0]? = some v := by rw [← hws]; rfl
    simp only [all_true] at k1 k2
    have s1 : (sIf (tOr (tNot (tB (eIsI [.tuple] (oVar 0)))) (tOr (tB (eOp gEq (eCall gLen (aCons (oVar 0) aNil)) (eC (.int 0)))) (tNot (tB (eCall gAll (aCons (eFrz (lcL (iVal (oVar 0)) (tgName 3) tYesM (eFn 1 fu (aCons (eVar 3) aNil)) [3])) aNil)))))) (sRet (eC (.bl false))) sNil) [.val (wsD ws), .no, .no, .no, .no] h = .nx [.val (wsD ws), .no, .no, .no, .no] h := grp_s1 (by simpa using e0) k1
    have s2 : sSet 1 (xVal (eCall gLen (aCons (eOp atD (eOp atD (oVar 0) (eC (.int 0))) (eC (.int 1))) aNil))) [.val (wsD ws), .no, .no, .no, .no] h = .nx [.val (wsD ws), .val (.int n), .no, .no, .no] h := by
      simp [hh, hvl, hv, hn2]
    have s3 : (sIf (tNot (tB (eCall gAll (aCons (eFrz (lcL (iVal (oVar 0)) (tgName 3) tYesM (eOp gEq (eCall gLen (aCons (eOp atD (oVar 3) (eC (.int 1))) aNil)) (oVar 1)) [3])) aNil)))) (sRet (eC (.bl false))) sNil) [.val (wsD ws), .val (.int n), .no, .no, .no] h = .nx [.val (wsD ws), .val (.int n), .no, .no, .no] h := by
      rw [e_sIf, e_tNot, e_tB, k2]
      simp
    have k5 : (sRet (eFn 1 fi (aCons (eFrz (lcL (iVal (oVar 0)) (tgName 3) tYesM (eFn 1 fs (aCons (eVar 3) aNil)) [3])) aNil))) = (sRet (eFn 1 fi (aCons (eFrz (lcL (iVal (oVar 0)) (tgName 3) tYesM (eFn 1 fs (aCons (eVar 3) aNil)) [3])) aNil))) := rfl
    rw [e_defF]
    have st : startS 5 [wsD ws] = [.val (wsD ws), .no, .no, .no, .no] := rfl
    rw [st, B_are_group_words, e_sSeq, s1]
    dsimp only
    rw [e_sSeq, s2]
    dsimp only
    rw [e_sSeq, s3]
    dsimp only
    rw [e_sSeq, e_sFor]
    have ei : iEnumL (aCons (eVar 0) aNil) [.val (wsD ws), .val (.int n), .no, .no, .no] h = .ok ((List.range ws.length).map fun i : Nat => .tup [.int i, pwD (ws.getD i default)]) h := by
      have e := enumD_map ws pwD
      simp [e]
    rw [ei, e_eDo_ok]
    generalize hr : forGo _ _ _ _ _ = r'
    have hfin : ∀ y2 y3 : Sl, y3.plain = true → (sRet (eFn 1 fi (aCons (eFrz (lcL (iVal (oVar 0)) (tgName 3) tYesM (eFn 1 fs (aCons (eVar 3) aNil)) [3])) aNil))) [.val (wsD ws), .val (.int n), y2, y3, .no] h = .rt (.bl ((rr (rowsOf ws)).length == ws.length)) h := fun y2 y3 _ => by
      have k4 := lc_typed (m := iVal (oVar 0)) (t := tgName 3) (vs := [3]) (te := eFn 1 fs (aCons (eVar 3) aNil)) (σ := [.val (wsD ws), .val (.int n), y2, y3, .no]) (h := h) ws pwD (fun w => .int (sg w.l)) (by simp) (by omega) fun w hw => ⟨_, rfl, by
        have := (hup w hw).len
        simp [hs w h (by omega)]⟩
      have e1 : (ws.map fun w => D.int (sg w.l)) = (rowsOf ws).map fun r : Nat => D.int r := by rw [List.map_map]; rfl
      rw [e1] at k4
      have e2 := hi (rowsOf ws) h (by simp; omega)
      rw [e_sRet, e_eFn, e_aCons, e_eFrz, k4, R.bind_ok, R.bind_ok, e_aNil, R.bind_ok, R.bind_ok]
      have z : (if [D.lst ((rowsOf ws).map fun r : Nat => D.int r)].length = 1 then fi [D.lst ((rowsOf ws).map fun r : Nat => D.int r)] h else R.bad) = .ok (.bl ((rr (rowsOf ws)).length == (rowsOf ws).length)) h := (if_pos rfl).trans e2
      rw [z, e_eDo_ok, List.length_map]
    rcases for_all_of hr (fun i : Nat => .tup [.int i, pwD (ws.getD i default)]) (List.range ws.length) rfl (.bl false) (fun i : Nat => (ws.drop (i + 1)).all fun o => !lanti (ws.getD i default).l o.l) (fun σ => ∃ y2 y3, σ = [.val (wsD ws), .val (.int n), y2, y3, .no] ∧ y2.plain = true ∧ y3.plain = true) ⟨_, _, rfl, rfl, rfl⟩ (fun i hi' σ ⟨y2, y3, e, q2, q3⟩ => by
      subst e
      have hlt : i < ws.length := by simpa using hi'
      have eg : ws.getD i default = ws[i] := by rw [List.getD_eq_getElem?_getD, List.getElem?_eq_getElem hlt]; rfl
      have hwi := hup ws[i] (List.getElem_mem hlt)
      have k3 := all_typed (m := iVal (eSlice (oVar 0) (oSome (eOp gAdd (oVar 2) (eC (.int 1)))) oNone)) (t := tgName 4) (vs := [4]) (te := eFn 2 fm (aCons (eVar 3) (aCons (eVar 4) aNil))) (σ := [.val (wsD ws), .val (.int n), .val (.int i), .val (pwD (ws.getD i default)), .no]) (h := h) (ws.drop (i + 1)) pwD (fun o => !lanti (ws.getD i default).l o.l) (by simp [List.map_drop]) (by simp; omega) fun o ho => ⟨_, rfl, by
        have ho' := hup o (List.mem_of_mem_drop ho)
        have q := hm (ws.getD i default) o h (by rw [eg, hwi.len, ho'.len]) (by rw [eg, hwi.len]; omega)
        rw [List.getD_eq_getElem?_getD] at q
        simp [q]⟩
      refine ⟨[.val (wsD ws), .val (.int n), .val (.int i), .val (pwD (ws.getD i default)), .no], [.val (wsD ws), .val (.int n), .val (.int i), .val (pwD (ws.getD i default)), .no], by simp [q2, q3], ⟨_, _, rfl, rfl, rfl⟩, ?_⟩
      rw [e_sIf, e_tNot, e_tB, k3]
      cases (ws.drop (i + 1)).all fun o => !lanti (ws.getD i default).l o.l <;> simp) with ⟨a, σ', rfl, y2, y3, rfl, q2, q3⟩ | ⟨a, rfl⟩
    · dsimp only
      rw [hfin y2 y3 q3]
      have : allMeet ws = true := a
      rw [this]
      rfl
    · have : allMeet ws = false := a
      rw [this]
      rfl
  · have e0 : ((ws.length : Int) == 0) = false := by
      have : ws.length ≠ 0 := fun z => ne (List.eq_nil_of_length_eq_zero z)
      simp
      omega
    have k1 := all_typed (m := iVal (oVar 0)) (t := tgName 3) (vs := [3]) (te := eFn 1 fu (aCons (eVar 3) aNil)) (σ := [.val (wsD ws), .no, .no, .no, .no]) (h := h) ws pwD (fun _ => true) (by simp) (by omega) fun w hw' => ⟨_, rfl, by
      obtain ⟨u1, u2, u3⟩ := hw w hw'
      have he : (w.e % 2 == 0) = true := by rcases u3 with e | e <;> rw [e] <;> rfl
      have := hu.ok w h u1 (by rcases u3 with e | e <;> omega) (by omega)
      rw [he] at this
      simp [this]⟩
    have hn2 : n ≤ 16777216 := by omega
    have k2 := all_typed (m := iVal (oVar 0)) (t := tgName 3) (vs := [3]) (te := eOp gEq (eCall gLen (aCons (eOp atD (oVar 3) (eC (.int 1))) aNil)) (oVar 1)) (σ := [.val (wsD ws), .val (.int n), .no, .no, .no]) (h := h) ws pwD (fun w => (w.l.length : Int) == (n : Int)) (by simp) (by omega) fun w hw' => ⟨_, rfl, by
      have := (hw w hw').2.1
      have hw2 : w.l.length ≤ 16777216 := by omega
      simp [hw2]⟩
    have ef : ws.all (fun w => (w.l.length : Int) == (n : Int)) = false := by
      obtain ⟨w, m, e⟩ := hx
      rw [List.all_eq_false]
      exact ⟨w, m, by simp; omega⟩
    rw [ef] at k2
    simp only [all_true] at k1
    have hlt : 0 < ws.length := by
      have : ws.length ≠ 0 := fun z => ne (List.eq_nil_of_length_eq_zero z)
      omega
    have eg : ws.getD 0 default = ws[0] := by rw [List.getD_eq_getElem?_getD, List.getElem?_eq_getElem hlt]; rfl
    have s1 : (sIf (tOr (tNot (tB (eIsI [.tuple] (oVar 0)))) (tOr (tB (eOp gEq (eCall gLen (aCons (oVar 0) aNil)) (eC (.int 0)))) (tNot (tB (eCall gAll (aCons (eFrz (lcL (iVal (oVar 0)) (tgName 3) tYesM (eFn 1 fu (aCons (eVar 3) aNil)) [3])) aNil)))))) (sRet (eC (.bl false))) sNil) [.val (wsD ws), .no, .no, .no, .no] h = .nx [.val (wsD ws), .no, .no, .no, .no] h := grp_s1 (by simpa using e0) k1
    have s2 : sSet 1 (xVal (eCall gLen (aCons (eOp atD (eOp atD (oVar 0) (eC (.int 0))) (eC (.int 1))) aNil))) [.val (wsD ws), .no, .no, .no, .no] h = .nx [.val (wsD ws), .val (.int n), .no, .no, .no] h := by
      have hv : ws[0].l.length = n := by rw [← eg]; exact h0
      have hvl : ws[0].l.length ≤ 16777216 := by omega
      simp [List.getElem?_eq_getElem hlt, hv, hn2]
    rw [e_defF]
    have st : startS 5 [wsD ws] = [.val (wsD ws), .no, .no, .no, .no] := rfl
    rw [st, B_are_group_words, e_sSeq, s1]
    dsimp only
    rw [e_sSeq, s2]
    dsimp only
    rw [e_sSeq, e_sIf, e_tNot, e_tB, k2]
    simp
end WC
set_option Elab.async false
set_option linter.all false
set_option maxRecDepth 100000
namespace WC
open PySem PySem.Spec PyProof.Rows L2 QC
variable {h : Hs}
structure Cd (n : Nat) (ws : List Pw) : Prop where
  sys : Sys n ws
  ind : Ind (rowsOf ws)
  ne : ws ≠ []
  n1 : 1 ≤ n
  n2 : n ≤ 30
  len : ws.length ≤ 30
theorem Cd.hd {n : Nat} {ws : List Pw} (C : Cd n ws) : ∃ v r, ws = v :: r ∧ v.l.length = n := by
  obtain ⟨v, r, rfl⟩ := List.exists_cons_of_ne_nil C.ne
  exact ⟨v, r, rfl, (C.sys.up v (List.mem_cons_self ..)).len⟩
theorem allMeet_of {n : Nat} {ws : List Pw} (S : Sys n ws) : allMeet ws = true := by
  unfold allMeet
  rw [List.all_eq_true]
  intro i hi
  rw [List.all_eq_true]
  intro o ho
  have hlt : i < ws.length := by simpa using hi
  have eg : ws.getD i default = ws[i] := by rw [List.getD_eq_getElem?_getD, List.getElem?_eq_getElem hlt]; rfl
  have := S.mt ws[i] (List.getElem_mem hlt) o (List.mem_of_mem_drop ho)
  rw [eg, show lanti ws[i].l o.l = false from this]
  rfl
theorem FGrp.code {f : FD} (F : FGrp f) {n : Nat} {ws : List Pw} (C : Cd n ws) : f [wsD ws] h = .ok (.bl true) h := by
  have l := C.len
  rw [F.ws n ws h C.ne (by omega) C.n2 C.n1 C.sys.up, allMeet_of C.sys]
  have : (rr (rowsOf ws)).length = ws.length := by
    have := (rr_ind (rowsOf ws)).mpr C.ind
    simpa using this
  rw [this]
  simp
theorem code_ok {f : FD} (F : FGrp f) : FGrp (defF 1 (B_is_code f)) := by
  refine ⟨fun x ws h a b c => ?_, fun l h => ?_, fun h => ?_, fun h => ?_, fun n ws h a b c d e => ?_, fun n ws h a b c d e g => ?_⟩
  · simp [B_is_code, F.bad x ws h a b c]
  · simp [B_is_code, F.lst]
  · simp [B_is_code, F.non]
  · simp [B_is_code, F.emp]
  · simp [B_is_code, F.ws n ws h a b c d e]
  · simp [B_is_code, F.len n ws h a b c d e g]
abbrev FChk (f : FD) : Prop := ∀ (n : Nat) (ws : List Pw) (h : Hs), Cd n ws → f [wsD ws] h = .ok .non h
theorem chk_ok {f : FD} (F : FGrp f) : FChk (defF 1 (B_check_code f)) := fun n ws h C => by
  simp [B_check_code, F.code C]
abbrev FLn (f : FD) : Prop := ∀ (n : Nat) (ws : List Pw) (h : Hs), Cd n ws → f [wsD ws] h = .ok (.int n) h
theorem ln_ok : FLn (defF 1 B_lines_of) := fun n ws h C => by
  obtain ⟨v, r, rfl, e⟩ := C.hd
  have n2 := C.n2
  have hn2 : n ≤ 16777216 := by omega
  have hv : v.l.length ≤ 16777216 := by omega
  simp [B_lines_of, e, hn2]
abbrev FCR (f : FD) : Prop := ∀ (n : Nat) (ws : List Pw) (h : Hs), Cd n ws → f [wsD ws] h = .ok (wsD (redW n ws)) h
theorem cr_ok {f g : FD} (hf : FChk f) (hg : FRedOf g) : FCR (defF 1 (B_code_reduced f g)) := fun n ws h C => by
  have l := C.len
  simp [B_code_reduced, hf n ws h C, hg n ws h C.n2 C.ne (by omega) C.sys]
theorem cd_inj {a b : Ls} (h : cd a = cd b) : a = b := map_inj' (fun x _ y _ e => P4.code_inj e) h
theorem pwD_inj {a b : Pw} (h : pwD a = pwD b) : a = b := by
  cases a with
  | mk e l =>
    cases b with
    | mk e2 l2 =>
      simp only [pwD, D.tup.injEq, List.cons.injEq, D.int.injEq, D.str.injEq, and_true] at h
      obtain ⟨h1, h2⟩ := h
      have h1 : e = e2 := by omega
      rw [h1, cd_inj h2]
theorem wsD_inj {a b : List Pw} (h : wsD a = wsD b) : a = b := by
  simp only [wsD, D.tup.injEq] at h
  exact map_inj' (fun x _ y _ e => pwD_inj e) h
theorem pwD_dat (w : Pw) : dat 1 (pwD w) = true := by simp [pwD, dat, dats]
theorem wsD_dat (ws : List Pw) : dat 2 (wsD ws) = true := by
  have := dats_map (n := 1) (xs := ws) (c := pwD) fun w _ => pwD_dat w
  simpa [wsD, dat] using this
theorem g_eqW (a b : List Pw) : gEq h (wsD a) (wsD b) = some (.bl (decide (a = b))) := g_eqDat (wsD_dat a) (wsD_dat b) (by decide) ⟨fun e => by rw [e], wsD_inj⟩
theorem g_eqP (a b : Pw) : gEq h (pwD a) (pwD b) = some (.bl (decide (a = b))) := g_eqDat (pwD_dat a) (pwD_dat b) (by decide) ⟨fun e => by rw [e], pwD_inj⟩
abbrev FSame (f : FD) : Prop := ∀ (n : Nat) (ws vs : List Pw) (h : Hs), Cd n ws → Cd n vs → ws.length = vs.length → f [wsD ws, wsD vs] h = .ok (.bl (decide (redW n ws = redW n vs))) h
theorem same_ok {f g k : FD} (hf : FChk f) (hg : FLn g) (hk : FRedOf k) : FSame (defF 2 (B_same_code f g k)) := fun n ws vs h C C' hl => by
  have l := C.len
  have l' := C'.len
  have e := g_eqW (h := h) (redW n ws) (redW n vs)
  have l2 : vs.length ≤ 16777216 := by omega
  simp [B_same_code, hf n ws h C, hf n vs h C', hg n ws h C, hg n vs h C', hk n ws h C.n2 C.ne (by omega) C.sys, hk n vs h C'.n2 C'.ne (by omega) C'.sys, hl, l2, e]
abbrev FChP (f : FD) : Prop := ∀ (n : Nat) (w : Pw) (h : Hs), 1 ≤ n → n ≤ 30 → w.l.length = n → w.e ≤ 3 → f [pwD w, .int n] h = .ok .non h
theorem chp_ok {f : FD} (F : FPau f) : FChP (defF 2 (B_check_pauli f)) := fun n w h h1 h2 h3 h4 => by
  have ne : w.l ≠ [] := by intro z; rw [z] at h3; simp at h3; omega
  have hn : n ≤ 16777216 := by omega
  simp [B_check_pauli, F.ok w h ne h4 (by omega), h3, hn]
def syn (ws : List Pw) (p : Pw) : List Nat := ws.map fun w => if lanti w.l p.l then 49 else 48
abbrev FSyn (f : FD) : Prop := ∀ (n : Nat) (ws : List Pw) (p : Pw) (h : Hs), Cd n ws → p.l.length = n → p.e ≤ 3 → f [wsD ws, pwD p] h = .ok (.str (syn ws p)) h
theorem syn_join {m : EM} {σ : Sg} (ws : List Pw) (p : Pw) (hl : ws.length ≤ 1000) (e : m σ h = .ok (.lst (ws.map fun w => D.str [if lanti w.l p.l then 49 else 48])) h) : (eMeth .str gJoin (eC (.str [])) (aCons m aNil)) σ h = .ok (.str (syn ws p)) h := by
  have j := g_join1 (h := h) (l := syn ws p) (by simp [syn]; omega)
  unfold syn at j
  rw [List.map_map] at j
  have j : gJoin h (.str []) [.lst (ws.map fun w => D.str [if lanti w.l p.l then 49 else 48])] = some (.str (syn ws p)) := j
  rw [e_eMeth, e_eC, R.bind_ok, if_pos (show tyM .str h (.str []) = true from rfl), e_aCons, e, R.bind_ok, e_aNil, R.bind_ok, R.bind_ok, j]
  rfl
theorem syn_ok {f g k m : FD} (hf : FChk f) (hg : FChP g) (hk : FLn k) (hm : FMeets m) : FSyn (defF 3 (B_syndrome f g k m)) := fun n ws p h C hp he => by
  have l := C.len
  have n2 := C.n2
  have key := lc_typed (m := iVal (oVar 0)) (t := tgName 2) (vs := [2]) (te := (eIf (tB (eFn 2 m (aCons (eVar 2) (aCons (eVar 1) aNil)))) (eC (.str [48])) (eC (.str [49])))) (σ := [.val (wsD ws), .val (pwD p), .no]) (h := h) ws pwD (fun w => .str [if lanti w.l p.l then 49 else 48]) (by simp) (by omega) fun w hw => ⟨_, rfl, by
    have hwl := (C.sys.up w hw).len
    have q := hm w p h (by rw [hwl, hp]) (by omega)
    simp [q]
    cases lanti w.l p.l <;> rfl⟩
  have j := syn_join (m := eFrz (lcL (iVal (oVar 0)) (tgName 2) tYesM (eIf (tB (eFn 2 m (aCons (eVar 2) (aCons (eVar 1) aNil)))) (eC (.str [48])) (eC (.str [49]))) [2])) (σ := [.val (wsD ws), .val (pwD p), .no]) (h := h) ws p (by omega) (by rw [e_eFrz, key, R.bind_ok])
  rw [B_syndrome, e_defF]
  have st : startS 3 [wsD ws, pwD p] = [.val (wsD ws), .val (pwD p), .no] := rfl
  have s1 : sExpr (eFn 1 f (aCons (eVar 0) aNil)) [.val (wsD ws), .val (pwD p), .no] h = .nx [.val (wsD ws), .val (pwD p), .no] h := by
    simp [hf n ws h C]
  have s2 : sExpr (eFn 2 g (aCons (eVar 1) (aCons (eFn 1 k (aCons (eVar 0) aNil)) aNil))) [.val (wsD ws), .val (pwD p), .no] h = .nx [.val (wsD ws), .val (pwD p), .no] h := by
    simp [hk n ws h C, hg n p h C.n1 C.n2 hp he]
  rw [st, e_sSeq, s1]
  dsimp only
  rw [e_sSeq, s2]
  dsimp only
  rw [e_sRet, j]
  rfl
end WC
set_option Elab.async false
set_option linter.all false
set_option maxRecDepth 100000
namespace WC
open PySem PySem.Spec PyProof.Rows L2 QC
variable {h : Hs}
def bi (b : Bool) : Int := if b then 1 else 0
abbrev xD (l : Ls) : List D := l.map fun a => .int (bi a.xb)
abbrev zD (l : Ls) : List D := l.map fun a => .int (bi a.zb)
def yc (l : Ls) : Nat := (cd l).count 89
abbrev FSgns (f : FD) : Prop := ∀ (w : Pw) (h : Hs), w.l.length ≤ 1000 → f [pwD w] h = .ok (.lst [.int (w.e + yc w.l), .ref h.length, .ref (h.length + 1)]) (h ++ [.lst (xD w.l), .lst (zD w.l)])
theorem sgns_ok : FSgns (defF 4 B_law_signs) := fun w h hl => by
  have k1 : ∀ h : Hs, lcL (iVal (oVar 2)) (tgName 3) tYesM (eCall gIntA (aCons (eOp gIn (oVar 3) (eC (.str [88, 89]))) aNil)) [3] [.val (pwD w), .val (.int w.e), .val (.str (cd w.l)), .no] h = .ok (xD w.l) h := fun h =>
    lc_typed w.l (fun a => .str [P4.code a]) _ (by simp [cd_items]) (by omega) fun a _ => ⟨_, rfl, by cases a <;> rfl⟩
  have k2 : ∀ h : Hs, lcL (iVal (oVar 2)) (tgName 3) tYesM (eCall gIntA (aCons (eOp gIn (oVar 3) (eC (.str [89, 90]))) aNil)) [3] [.val (pwD w), .val (.int w.e), .val (.str (cd w.l)), .no] h = .ok (zD w.l) h := fun h =>
    lc_typed w.l (fun a => .str [P4.code a]) _ (by simp [cd_items]) (by omega) fun a _ => ⟨_, rfl, by cases a <;> rfl⟩
  simp [B_law_signs, k1, k2, tyM, yc]
theorem getD_map_range (l : Ls) : ((List.range l.length).map fun i => l.getD i .I) = l := by
  apply List.ext_getElem?
  intro i
  rw [List.getElem?_map]
  by_cases hi : i < l.length
  · rw [List.getElem?_range hi, Option.map_some, List.getD_eq_getElem?_getD, List.getElem?_eq_getElem hi]; rfl
  · rw [List.getElem?_eq_none (by simp; omega), List.getElem?_eq_none (by omega)]; rfl
abbrev FWord (f : FD) : Prop := ∀ (n : Int) (l : Ls) (dx dz : D) (h : Hs), l.length ≤ 1000 → gLen h [dx] = some (.int l.length) → (∀ (i : Nat) (a : P4), l[i]? = some a → atD h dx (.int i) = some (.int (bi a.xb)) ∧ atD h dz (.int i) = some (.int (bi a.zb))) →
  f [.int n, dx, dz] h = .ok (.tup [.int ((n - yc l) % 4), .str (cd l)]) h
theorem word_at (a : P4) : ([73, 90, 88, 89] : List Nat)[(2 * bi a.xb + bi a.zb).toNat]? = some (P4.code a) ∧ 0 ≤ 2 * bi a.xb + bi a.zb := by cases a <;> exact ⟨rfl, by decide⟩
theorem word_ok : FWord (defF 5 B_law_word) := fun n l dx dz h hl hn H => by
  have hr := range1_ok (a := eCall gLen (aCons (oVar 1) aNil)) (σ := [.val (.int n), .val dx, .val dz, .no, .no]) (h := h) (j := l.length) (by simp [hn]) (by omega) (by omega)
  have key := lc_typed (m := iRange1 (aCons (eCall gLen (aCons (oVar 1) aNil)) aNil)) (t := tgName 4) (vs := [4]) (te := eOp atD (eC (.str [73, 90, 88, 89])) (eOp gAdd (eOp gMul (eC (.int 2)) (eOp atD (oVar 1) (oVar 4))) (eOp atD (oVar 2) (oVar 4)))) (σ := [.val (.int n), .val dx, .val dz, .no, .no]) (h := h) (List.range l.length) (fun i : Nat => .int (0 + i)) (fun i : Nat => .str [P4.code (l.getD i .I)]) (by rw [hr]; rfl) (by simp; omega) fun i hi => ⟨[.val (.int n), .val dx, .val dz, .no, .val (.int i)], by simp, by
    have hlt : i < l.length := by simpa using hi
    have ea : l[i]? = some l[i] := List.getElem?_eq_getElem hlt
    have eg : l.getD i .I = l[i] := by rw [List.getD_eq_getElem?_getD, ea]; rfl
    obtain ⟨e1, e2⟩ := H i l[i] ea
    have m2 : cMul 2 (bi l[i].xb) = true := cMul_l (by decide)
    obtain ⟨w1, w2⟩ := word_at l[i]
    obtain ⟨q, hq⟩ := Int.eq_ofNat_of_zero_le w2
    rw [hq] at w1
    have a1 : atI ([73, 90, 88, 89] : List Nat) (q : Int) = some (P4.code l[i]) := by rw [a_nat]; exact w1
    rw [eg]
    simp [e1, e2, g_mulOk m2, hq, a1]⟩
  have e0 : ((List.range l.length).map fun i => D.str [P4.code (l.getD i .I)]) = (cd l).map fun c => D.str [c] := by
    rw [cd_items]
    conv => rhs; rw [← getD_map_range l]
    rw [List.map_map]
    rfl
  rw [e0] at key
  have j := g_join1 (h := h) (l := cd l) (by simp; omega)
  have j2 : (eMeth .str gJoin (eC (.str [])) (aCons (eFrz (lcL (iRange1 (aCons (eCall gLen (aCons (oVar 1) aNil)) aNil)) (tgName 4) tYesM (eOp atD (eC (.str [73, 90, 88, 89])) (eOp gAdd (eOp gMul (eC (.int 2)) (eOp atD (oVar 1) (oVar 4))) (eOp atD (oVar 2) (oVar 4)))) [4])) aNil)) [.val (.int n), .val dx, .val dz, .no, .no] h = .ok (.str (cd l)) h := by
    rw [e_eMeth, e_eC, R.bind_ok, if_pos (show tyM .str h (.str []) = true from rfl), e_aCons, e_eFrz, key, R.bind_ok, R.bind_ok, e_aNil, R.bind_ok, R.bind_ok, j]
    rfl
  have m4 : ∀ z : Int, gMod h (.int z) (.int 4) = some (.int (z % 4)) := fun z => g_mod (by decide)
  have st : startS 5 [.int n, dx, dz] = [.val (.int n), .val dx, .val dz, .no, .no] := rfl
  rw [B_law_word, e_defF, st, e_sSeq, e_sSet, e_xVal, j2]
  simp [tyM, m4, yc]
theorem yc_cons (a : P4) (l : Ls) : yc (a :: l) = yc l + (if a = .Y then 1 else 0) := by
  unfold yc cd
  rw [List.map_cons, List.count_cons]
  congr 1
  cases a <;> rfl
def zx (a b : Ls) : List Int := (a.zip b).map fun p => bi p.1.zb * bi p.2.xb
theorem phase : ∀ (a b : Ls), a.length = b.length → ((yc a : Int) + yc b + 2 * (zx a b).sum - yc (lmul a b)) % 4 = (lph a b : Int) % 4
  | [], [], _ => rfl
  | x :: a, y :: b, hl => by
    have ih := phase a b (by simpa using hl)
    have e1 : lmul (x :: a) (y :: b) = P4.mul x y :: lmul a b := rfl
    have e2 : lph (x :: a) (y :: b) = P4.ph x y + lph a b := rfl
    have e3 : (zx (x :: a) (y :: b)).sum = bi x.zb * bi y.xb + (zx a b).sum := by simp [zx]
    rw [e1, e2, e3, yc_cons, yc_cons, yc_cons]
    have key : ((if x = .Y then 1 else 0 : Int) + (if y = .Y then 1 else 0) + 2 * (bi x.zb * bi y.xb) - (if P4.mul x y = .Y then 1 else 0)) % 4 = (P4.ph x y : Int) % 4 := by cases x <;> cases y <;> decide
    push_cast
    have c : ∀ p : Prop, [Decidable p] → (((if p then 1 else 0 : Nat) : Int)) = (if p then 1 else 0) := fun p _ => by split <;> rfl
    rw [c, c, c]
    omega
abbrev FTimes (f : FD) : Prop := ∀ (a b : Pw) (h : Hs), a.l.length = b.l.length → a.l.length ≤ 1000 → ∃ g, f [pwD a, pwD b] h = .ok (pwD (pmul a b)) (h ++ g)
end WC
set_option Elab.async false
set_option linter.all false
set_option maxRecDepth 100000
namespace WC
open PySem PySem.Spec PyProof.Rows L2 QC
variable {h : Hs}
theorem getD_of {l : Ls} {i : Nat} (hi : i < l.length) : l.getD i .I = l[i] := by rw [List.getD_eq_getElem?_getD, List.getElem?_eq_getElem hi]; rfl
theorem zip_range (a b : Ls) (hl : a.length = b.length) : a.zip b = (List.range a.length).map fun i => (a.getD i .I, b.getD i .I) := by
  apply List.ext_getElem
  · simp [hl]
  · intro i h1 h2
    have i1 : i < a.length := by simp at h2; exact h2
    have i2 : i < b.length := by omega
    simp [i1, i2]
theorem zx_range (a b : Ls) (hl : a.length = b.length) : zx a b = (List.range a.length).map fun i => bi (a.getD i .I).zb * bi (b.getD i .I).xb := by
  unfold zx
  rw [zip_range a b hl, List.map_map]
  rfl
theorem bi_xor (x y : Bool) : (bi x + bi y) % 2 = bi (x ^^ y) := by cases x <;> cases y <;> rfl
theorem mul_range (f : P4 → Bool) (hf : ∀ a b, f (P4.mul a b) = (f a ^^ f b)) (a b : Ls) (hl : a.length = b.length) : ((List.range a.length).map fun i => D.int ((bi (f (a.getD i .I)) + bi (f (b.getD i .I))) % 2)) = (lmul a b).map fun c => .int (bi (f c)) := by
  rw [lmul_zip, zip_range a b hl, List.map_map, List.map_map]
  apply List.map_congr_left
  intro i _
  show _ = D.int (bi (f (P4.mul _ _)))
  rw [bi_xor, hf]
theorem at_xD {l : Ls} {i : Nat} (hi : i < l.length) : atI (xD l) (i : Int) = some (.int (bi (l.getD i .I).xb)) := by
  rw [a_nat, List.getElem?_map, List.getElem?_eq_getElem hi, getD_of hi]; rfl
theorem at_zD {l : Ls} {i : Nat} (hi : i < l.length) : atI (zD l) (i : Int) = some (.int (bi (l.getD i .I).zb)) := by
  rw [a_nat, List.getElem?_map, List.getElem?_eq_getElem hi, getD_of hi]; rfl
theorem bi_mul (x y : Bool) : cMul (bi x) (bi y) = true := cMul_l (by cases x <;> decide)
theorem times_ok {fs fw : FD} (hs : FSgns fs) (hw : FWord fw) : FTimes (defF 8 (B_law_times fs fw)) := fun a b h hl hn => by
  refine ⟨[.lst (xD a.l), .lst (zD a.l), .lst (xD b.l), .lst (zD b.l)], ?_⟩
  obtain ⟨h2, eh⟩ : ∃ h2, h2 = h ++ [Ob.lst (xD a.l), .lst (zD a.l), .lst (xD b.l), .lst (zD b.l)] := ⟨_, rfl⟩
  have ha : a.l.length ≤ 16777216 := by omega
  have l1 : h2[h.length]? = some (.lst (xD a.l)) := by subst eh; simp
  have l2 : h2[h.length + 1]? = some (.lst (zD a.l)) := by subst eh; simp
  have l3 : h2[h.length + 2]? = some (.lst (xD b.l)) := by subst eh; simp
  have l4 : h2[h.length + 3]? = some (.lst (zD b.l)) := by subst eh; simp
  let σ : Sl → Sl → Sl → Sl → Sg := fun x4 x5 x6 x7 => [.val (pwD a), .val (pwD b), .val (.lst [.int (a.e + yc a.l), .ref h.length, .ref (h.length + 1)]), .val (.lst [.int (b.e + yc b.l), .ref (h.length + 2), .ref (h.length + 3)]), x4, x5, x6, x7]
  have s1 : sAsg (tgTup [(tgName 2), (tgName 3)]) (eTup (aCons (eFn 1 fs (aCons (eVar 0) aNil)) (aCons (eFn 1 fs (aCons (eVar 1) aNil)) aNil))) [.val (pwD a), .val (pwD b), .no, .no, .no, .no, .no, .no] h = .nx (σ .no .no .no .no) h2 := by
    simp [hs a h hn, hs b _ (show b.l.length ≤ 1000 by omega), σ, eh]
  have hr : ∀ x4 x5 x6 x7, iRange1 (aCons (eCall gLen (aCons (eOp atD (oVar 0) (eC (.int 1))) aNil)) aNil) (σ x4 x5 x6 x7) h2 = .ok ((List.range a.l.length).map fun i : Nat => .int (0 + i)) h2 := fun x4 x5 x6 x7 => by
    have := range1_ok (a := eCall gLen (aCons (eOp atD (oVar 0) (eC (.int 1))) aNil)) (σ := σ x4 x5 x6 x7) (h := h2) (j := a.l.length) (by simp [σ, ha]) (by omega) (by omega)
    rw [this]
    rfl
  have hlr : (List.range a.l.length).length ≤ 16777216 := by simp; omega
  have k1 := lc_typed (t := tgName 7) (vs := [7]) (te := eOp gMul (eOp atD (eOp atD (oVar 2) (eC (.int 2))) (oVar 7)) (eOp atD (eOp atD (oVar 3) (eC (.int 1))) (oVar 7))) (List.range a.l.length) (fun i : Nat => .int (0 + i)) (fun i => .int (bi (a.l.getD i .I).zb * bi (b.l.getD i .I).xb)) (hr .no .no .no .no) hlr fun i hi => ⟨σ .no .no .no (.val (.int i)), by simp [σ], by
    have i1 : i < a.l.length := by simpa using hi
    have i2 : i < b.l.length := by omega
    have z1 := at_zD i1
    have z2 := at_xD i2
    simp [σ, l2, l3, i1, i2, g_mulOk (bi_mul _ _)]⟩
  have m2 : ∀ z : Int, gMod h2 (.int z) (.int 2) = some (.int (z % 2)) := fun z => g_mod (by decide)
  have k2 : ∀ x4, lcL _ (tgName 7) tYesM (eOp gMod (eCall gIntA (aCons (eOp gAdd (eOp atD (eOp atD (oVar 2) (eC (.int 1))) (oVar 7)) (eOp atD (eOp atD (oVar 3) (eC (.int 1))) (oVar 7))) aNil)) (eC (.int 2))) [7] (σ x4 .no .no .no) h2 = _ := fun x4 => lc_typed (t := tgName 7) (vs := [7]) (te := eOp gMod (eCall gIntA (aCons (eOp gAdd (eOp atD (eOp atD (oVar 2) (eC (.int 1))) (oVar 7)) (eOp atD (eOp atD (oVar 3) (eC (.int 1))) (oVar 7))) aNil)) (eC (.int 2))) (List.range a.l.length) (fun i : Nat => .int (0 + i)) (fun i => .int ((bi (a.l.getD i .I).xb + bi (b.l.getD i .I).xb) % 2)) (hr x4 .no .no .no) hlr fun i hi => ⟨σ x4 .no .no (.val (.int i)), by simp [σ], by
    have i1 : i < a.l.length := by simpa using hi
    have i2 : i < b.l.length := by omega
    have z1 := at_xD i1
    have z2 := at_xD i2
    simp [σ, l1, l3, i1, i2, m2]⟩
  have k3 : ∀ x4 x5, lcL _ (tgName 7) tYesM (eOp gMod (eCall gIntA (aCons (eOp gAdd (eOp atD (eOp atD (oVar 2) (eC (.int 2))) (oVar 7)) (eOp atD (eOp atD (oVar 3) (eC (.int 2))) (oVar 7))) aNil)) (eC (.int 2))) [7] (σ x4 x5 .no .no) h2 = _ := fun x4 x5 => lc_typed (t := tgName 7) (vs := [7]) (te := eOp gMod (eCall gIntA (aCons (eOp gAdd (eOp atD (eOp atD (oVar 2) (eC (.int 2))) (oVar 7)) (eOp atD (eOp atD (oVar 3) (eC (.int 2))) (oVar 7))) aNil)) (eC (.int 2))) (List.range a.l.length) (fun i : Nat => .int (0 + i)) (fun i => .int ((bi (a.l.getD i .I).zb + bi (b.l.getD i .I).zb) % 2)) (hr x4 x5 .no .no) hlr fun i hi => ⟨σ x4 x5 .no (.val (.int i)), by simp [σ], by
    have i1 : i < a.l.length := by simpa using hi
    have i2 : i < b.l.length := by omega
    have z1 := at_zD i1
    have z2 := at_zD i2
    simp [σ, l2, l4, i1, i2, m2]⟩
  rw [mul_range P4.xb P4.xb_mul a.l b.l hl] at k2
  rw [mul_range P4.zb P4.zb_mul a.l b.l hl] at k3
  have e1 : ((List.range a.l.length).map fun i => D.int (bi (a.l.getD i .I).zb * bi (b.l.getD i .I).xb)) = (zx a.l b.l).map fun z => .int z := by rw [zx_range a.l b.l hl, List.map_map]; rfl
  rw [e1] at k1
  have gs := g_sum (h := h2) (zx a.l b.l) id
  have gs : gSum h2 [.lst ((zx a.l b.l).map fun z => .int z)] = some (.int (zx a.l b.l).sum) := by simpa using gs
  have st : startS 8 [pwD a, pwD b] = [.val (pwD a), .val (pwD b), .no, .no, .no, .no, .no, .no] := rfl
  have s2 : sSet 4 (xVal (eCall gSum (aCons (eFrz (lcL (iRange1 (aCons (eCall gLen (aCons (eOp atD (oVar 0) (eC (.int 1))) aNil)) aNil)) (tgName 7) tYesM (eOp gMul (eOp atD (eOp atD (oVar 2) (eC (.int 2))) (oVar 7)) (eOp atD (eOp atD (oVar 3) (eC (.int 1))) (oVar 7))) [7])) aNil))) (σ .no .no .no .no) h2 = .nx (σ (.val (.int (zx a.l b.l).sum)) .no .no .no) h2 := by
    rw [e_sSet, e_xVal, e_eCall, e_aCons, e_eFrz, k1, R.bind_ok, R.bind_ok, e_aNil, R.bind_ok, R.bind_ok, gs]
    rfl
  have s3 : sSet 5 (xVal (eFrz (lcL (iRange1 (aCons (eCall gLen (aCons (eOp atD (oVar 0) (eC (.int 1))) aNil)) aNil)) (tgName 7) tYesM (eOp gMod (eCall gIntA (aCons (eOp gAdd (eOp atD (eOp atD (oVar 2) (eC (.int 1))) (oVar 7)) (eOp atD (eOp atD (oVar 3) (eC (.int 1))) (oVar 7))) aNil)) (eC (.int 2))) [7]))) (σ (.val (.int (zx a.l b.l).sum)) .no .no .no) h2 = .nx (σ (.val (.int (zx a.l b.l).sum)) (.val (.lst (xD (lmul a.l b.l)))) .no .no) h2 := by
    rw [e_sSet, e_xVal, e_eFrz, k2, R.bind_ok]
    rfl
  have s4 : sSet 6 (xVal (eFrz (lcL (iRange1 (aCons (eCall gLen (aCons (eOp atD (oVar 0) (eC (.int 1))) aNil)) aNil)) (tgName 7) tYesM (eOp gMod (eCall gIntA (aCons (eOp gAdd (eOp atD (eOp atD (oVar 2) (eC (.int 2))) (oVar 7)) (eOp atD (eOp atD (oVar 3) (eC (.int 2))) (oVar 7))) aNil)) (eC (.int 2))) [7]))) (σ (.val (.int (zx a.l b.l).sum)) (.val (.lst (xD (lmul a.l b.l)))) .no .no) h2 = .nx (σ (.val (.int (zx a.l b.l).sum)) (.val (.lst (xD (lmul a.l b.l)))) (.val (.lst (zD (lmul a.l b.l)))) .no) h2 := by
    rw [e_sSet, e_xVal, e_eFrz, k3, R.bind_ok]
    rfl
  have hlm : (lmul a.l b.l).length = a.l.length := lmul_len rfl hl.symm
  have hwd := hw (a.e + yc a.l + (b.e + yc b.l) + 2 * (zx a.l b.l).sum) (lmul a.l b.l) (.lst (xD (lmul a.l b.l))) (.lst (zD (lmul a.l b.l))) h2 (by omega) (by simp) fun i c hc => by
    obtain ⟨hi, e⟩ := List.getElem?_eq_some_iff.mp hc
    have x1 := at_xD hi
    have x2 := at_zD hi
    rw [getD_of hi, e] at x1 x2
    exact ⟨x1, x2⟩
  have ph := phase a.l b.l hl
  have ef : ((a.e + yc a.l + (b.e + yc b.l) + 2 * (zx a.l b.l).sum - yc (lmul a.l b.l)) % 4 : Int) = ((pmul a b).e : Nat) := by
    show _ = (((a.e + b.e + lph a.l b.l) % 4 : Nat) : Int)
    omega
  rw [ef] at hwd
  rw [B_law_times, e_defF, st, e_sSeq, s1]
  dsimp only
  rw [e_sSeq, s2]
  dsimp only
  rw [e_sSeq, s3]
  dsimp only
  rw [e_sSeq, s4]
  dsimp only
  simp [σ, g_mulOk (cMul_l (i := 2) (j := (zx a.l b.l).sum) (by decide)), hwd]
  exact ⟨rfl, eh⟩
end WC
set_option Elab.async false
set_option linter.all false
set_option maxRecDepth 100000
namespace WC
open PySem PySem.Spec PyProof.Rows L2 QC
variable {h : Hs}
abbrev FGroup (f : FD) : Prop := ∀ (n : Nat) (ws : List Pw) (h : Hs), ws ≠ [] → ws.length ≤ 20 → n ≤ 30 → (∀ w ∈ ws, w.l.length = n) → ∃ g, f [wsD ws] h = .ok (.lst ((grp n ws).map pwD)) (h ++ g)
theorem grp_snoc (n : Nat) (ws : List Pw) (w : Pw) : grp n (ws ++ [w]) = grp n ws ++ (grp n ws).map fun g => pmul g w := by
  unfold grp
  rw [List.foldl_append]
  rfl
theorem grp_lines {n : Nat} {ws : List Pw} (H : ∀ w ∈ ws, w.l.length = n) : ∀ g ∈ grp n ws, g.l.length = n := by
  have key : ∀ (ws : List Pw) (F : List Pw), (∀ w ∈ ws, w.l.length = n) → (∀ g ∈ F, g.l.length = n) → ∀ g ∈ ws.foldl (fun F w => F ++ F.map fun g => pmul g w) F, g.l.length = n := by
    intro ws
    induction ws with
    | nil => exact fun F _ h => h
    | cons w ws ih =>
      intro F hw hF
      refine ih _ (fun x m => hw x (List.mem_cons_of_mem _ m)) ?_
      intro g hg
      rcases List.mem_append.mp hg with hg | hg
      · exact hF g hg
      · obtain ⟨k, hk, rfl⟩ := List.mem_map.mp hg
        exact lmul_len (hF k hk) (hw w (List.mem_cons_self ..))
  refine key ws [one n] H ?_
  intro g hg
  have : g = one n := by simpa using hg
  subst this
  simp [one, ones]
theorem cd_ones (n : Nat) : cd (ones n) = List.replicate n 73 := by simp [cd, ones, P4.code]
theorem g_mulI' {n : Nat} (hn : n ≤ 1000) : gMul h (.str [73]) (.int n) = some (.str (List.replicate n 73)) := by
  have e1 : gMul h (.str [73]) (.int n) = some (.str (List.replicate n [73]).flatten) := g_mulS hn (by simp)
  rw [e1]; simp
theorem group_ok {f : FD} (hf : FTimes f) : FGroup (defF 4 (B_law_group f)) := fun n ws h ne hl hn hw => by
  obtain ⟨v, r, e0⟩ := List.exists_cons_of_ne_nil ne
  have hv : v.l.length = n := hw v (by rw [e0]; exact List.mem_cons_self ..)
  have hh : ws[0]? = some v := by rw [e0]; rfl
  have hn2 : n ≤ 16777216 := by omega
  have e1 := g_mulI' (h := h) (n := n) (by omega)
  have s1 : sSet 1 (xVal (eFrz (lLst (aCons (eTup (aCons (eC (.int 0)) (aCons (eOp gMul (eC (.str [73])) (eCall gLen (aCons (eOp atD (eOp atD (oVar 0) (eC (.int 0))) (eC (.int 1))) aNil))) aNil))) aNil)))) [.val (wsD ws), .no, .no, .no] h = .nx [.val (wsD ws), .val (.lst ((grp n []).map pwD)), .no, .no] h := by
    simp [hh, hv, hn2, e1, grp, one, cd_ones]
  have st : startS 4 [wsD ws] = [.val (wsD ws), .no, .no, .no] := rfl
  rw [B_law_group, e_defF, st, e_sSeq, s1]
  dsimp only
  rw [e_sSeq, e_sForV_val (d := wsD ws) (xs := ws.map pwD) rfl rfl]
  generalize hr : forGo _ _ _ _ _ = r
  obtain ⟨σ', h', rfl, g, x2, e, rfl, _⟩ := for_any hr pwD ws rfl (fun done σ h' => ∃ g x2, h' = h ++ g ∧ σ = [.val (wsD ws), .val (.lst ((grp n done).map pwD)), x2, .no] ∧ x2.plain = true) ⟨[], _, by simp, rfl, rfl⟩ fun done x rest σ h' e i => by
    obtain ⟨g, x2, rfl, rfl, p2⟩ := i
    have hx : x.l.length = n := hw x (by rw [e]; simp)
    have hd : done.length + 1 ≤ 20 := by have := congrArg List.length e; simp at this; omega
    have hdn := grp_lines (n := n) (ws := done) fun w m => hw w (by rw [e]; simp [m])
    have hpw : (grp n done).length ≤ 2 ^ 19 := by rw [grp_len]; exact Nat.pow_le_pow_right (by decide) (by omega)
    have hpw : (grp n done).length ≤ 524288 := hpw
    generalize hq : lcL (iVal (oVar 1)) (tgName 3) tYesM (eFn 2 f (aCons (eVar 3) (aCons (eVar 2) aNil))) [3] [.val (wsD ws), .val (.lst ((grp n done).map pwD)), .val (pwD x), .no] (h ++ g) = q
    obtain ⟨h2, rfl, g2, rfl⟩ := lc_leave (h0 := h) hq (fun h2 => ∃ g, h2 = h ++ g) (grp n done) pwD (fun y => pwD (pmul y x)) (by simp) (by omega) ⟨g, rfl⟩ fun y hy h2 ⟨g2, e2⟩ => by
      subst e2
      obtain ⟨g3, e3⟩ := hf y x (h ++ g2) (by rw [hx, hdn y hy]) (by rw [hdn y hy]; omega)
      exact ⟨_, (h ++ g2) ++ g3, rfl, by simp [e3], ⟨g2 ++ g3, by simp⟩⟩
    refine ⟨[.val (wsD ws), .val (.lst ((grp n done).map pwD)), .val (pwD x), .no], [.val (wsD ws), .val (.lst ((grp n (done ++ [x])).map pwD)), .val (pwD x), .no], h ++ g2, by simp [p2], .inl ?_, g2, _, rfl, rfl, rfl⟩
    rw [e_sSet, e_xVal, e_eOp]
    show eDo (((R.ok (D.lst ((grp n done).map pwD)) (h ++ g)).bind _).bind _) _ = _
    rw [R.bind_ok, e_eFrz, hq, R.bind_ok, R.bind_ok]
    have e5 : ((grp n (done ++ [x])).map pwD) = (grp n done).map pwD ++ (grp n done).map fun y => pwD (pmul y x) := by rw [grp_snoc, List.map_append, List.map_map]; rfl
    have hle : ((grp n done).map pwD).length + ((grp n done).map fun y => pwD (pmul y x)).length ≤ 16777216 := by simp; omega
    rw [g_addL, if_pos hle, e5]
    rfl
  exact ⟨g, by rw [e]; rfl⟩
theorem lmeets_ok : FMeets (defF 4 B_law_meets) := fun a b h hl hn => by
  have ha : a.l.length ≤ 16777216 := by omega
  have hb : b.l.length ≤ 16777216 := by omega
  have hr := range1_ok (a := eCall gLen (aCons (eOp atD (oVar 0) (eC (.int 1))) aNil)) (σ := [.val (pwD a), .val (pwD b), .no, .no]) (h := h) (j := a.l.length) (by simp [ha]) (by omega) (by omega)
  have key := lc_filt (m := iRange1 (aCons (eCall gLen (aCons (eOp atD (oVar 0) (eC (.int 1))) aNil)) aNil)) (t := tgName 3) (tt := (tAnd (tB (eOp gNe (eOp atD (eOp atD (oVar 0) (eC (.int 1))) (oVar 3)) (eOp atD (eOp atD (oVar 1) (eC (.int 1))) (oVar 3)))) (tB (eOp gNotIn (eC (.str [73])) (eTup (aCons (eOp atD (eOp atD (oVar 0) (eC (.int 1))) (oVar 3)) (aCons (eOp atD (eOp atD (oVar 1) (eC (.int 1))) (oVar 3)) aNil))))))) (te := eVar 3) (vs := [3]) (σ := [.val (pwD a), .val (pwD b), .no, .no]) (h := h) (List.range a.l.length) (fun i : Nat => .int (0 + i)) (fun i : Nat => .int i) (fun i => P4.anti (a.l.getD i .I) (b.l.getD i .I)) (by rw [hr]; rfl) (by simp; omega) fun i hi => ⟨[.val (pwD a), .val (pwD b), .no, .val (.int i)], by simp, by
      have i1 : i < a.l.length := by simpa using hi
      have i2 : i < b.l.length := by omega
      rw [getD_of i1, getD_of i2]
      have c1 : (cd a.l)[i]? = some (P4.code a.l[i]) := by simp [cd, i1]
      have c2 : (cd b.l)[i]? = some (P4.code b.l[i]) := by simp [cd, i2]
      simp [c1, c2, ha, hb]
      cases a.l[i] <;> cases b.l[i] <;> rfl, fun _ => by simp⟩
  have e := anti_count a.l b.l
  rw [zip_range a.l b.l hl, List.filter_map, List.length_map] at e
  have m2 : ∀ z : Int, gMod h (.int z) (.int 2) = some (.int (z % 2)) := fun z => g_mod (by decide)
  have st : startS 4 [pwD a, pwD b] = [.val (pwD a), .val (pwD b), .no, .no] := rfl
  rw [B_law_meets, e_defF, st, e_sSeq, e_sSet, e_xVal, e_eFrz, key]
  simp [m2]
  rw [← e]
  have e6 : ((fun p : P4 × P4 => P4.anti p.1 p.2) ∘ fun i : Nat => (a.l.getD i .I, b.l.getD i .I)) = fun i => P4.anti (a.l[i]?.getD .I) (b.l[i]?.getD .I) := by
    funext i; simp
  rw [e6]
  generalize ((List.range a.l.length).filter fun i => P4.anti (a.l[i]?.getD .I) (b.l[i]?.getD .I)).length = m
  by_cases hm : m % 2 = 0
  · have : (m : Int) % 2 = 0 := by omega
    simp [hm, this]
  · have h1 : m % 2 = 1 := by omega
    have : (m : Int) % 2 = 1 := by omega
    simp [h1, this]
theorem pyEq_pw (a b : Pw) : pyEq (pwD a) (pwD b) = decide (a = b) := by
  have e := dat_eq 1 1 (pwD a) (pwD b) (pwD_dat a) (pwD_dat b)
  by_cases q : a = b
  · rw [e.mpr (by rw [q]), decide_eq_true q]
  · rw [decide_eq_false q]
    cases r : pyEq (pwD a) (pwD b) with
    | false => rfl
    | true => exact absurd (pwD_inj (e.mp r)) q
theorem inS_pw (w : Pw) (F : List Pw) : inS (pwD w) (F.map pwD) = decide (w ∈ F) := by
  unfold inS
  rw [List.any_map]
  apply Bool.eq_iff_iff.mpr
  rw [List.any_eq_true, decide_eq_true_eq]
  constructor
  · rintro ⟨x, m, e⟩
    have : pyEq (pwD x) (pwD w) = true := e
    rw [pyEq_pw] at this
    rw [← of_decide_eq_true this]; exact m
  · intro m
    exact ⟨w, m, by show pyEq (pwD w) (pwD w) = true; rw [pyEq_pw]; exact decide_eq_true rfl⟩
theorem lsD_dat (F : List Pw) : dat 2 (.lst (F.map pwD)) = true := by
  have := dats_map (n := 1) (xs := F) (c := pwD) fun w _ => pwD_dat w
  simpa [dat] using this
theorem g_notinW (w : Pw) (F : List Pw) : gNotIn h (pwD w) (.lst (F.map pwD)) = some (.bl (!decide (w ∈ F))) := by
  unfold gNotIn inD
  rw [dat_asV (lsD_dat F)]
  have e1 := dat_ok (pwD_dat w) (by decide)
  have e2 := dat_ok (lsD_dat F) (by decide)
  dsimp only
  rw [e1, e2, Bool.true_and, if_pos rfl, inS_pw]
  rfl
theorem g_eqNil (F : List Pw) : gEq h (.lst (F.map pwD)) (.lst []) = some (.bl (decide (F = []))) :=
  g_eqDat (lsD_dat F) (n := 2) rfl (by decide) (by cases F <;> simp)
theorem lsame_ok {f : FD} (hf : FGroup f) {n : Nat} {ws : List Pw} {G : List Pw} (h : Hs) (ne : ws ≠ []) (hl : ws.length ≤ 20) (hn : n ≤ 30) (hw : ∀ w ∈ ws, w.l.length = n) (hG : G.length ≤ 2 ^ 20) : ∃ g, defF 4 (B_law_same_group f) [wsD ws, .lst (G.map pwD)] h = .ok (.bl (decide ((grp n ws).length = G.length) && decide (G.filter (fun w => !decide (w ∈ grp n ws)) = []))) (h ++ g) := by
  obtain ⟨g, e⟩ := hf n ws h ne hl hn hw
  refine ⟨g, ?_⟩
  have hG : G.length ≤ 1048576 := hG
  have key := lc_filt (m := iVal (oVar 1)) (t := tgName 3) (tt := (tB (eOp gNotIn (oVar 3) (oVar 2)))) (te := eVar 3) (vs := [3]) (σ := [.val (wsD ws), .val (.lst (G.map pwD)), .val (.lst ((grp n ws).map pwD)), .no]) (h := h ++ g) G pwD pwD (fun w => !decide (w ∈ grp n ws)) (by simp) (by omega) fun w _ => ⟨_, rfl, by
    have q := g_notinW (h := h ++ g) w (grp n ws)
    simp [q], fun _ => rfl⟩
  have s1 : sSet 2 (xVal (eFn 1 f (aCons (eVar 0) aNil))) [.val (wsD ws), .val (.lst (G.map pwD)), .no, .no] h = .nx [.val (wsD ws), .val (.lst (G.map pwD)), .val (.lst ((grp n ws).map pwD)), .no] (h ++ g) := by
    simp [e]
  have a1 : (eOp gEq (eCall gLen (aCons (oVar 2) aNil)) (eCall gLen (aCons (oVar 1) aNil))) [.val (wsD ws), .val (.lst (G.map pwD)), .val (.lst ((grp n ws).map pwD)), .no] (h ++ g) = .ok (.bl (decide ((grp n ws).length = G.length))) (h ++ g) := by
    have : (((grp n ws).length : Int) == (G.length : Int)) = decide ((grp n ws).length = G.length) := by
      by_cases q : (grp n ws).length = G.length
      · simp [q]
      · have q2 : ¬ ((grp n ws).length : Int) = (G.length : Int) := by omega
        rw [beq_eq_false_iff_ne.mpr q2, decide_eq_false q]
    simp [this]
  have a2 : (eOp gEq (eFrz (lcL (iVal (oVar 1)) (tgName 3) (tB (eOp gNotIn (oVar 3) (oVar 2))) (eVar 3) [3])) (eFrz (lLst aNil))) [.val (wsD ws), .val (.lst (G.map pwD)), .val (.lst ((grp n ws).map pwD)), .no] (h ++ g) = .ok (.bl (decide (G.filter (fun w => !decide (w ∈ grp n ws)) = []))) (h ++ g) := by
    rw [e_eOp, e_eFrz, key, R.bind_ok, R.bind_ok]
    have q := g_eqNil (h := h ++ g) (G.filter fun w => !decide (w ∈ grp n ws))
    show ((R.ok (D.lst []) (h ++ g)).bind _) = _
    rw [R.bind_ok, q]
    rfl
  have st : startS 4 [wsD ws, .lst (G.map pwD)] = [.val (wsD ws), .val (.lst (G.map pwD)), .no, .no] := rfl
  rw [B_law_same_group, e_defF, st, e_sSeq, s1]
  dsimp only
  rw [e_sRet, e_eAnd, a1, R.bind_ok]
  cases decide ((grp n ws).length = G.length) with
  | false => rfl
  | true =>
    dsimp only
    rw [a2]
    rfl
def atW (n i : Nat) (a : P4) : Pw := ⟨0, ones i ++ a :: ones (n - 1 - i)⟩
abbrev FAt (f : FD) : Prop := ∀ (n i : Nat) (a : P4) (h : Hs), i < n → n ≤ 30 → f [.int n, .int i, .str [P4.code a]] h = .ok (pwD (atW n i a)) h
theorem at_ok : FAt (defF 3 B_law_at) := fun n i a h hi hn => by
  have e1 := g_mulI' (h := h) (n := i) (by omega)
  have e2 := g_mulI' (h := h) (n := n - 1 - i) (by omega)
  have e3 : ((n : Int) - 1 - i) = ((n - 1 - i : Nat) : Int) := by omega
  have l1 : i + 1 ≤ 16777216 := by omega
  have l2 : i + 1 + (n - 1 - i) ≤ 16777216 := by omega
  have e4 : cd (ones i ++ a :: ones (n - 1 - i)) = List.replicate i 73 ++ P4.code a :: List.replicate (n - 1 - i) 73 := by
    have := cd_ones i
    have := cd_ones (n - 1 - i)
    unfold cd at *
    simp [*]
  simp [B_law_at, e1, e2, e3, l1, l2, atW, e4]
end WC
set_option Elab.async false
set_option linter.all false
set_option maxRecDepth 100000
namespace WC
open PySem PySem.Spec PyProof.Rows L2 QC
variable {h : Hs}
abbrev FAre (f : FD) : Prop := ∀ (n : Nat) (ws : List Pw) (h : Hs), n ≤ 30 → ws.length ≤ 1000 → (∀ w ∈ ws, Up n w) → f [wsD ws, .int n, .int ws.length] h = .ok (.bl true) h
theorem notin02 {e : Nat} (he : e = 0 ∨ e = 2) : gNotIn h (.int e) (.tup [.int 0, .int 2]) = some (.bl false) := by
  rcases he with rfl | rfl <;> rfl
theorem are_ok : FAre (defF 5 B_law_are_words) := fun n ws h hn hl hu => by
  have nl : gNe h (.lst []) (.lst []) = some (.bl false) := rfl
  have st : startS 5 [wsD ws, .int n, .int ws.length] = [.val (wsD ws), .val (.int n), .val (.int ws.length), .no, .no] := rfl
  have s1 : (sIf (tOr (tNot (tB (eIsI [.tuple] (oVar 0)))) (tB (eOp gNe (eCall gLen (aCons (oVar 0) aNil)) (oVar 2)))) (sRet (eC (.bl false))) sNil) [.val (wsD ws), .val (.int n), .val (.int ws.length), .no, .no] h = .nx [.val (wsD ws), .val (.int n), .val (.int ws.length), .no, .no] h := by simp
  rw [B_law_are_words, e_defF, st, e_sSeq, s1]
  dsimp only
  rw [e_sSeq, e_sForV_val (d := wsD ws) (xs := ws.map pwD) rfl rfl]
  generalize hr : forGo _ _ _ _ _ = r
  obtain ⟨σ', rfl, x3, rfl, _⟩ := for_pure_of hr pwD ws rfl (fun done σ => ∃ x3, σ = [.val (wsD ws), .val (.int n), .val (.int ws.length), x3, .no] ∧ x3.plain = true) ⟨_, rfl, rfl⟩ fun done x rest σ e i => by
    obtain ⟨x3, rfl, p3⟩ := i
    have u := hu x (by rw [e]; simp)
    have key := lc_filt (m := iVal (eOp atD (oVar 3) (eC (.int 1)))) (t := tgName 4) (tt := (tB (eOp gNotIn (oVar 4) (eC (.str [73, 88, 89, 90]))))) (te := eVar 4) (vs := [4]) (σ := [.val (wsD ws), .val (.int n), .val (.int ws.length), .val (pwD x), .no]) (h := h) x.l (fun a => .str [P4.code a]) (fun a => .str [P4.code a]) (fun _ => false) (by simp [cd_items]) (by rw [u.len]; omega) fun a _ => ⟨_, rfl, by simp [code_mem], fun z => by cases z⟩
    have ef : x.l.filter (fun _ => false) = [] := by simp
    rw [ef, List.map_nil] at key
    have ul := u.len
    have hn2 : n ≤ 16777216 := by omega
    have q2 := notin02 (h := h) u.ev
    refine ⟨[.val (wsD ws), .val (.int n), .val (.int ws.length), .val (pwD x), .no], [.val (wsD ws), .val (.int n), .val (.int ws.length), .val (pwD x), .no], by simp [p3], .inl ?_, _, rfl, rfl⟩
    have a3 : (eOp gNe (eFrz (lcL (iVal (eOp atD (oVar 3) (eC (.int 1)))) (tgName 4) (tB (eOp gNotIn (oVar 4) (eC (.str [73, 88, 89, 90])))) (eVar 4) [4])) (eFrz (lLst aNil))) [.val (wsD ws), .val (.int n), .val (.int ws.length), .val (pwD x), .no] h = .ok (.bl false) h := by
      rw [e_eOp, e_eFrz, key]
      rfl
    rw [e_sSeq]
    have b1 : (sIf (tOr (tNot (tB (eIsI [.tuple] (oVar 3)))) (tOr (tB (eOp gNe (eCall gLen (aCons (oVar 3) aNil)) (eC (.int 2)))) (tOr (tNot (tB (eIsI [.int] (eOp atD (oVar 3) (eC (.int 0)))))) (tB (eIsI [.bool] (eOp atD (oVar 3) (eC (.int 0)))))))) (sRet (eC (.bl false))) sNil) [.val (wsD ws), .val (.int n), .val (.int ws.length), .val (pwD x), .no] h = .nx [.val (wsD ws), .val (.int n), .val (.int ws.length), .val (pwD x), .no] h := by simp
    rw [b1]
    dsimp only
    have b2 : (sIf (tOr (tB (eOp gNotIn (eOp atD (oVar 3) (eC (.int 0))) (eTup (aCons (eC (.int 0)) (aCons (eC (.int 2)) aNil))))) (tOr (tNot (tB (eIsI [.str] (eOp atD (oVar 3) (eC (.int 1)))))) (tB (eOp gNe (eCall gLen (aCons (eOp atD (oVar 3) (eC (.int 1))) aNil)) (oVar 1))))) (sRet (eC (.bl false))) sNil) [.val (wsD ws), .val (.int n), .val (.int ws.length), .val (pwD x), .no] h = .nx [.val (wsD ws), .val (.int n), .val (.int ws.length), .val (pwD x), .no] h := by simp [q2, ul, hn2]
    rw [e_sSeq, b2]
    dsimp only
    rw [e_sIf, e_tB, a3]
    rfl
  rfl
theorem vb_bit : ∀ (bs : List Bool) (i : Nat) (b : Bool), bs[i]? = some b → (vb bs).testBit (bs.length - 1 - i) = b
  | [], i, b, e => by simp at e
  | c :: r, i, b, e => by
    have h1 : vb (c :: r) = 2 ^ r.length * (if c then 1 else 0) + vb r := by
      have := vb_app r [c]
      rw [Nat.mul_comm]
      have h2 : vb [c] = (if c then 1 else 0) := by cases c <;> rfl
      rw [h2] at this
      exact this
    have hv := vb_lt r
    rw [h1, Nat.testBit_two_pow_mul_add _ hv]
    cases i with
    | zero =>
      have : c = b := by simpa using e
      subst this
      simp only [List.length_cons]
      rw [if_neg (by omega)]
      have : r.length + 1 - 1 - 0 - r.length = 0 := by omega
      rw [this]
      cases c <;> rfl
    | succ i =>
      have e2 : r[i]? = some b := by simpa using e
      have hi := (List.getElem?_eq_some_iff.mp e2).1
      simp only [List.length_cons]
      rw [if_pos (by omega)]
      have := vb_bit r i b e2
      have h3 : r.length + 1 - 1 - (i + 1) = r.length - 1 - i := by omega
      rw [h3]; exact this
theorem vb_top {bs : List Bool} (m : true ∈ bs) : (vb bs).log2 = bs.length - 1 - bs.idxOf true := by
  have hi := List.idxOf_lt_length_of_mem m
  refine log2_of (vb_bit bs _ true ?_) ?_
  · rw [List.getElem?_eq_getElem hi, List.getElem_idxOf hi]
  · intro j hj
    by_cases hlt : j < bs.length
    · have h2 := vb_bit bs (bs.length - 1 - j) bs[bs.length - 1 - j] (List.getElem?_eq_getElem _)
      have : bs.length - 1 - (bs.length - 1 - j) = j := by omega
      rw [this] at h2
      rw [h2]
      cases hb : bs[bs.length - 1 - j] with
      | false => rfl
      | true =>
        have := List.not_of_lt_findIdx (p := (· == true)) (xs := bs) (i := bs.length - 1 - j) (by
          show bs.length - 1 - j < bs.idxOf true
          omega)
        simp [hb] at this
    · exact Nat.testBit_lt_two_pow (Nat.lt_of_lt_of_le (vb_lt bs) (Nat.pow_le_pow_right (by decide) (by omega)))
theorem vb_nz {bs : List Bool} (h : vb bs ≠ 0) : true ∈ bs := by
  apply Classical.byContradiction
  intro m
  have : bs = List.replicate bs.length false := by
    apply List.eq_replicate_of_mem
    intro b hb
    cases b with
    | false => rfl
    | true => exact absurd hb m
  have z : ∀ n, vb (List.replicate n false) = 0 := by
    intro n
    induction n with
    | zero => rfl
    | succ n ih =>
      rw [List.replicate_succ']
      rw [vb_snoc, ih]
      rfl
  rw [this] at h
  exact h (z _)
def ix (w : Pw) : Nat := (bl w.l).idxOf true
theorem sum_one : ∀ (R : List Nat) (y : Nat), R.Nodup → y ∈ R → (R.map fun r => bi (decide (r = y))).sum = 1
  | r :: R, y, nd, m => by
    obtain ⟨n1, n2⟩ := List.nodup_cons.mp nd
    rw [List.map_cons, List.sum_cons]
    rcases List.mem_cons.mp m with rfl | m
    · have z : (R.map fun r => bi (decide (r = y))).sum = 0 := by
        have : (R.map fun r => bi (decide (r = y))) = R.map fun _ => 0 := by
          apply List.map_congr_left
          intro r hr
          have : r ≠ y := fun e => n1 (e ▸ hr)
          rw [decide_eq_false this]
          rfl
        rw [this]
        clear this n1 n2 nd m
        induction R with
        | nil => rfl
        | cons a R ih => rw [List.map_cons, List.sum_cons, ih]; rfl
      rw [z, decide_eq_true rfl]
      rfl
    · have : r ≠ y := fun e => n1 (e ▸ m)
      rw [decide_eq_false this, sum_one R y n2 m]
      rfl
theorem top_lt {R : List Nat} (rr : RR R) {x y : Nat} (hx : x ∈ R) (hy : y ∈ R) (hlt : y < x) : y.log2 < x.log2 := by
  have ny := rr.nz y hy
  have nx := rr.nz x hx
  have ne : x ≠ y := by omega
  have u1 := rr.uniq hx hy ne
  have t1 := top_bit nx
  have n1 : x.log2 ≠ y.log2 := fun e => by rw [← e, t1] at u1; cases u1
  have : ¬ x.log2 < y.log2 := fun l => by
    have h1 : x < 2 ^ (x.log2 + 1) := Nat.lt_log2_self
    have h2 : 2 ^ y.log2 ≤ y := Nat.log2_self_le ny
    have h3 : 2 ^ (x.log2 + 1) ≤ 2 ^ y.log2 := Nat.pow_le_pow_right (by decide) l
    omega
  omega
@[simp] theorem asL_ref {k : Nat} {xs : List D} (e : h[k]? = some (.lst xs)) : asL h (.ref k) = some xs := by
  unfold asL
  simp [e]
theorem g_addRef {a b : Nat} {xs ys : List D} (e1 : h[a]? = some (.lst xs)) (e2 : h[b]? = some (.lst ys)) (hl : xs.length + ys.length ≤ 16777216) : gAdd h (.ref a) (.ref b) = some (.lst (xs ++ ys)) := by
  have f1 := asL_ref e1
  have f2 := asL_ref e2
  simp [gAdd, gAddI, gI, gCat, f1, f2, hl]
abbrev ri (w : Pw) : List Int := (bl w.l).map bi
theorem ri_D (w : Pw) : xD w.l ++ zD w.l = (ri w).map .int := by simp [ri, bl]; rfl
theorem depI (xs : List Int) : dats 0 (xs.map .int) = true := dats_map (c := D.int) fun x _ => rfl
theorem g_notinI (k : Int) (xs : List Int) : gNotIn h (.int k) (.lst (xs.map .int)) = some (.bl (!decide (k ∈ xs))) := by
  have hd : dat 1 (.lst (xs.map .int)) = true := by simpa [dat] using depI xs
  unfold gNotIn inD
  rw [dat_asV hd]
  have e1 := dat_ok (x := .int k) (n := 0) rfl (by decide)
  have e2 := dat_ok hd (by decide)
  dsimp only
  rw [e1, e2, Bool.true_and, if_pos rfl]
  have : inS (.int k) (xs.map .int) = decide (k ∈ xs) := by
    unfold inS
    rw [List.any_map]
    apply Bool.eq_iff_iff.mpr
    rw [List.any_eq_true, decide_eq_true_eq]
    constructor
    · rintro ⟨x, m, e⟩
      have : (x == k) = true := by simpa [pyEq] using e
      rw [← (beq_iff_eq.mp this)]; exact m
    · intro m
      exact ⟨k, m, by simp [pyEq]⟩
  rw [this]
  rfl
theorem ri_mem {w : Pw} (m : true ∈ bl w.l) : (1 : Int) ∈ ri w := List.mem_map.mpr ⟨true, m, rfl⟩
theorem idx_bi : ∀ bs : List Bool, (bs.map bi).idxOf 1 = bs.idxOf true
  | [] => rfl
  | b :: bs => by
    rw [List.map_cons, List.idxOf_cons, List.idxOf_cons, idx_bi bs]
    cases b <;> rfl
theorem ri_idx (w : Pw) : (ri w).idxOf 1 = ix w := idx_bi _
theorem bl_len (w : Pw) : (bl w.l).length = 2 * w.l.length := by simp [bl]; omega
theorem if3_no {σ : Sg} {a b c : EM} {m : SM} (ha : a σ h = .ok (.bl false) h) (hb : b σ h = .ok (.bl false) h) (hc : c σ h = .ok (.bl false) h) : sIf (tOr (tB a) (tOr (tB b) (tB c))) m sNil σ h = .nx σ h := by simp [ha, hb, hc]
abbrev FIsR (f : FD) : Prop := ∀ (n : Nat) (L : List Pw) (h : Hs), n ≤ 30 → L.length ≤ 1000 → (∀ w ∈ L, w.l.length = n) → RR (rowsOf L) → (rowsOf L).Pairwise (· > ·) → ∃ g, f [wsD L] h = .ok (.bl true) (h ++ g)
theorem isr_ok {fs : FD} (hs : FSgns fs) : FIsR (defF 6 (B_law_is_reduced fs)) := fun n L h hn hl hw rr pw => by
  have mem : ∀ w ∈ L, true ∈ bl w.l := fun w m => vb_nz (rr.nz (sg w.l) (List.mem_map.mpr ⟨w, m, rfl⟩))
  have nd : (rowsOf L).Nodup := pw.imp fun {a b} h => by omega
  generalize hq : lcL (iVal (oVar 0)) (tgName 4) tYesM (eOp gAdd (eOp atD (eFn 1 fs (aCons (eVar 4) aNil)) (eC (.int 1))) (eOp atD (eFn 1 fs (aCons (eVar 4) aNil)) (eC (.int 2)))) [4] [.val (wsD L), .no, .no, .no, .no, .no] h = q
  obtain ⟨h2, rfl, g2, rfl⟩ := lc_leave (h0 := h) hq (fun h2 => ∃ g, h2 = h ++ g) L pwD (fun w => .lst ((ri w).map .int)) (by simp) (by omega) ⟨[], by simp⟩ fun w hm h2 ⟨g2, e2⟩ => by
    subst e2
    have hwl := hw w hm
    have c1 := hs w (h ++ g2) (by omega)
    have c2 := hs w (h ++ g2 ++ [.lst (xD w.l), .lst (zD w.l)]) (by omega)
    have ad := g_addRef (h := h ++ g2 ++ [Ob.lst (xD w.l), .lst (zD w.l)] ++ [Ob.lst (xD w.l), .lst (zD w.l)]) (a := (h ++ g2).length) (b := (h ++ g2 ++ [Ob.lst (xD w.l), .lst (zD w.l)]).length + 1) (xs := xD w.l) (ys := zD w.l) (by simp) (by
      rw [List.getElem?_append_right (by omega)]
      simp) (by simp; omega)
    rw [ri_D] at ad
    refine ⟨[.val (wsD L), .no, .no, .no, .val (pwD w), .no], _, rfl, ?_, ⟨g2 ++ [Ob.lst (xD w.l), .lst (zD w.l)] ++ [Ob.lst (xD w.l), .lst (zD w.l)], rfl⟩⟩
    have a1 : (eOp atD (eFn 1 fs (aCons (eVar 4) aNil)) (eC (.int 1))) [.val (wsD L), .no, .no, .no, .val (pwD w), .no] (h ++ g2) = .ok (.ref (h ++ g2).length) (h ++ g2 ++ [.lst (xD w.l), .lst (zD w.l)]) := by simp [c1]
    have a2 : (eOp atD (eFn 1 fs (aCons (eVar 4) aNil)) (eC (.int 2))) [.val (wsD L), .no, .no, .no, .val (pwD w), .no] (h ++ g2 ++ [.lst (xD w.l), .lst (zD w.l)]) = .ok (.ref ((h ++ g2 ++ [Ob.lst (xD w.l), .lst (zD w.l)]).length + 1)) (h ++ g2 ++ [.lst (xD w.l), .lst (zD w.l)] ++ [.lst (xD w.l), .lst (zD w.l)]) := by
      rw [e_eOp, e_eFn, e_aCons]
      show ((((R.ok (pwD w) (h ++ g2 ++ [.lst (xD w.l), .lst (zD w.l)])).bind _).bind _).bind _) = _
      rw [R.bind_ok, e_aNil, R.bind_ok, R.bind_ok]
      have c3 : (if [pwD w].length = 1 then fs [pwD w] (h ++ g2 ++ [Ob.lst (xD w.l), Ob.lst (zD w.l)]) else R.bad) = _ := (if_pos rfl).trans c2
      rw [c3, R.bind_ok]
      rfl
    rw [e_eOp, a1, R.bind_ok, a2, R.bind_ok, ad]
    simp
  refine ⟨g2, ?_⟩
  generalize hh : h ++ g2 = h2 at *
  have st : startS 6 [wsD L] = [.val (wsD L), .no, .no, .no, .no, .no] := rfl
  have s1 : sSet 1 (xVal (eFrz (lcL (iVal (oVar 0)) (tgName 4) tYesM (eOp gAdd (eOp atD (eFn 1 fs (aCons (eVar 4) aNil)) (eC (.int 1))) (eOp atD (eFn 1 fs (aCons (eVar 4) aNil)) (eC (.int 2)))) [4]))) [.val (wsD L), .no, .no, .no, .no, .no] h = .nx [.val (wsD L), .val (.lst (L.map fun w => .lst ((ri w).map .int))), .no, .no, .no, .no] h2 := by
    rw [e_sSet, e_xVal, e_eFrz, hq]
    rfl
  have s2 : sSet 2 (xVal (eNeg (eC (.int 1)))) [.val (wsD L), .val (.lst (L.map fun w => .lst ((ri w).map .int))), .no, .no, .no, .no] h2 = .nx [.val (wsD L), .val (.lst (L.map fun w => .lst ((ri w).map .int))), .val (.int (-1)), .no, .no, .no] h2 := by simp
  rw [B_law_is_reduced, e_defF, st, e_sSeq, s1]
  dsimp only
  rw [e_sSeq, s2]
  dsimp only
  rw [e_sSeq, e_sForV_val (d := .lst (L.map fun w => .lst ((ri w).map .int))) (xs := L.map fun w => .lst ((ri w).map .int)) rfl rfl]
  generalize hr : forGo _ _ _ _ _ = r
  obtain ⟨σ', rfl, last, x3, rfl, _⟩ := for_pure_of hr (fun w => .lst ((ri w).map .int)) L rfl (fun done σ => ∃ (last : Int) (x3 : Sl), σ = [.val (wsD L), .val (.lst (L.map fun w => .lst ((ri w).map .int))), .val (.int last), x3, .no, .no] ∧ x3.plain = true ∧ ∀ x rest, L = done ++ x :: rest → last < ix x) ⟨-1, _, rfl, rfl, fun x rest _ => by omega⟩ fun done w rest σ e i => by
    obtain ⟨last, x3, rfl, p3, hlast⟩ := i
    have hwm : w ∈ L := by rw [e]; simp
    have hlt := hlast w rest e
    have e1 := g_notinI (h := h2) 1 (ri w)
    rw [decide_eq_true (ri_mem (mem w hwm))] at e1
    have e2 := g_index (h := h2) (ri_mem (mem w hwm))
    rw [ri_idx] at e2
    have hix : ix w < (bl w.l).length := List.idxOf_lt_length_of_mem (mem w hwm)
    have key := lc_typed (m := iVal (oVar 1)) (t := tgName 5) (vs := [5]) (te := eOp atD (oVar 5) (eMeth .list gIndex (oVar 3) (aCons (eC (.int 1)) aNil))) (σ := [.val (wsD L), .val (.lst (L.map fun w => .lst ((ri w).map .int))), .val (.int last), .val (.lst ((ri w).map .int)), .no, .no]) (h := h2) L (fun w => .lst ((ri w).map .int)) (fun v => .int (bi (decide (sg v.l = sg w.l)))) (by simp) (by omega) fun v hv => ⟨[.val (wsD L), .val (.lst (L.map fun w => .lst ((ri w).map .int))), .val (.int last), .val (.lst ((ri w).map .int)), .no, .val (.lst ((ri v).map .int))], rfl, by
      have hvl : (bl v.l).length = (bl w.l).length := by rw [bl_len, bl_len, hw v hv, hw w hwm]
      have hb := vb_bit (bl v.l) (ix w) (bl v.l)[ix w] (List.getElem?_eq_getElem _)
      have tp := vb_top (mem w hwm)
      have e7 : (bl v.l).length - 1 - ix w = (bl w.l).length - 1 - ix w := by rw [hvl]
      rw [e7] at hb
      have e3 : (ri v)[ix w]? = some (bi (bl v.l)[ix w]) := by simp [ri, hvl, hix]
      have e4 : (bl v.l)[ix w] = decide (sg v.l = sg w.l) := by
        rw [← hb]
        show (sg v.l).testBit ((bl w.l).length - 1 - (bl w.l).idxOf true) = _
        rw [← tp]
        have mv : sg v.l ∈ rowsOf L := List.mem_map.mpr ⟨v, hv, rfl⟩
        have mw : sg w.l ∈ rowsOf L := List.mem_map.mpr ⟨w, hwm, rfl⟩
        by_cases q : sg v.l = sg w.l
        · rw [decide_eq_true q, q]
          exact top_bit (rr.nz _ mw)
        · rw [decide_eq_false q]
          exact rr.uniq mv mw q
      rw [e4] at e3
      have tm : tyM .list h2 (.lst ((ri w).map .int)) = true := rfl
      have e5 : atD h2 (.lst ((ri v).map .int)) (.int (ix w)) = some (.int (bi (decide (sg v.l = sg w.l)))) := by
        rw [g_atL, a_nat, List.getElem?_map, e3]; rfl
      rw [e_eOp]
      show ((R.ok (D.lst ((ri v).map .int)) h2).bind _) = _
      rw [R.bind_ok, e_eMeth]
      show (((R.ok (D.lst ((ri w).map .int)) h2).bind _).bind _) = _
      rw [R.bind_ok, if_pos tm, e_aCons, e_eC, R.bind_ok, e_aNil, R.bind_ok, R.bind_ok, e2, e_optR_some, R.bind_ok, e5]
      rfl⟩
    have sm := sum_one (rowsOf L) (sg w.l) nd (List.mem_map.mpr ⟨w, hwm, rfl⟩)
    rw [List.map_map] at sm
    have gs := g_sum (h := h2) L fun v => bi (decide (sg v.l = sg w.l))
    have sm : (L.map fun v => bi (decide (sg v.l = sg w.l))).sum = 1 := sm
    rw [sm] at gs
    have a3 : (eOp gNe (eCall gSum (aCons (eFrz (lcL (iVal (oVar 1)) (tgName 5) tYesM (eOp atD (oVar 5) (eMeth .list gIndex (oVar 3) (aCons (eC (.int 1)) aNil))) [5])) aNil)) (eC (.int 1))) [.val (wsD L), .val (.lst (L.map fun w => .lst ((ri w).map .int))), .val (.int last), .val (.lst ((ri w).map .int)), .no, .no] h2 = .ok (.bl false) h2 := by
      rw [e_eOp, e_eCall, e_aCons, e_eFrz, key, R.bind_ok, R.bind_ok, e_aNil, R.bind_ok, R.bind_ok, gs]
      rfl
    have a2 : (eMeth .list gIndex (oVar 3) (aCons (eC (.int 1)) aNil)) [.val (wsD L), .val (.lst (L.map fun w => .lst ((ri w).map .int))), .val (.int last), .val (.lst ((ri w).map .int)), .no, .no] h2 = .ok (.int (ix w)) h2 := by
      have tm : tyM .list h2 (.lst ((ri w).map .int)) = true := rfl
      rw [e_eMeth]
      show ((R.ok (D.lst ((ri w).map .int)) h2).bind _) = _
      rw [R.bind_ok, if_pos tm, e_aCons, e_eC, R.bind_ok, e_aNil, R.bind_ok, R.bind_ok, e2]
      rfl
    have a1 : (eOp gNotIn (eC (.int 1)) (oVar 3)) [.val (wsD L), .val (.lst (L.map fun w => .lst ((ri w).map .int))), .val (.int last), .val (.lst ((ri w).map .int)), .no, .no] h2 = .ok (.bl false) h2 := by
      rw [e_eOp, e_eC, R.bind_ok]
      show ((R.ok (D.lst ((ri w).map .int)) h2).bind _) = _
      rw [R.bind_ok, e1]
      rfl
    have hlt2 : ¬ ((ix w : Int) ≤ last) := by omega
    refine ⟨[.val (wsD L), .val (.lst (L.map fun w => .lst ((ri w).map .int))), .val (.int last), .val (.lst ((ri w).map .int)), .no, .no], [.val (wsD L), .val (.lst (L.map fun w => .lst ((ri w).map .int))), .val (.int (ix w)), .val (.lst ((ri w).map .int)), .no, .no], by simp [p3], .inl ?_, _, _, rfl, rfl, fun x rest' e' => ?_⟩
    · have a4 : (eOp gLeI (eMeth .list gIndex (oVar 3) (aCons (eC (.int 1)) aNil)) (oVar 2)) [.val (wsD L), .val (.lst (L.map fun w => .lst ((ri w).map .int))), .val (.int last), .val (.lst ((ri w).map .int)), .no, .no] h2 = .ok (.bl false) h2 := by
        rw [e_eOp, a2, R.bind_ok]
        show ((R.ok (D.int last) h2).bind _) = _
        rw [R.bind_ok, g_leI, decide_eq_false hlt2]
        rfl
      rw [e_sSeq, if3_no a1 a4 a3]
      dsimp only
      rw [e_sSet, e_xVal, a2]
      rfl
    · have e2 : L = done ++ w :: x :: rest' := by rw [e']; simp
      have hlt := (List.pairwise_map.mp pw)
      rw [e2, List.pairwise_append] at hlt
      have h3 := (List.pairwise_cons.mp hlt.2.1).1 x (List.mem_cons_self ..)
      have hx : x ∈ L := by rw [e2]; simp
      have t := top_lt rr (x := sg w.l) (y := sg x.l) (List.mem_map.mpr ⟨w, hwm, rfl⟩) (List.mem_map.mpr ⟨x, hx, rfl⟩) h3
      have t1 := vb_top (mem w hwm)
      have t2 := vb_top (mem x hx)
      have l1 : (bl w.l).length = (bl x.l).length := by rw [bl_len, bl_len, hw w hwm, hw x hx]
      have hixx : ix x < (bl x.l).length := List.idxOf_lt_length_of_mem (mem x hx)
      unfold sg at t
      unfold ix at *
      omega
  rfl
end WC
set_option Elab.async false
set_option linter.all false
set_option maxRecDepth 100000
namespace WC
open PySem PySem.Spec PyProof.Rows L2 QC
variable {h : Hs}
inductive Gt where
  | one (nm : List Nat) (i : Nat)
  | two (nm : List Nat) (i j : Nat)
  | w
abbrev Gt.D : Gt → WC.D
  | .one nm i => .tup [.str nm, .int i]
  | .two nm i j => .tup [.str nm, .int i, .int j]
  | .w => .tup [.str [119]]
inductive Gt.Ok (n : Nat) : Gt → Prop where
  | one {nm : List Nat} {i : Nat} (m : nm ∈ ([[104], [115], [115, 100], [120], [121], [122]] : List (List Nat))) (hi : i < n) : Gt.Ok n (.one nm i)
  | two {nm : List Nat} {i j : Nat} (m : nm ∈ ([[99, 120], [99, 122], [115, 119, 97, 112]] : List (List Nat))) (hi : i < n) (hj : j < n) (ne : i ≠ j) : Gt.Ok n (.two nm i j)
  | w : Gt.Ok n .w
def g1L (nm : List Nat) (a : P4) : P4 :=
  if nm = [104] then P4.of a.zb a.xb else if nm = [115] ∨ nm = [115, 100] then P4.of a.xb (a.xb ^^ a.zb) else a
def g1E (nm : List Nat) (a : P4) : Int :=
  if nm = [104] then 2 * bi a.xb * bi a.zb else if nm = [115] then bi a.xb else if nm = [115, 100] then bi a.xb * 3 else if nm = [120] then 2 * bi a.zb else if nm = [121] then 2 * bi a.zb + 2 * bi a.xb else 2 * bi a.xb
def g2L (nm : List Nat) (a b : P4) : P4 × P4 :=
  if nm = [99, 120] then (P4.of a.xb (a.zb ^^ b.zb), P4.of (b.xb ^^ a.xb) b.zb) else if nm = [99, 122] then (P4.of a.xb (a.zb ^^ b.xb), P4.of b.xb (b.zb ^^ a.xb)) else (b, a)
def g2E (nm : List Nat) (a b : P4) : Int := if nm = [99, 122] then 2 * bi a.xb * bi b.xb else 0
def turnL : Gt → Ls → Ls
  | .one nm i, l => l.set i (g1L nm (l.getD i .I))
  | .two nm i j, l => (l.set i (g2L nm (l.getD i .I) (l.getD j .I)).1).set j (g2L nm (l.getD i .I) (l.getD j .I)).2
  | .w, l => l
def turnE : Gt → Ls → Int
  | .one nm i, l => g1E nm (l.getD i .I)
  | .two nm i j, l => g2E nm (l.getD i .I) (l.getD j .I)
  | .w, _ => 0
def runL (gs : List Gt) (l : Ls) : Ls := gs.foldl (fun l g => turnL g l) l
def runE : List Gt → Ls → Int
  | [], _ => 0
  | g :: gs, l => turnE g l + runE gs (turnL g l)
theorem runE_snoc : ∀ (gs : List Gt) (g : Gt) (l : Ls), runE (gs ++ [g]) l = runE gs l + turnE g (runL gs l)
  | [], g, l => by simp [runE, runL]
  | k :: gs, g, l => by
    have := runE_snoc gs g (turnL k l)
    show turnE k l + runE (gs ++ [g]) (turnL k l) = _
    rw [this]
    show _ = turnE k l + runE gs (turnL k l) + turnE g (runL gs (turnL k l))
    omega
theorem runL_snoc (gs : List Gt) (g : Gt) (l : Ls) : runL (gs ++ [g]) l = turnL g (runL gs l) := by unfold runL; rw [List.foldl_append]; rfl
theorem turnL_len (g : Gt) (l : Ls) : (turnL g l).length = l.length := by cases g <;> simp [turnL]
theorem runL_len (gs : List Gt) (l : Ls) : (runL gs l).length = l.length := by
  induction gs generalizing l with
  | nil => rfl
  | cons g gs ih =>
    show (runL gs (turnL g l)).length = _
    rw [ih, turnL_len]
def hp (h : Hs) (X Z : List D) : Hs := h ++ [.lst X, .lst Z]
section
variable {X Z X' Z' : List D}
@[simp] theorem hp_0 : (hp h X Z)[h.length]? = some (.lst X) := by simp [hp]
@[simp] theorem hp_1 : (hp h X Z)[h.length + 1]? = some (.lst Z) := by simp [hp]
@[simp] theorem hp_s0 : (hp h X Z).set h.length (.lst X') = hp h X' Z := by simp [hp]
@[simp] theorem hp_s1 : (hp h X Z).set (h.length + 1) (.lst Z') = hp h X Z' := by simp [hp, List.set_append]
end
@[simp] theorem at_m2 (a b : D) : atI [a, b] (-1) = some b := rfl
@[simp] theorem at_m3 (a b c : D) : atI [a, b, c] (-1) = some c := rfl
theorem xD_set (l : Ls) (i : Nat) (a : P4) : xD (l.set i a) = (xD l).set i (.int (bi a.xb)) := by simp [xD, List.map_set]
theorem zD_set (l : Ls) (i : Nat) (a : P4) : zD (l.set i a) = (zD l).set i (.int (bi a.zb)) := by simp [zD, List.map_set]
theorem xD_same {l : Ls} {i : Nat} {a : P4} (e : l[i]? = some a) : (xD l).set i (.int (bi a.xb)) = xD l := by
  obtain ⟨hi, rfl⟩ := List.getElem?_eq_some_iff.mp e
  rw [← xD_set, List.set_getElem_self]
theorem zD_same {l : Ls} {i : Nat} {a : P4} (e : l[i]? = some a) : (zD l).set i (.int (bi a.zb)) = zD l := by
  obtain ⟨hi, rfl⟩ := List.getElem?_eq_some_iff.mp e
  rw [← zD_set, List.set_getElem_self]
def ledB : SM := (sSeq (sPar3 6 7 8 (xsCons (xVal (eOp atD (oVar 5) (eC (.int 0)))) (xsCons (xVal (eC (.int 0))) (xsCons (xVal (eC (.int 0))) xsNil))))
  (sSeq (sIf (tB (eOp gGt (eCall gLen (aCons (oVar 5) aNil)) (eC (.int 1))))
  (sPar2 7 8 (xsCons (xVal (eOp atD (oVar 5) (eC (.int 1)))) (xsCons (xVal (eOp atD (oVar 5) (eNeg (eC (.int 1))))) xsNil)))
  sNil)
  (sSeq (sPar2 9 10 (xsCons (xVal (eOp atD (oVar 3) (oVar 7))) (xsCons (xVal (eOp atD (oVar 4) (oVar 7))) xsNil)))
  (sSeq (sIf (tB (eOp gEq (oVar 6) (eC (.str [104]))))
  (sSeq (sAug 2 gIAdd (eOp gMul (eOp gMul (eC (.int 2)) (oVar 9)) (oVar 10)))
  (sSeq (sStore 3 (eVar 10) (eVar 7))
  (sStore 4 (eVar 9) (eVar 7))))
  sNil)
  (sSeq (sIf (tOr (tB (eOp gEq (oVar 6) (eC (.str [115])))) (tB (eOp gEq (oVar 6) (eC (.str [115, 100])))))
  (sSeq (sAug 2 gIAdd (eOp gMul (oVar 9) (eIf (tB (eOp gEq (oVar 6) (eC (.str [115])))) (eC (.int 1)) (eC (.int 3)))))
  (sStore 4 (eOp gMod (eCall gIntA (aCons (eOp gAdd (oVar 9) (oVar 10)) aNil)) (eC (.int 2))) (eVar 7)))
  sNil)
  (sSeq (sIf (tOr (tB (eOp gEq (oVar 6) (eC (.str [120])))) (tB (eOp gEq (oVar 6) (eC (.str [121])))))
  (sAug 2 gIAdd (eOp gMul (eC (.int 2)) (oVar 10)))
  sNil)
  (sSeq (sIf (tOr (tB (eOp gEq (oVar 6) (eC (.str [122])))) (tB (eOp gEq (oVar 6) (eC (.str [121])))))
  (sAug 2 gIAdd (eOp gMul (eC (.int 2)) (oVar 9)))
  sNil)
  (sSeq (sIf (tB (eOp gEq (oVar 6) (eC (.str [99, 120]))))
  (sSeq (sStore 3 (eOp gMod (eCall gIntA (aCons (eOp gAdd (eOp atD (oVar 3) (oVar 8)) (oVar 9)) aNil)) (eC (.int 2))) (eVar 8))
  (sStore 4 (eOp gMod (eCall gIntA (aCons (eOp gAdd (oVar 10) (eOp atD (oVar 4) (oVar 8))) aNil)) (eC (.int 2))) (eVar 7)))
  sNil)
  (sSeq (sIf (tB (eOp gEq (oVar 6) (eC (.str [99, 122]))))
  (sSeq (sAug 2 gIAdd (eOp gMul (eOp gMul (eC (.int 2)) (oVar 9)) (eOp atD (oVar 3) (oVar 8))))
  (sSeq (sStore 4 (eOp gMod (eCall gIntA (aCons (eOp gAdd (oVar 10) (eOp atD (oVar 3) (oVar 8))) aNil)) (eC (.int 2))) (eVar 7))
  (sStore 4 (eOp gMod (eCall gIntA (aCons (eOp gAdd (eOp atD (oVar 4) (oVar 8)) (oVar 9)) aNil)) (eC (.int 2))) (eVar 8))))
  sNil)
  (sIf (tB (eOp gEq (oVar 6) (eC (.str [115, 119, 97, 112]))))
  (sSeq (sStore 3 (eOp atD (oVar 3) (oVar 8)) (eVar 7))
  (sSeq (sStore 4 (eOp atD (oVar 4) (oVar 8)) (eVar 7))
  (sSeq (sStore 3 (eVar 9) (eVar 8))
  (sStore 4 (eVar 10) (eVar 8)))))
  sNil))))))))))
section
variable {x0 x1 x6 x7 x8 x9 x10 : Sl} {E : Int} {l : Ls}
@[simp high] theorem gm_b (k : Int) (b : Bool) : gMul h (.int k) (.int (bi b)) = some (.int (k * bi b)) := g_mulOk (cMul_r (by cases b <;> decide))
@[simp high] theorem gm_c (b : Bool) : gMul h (.int (bi b)) (.int 1) = some (.int (bi b)) := by rw [g_mulOk (cMul_r (by decide))]; simp
@[simp high] theorem gm_d (b : Bool) : gMul h (.int (bi b)) (.int 3) = some (.int (bi b * 3)) := g_mulOk (cMul_r (by decide))
theorem gmod_b (x y : Bool) : gMod h (.int (bi x + bi y)) (.int 2) = some (.int (bi (x ^^ y))) := by rw [g_mod (by decide), bi_xor]
abbrev sgm (h : Hs) (x0 x1 : Sl) (E : Int) (x5 x6 x7 x8 x9 x10 : Sl) : Sg := [x0, x1, .val (.int E), .val (.ref h.length), .val (.ref (h.length + 1)), x5, x6, x7, x8, x9, x10]
theorem led1 {nm : List Nat} (m : nm ∈ ([[104], [115], [115, 100], [120], [121], [122]] : List (List Nat))) {i : Nat} {a : P4} (e : l[i]? = some a) (p6 : x6.plain = true) (p7 : x7.plain = true) (p8 : x8.plain = true) (p9 : x9.plain = true) (p10 : x10.plain = true) :
    ledB (sgm h x0 x1 E (.val (Gt.one nm i).D) x6 x7 x8 x9 x10) (hp h (xD l) (zD l)) = .nx (sgm h x0 x1 (E + g1E nm a) (.val (Gt.one nm i).D) (.val (.str nm)) (.val (.int i)) (.val (.int i)) (.val (.int (bi a.xb))) (.val (.int (bi a.zb)))) (hp h (xD (l.set i (g1L nm a))) (zD (l.set i (g1L nm a)))) := by
  obtain ⟨hi, ea⟩ := List.getElem?_eq_some_iff.mp e
  have ex : (xD l)[i]? = some (.int (bi a.xb)) := by rw [List.getElem?_map, e]; rfl
  have ez : (zD l)[i]? = some (.int (bi a.zb)) := by rw [List.getElem?_map, e]; rfl
  have sx := xD_same e
  have sz := zD_same e
  have o1 : (P4.of a.zb a.xb).xb = a.zb := P4.xb_of ..
  have o2 : (P4.of a.zb a.xb).zb = a.xb := P4.zb_of ..
  have o3 : (P4.of a.xb (a.xb ^^ a.zb)).xb = a.xb := P4.xb_of ..
  have o4 : (P4.of a.xb (a.xb ^^ a.zb)).zb = (a.xb ^^ a.zb) := P4.zb_of ..
  rw [xD_set, zD_set]
  generalize xD l = X at *
  generalize zD l = Z at *
  obtain ⟨hx, ex'⟩ := List.getElem?_eq_some_iff.mp ex
  obtain ⟨hz, ez'⟩ := List.getElem?_eq_some_iff.mp ez
  simp only [List.mem_cons, List.not_mem_nil, or_false] at m
  rcases m with rfl | rfl | rfl | rfl | rfl | rfl
  · simp [ledB, p6, p7, p8, p9, p10, hx, hz, ex', ez', g1L, g1E, o1, o2]
  · have c3 : cMul (bi a.xb) 1 = true := cMul_r (by decide)
    simp [ledB, p6, p7, p8, p9, p10, hx, hz, ex', ez', g1L, g1E, o3, o4, sx, c3, gmod_b]
  · have c3 : cMul (bi a.xb) 3 = true := cMul_r (by decide)
    simp [ledB, p6, p7, p8, p9, p10, hx, hz, ex', ez', g1L, g1E, o3, o4, sx, c3, gmod_b]
  · simp [ledB, p6, p7, p8, p9, p10, hx, hz, ex', ez', g1L, g1E, sx, sz]
  · simp [ledB, p6, p7, p8, p9, p10, hx, hz, ex', ez', g1L, g1E, sx, sz, Int.add_assoc]
  · simp [ledB, p6, p7, p8, p9, p10, hx, hz, ex', ez', g1L, g1E, sx, sz]
theorem led2 {nm : List Nat} (m : nm ∈ ([[99, 120], [99, 122], [115, 119, 97, 112]] : List (List Nat))) {i j : Nat} {a b : P4} (e : l[i]? = some a) (e2 : l[j]? = some b) (ne : i ≠ j) (p6 : x6.plain = true) (p7 : x7.plain = true) (p8 : x8.plain = true) (p9 : x9.plain = true) (p10 : x10.plain = true) :
    ledB (sgm h x0 x1 E (.val (Gt.two nm i j).D) x6 x7 x8 x9 x10) (hp h (xD l) (zD l)) = .nx (sgm h x0 x1 (E + g2E nm a b) (.val (Gt.two nm i j).D) (.val (.str nm)) (.val (.int i)) (.val (.int j)) (.val (.int (bi a.xb))) (.val (.int (bi a.zb)))) (hp h (xD ((l.set i (g2L nm a b).1).set j (g2L nm a b).2)) (zD ((l.set i (g2L nm a b).1).set j (g2L nm a b).2))) := by
  have ex : (xD l)[i]? = some (.int (bi a.xb)) := by rw [List.getElem?_map, e]; rfl
  have ez : (zD l)[i]? = some (.int (bi a.zb)) := by rw [List.getElem?_map, e]; rfl
  have fx : (xD l)[j]? = some (.int (bi b.xb)) := by rw [List.getElem?_map, e2]; rfl
  have fz : (zD l)[j]? = some (.int (bi b.zb)) := by rw [List.getElem?_map, e2]; rfl
  have sx := xD_same e
  have sz := zD_same e
  have tx := xD_same e2
  have tz := zD_same e2
  rw [xD_set, zD_set, xD_set, zD_set]
  generalize xD l = X at *
  generalize zD l = Z at *
  obtain ⟨hx, ex'⟩ := List.getElem?_eq_some_iff.mp ex
  obtain ⟨hz, ez'⟩ := List.getElem?_eq_some_iff.mp ez
  obtain ⟨gx, fx'⟩ := List.getElem?_eq_some_iff.mp fx
  obtain ⟨gz, fz'⟩ := List.getElem?_eq_some_iff.mp fz
  simp only [List.mem_cons, List.not_mem_nil, or_false] at m
  have ne2 : ¬ j = i := fun z => ne z.symm
  rcases m with rfl | rfl | rfl
  · have c1 : ∀ u : D, (Z.set i u).set j (.int (bi b.zb)) = Z.set i u := fun u => by rw [List.set_comm _ _ ne, tz]
    simp [ledB, p6, p7, p8, p9, p10, hx, hz, ex', ez', gx, gz, fx', fz', g2L, g2E, sx, gmod_b, ne, ne2, P4.xb_of, P4.zb_of, c1]
  · simp [ledB, p6, p7, p8, p9, p10, hx, hz, ex', ez', gx, gz, fx', fz', g2L, g2E, sx, tx, gmod_b, ne, ne2, P4.xb_of, P4.zb_of]
  · simp [ledB, p6, p7, p8, p9, p10, hx, hz, ex', ez', gx, gz, fx', fz', g2L, g2E, sx, gmod_b, ne, ne2]
theorem ledw (e : l ≠ []) (p6 : x6.plain = true) (p7 : x7.plain = true) (p8 : x8.plain = true) (p9 : x9.plain = true) (p10 : x10.plain = true) :
    ∃ y9 y10, ledB (sgm h x0 x1 E (.val Gt.w.D) x6 x7 x8 x9 x10) (hp h (xD l) (zD l)) = .nx (sgm h x0 x1 E (.val Gt.w.D) (.val (.str [119])) (.val (.int 0)) (.val (.int 0)) y9 y10) (hp h (xD l) (zD l)) ∧ y9.plain = true ∧ y10.plain = true := by
  obtain ⟨a, r, rfl⟩ := List.exists_cons_of_ne_nil e
  refine ⟨.val (.int (bi a.xb)), .val (.int (bi a.zb)), ?_, rfl, rfl⟩
  have ex : (xD (a :: r))[0]? = some (.int (bi a.xb)) := rfl
  have ez : (zD (a :: r))[0]? = some (.int (bi a.zb)) := rfl
  generalize xD (a :: r) = X at *
  generalize zD (a :: r) = Z at *
  obtain ⟨hx, ex'⟩ := List.getElem?_eq_some_iff.mp ex
  obtain ⟨hz, ez'⟩ := List.getElem?_eq_some_iff.mp ez
  simp [ledB, p6, p7, p8, p9, p10, hx, hz, ex', ez']
end
abbrev FLed (f : FD) : Prop := ∀ (n : Nat) (gs : List Gt) (w : Pw) (h : Hs), 1 ≤ n → n ≤ 30 → (∀ g ∈ gs, Gt.Ok n g) → w.l.length = n → ∃ g, f [.tup (gs.map Gt.D), pwD w] h = .ok (.tup [.int ((w.e + yc w.l + runE gs w.l - yc (runL gs w.l)) % 4), .str (cd (runL gs w.l))]) (h ++ g)
theorem led_ok {fs fw : FD} (hs : FSgns fs) (hw : FWord fw) : FLed (defF 11 (B_law_led fs fw)) := fun n gs w h h1 hn hg hl => by
  refine ⟨[.lst (xD (runL gs w.l)), .lst (zD (runL gs w.l))], ?_⟩
  have st : startS 11 [.tup (gs.map Gt.D), pwD w] = [.val (.tup (gs.map Gt.D)), .val (pwD w), .no, .no, .no, .no, .no, .no, .no, .no, .no] := rfl
  have c1 := hs w h (by omega)
  have s1 : sAsg (tgTup [(tgName 2), (tgName 3), (tgName 4)]) (eFn 1 fs (aCons (eVar 1) aNil)) [.val (.tup (gs.map Gt.D)), .val (pwD w), .no, .no, .no, .no, .no, .no, .no, .no, .no] h = .nx (sgm h (.val (.tup (gs.map Gt.D))) (.val (pwD w)) (w.e + yc w.l) .no .no .no .no .no .no) (hp h (xD w.l) (zD w.l)) := by
    simp [c1, hp]
  rw [B_law_led, e_defF, st, e_sSeq, s1]
  dsimp only
  rw [e_sSeq, e_sForV_val (d := .tup (gs.map Gt.D)) (xs := gs.map Gt.D) rfl rfl]
  generalize hr : forGo _ _ _ _ _ = r
  obtain ⟨σ', h', rfl, x5, x6, x7, x8, x9, x10, rfl, rfl, _⟩ := for_any hr Gt.D gs rfl (fun done σ h' => ∃ x5 x6 x7 x8 x9 x10, σ = sgm h (.val (.tup (gs.map Gt.D))) (.val (pwD w)) (w.e + yc w.l + runE done w.l) x5 x6 x7 x8 x9 x10 ∧ h' = hp h (xD (runL done w.l)) (zD (runL done w.l)) ∧ x5.plain = true ∧ x6.plain = true ∧ x7.plain = true ∧ x8.plain = true ∧ x9.plain = true ∧ x10.plain = true) ⟨.no, .no, .no, .no, .no, .no, by simp [runE, runL], rfl, rfl, rfl, rfl, rfl, rfl, rfl⟩ fun done x rest σ h' e i => by
    obtain ⟨x5, x6, x7, x8, x9, x10, rfl, rfl, p5, p6, p7, p8, p9, p10⟩ := i
    have hx := hg x (by rw [e]; simp)
    have hrl : (runL done w.l).length = n := by rw [runL_len, hl]
    rw [runE_snoc, runL_snoc]
    generalize runL done w.l = l at *
    have ad : ∀ k, w.e + yc w.l + (runE done w.l + k) = w.e + yc w.l + runE done w.l + k := fun k => by omega
    rw [ad]
    generalize w.e + yc w.l + runE done w.l = E at *
    refine ⟨sgm h (.val (.tup (gs.map Gt.D))) (.val (pwD w)) E (.val x.D) x6 x7 x8 x9 x10, ?_⟩
    cases hx with
    | @one nm i m hi =>
      have ei : l[i]? = some (l.getD i .I) := by rw [getD_of (by omega)]; exact List.getElem?_eq_getElem (by omega)
      exact ⟨_, _, by simp [p5], .inl (led1 m ei p6 p7 p8 p9 p10), _, _, _, _, _, _, rfl, rfl, rfl, rfl, rfl, rfl, rfl, rfl⟩
    | @two nm i j m hi hj ne =>
      have ei : l[i]? = some (l.getD i .I) := by rw [getD_of (by omega)]; exact List.getElem?_eq_getElem (by omega)
      have ej : l[j]? = some (l.getD j .I) := by rw [getD_of (by omega)]; exact List.getElem?_eq_getElem (by omega)
      exact ⟨_, _, by simp [p5], .inl (led2 m ei ej ne p6 p7 p8 p9 p10), _, _, _, _, _, _, rfl, rfl, rfl, rfl, rfl, rfl, rfl, rfl⟩
    | w =>
      obtain ⟨y9, y10, q, q9, q10⟩ := ledw (h := h) (x0 := .val (.tup (gs.map Gt.D))) (x1 := .val (pwD w)) (E := E) (l := l) (by intro z; rw [z] at hrl; simp at hrl; omega) p6 p7 p8 p9 p10
      rw [show E + turnE Gt.w l = E from Int.add_zero E]
      exact ⟨_, _, by simp [p5], .inl q, _, _, _, _, _, _, rfl, rfl, rfl, rfl, rfl, rfl, q9, q10⟩
  have hrl : (runL gs w.l).length = n := by rw [runL_len, hl]
  have e := hw (w.e + yc w.l + runE gs w.l) (runL gs w.l) (.ref h.length) (.ref (h.length + 1)) (hp h (xD (runL gs w.l)) (zD (runL gs w.l))) (by omega) (by
    have : asS (hp h (xD (runL gs w.l)) (zD (runL gs w.l))) (.ref h.length) = some (xD (runL gs w.l)) := by
      simp [asS, asT, asL]
    simp [gLen, this]) fun i a ha => by
      simp [ha]
  simp [e]
  rfl
end WC
set_option Elab.async false
set_option linter.all false
set_option maxRecDepth 100000
namespace WC
open PySem PySem.Spec PyProof.Rows L2 QC
theorem all4 {p : P4 → Bool} (h : (P4.all.all p) = true) (a : P4) : p a = true := List.all_eq_true.mp h a (P4.mem_all a)
def g1s : List (List Nat) := [[104], [115], [115, 100], [120], [121], [122]]
def g2s : List (List Nat) := [[99, 120], [99, 122], [115, 119, 97, 112]]
theorem loc1 : (g1s.all fun nm => P4.all.all fun a => P4.all.all fun b => (P4.anti (g1L nm a) (g1L nm b) == P4.anti a b) && (g1L nm (P4.mul a b) == P4.mul (g1L nm a) (g1L nm b)) && ((g1E nm a + (if a = .Y then 1 else 0) - (if g1L nm a = .Y then 1 else 0)) % 2 == 0)) = true := by decide +kernel
theorem loc2 : (g2s.all fun nm => P4.all.all fun a => P4.all.all fun b => P4.all.all fun c => P4.all.all fun d => ((P4.anti (g2L nm a b).1 (g2L nm c d).1 ^^ P4.anti (g2L nm a b).2 (g2L nm c d).2) == (P4.anti a c ^^ P4.anti b d)) && (g2L nm (P4.mul a c) (P4.mul b d) == (P4.mul (g2L nm a b).1 (g2L nm c d).1, P4.mul (g2L nm a b).2 (g2L nm c d).2)) && ((g2E nm a b + (if a = .Y then 1 else 0) + (if b = .Y then 1 else 0) - (if (g2L nm a b).1 = .Y then 1 else 0) - (if (g2L nm a b).2 = .Y then 1 else 0)) % 2 == 0)) = true := by decide +kernel
theorem l1_ok {nm : List Nat} (m : nm ∈ g1s) (a b : P4) : P4.anti (g1L nm a) (g1L nm b) = P4.anti a b ∧ g1L nm (P4.mul a b) = P4.mul (g1L nm a) (g1L nm b) ∧ (g1E nm a + (if a = .Y then 1 else 0) - (if g1L nm a = .Y then 1 else 0)) % 2 = 0 := by
  have h := all4 (all4 (List.all_eq_true.mp loc1 nm m) a) b
  simp only [Bool.and_eq_true, beq_iff_eq] at h
  exact ⟨h.1.1, h.1.2, h.2⟩
theorem l2_ok {nm : List Nat} (m : nm ∈ g2s) (a b c d : P4) : (P4.anti (g2L nm a b).1 (g2L nm c d).1 ^^ P4.anti (g2L nm a b).2 (g2L nm c d).2) = (P4.anti a c ^^ P4.anti b d) ∧ g2L nm (P4.mul a c) (P4.mul b d) = (P4.mul (g2L nm a b).1 (g2L nm c d).1, P4.mul (g2L nm a b).2 (g2L nm c d).2) ∧ (g2E nm a b + (if a = .Y then 1 else 0) + (if b = .Y then 1 else 0) - (if (g2L nm a b).1 = .Y then 1 else 0) - (if (g2L nm a b).2 = .Y then 1 else 0)) % 2 = 0 := by
  have h := all4 (all4 (all4 (all4 (List.all_eq_true.mp loc2 nm m) a) b) c) d
  simp only [Bool.and_eq_true, beq_iff_eq] at h
  exact ⟨h.1.1, h.1.2, h.2⟩
theorem lanti_set : ∀ (a b : Ls) (i : Nat) (x y : P4), a.length = b.length → i < a.length → lanti (a.set i x) (b.set i y) = (lanti a b ^^ (P4.anti (a.getD i .I) (b.getD i .I) ^^ P4.anti x y))
  | u :: a, v :: b, 0, x, y, _, _ => by
    show (P4.anti x y ^^ lanti a b) = ((P4.anti u v ^^ lanti a b) ^^ (P4.anti u v ^^ P4.anti x y))
    cases P4.anti x y <;> cases P4.anti u v <;> cases lanti a b <;> rfl
  | u :: a, v :: b, i + 1, x, y, hl, hi => by
    have := lanti_set a b i x y (by simpa using hl) (by simpa using hi)
    show (P4.anti u v ^^ lanti (a.set i x) (b.set i y)) = ((P4.anti u v ^^ lanti a b) ^^ (P4.anti (a.getD i .I) (b.getD i .I) ^^ P4.anti x y))
    rw [this]
    generalize P4.anti (a.getD i .I) (b.getD i .I) = p
    generalize P4.anti x y = q
    cases P4.anti u v <;> cases lanti a b <;> cases p <;> cases q <;> rfl
theorem lmul_set : ∀ (a b : Ls) (i : Nat) (x y : P4), a.length = b.length → lmul (a.set i x) (b.set i y) = (lmul a b).set i (P4.mul x y)
  | [], [], _, _, _, _ => rfl
  | u :: a, v :: b, 0, x, y, _ => rfl
  | u :: a, v :: b, i + 1, x, y, hl => by
    have := lmul_set a b i x y (by simpa using hl)
    show P4.mul u v :: lmul (a.set i x) (b.set i y) = P4.mul u v :: (lmul a b).set i (P4.mul x y)
    rw [this]
theorem lmul_get : ∀ (a b : Ls) (i : Nat), a.length = b.length → i < a.length → (lmul a b).getD i .I = P4.mul (a.getD i .I) (b.getD i .I)
  | u :: a, v :: b, 0, _, _ => rfl
  | u :: a, v :: b, i + 1, hl, hi => lmul_get a b i (by simpa using hl) (by simpa using hi)
theorem yc_set : ∀ (l : Ls) (i : Nat) (x : P4), i < l.length → (yc (l.set i x) : Int) + (if l.getD i .I = .Y then 1 else 0) = yc l + (if x = .Y then 1 else 0)
  | u :: l, 0, x, _ => by
    show (yc (x :: l) : Int) + (if u = .Y then 1 else 0) = yc (u :: l) + (if x = .Y then 1 else 0)
    rw [yc_cons, yc_cons]
    split <;> split <;> omega
  | u :: l, i + 1, x, hi => by
    have := yc_set l i x (by simpa using hi)
    show (yc (u :: l.set i x) : Int) + (if l.getD i .I = .Y then 1 else 0) = yc (u :: l) + (if x = .Y then 1 else 0)
    rw [yc_cons, yc_cons]
    omega
theorem getD_set_ne {l : Ls} {i j : Nat} {x : P4} (ne : i ≠ j) : (l.set i x).getD j .I = l.getD j .I := by simp [ne]
section
variable {n : Nat}
theorem turn_anti {g : Gt} (hg : Gt.Ok n g) {a b : Ls} (ha : a.length = n) (hb : b.length = n) : lanti (turnL g a) (turnL g b) = lanti a b := by
  cases hg with
  | @one nm i m hi =>
    have h := (l1_ok (nm := nm) m (a.getD i .I) (b.getD i .I)).1
    show lanti (a.set i _) (b.set i _) = _
    rw [lanti_set _ _ _ _ _ (by omega) (by omega), h]
    cases lanti a b <;> cases P4.anti (a.getD i .I) (b.getD i .I) <;> rfl
  | @two nm i j m hi hj ne =>
    have h := (l2_ok (nm := nm) m (a.getD i .I) (a.getD j .I) (b.getD i .I) (b.getD j .I)).1
    show lanti ((a.set i _).set j _) ((b.set i _).set j _) = _
    rw [lanti_set _ _ _ _ _ (by simp; omega) (by simp; omega), lanti_set _ _ _ _ _ (by omega) (by omega), getD_set_ne ne, getD_set_ne ne]
    revert h
    generalize P4.anti (g2L nm (a.getD i .I) (a.getD j .I)).1 (g2L nm (b.getD i .I) (b.getD j .I)).1 = p
    generalize P4.anti (g2L nm (a.getD i .I) (a.getD j .I)).2 (g2L nm (b.getD i .I) (b.getD j .I)).2 = q
    cases lanti a b <;> cases P4.anti (a.getD i .I) (b.getD i .I) <;> cases P4.anti (a.getD j .I) (b.getD j .I) <;> cases p <;> cases q <;> simp
  | w => rfl
theorem turn_mul {g : Gt} (hg : Gt.Ok n g) {a b : Ls} (ha : a.length = n) (hb : b.length = n) : turnL g (lmul a b) = lmul (turnL g a) (turnL g b) := by
  cases hg with
  | @one nm i m hi =>
    have h := (l1_ok (nm := nm) m (a.getD i .I) (b.getD i .I)).2.1
    show (lmul a b).set i _ = lmul (a.set i _) (b.set i _)
    rw [lmul_set _ _ _ _ _ (by omega), lmul_get _ _ _ (by omega) (by omega), h]
  | @two nm i j m hi hj ne =>
    have h := (l2_ok (nm := nm) m (a.getD i .I) (a.getD j .I) (b.getD i .I) (b.getD j .I)).2.1
    show ((lmul a b).set i _).set j _ = lmul ((a.set i _).set j _) ((b.set i _).set j _)
    rw [lmul_set _ _ _ _ _ (by simp; omega), lmul_set _ _ _ _ _ (by omega), lmul_get _ _ _ (by omega) (by omega), lmul_get _ _ _ (by omega) (by omega), h]
  | w => rfl
theorem turn_even {g : Gt} (hg : Gt.Ok n g) {l : Ls} (hl : l.length = n) : (turnE g l + yc l - yc (turnL g l)) % 2 = 0 := by
  cases hg with
  | @one nm i m hi =>
    have h := (l1_ok (nm := nm) m (l.getD i .I) .I).2.2
    have s := yc_set l i (g1L nm (l.getD i .I)) (by omega)
    show (g1E nm (l.getD i .I) + yc l - yc (l.set i (g1L nm (l.getD i .I)))) % 2 = 0
    omega
  | @two nm i j m hi hj ne =>
    have h := (l2_ok (nm := nm) m (l.getD i .I) (l.getD j .I) .I .I).2.2
    have s := yc_set l i (g2L nm (l.getD i .I) (l.getD j .I)).1 (by omega)
    have s2 := yc_set (l.set i (g2L nm (l.getD i .I) (l.getD j .I)).1) j (g2L nm (l.getD i .I) (l.getD j .I)).2 (by simp; omega)
    rw [getD_set_ne ne] at s2
    show (g2E nm (l.getD i .I) (l.getD j .I) + yc l - yc ((l.set i (g2L nm (l.getD i .I) (l.getD j .I)).1).set j (g2L nm (l.getD i .I) (l.getD j .I)).2)) % 2 = 0
    omega
  | w => show (0 + (yc l : Int) - yc l) % 2 = 0; omega
theorem run_anti : ∀ (gs : List Gt), (∀ g ∈ gs, Gt.Ok n g) → ∀ {a b : Ls}, a.length = n → b.length = n → lanti (runL gs a) (runL gs b) = lanti a b
  | [], _, _, _, _, _ => rfl
  | g :: gs, H, a, b, ha, hb => by
    have h := H g (List.mem_cons_self ..)
    show lanti (runL gs (turnL g a)) (runL gs (turnL g b)) = _
    rw [run_anti gs (fun x m => H x (List.mem_cons_of_mem _ m)) (by rw [turnL_len, ha]) (by rw [turnL_len, hb]), turn_anti h ha hb]
theorem run_mul : ∀ (gs : List Gt), (∀ g ∈ gs, Gt.Ok n g) → ∀ {a b : Ls}, a.length = n → b.length = n → runL gs (lmul a b) = lmul (runL gs a) (runL gs b)
  | [], _, _, _, _, _ => rfl
  | g :: gs, H, a, b, ha, hb => by
    have h := H g (List.mem_cons_self ..)
    show runL gs (turnL g (lmul a b)) = _
    rw [turn_mul h ha hb, run_mul gs (fun x m => H x (List.mem_cons_of_mem _ m)) (by rw [turnL_len, ha]) (by rw [turnL_len, hb])]
    rfl
theorem run_even : ∀ (gs : List Gt), (∀ g ∈ gs, Gt.Ok n g) → ∀ {l : Ls}, l.length = n → (runE gs l + yc l - yc (runL gs l)) % 2 = 0
  | [], _, l, _ => by show (0 + (yc l : Int) - yc l) % 2 = 0; omega
  | g :: gs, H, l, hl => by
    have h := turn_even (H g (List.mem_cons_self ..)) hl
    have ih := run_even gs (fun x m => H x (List.mem_cons_of_mem _ m)) (l := turnL g l) (by rw [turnL_len, hl])
    show (turnE g l + runE gs (turnL g l) + yc l - yc (runL gs (turnL g l))) % 2 = 0
    omega
theorem lanti_at : ∀ (a : Ls) (i k : Nat) (c : P4), a.length = i + 1 + k → lanti a (ones i ++ c :: ones k) = P4.anti (a.getD i .I) c
  | [], i, k, c, h => by simp at h; omega
  | u :: a, 0, k, c, h => by
    show (P4.anti u c ^^ lanti a (ones k)) = P4.anti u c
    rw [lanti_ones]; cases P4.anti u c <;> rfl
  | u :: a, i + 1, k, c, h => by
    have := lanti_at a i k c (by simp at h; omega)
    show (P4.anti u .I ^^ lanti a (ones i ++ c :: ones k)) = P4.anti (a.getD i .I) c
    rw [this, P4.anti_I]; cases P4.anti (a.getD i .I) c <;> rfl
theorem ones_of {a : Ls} (ha : a.length = n) (H : ∀ b : Ls, b.length = n → lanti a b = false) : a = ones n := by
  apply List.ext_getElem (by simp [ones, ha])
  intro i h1 h2
  have hx := H (ones i ++ .X :: ones (n - 1 - i)) (by simp [ones]; omega)
  have hz := H (ones i ++ .Z :: ones (n - 1 - i)) (by simp [ones]; omega)
  rw [lanti_at _ _ _ _ (by omega), getD_of h1] at hx hz
  have : (ones n)[i] = .I := by simp [ones]
  rw [this]
  revert hx hz
  cases a[i] <;> simp [P4.anti]
def lp (n : Nat) : List Bool → List Ls → Ls
  | b :: c, l :: ls => if b then lmul l (lp n c ls) else lp n c ls
  | _, _ => ones n
theorem lp_len : ∀ (c : List Bool) (ls : List Ls), (∀ l ∈ ls, l.length = n) → (lp n c ls).length = n
  | [], _, _ => by simp [lp, ones]
  | _ :: _, [], _ => by simp [lp, ones]
  | b :: c, l :: ls, H => by
    have ih := lp_len c ls fun x m => H x (List.mem_cons_of_mem _ m)
    cases b
    · exact ih
    · exact lmul_len (H l (List.mem_cons_self ..)) ih
theorem lp_sg : ∀ (c : List Bool) (ls : List Ls), (∀ l ∈ ls, l.length = n) → comb c (ls.map sg) = sg (lp n c ls)
  | [], ls, _ => by show _ = sg (ones n); rw [sg_ones]; cases ls <;> rfl
  | b :: c, [], _ => by show _ = sg (ones n); rw [sg_ones]; rfl
  | b :: c, l :: ls, H => by
    have hl := lp_len c ls fun x m => H x (List.mem_cons_of_mem _ m)
    have ih := lp_sg c ls fun x m => H x (List.mem_cons_of_mem _ m)
    cases b
    · show 0 ^^^ comb c (ls.map sg) = sg (lp n c ls)
      rw [ih, Nat.zero_xor]
    · show sg l ^^^ comb c (ls.map sg) = sg (lmul l (lp n c ls))
      rw [ih, sg_mul ((H l (List.mem_cons_self ..)).trans hl.symm)]
theorem lp_map {f : Ls → Ls} (hl : ∀ a : Ls, a.length = n → (f a).length = n) (hm : ∀ a b : Ls, a.length = n → b.length = n → f (lmul a b) = lmul (f a) (f b)) : ∀ (c : List Bool) (ls : List Ls), (∀ l ∈ ls, l.length = n) → lp n c (ls.map f) = f (lp n c ls) := by
  have h1 : ones n = f (ones n) := by
    have h := hm (ones n) (ones n) (by simp [ones]) (by simp [ones])
    have h2 : (f (ones n)).length = n := hl _ (by simp [ones])
    rw [lmul_self (n := n) (by simp [ones]), lmul_self h2] at h
    exact h.symm
  intro c
  induction c with
  | nil => intro ls _; simpa [lp] using h1
  | cons b c ih =>
    intro ls H
    cases ls with
    | nil => simpa [lp] using h1
    | cons l ls =>
      have ih := ih ls fun x m => H x (List.mem_cons_of_mem _ m)
      cases b
      · exact ih
      · show lmul (f l) (lp n c (ls.map f)) = f (lmul l (lp n c ls))
        rw [ih, hm _ _ (H l (List.mem_cons_self ..)) (lp_len c ls fun x m => H x (List.mem_cons_of_mem _ m))]
theorem ind_map {f : Ls → Ls} (hl : ∀ a : Ls, a.length = n → (f a).length = n) (hm : ∀ a b : Ls, a.length = n → b.length = n → f (lmul a b) = lmul (f a) (f b)) (ha : ∀ a b : Ls, a.length = n → b.length = n → lanti (f a) (f b) = lanti a b) {ls : List Ls} (H : ∀ l ∈ ls, l.length = n) (I : Ind (ls.map sg)) : Ind ((ls.map f).map sg) := by
  intro c hc h0
  refine I c (by simpa using hc) ?_
  rw [lp_sg c (ls.map f) (fun l m => by obtain ⟨k, hk, rfl⟩ := List.mem_map.mp m; exact hl k (H k hk)), lp_map hl hm c ls H] at h0
  have hn := lp_len c ls H
  have e : f (lp n c ls) = ones n := sg_inj (by rw [hl _ hn]; simp [ones]) (by rw [h0, sg_ones])
  have e2 : lp n c ls = ones n := ones_of hn fun b hb => by rw [← ha _ _ hn hb, e, lanti_comm, lanti_ones]
  rw [lp_sg c ls H, e2, sg_ones]
end
end WC
set_option Elab.async false
set_option linter.all false
set_option maxRecDepth 100000
namespace WC
open PySem PySem.Spec PyProof.Rows L2 QC
variable {n : Nat} {ws vs : List Pw}
theorem atW_len {i : Nat} {a : P4} (hi : i < n) : (atW n i a).l.length = n := by simp [atW, ones]; omega
theorem atW_get {i j : Nat} {a : P4} (hi : i < n) (hj : j < n) : (atW n i a).l[j]? = some (if j = i then a else .I) := by
  show (ones i ++ a :: ones (n - 1 - i))[j]? = _
  by_cases h1 : j < i
  · rw [List.getElem?_append_left (by simp [ones]; omega)]
    simp [ones, h1]
    omega
  · rw [List.getElem?_append_right (by simp [ones]; omega)]
    by_cases h2 : j = i
    · subst h2; simp [ones]
    · have hk : j - (ones i).length = (j - i - 1) + 1 := by simp [ones]; omega
      rw [hk, List.getElem?_cons_succ]
      unfold ones
      rw [List.getElem?_replicate, if_pos (by omega), if_neg h2]
theorem atW_bit {i j : Nat} (hi : i < n) (hj : j < n) : (sg (atW n i .Z).l).testBit (n - 1 - j) = decide (j = i) := by
  have hl := atW_len (a := .Z) hi
  have h := vb_bit (bl (atW n i .Z).l) (n + j) (decide (j = i)) (by
    unfold bl
    rw [List.getElem?_append_right (by simp [hl])]
    simp only [List.length_map, hl, Nat.add_sub_cancel_left, List.getElem?_map]
    rw [atW_get hi hj]
    by_cases e : j = i <;> simp [e, P4.zb])
  have e : (bl (atW n i .Z).l).length - 1 - (n + j) = n - 1 - j := by simp [bl, hl]; omega
  rw [e] at h
  exact h
def baseL (n m : Nat) : List Ls := (List.range m).map fun i => (atW n i .Z).l
theorem base_ind : ∀ m, m ≤ n → Ind ((baseL n m).map sg)
  | 0, _ => ind_nil
  | m + 1, h => by
    have ih := base_ind m (by omega)
    unfold baseL at ih ⊢
    rw [List.range_succ, List.map_append, List.map_append]
    refine ind_snoc.mpr ⟨ih, ?_⟩
    rintro ⟨c, _, e⟩
    have b := comb_bit (k := n - 1 - m) (R := ((List.range m).map fun i => (atW n i .Z).l).map sg) (c := c) fun x hx => by
      obtain ⟨l, hl, rfl⟩ := List.mem_map.mp hx
      obtain ⟨i, hi, rfl⟩ := List.mem_map.mp hl
      have hi : i < m := by simpa using hi
      rw [atW_bit (by omega) (by omega)]
      exact decide_eq_false (by omega)
    rw [e] at b
    have b2 := atW_bit (n := n) (i := m) (j := m) (by omega) (by omega)
    rw [decide_eq_true rfl] at b2
    rw [b2] at b
    cases b
theorem base_meet {i j : Nat} (hi : i < n) (hj : j < n) : lanti (atW n i .Z).l (atW n j .Z).l = false := by
  have h := lanti_at (atW n i .Z).l j (n - 1 - j) .Z (by rw [atW_len hi]; omega)
  show lanti (atW n i .Z).l (ones j ++ .Z :: ones (n - 1 - j)) = false
  rw [h, List.getD_eq_getElem?_getD, atW_get hi hj]
  by_cases e : j = i <;> simp [e, P4.anti]
theorem led_cd {gs : List Gt} (hg : ∀ g ∈ gs, Gt.Ok n g) {m : Nat} (h1 : 1 ≤ m) (h2 : m ≤ n) (hn : n ≤ 30) (hl : ws.map (·.l) = (List.range m).map fun i => runL gs (atW n i .Z).l) (he : ∀ w ∈ ws, w.e = 0 ∨ w.e = 2) : Cd n ws := by
  have mem : ∀ w ∈ ws, ∃ i, i < n ∧ w.l = runL gs (atW n i .Z).l := fun w hw => by
    have : w.l ∈ ws.map (·.l) := List.mem_map.mpr ⟨w, hw, rfl⟩
    rw [hl] at this
    obtain ⟨i, hi, e⟩ := List.mem_map.mp this
    exact ⟨i, by have : i < m := by simpa using hi
                 omega, e.symm⟩
  have len : ws.length = m := by have := congrArg List.length hl; simpa using this
  have rows : rowsOf ws = (((List.range m).map fun i => (atW n i .Z).l).map (runL gs)).map sg := by
    have : rowsOf ws = (ws.map (·.l)).map sg := by rw [List.map_map]; rfl
    rw [this, hl, List.map_map, List.map_map, List.map_map]
    rfl
  refine ⟨⟨fun w hw => ?_, fun a ha b hb => ?_⟩, ?_, ?_, by omega, hn, by omega⟩
  · obtain ⟨i, hi, e⟩ := mem w hw
    exact ⟨by rw [e, runL_len, atW_len hi], he w hw⟩
  · obtain ⟨i, hi, e⟩ := mem a ha
    obtain ⟨j, hj, e2⟩ := mem b hb
    show lanti a.l b.l = false
    rw [e, e2, run_anti gs hg (atW_len hi) (atW_len hj), base_meet hi hj]
  · rw [rows]
    refine ind_map (n := n) (fun a ha => by rw [runL_len, ha]) (fun a b ha hb => run_mul gs hg ha hb) (fun a b ha hb => run_anti gs hg ha hb) (fun l hlm => ?_) (base_ind m h2)
    obtain ⟨i, hi, rfl⟩ := List.mem_map.mp hlm
    have hi : i < m := by simpa using hi
    exact atW_len (by omega)
  · intro z
    rw [z] at len
    simp at len
    omega
def SameG (n : Nat) (ws vs : List Pw) : Prop := ∀ g, InG n ws g ↔ InG n vs g
theorem SameG.rfl (n : Nat) (ws : List Pw) : SameG n ws ws := fun g => Iff.rfl
theorem SameG.trans {a b c : List Pw} (h : SameG n a b) (k : SameG n b c) : SameG n a c := fun g => (h g).trans (k g)
theorem SameG.symm {a b : List Pw} (h : SameG n a b) : SameG n b a := fun g => (h g).symm
theorem mem_set {α : Type} {l : List α} {i : Nat} {x y : α} (h : x ∈ l.set i y) : x ∈ l ∨ x = y := by
  rcases List.mem_or_eq_of_mem_set h with h | h
  · exact .inl h
  · exact .inr h
theorem get_rows {i : Nat} {x : Pw} (e : ws[i]? = some x) : (rowsOf ws)[i]? = some (sg x.l) := by rw [List.getElem?_map, e]; rfl
theorem mix_cd (C : Cd n ws) {f o : Nat} {x y : Pw} (hf : ws[f]? = some x) (ho : ws[o]? = some y) (ne : f ≠ o) : Cd n (ws.set f (pmul x y)) ∧ SameG n (ws.set f (pmul x y)) ws := by
  have mx := List.mem_of_getElem? hf
  have my := List.mem_of_getElem? ho
  have ux := C.sys.up x mx
  have uy := C.sys.up y my
  have S' : Sys n (ws.set f (pmul x y)) := by
    refine ⟨fun w hw => ?_, fun a ha b hb => ?_⟩
    · rcases mem_set hw with h | rfl
      · exact C.sys.up w h
      · exact up_mul ux uy (C.sys.mt x mx y my)
    · have key : ∀ a : Pw, a.l.length = n → (∀ w ∈ ws, meets a w) → ∀ b ∈ ws.set f (pmul x y), meets a b := fun a la ha b hb => by
        rcases mem_set hb with h | rfl
        · exact ha b h
        · exact meets_mul la ux.len uy.len (ha x mx) (ha y my)
      rcases mem_set ha with h | rfl
      · exact key a (C.sys.up a h).len (fun w hw => C.sys.mt a h w hw) b hb
      · refine key _ (up_mul ux uy (C.sys.mt x mx y my)).len (fun w hw => ?_) b hb
        exact meets_comm (meets_mul (C.sys.up w hw).len ux.len uy.len (C.sys.mt w hw x mx) (C.sys.mt w hw y my))
  have er : rowsOf (ws.set f (pmul x y)) = (rowsOf ws).set f (sg x.l ^^^ sg y.l) := by
    show (ws.set f (pmul x y)).map _ = _
    rw [List.map_set]
    show (rowsOf ws).set f (sg (lmul x.l y.l)) = _
    rw [sg_mul (ux.len.trans uy.len.symm)]
  refine ⟨⟨S', ?_, ?_, C.n1, C.n2, by rw [List.length_set]; exact C.len⟩, fun g => ⟨fun h => ?_, fun h => ?_⟩⟩
  · rw [er]
    exact C.ind.step (get_rows hf) (get_rows ho) ne
  · intro z
    have := congrArg List.length z
    rw [List.length_set] at this
    exact C.ne (List.eq_nil_of_length_eq_zero this)
  · refine InG.sub C.sys (fun v hv => ?_) h
    rcases mem_set hv with h | rfl
    · exact InG.mem C.sys h
    · exact InG.mul C.sys (InG.mem C.sys mx) (InG.mem C.sys my)
  · refine InG.sub S' (fun v hv => ?_) h
    have flt := (List.getElem?_eq_some_iff.mp hf).1
    have m1 : pmul x y ∈ ws.set f (pmul x y) := List.mem_set flt _
    have m2 : y ∈ ws.set f (pmul x y) := List.mem_of_getElem? (i := o) (by rw [List.getElem?_set_ne ne]; exact ho)
    obtain ⟨k, hk⟩ := List.mem_iff_getElem?.mp hv
    by_cases e : f = k
    · subst e
      have : v = x := by rw [hf] at hk; cases hk; rfl
      subst this
      have h3 := InG.mul S' (InG.mem S' m1) (InG.mem S' m2)
      have h4 : pmul (pmul v y) y = v := by rw [pmul_assoc ux.len uy.len uy.len, pmul_self uy, pmul_one ux]
      rw [h4] at h3
      exact h3
    · exact InG.mem S' (List.mem_of_getElem? (i := k) (by rw [List.getElem?_set_ne e]; exact hk))
def neg (x : Pw) : Pw := ⟨(x.e + 2) % 4, x.l⟩
theorem neg_cd (C : Cd n ws) {d : Nat} {x : Pw} (hd : ws[d]? = some x) : Cd n (ws.set d (neg x)) := by
  have mx := List.mem_of_getElem? hd
  have ux := C.sys.up x mx
  have er : rowsOf (ws.set d (neg x)) = rowsOf ws := by
    show (ws.set d (neg x)).map _ = _
    rw [List.map_set]
    obtain ⟨hlt, e⟩ := List.getElem?_eq_some_iff.mp (get_rows hd)
    show (rowsOf ws).set d (sg x.l) = _
    rw [← e, List.set_getElem_self]
  refine ⟨⟨fun w hw => ?_, fun a ha b hb => ?_⟩, by rw [er]; exact C.ind, ?_, C.n1, C.n2, by rw [List.length_set]; exact C.len⟩
  · rcases mem_set hw with h | rfl
    · exact C.sys.up w h
    · refine ⟨ux.len, ?_⟩
      show (x.e + 2) % 4 = 0 ∨ (x.e + 2) % 4 = 2
      have := ux.ev
      omega
  · have key : ∀ a ∈ ws.set d (neg x), ∃ a' ∈ ws, a.l = a'.l := fun a ha => by
      rcases mem_set ha with h | rfl
      · exact ⟨a, h, rfl⟩
      · exact ⟨x, mx, rfl⟩
    obtain ⟨a', h1, e1⟩ := key a ha
    obtain ⟨b', h2, e2⟩ := key b hb
    show lanti a.l b.l = false
    rw [e1, e2]
    exact C.sys.mt a' h1 b' h2
  · intro z
    have := congrArg List.length z
    rw [List.length_set] at this
    exact C.ne (List.eq_nil_of_length_eq_zero this)
theorem red_cd (C : Cd n ws) : Cd n (redW n ws) ∧ SameG n (redW n ws) ws ∧ (redW n ws).length = ws.length := by
  have R := redW_ok C.sys
  have l := redW_len (n := n) C.ind
  refine ⟨⟨R.sys C.sys, R.ind, ?_, C.n1, C.n2, by rw [l]; exact C.len⟩, fun g => R.grp C.sys C.ind g, l⟩
  intro z
  rw [z] at l
  exact C.ne (List.eq_nil_of_length_eq_zero l.symm)
theorem red_eq (C : Cd n ws) (C' : Cd n vs) (G : SameG n ws vs) : redW n ws = redW n vs :=
  RedOf.unique C.sys C.ind C'.sys G (redW_ok C.sys) (redW_ok C'.sys)
theorem neg_ne (C : Cd n ws) (C' : Cd n vs) (G : SameG n ws vs) {d : Nat} {x : Pw} (hd : vs[d]? = some x) : redW n ws ≠ redW n (vs.set d (neg x)) := by
  intro e
  have C2 := neg_cd C' hd
  have mx := List.mem_of_getElem? hd
  have dlt := (List.getElem?_eq_some_iff.mp hd).1
  have R2 := redW_ok C2.sys
  rw [← e] at R2
  have ev := (C'.sys.up x mx).ev
  refine turned_ne (g := x) (k := neg x) C.sys C.ind C2.sys C2.ind ((G x).mpr (InG.mem C'.sys mx)) (InG.mem C2.sys (List.mem_set dlt _)) rfl ?_ (redW_ok C.sys) R2
  intro z
  have := congrArg Pw.e z
  have : x.e = (x.e + 2) % 4 := this
  omega
end WC
set_option Elab.async false
set_option linter.all false
set_option maxRecDepth 100000
namespace WC
open PySem PySem.Spec PyProof.Rows L2 QC
variable {T : Hs} {s : St}
abbrev FDraw (f : FD) : Prop := ∀ (k m : Nat) (s : St) (T : Hs), s.Ok (k + 1) → 1 ≤ m → m ≤ 1000000 → ∃ (r : Nat) (s' : St), f [.ref 0, .int m] (s.ob :: T) = .ok (.int r) (s'.ob :: T) ∧ r < m ∧ s'.Ok k
theorem fdraw_ok : FDraw (defF 5 B_law_draw) := fun k m s T o h1 h2 => by
  obtain ⟨r, s', e, a, b, o'⟩ := draw_ok (T := T) (m := (m : Int)) o (by omega) (Int.lt_of_le_of_lt (show (m : Int) ≤ 1000000 by omega) (by decide))
  obtain ⟨q, rfl⟩ := Int.eq_ofNat_of_zero_le a
  exact ⟨q, s', e, by omega, o'⟩
abbrev gnD : D := .lst [.str [104], .str [104], .str [104], .str [115], .str [115, 100], .str [120], .str [121], .str [122], .str [99, 120], .str [99, 120], .str [99, 120], .str [99, 122], .str [115, 119, 97, 112], .str [119]]
theorem gn_at {r : Nat} (h1 : r < 14) {h : Hs} : ∃ nm, atD h gnD (.int r) = some (.str nm) ∧ (nm = [119] ∨ nm ∈ g1s ∨ nm ∈ g2s) := by
  have : r = 0 ∨ r = 1 ∨ r = 2 ∨ r = 3 ∨ r = 4 ∨ r = 5 ∨ r = 6 ∨ r = 7 ∨ r = 8 ∨ r = 9 ∨ r = 10 ∨ r = 11 ∨ r = 12 ∨ r = 13 := by omega
  rcases this with rfl | rfl | rfl | rfl | rfl | rfl | rfl | rfl | rfl | rfl | rfl | rfl | rfl | rfl
  all_goals exact ⟨_, rfl, by decide⟩
theorem notin_g1 {nm : List Nat} (e : nm ∈ g1s) {h : Hs} : gNotIn h (.str nm) (.tup [.str [99, 120], .str [99, 122], .str [115, 119, 97, 112]]) = some (.bl true) ∧ (nm == [119]) = false := by
  simp [g1s] at e
  rcases e with rfl | rfl | rfl | rfl | rfl | rfl <;> exact ⟨rfl, rfl⟩
theorem notin_g2 {nm : List Nat} (e : nm ∈ g2s) {h : Hs} : gNotIn h (.str nm) (.tup [.str [99, 120], .str [99, 122], .str [115, 119, 97, 112]]) = some (.bl false) ∧ (nm == [119]) = false := by
  simp [g2s] at e
  rcases e with rfl | rfl | rfl <;> exact ⟨rfl, rfl⟩
theorem range1_h {a : EM} {σ : Sg} {h h' : Hs} {j : Nat} (ha : a σ h = .ok (.int j) h') (h1 : j ≤ 1000000) : iRange1 (aCons a aNil) σ h = .ok ((List.range j).map fun i : Nat => .int (0 + i)) h' := by
  have e0 : iRange1 (aCons (eC (.int j)) aNil) σ h' = _ := range1_ok (a := eC (.int j)) (σ := σ) (h := h') (j := (j : Int)) rfl (by omega) (by omega)
  have e1 : iRange1 (aCons a aNil) σ h = iRange1 (aCons (eC (.int j)) aNil) σ h' := by
    rw [e_iRange1, e_iRange1, e_aCons, e_aCons, ha]
    rfl
  rw [e1, e0]
  rfl
abbrev FGates (f : FD) : Prop := ∀ (n k : Nat) (s : St) (T : Hs), 1 ≤ n → n ≤ 30 → s.Ok (k + 40) → ∃ (gs : List Gt) (s' : St), f [.ref 0, .int n, .int 12, gnD] (s.ob :: T) = .ok (.tup (gs.map Gt.D)) (s'.ob :: T) ∧ (∀ g ∈ gs, Gt.Ok n g) ∧ s'.Ok k
def gatesB (fd : FD) : SM := (sSeq (sSet 6 (xVal (eOp atD (oVar 3) (eFn 2 fd (aCons (eVar 0) (aCons (eCall gLen (aCons (oVar 3) aNil)) aNil))))))
  (sSeq (sSet 7 (xVal (eFn 2 fd (aCons (eVar 0) (aCons (eVar 1) aNil)))))
  (sIf (tB (eOp gEq (oVar 6) (eC (.str [119]))))
  (sAppend 4 (eTup (aCons (eVar 6) aNil)))
  (sIf (tB (eOp gNotIn (oVar 6) (eTup (aCons (eC (.str [99, 120])) (aCons (eC (.str [99, 122])) (aCons (eC (.str [115, 119, 97, 112])) aNil))))))
  (sAppend 4 (eTup (aCons (eVar 6) (aCons (eVar 7) aNil))))
  (sIf (tB (eOp gGt (oVar 1) (eC (.int 1))))
  (sAppend 4 (eTup (aCons (eVar 6) (aCons (eVar 7) (aCons (eOp gMod (eCall gIntA (aCons (eOp gAdd (eOp gAdd (oVar 7) (eC (.int 1))) (eFn 2 fd (aCons (eVar 0) (aCons (eOp gSub (oVar 1) (eC (.int 1))) aNil)))) aNil)) (oVar 1)) aNil)))))
  sNil)))))
section
variable {fd : FD} {n : Nat} {N : D} {G : List D} {x5 x6 x7 : Sl} {T T1 T2 T3 : Hs} {q1 q2 q3 : Nat} {nm : List Nat}
theorem gb_draw {d : SM → Prop} (hN : gLen T [N] = some (.int 14)) (f1 : fd [.ref 0, .int 14] T = .ok (.int q1) T1) (en : atD T1 N (.int q1) = some (.str nm)) (p6 : x6.plain = true) : sSet 6 (xVal (eOp atD (oVar 3) (eFn 2 fd (aCons (eVar 0) (aCons (eCall gLen (aCons (oVar 3) aNil)) aNil))))) [.val (.ref 0), .val (.int n), .val (.int 12), .val N, .own G, x5, x6, x7] T = .nx [.val (.ref 0), .val (.int n), .val (.int 12), .val N, .own G, x5, .val (.str nm), x7] T1 := by
  simp [hN, f1, en, p6]
theorem gb_place (f2 : fd [.ref 0, .int n] T1 = .ok (.int q2) T2) (p7 : x7.plain = true) : sSet 7 (xVal (eFn 2 fd (aCons (eVar 0) (aCons (eVar 1) aNil)))) [.val (.ref 0), .val (.int n), .val (.int 12), .val N, .own G, x5, .val (.str nm), x7] T1 = .nx [.val (.ref 0), .val (.int n), .val (.int 12), .val N, .own G, x5, .val (.str nm), .val (.int q2)] T2 := by
  simp [f2, p7]
def gatesC (fd : FD) : SM := (sIf (tB (eOp gEq (oVar 6) (eC (.str [119]))))
  (sAppend 4 (eTup (aCons (eVar 6) aNil)))
  (sIf (tB (eOp gNotIn (oVar 6) (eTup (aCons (eC (.str [99, 120])) (aCons (eC (.str [99, 122])) (aCons (eC (.str [115, 119, 97, 112])) aNil))))))
  (sAppend 4 (eTup (aCons (eVar 6) (aCons (eVar 7) aNil))))
  (sIf (tB (eOp gGt (oVar 1) (eC (.int 1))))
  (sAppend 4 (eTup (aCons (eVar 6) (aCons (eVar 7) (aCons (eOp gMod (eCall gIntA (aCons (eOp gAdd (eOp gAdd (oVar 7) (eC (.int 1))) (eFn 2 fd (aCons (eVar 0) (aCons (eOp gSub (oVar 1) (eC (.int 1))) aNil)))) aNil)) (oVar 1)) aNil)))))
  sNil)))
abbrev gst (n : Nat) (N : D) (G : List D) (x5 : Sl) (nm : List Nat) (q2 : Nat) : Sg := [.val (.ref 0), .val (.int n), .val (.int 12), .val N, .own G, x5, .val (.str nm), .val (.int q2)]
theorem gc_w (el : G.length < 16777216) : gatesC fd (gst n N G x5 [119] q2) T = .nx (gst n N (G ++ [Gt.w.D]) x5 [119] q2) T := by
  simp [gatesC, el]
theorem gc_1 (el : G.length < 16777216) (cs : nm ∈ g1s) : gatesC fd (gst n N G x5 nm q2) T = .nx (gst n N (G ++ [(Gt.one nm q2).D]) x5 nm q2) T := by
  obtain ⟨ni, nw⟩ := notin_g1 cs (h := T)
  simp [gatesC, el, ni, nw]
theorem gc_2 (el : G.length < 16777216) (cs : nm ∈ g2s) (hn : 1 < n) (f3 : fd [.ref 0, .int ((n : Int) - 1)] T = .ok (.int q3) T3) : gatesC fd (gst n N G x5 nm q2) T = .nx (gst n N (G ++ [(Gt.two nm q2 ((q2 + 1 + q3) % n)).D]) x5 nm q2) T3 := by
  obtain ⟨ni, nw⟩ := notin_g2 cs (h := T)
  have hm' : (1 : Int) < (n : Int) := by omega
  have e5 : gMod T3 (.int ((q2 : Int) + 1 + q3)) (.int n) = some (.int (((q2 + 1 + q3) % n : Nat) : Int)) := by
    rw [g_mod (show (0 : Int) < n by omega)]
    rfl
  simp [gatesC, el, ni, nw, hm', f3, e5]
theorem gc_0 (cs : nm ∈ g2s) (hn : ¬ 1 < n) : gatesC fd (gst n N G x5 nm q2) T = .nx (gst n N G x5 nm q2) T := by
  obtain ⟨ni, nw⟩ := notin_g2 cs (h := T)
  have hm' : ¬ (1 : Int) < (n : Int) := by omega
  simp [gatesC, ni, nw, hm']
end
theorem gatesFor {fd : FD} (hd : FDraw fd) {n : Nat} {N : D} (hN : ∀ T, gLen T [N] = some (.int 14)) (en : ∀ (T : Hs) (r : Nat), r < 14 → ∃ nm, atD T N (.int r) = some (.str nm) ∧ (nm = [119] ∨ nm ∈ g1s ∨ nm ∈ g2s)) (h1 : 1 ≤ n) (hn : n ≤ 30) {r1 : Nat} (a1 : r1 < 13) {k : Nat} {s1 : St} {T : Hs} (o1 : s1.Ok (k + 39)) :
    ∃ (gs : List Gt) (x5 x6 x7 : Sl) (s2 : St), forGo (tgName 5) (gatesB fd) ((List.range r1).map fun i : Nat => .int (0 + i)) [.val (.ref 0), .val (.int n), .val (.int 12), .val N, .own [], .no, .no, .no] (s1.ob :: T) = .nx [.val (.ref 0), .val (.int n), .val (.int 12), .val N, .own (gs.map Gt.D), x5, x6, x7] (s2.ob :: T) ∧ (∀ g ∈ gs, Gt.Ok n g) ∧ s2.Ok k := by
  generalize hr : forGo _ _ _ _ _ = r
  obtain ⟨σ', s2, rfl, ⟨gs, x5, x6, x7, rfl, p5, p6, p7, hl, hb⟩, o2⟩ := for_draw_of hr (fun i : Nat => .int (0 + i)) (List.range r1) rfl (fun done σ => ∃ (gs : List Gt) (x5 x6 x7 : Sl), σ = [.val (.ref 0), .val (.int n), .val (.int 12), .val N, .own (gs.map Gt.D), x5, x6, x7] ∧ x5.plain = true ∧ x6.plain = true ∧ x7.plain = true ∧ gs.length ≤ done.length ∧ ∀ g ∈ gs, Gt.Ok n g) ⟨[], .no, .no, .no, rfl, rfl, rfl, rfl, by simp, by simp⟩ 3 k (by refine o1.mono ?_; simp; omega) (fun done x rest σ k s e i o => by
    obtain ⟨gs, x5, x6, x7, rfl, p5, p6, p7, hl, hb⟩ := i
    have hd2 : done.length ≤ 13 := by
      have := congrArg List.length e
      simp at this
      omega
    obtain ⟨q1, t1, f1, qb, p1⟩ := hd (k + 2) 14 s T o (by decide) (by decide)
    obtain ⟨q2, t2, f2, qd, p2⟩ := hd (k + 1) n t1 T p1 h1 (by omega)
    have f1 : fd [.ref 0, .int 14] (s.ob :: T) = .ok (.int q1) (t1.ob :: T) := f1
    obtain ⟨nm, en, cs⟩ := en (St.ob t1 :: T) q1 qb
    have el : (gs.map Gt.D).length < 16777216 := by simp; omega
    have et : tgName 5 (.int (0 + x)) [.val (.ref 0), .val (.int n), .val (.int 12), .val N, .own (gs.map Gt.D), x5, x6, x7] = some [.val (.ref 0), .val (.int n), .val (.int 12), .val N, .own (gs.map Gt.D), .val (.int (0 + x)), x6, x7] := by simp [p5]
    have lift : ∀ g, Gt.Ok n g → ∀ k ∈ gs ++ [g], Gt.Ok n k := fun g hg k hk => by
      rcases List.mem_append.mp hk with hk | hk
      · exact hb k hk
      · have : k = g := by simpa using hk
        subst this; exact hg
    have step : gatesB fd [.val (.ref 0), .val (.int n), .val (.int 12), .val N, .own (gs.map Gt.D), .val (.int (0 + x)), x6, x7] (s.ob :: T) = gatesC fd (gst n N (gs.map Gt.D) (.val (.int (0 + x))) nm q2) (t2.ob :: T) := by
      rw [gatesB, e_sSeq, gb_draw (d := fun _ => True) (hN _) f1 en p6]
      dsimp only
      rw [e_sSeq, gb_place f2 p7]
      rfl
    have mp : ∀ g, gs.map Gt.D ++ [Gt.D g] = (gs ++ [g]).map Gt.D := fun g => by rw [List.map_append]; rfl
    rcases cs with rfl | cs | cs
    · exact ⟨_, _, t2, et, .inl (step.trans (gc_w el)), ⟨gs ++ [.w], _, _, _, by rw [mp], rfl, rfl, rfl, by simp; omega, lift _ .w⟩, p2.mono (by omega)⟩
    · exact ⟨_, _, t2, et, .inl (step.trans (gc_1 el cs)), ⟨gs ++ [.one nm q2], _, _, _, by rw [mp], rfl, rfl, rfl, by simp; omega, lift _ (.one cs qd)⟩, p2.mono (by omega)⟩
    · by_cases hm : 1 < n
      · obtain ⟨q3, t3, f3, qf, p3⟩ := hd k (n - 1) t2 T p2 (by omega) (by omega)
        have e4 : ((n - 1 : Nat) : Int) = (n : Int) - 1 := by omega
        rw [e4] at f3
        refine ⟨_, _, t3, et, .inl (step.trans (gc_2 el cs hm f3)), ⟨gs ++ [.two nm q2 ((q2 + 1 + q3) % n)], _, _, _, by rw [mp], rfl, rfl, rfl, by simp; omega, lift _ (.two cs qd (Nat.mod_lt _ (by omega)) fun z => ?_)⟩, p3⟩
        by_cases hw : q2 + 1 + q3 < n
        · rw [Nat.mod_eq_of_lt hw] at z; omega
        · have : (q2 + 1 + q3) % n = q2 + 1 + q3 - n := by rw [Nat.mod_eq_sub_mod (by omega), Nat.mod_eq_of_lt (by omega)]
          omega
      · exact ⟨_, _, t2, et, .inl (step.trans (gc_0 cs hm)), ⟨gs, _, _, _, rfl, rfl, rfl, rfl, by simp; omega, hb⟩, p2.mono (by omega)⟩)
  exact ⟨gs, x5, x6, x7, s2, rfl, hb, o2⟩
theorem gates_ok {fd : FD} (hd : FDraw fd) : FGates (defF 8 (B_law_gates fd)) := fun n k s T h1 hn o => by
  obtain ⟨r1, s1, e1, a1, o1⟩ := hd (k + 39) 13 s T o (by decide) (by decide)
  have e1 : fd [.ref 0, .int 13] (s.ob :: T) = .ok (.int r1) (s1.ob :: T) := e1
  obtain ⟨gs, x5, x6, x7, s2, e2, hb, o2⟩ := gatesFor hd (N := gnD) (fun _ => rfl) (fun T r hr => gn_at hr) h1 hn a1 (T := T) o1
  refine ⟨gs, s2, ?_, hb, o2⟩
  generalize gnD = N at *
  have st : startS 8 [.ref 0, .int n, .int 12, N] = [.val (.ref 0), .val (.int n), .val (.int 12), .val N, .no, .no, .no, .no] := rfl
  have s4 : sSet 4 (xOwn (lLst aNil)) [.val (.ref 0), .val (.int n), .val (.int 12), .val N, .no, .no, .no, .no] (s.ob :: T) = .nx [.val (.ref 0), .val (.int n), .val (.int 12), .val N, .own [], .no, .no, .no] (s.ob :: T) := by simp
  have rg := range1_h (a := eFn 2 fd (aCons (eVar 0) (aCons (eOp gAdd (oVar 2) (eC (.int 1))) aNil))) (σ := [.val (.ref 0), .val (.int n), .val (.int 12), .val N, .own [], .no, .no, .no]) (h := s.ob :: T) (h' := s1.ob :: T) (j := r1) (by simp [e1]) (by omega)
  rw [B_law_gates, e_defF, st, e_sSeq, s4]
  dsimp only
  rw [e_sSeq, e_sFor, rg, e_eDo_ok]
  have e2' : forGo (tgName 5) (gatesB fd) ((List.range r1).map fun i : Nat => .int (0 + i)) [.val (.ref 0), .val (.int n), .val (.int 12), .val N, .own [], .no, .no, .no] (s1.ob :: T) = _ := e2
  unfold gatesB at e2'
  rw [e2']
  simp
end WC
set_option Elab.async false
set_option linter.all false
set_option maxRecDepth 100000
namespace WC
open PySem PySem.Spec PyProof.Rows L2 QC
variable {T : Hs} {s : St} {h : Hs}
@[simp] theorem asS_tup (xs : List D) : asS h (.tup xs) = some xs := rfl
@[simp] theorem asS_lst (xs : List D) : asS h (.lst xs) = some xs := rfl
abbrev FMixed (f : FD) : Prop := ∀ (n : Nat) (ws : List Pw) (k : Nat) (s : St) (T : Hs) (d : D), Cd n ws → (d = wsD ws ∨ d = .lst (ws.map pwD)) → s.Ok (k + 2 * ws.length) → ∃ (vs : List Pw) (s' : St) (T' : Hs), f [.ref 0, d] (s.ob :: T) = .ok (wsD vs) (s'.ob :: T') ∧ Cd n vs ∧ SameG n vs ws ∧ vs.length = ws.length ∧ s'.Ok k
def mixB (fd ft : FD) : SM := (sSeq (sSet 3 (xVal (eOp gMod (eCall gIntA (aCons (eOp gAdd (eOp gAdd (oVar 2) (eC (.int 1))) (eFn 2 fd (aCons (eVar 0) (aCons (eCall gMax2 (aCons (eC (.int 1)) (aCons (eOp gSub (eCall gLen (aCons (oVar 1) aNil)) (eC (.int 1))) aNil))) aNil)))) aNil)) (eCall gLen (aCons (oVar 1) aNil)))))
  (sIf (tAnd (tB (eOp gNe (oVar 3) (oVar 2))) (tB (eOp gEq (eFn 2 fd (aCons (eVar 0) (aCons (eC (.int 2)) aNil))) (eC (.int 1)))))
  (sStore 1 (eFn 2 ft (aCons (eOp atD (oVar 1) (oVar 2)) (aCons (eOp atD (oVar 1) (oVar 3)) aNil))) (eVar 2))
  sNil))
section
variable {fd ft : FD} {ws : List Pw} {i q o : Nat} {h1 h2 : Hs} {x3 : Sl}
abbrev mst (ws : List Pw) (i : Nat) (x3 : Sl) : Sg := [.val (.ref 0), .own (ws.map pwD), .val (.int i), x3]
theorem mb1 {mx : Nat} (hl : 1 ≤ ws.length) (hm : mx = max 1 (ws.length - 1)) (f1 : fd [.ref 0, .int mx] h = .ok (.int q) h1) (p3 : x3.plain = true) : sSet 3 (xVal (eOp gMod (eCall gIntA (aCons (eOp gAdd (eOp gAdd (oVar 2) (eC (.int 1))) (eFn 2 fd (aCons (eVar 0) (aCons (eCall gMax2 (aCons (eC (.int 1)) (aCons (eOp gSub (eCall gLen (aCons (oVar 1) aNil)) (eC (.int 1))) aNil))) aNil)))) aNil)) (eCall gLen (aCons (oVar 1) aNil)))) (mst ws i x3) h = .nx (mst ws i (.val (.int ((i + 1 + q) % ws.length : Nat)))) h1 := by
  have e1 : (if (ws.length : Int) - 1 > 1 then (ws.length : Int) - 1 else 1) = (mx : Int) := by
    subst hm
    split <;> omega
  have e5 : gMod h1 (.int ((i : Int) + 1 + q)) (.int ws.length) = some (.int (((i + 1 + q) % ws.length : Nat) : Int)) := by
    rw [g_mod (show (0 : Int) < ws.length by omega)]
    rfl
  have e6 : gMax2 h [.int 1, .int ((ws.length : Int) - 1)] = some (.int mx) := by rw [← e1]; rfl
  generalize hW : ws.map pwD = W at *
  have hWl : W.length = ws.length := by rw [← hW]; simp
  simp only [mst, hW, e_sSet, e_xVal, e_eOp, e_eCall, e_aCons, e_aNil, e_oVar, e_eC, e_eVar, e_eFn, List.getElem?_cons_succ, List.getElem?_cons_zero, R.bind_ok, g_addI, e_optR_some, g_lenL, hWl, g_sub, e6, List.length_cons, List.length_nil, if_true, f1, g_intI, e5, e_eDo_ok]
  simp [f1, e5, p3]
theorem mb2 {a b : Pw} (ha : ws[i]? = some a) (hb : ws[o]? = some b) (ne : o ≠ i) (f2 : fd [.ref 0, .int 2] h = .ok (.int 1) h1) (f3 : ft [pwD a, pwD b] h1 = .ok (pwD (pmul a b)) h2) : (sIf (tAnd (tB (eOp gNe (oVar 3) (oVar 2))) (tB (eOp gEq (eFn 2 fd (aCons (eVar 0) (aCons (eC (.int 2)) aNil))) (eC (.int 1))))) (sStore 1 (eFn 2 ft (aCons (eOp atD (oVar 1) (oVar 2)) (aCons (eOp atD (oVar 1) (oVar 3)) aNil))) (eVar 2)) sNil) (mst ws i (.val (.int o))) h = .nx (mst (ws.set i (pmul a b)) i (.val (.int o))) h2 := by
  have hi := (List.getElem?_eq_some_iff.mp ha).1
  have ne' : ((o : Int) == (i : Int)) = false := by
    have : ¬ (o : Int) = (i : Int) := by omega
    exact beq_eq_false_iff_ne.mpr this
  have e1 : (ws.set i (pmul a b)).map pwD = (ws.map pwD).set i (pwD (pmul a b)) := List.map_set
  have ea : (ws.map pwD)[i]? = some (pwD a) := by rw [List.getElem?_map, ha]; rfl
  have eb : (ws.map pwD)[o]? = some (pwD b) := by rw [List.getElem?_map, hb]; rfl
  have hWl : i < (ws.map pwD).length := by simpa using hi
  unfold mst
  rw [e1]
  generalize ws.map pwD = W at *
  obtain ⟨_, ea'⟩ := List.getElem?_eq_some_iff.mp ea
  obtain ⟨hob, eb'⟩ := List.getElem?_eq_some_iff.mp eb
  simp [ne', f2, hWl, hob, ea', eb', f3]
theorem mb3 (ne : o = i) : (sIf (tAnd (tB (eOp gNe (oVar 3) (oVar 2))) (tB (eOp gEq (eFn 2 fd (aCons (eVar 0) (aCons (eC (.int 2)) aNil))) (eC (.int 1))))) (sStore 1 (eFn 2 ft (aCons (eOp atD (oVar 1) (oVar 2)) (aCons (eOp atD (oVar 1) (oVar 3)) aNil))) (eVar 2)) sNil) (mst ws i (.val (.int o))) h = .nx (mst ws i (.val (.int o))) h := by
  subst ne
  simp
theorem mb4 (ne : o ≠ i) (hq : q ≠ 1) (f2 : fd [.ref 0, .int 2] h = .ok (.int q) h1) : (sIf (tAnd (tB (eOp gNe (oVar 3) (oVar 2))) (tB (eOp gEq (eFn 2 fd (aCons (eVar 0) (aCons (eC (.int 2)) aNil))) (eC (.int 1))))) (sStore 1 (eFn 2 ft (aCons (eOp atD (oVar 1) (oVar 2)) (aCons (eOp atD (oVar 1) (oVar 3)) aNil))) (eVar 2)) sNil) (mst ws i (.val (.int o))) h = .nx (mst ws i (.val (.int o))) h1 := by
  have ne' : ((o : Int) == (i : Int)) = false := by
    have : ¬ (o : Int) = (i : Int) := by omega
    exact beq_eq_false_iff_ne.mpr this
  have hq' : ((q : Int) == 1) = false := by
    have : ¬ (q : Int) = 1 := by omega
    exact beq_eq_false_iff_ne.mpr this
  simp [ne', f2, hq']
end
end WC
set_option Elab.async false
set_option linter.all false
set_option maxRecDepth 100000
namespace WC
open PySem PySem.Spec PyProof.Rows L2 QC
def MixI (n : Nat) (ws : List Pw) (k : Nat) (j : Nat) (σ : Sg) (h : Hs) : Prop := ∃ (vs : List Pw) (s2 : St) (T2 : Hs) (x2 x3 : Sl), h = s2.ob :: T2 ∧ σ = [.val (.ref 0), .own (vs.map pwD), x2, x3] ∧ x2.plain = true ∧ x3.plain = true ∧ Cd n vs ∧ SameG n vs ws ∧ vs.length = ws.length ∧ s2.Ok (k + 2 * (ws.length - j))
theorem mixTurn {fd ft : FD} (hd : FDraw fd) (ht : FTimes ft) {n : Nat} {ws : List Pw} {k j : Nat} {σ : Sg} {h : Hs} (hj : j < ws.length) (i : MixI n ws k j σ h) : ∃ σ1 σ2 h2, tgName 2 (.int (0 + (j : Int))) σ = some σ1 ∧ mixB fd ft σ1 h = .nx σ2 h2 ∧ MixI n ws k (j + 1) σ2 h2 := by
  obtain ⟨vs, s2, T2, x2, x3, rfl, rfl, p2, p3, C2, G2, l2, o2⟩ := i
  have l30 := C2.len
  have o2 : s2.Ok (k + 2 * (ws.length - (j + 1)) + 1 + 1) := by refine o2.mono ?_; omega
  generalize hK : k + 2 * (ws.length - (j + 1)) = K at *
  obtain ⟨q, t1, f1, hq, o3⟩ := hd (K + 1) (max 1 (vs.length - 1)) s2 T2 o2 (by omega) (by omega)
  have b1 := mb1 (i := j) (x3 := x3) (by omega) rfl f1 p3
  obtain ⟨q2, t2, f2, hq2, o4⟩ := hd K 2 t1 T2 o3 (by omega) (by omega)
  have f2 : fd [.ref 0, .int 2] (t1.ob :: T2) = .ok (.int q2) (t2.ob :: T2) := f2
  have et : tgName 2 (.int (0 + j)) [.val (.ref 0), .own (vs.map pwD), x2, x3] = some (mst vs j x3) := by simp [p2]
  have ol : (j + 1 + q) % vs.length < vs.length := Nat.mod_lt _ (by omega)
  generalize (j + 1 + q) % vs.length = oo at *
  have ha : vs[j]? = some vs[j] := List.getElem?_eq_getElem (by omega)
  have hb : vs[oo]? = some vs[oo] := List.getElem?_eq_getElem ol
  unfold mixB
  by_cases ne : oo = j
  · refine ⟨_, mst vs j (.val (.int oo)), t1.ob :: T2, et, ?_, vs, t1, T2, _, _, rfl, rfl, rfl, rfl, C2, G2, l2, by rw [hK]; exact o3.mono (by omega)⟩
    rw [e_sSeq, b1]
    exact mb3 ne
  · by_cases h1 : q2 = 1
    · subst h1
      have ua := (C2.sys.up _ (List.mem_of_getElem? ha)).len
      have ub := (C2.sys.up _ (List.mem_of_getElem? hb)).len
      have n30 := C2.n2
      obtain ⟨g, f3⟩ := ht vs[j] vs[oo] (t2.ob :: T2) (by rw [ua, ub]) (by omega)
      obtain ⟨C3, G3⟩ := mix_cd C2 ha hb fun z => ne z.symm
      refine ⟨_, mst (vs.set j (pmul vs[j] vs[oo])) j (.val (.int oo)), t2.ob :: (T2 ++ g), et, ?_, _, t2, T2 ++ g, _, _, rfl, rfl, rfl, rfl, C3, G3.trans G2, by rw [List.length_set, l2], by rw [hK]; exact o4⟩
      rw [e_sSeq, b1]
      exact mb2 ha hb ne f2 f3
    · refine ⟨_, mst vs j (.val (.int oo)), t2.ob :: T2, et, ?_, vs, t2, T2, _, _, rfl, rfl, rfl, rfl, C2, G2, l2, by rw [hK]; exact o4⟩
      rw [e_sSeq, b1]
      exact mb4 ne h1 f2
end WC
set_option Elab.async false
set_option linter.all false
set_option maxRecDepth 100000
namespace WC
open PySem PySem.Spec PyProof.Rows L2 QC
theorem mixFor {fd ft : FD} (hd : FDraw fd) (ht : FTimes ft) {n : Nat} {ws : List Pw} {k : Nat} {s : St} {T : Hs} (C : Cd n ws) (o : s.Ok (k + 2 * ws.length)) : ∃ σ' h', forGo (tgName 2) (mixB fd ft) ((List.range ws.length).map fun i : Nat => .int (0 + i)) [.val (.ref 0), .own (ws.map pwD), .no, .no] (s.ob :: T) = .nx σ' h' ∧ MixI n ws k ws.length σ' h' := by
  generalize hr : forGo _ _ _ _ _ = r
  obtain ⟨σ', h', e, i⟩ := for_any hr (fun i : Nat => .int (0 + i)) (List.range ws.length) rfl (fun done σ h => MixI n ws k done.length σ h) ⟨ws, s, T, .no, .no, rfl, rfl, rfl, rfl, C, SameG.rfl n ws, rfl, o⟩ fun done x rest σ h e i => by
    have hx : x = done.length ∧ x < ws.length := by
      have h1 : (List.range ws.length)[done.length]? = some x := by rw [e]; simp
      obtain ⟨h3, h4⟩ := List.getElem?_eq_some_iff.mp h1
      simp at h3 h4
      omega
    obtain ⟨rfl, hx⟩ := hx
    obtain ⟨σ1, σ2, h2, e1, e2, i2⟩ := mixTurn hd ht hx i
    have dl : (done ++ [done.length]).length = done.length + 1 := by simp
    refine ⟨σ1, σ2, h2, e1, .inl e2, ?_⟩
    rw [dl]
    exact i2
  rw [List.length_range] at i
  exact ⟨σ', h', e, i⟩
end WC
set_option Elab.async false
set_option linter.all false
set_option maxRecDepth 100000
namespace WC
open PySem PySem.Spec PyProof.Rows L2 QC
theorem mixH1 {ws : List Pw} {s : St} {T : Hs} {d : D} (hdd : d = wsD ws ∨ d = .lst (ws.map pwD)) : sSet 1 (xOwn (lListOf (aCons (oVar 1) aNil))) [.val (.ref 0), .val d, .no, .no] (s.ob :: T) = .nx [.val (.ref 0), .own (ws.map pwD), .no, .no] (s.ob :: T) := by
  rcases hdd with rfl | rfl <;> simp
theorem mixH2 {ws : List Pw} {h : Hs} : (eCall gLen (aCons (oVar 1) aNil)) [.val (.ref 0), .own (ws.map pwD), .no, .no] h = .ok (.int ws.length) h := by simp
theorem mixH3 {ws : List Pw} {h : Hs} (hl : ws.length ≤ 30) : iRange1 (aCons (eCall gLen (aCons (oVar 1) aNil)) aNil) [.val (.ref 0), .own (ws.map pwD), .no, .no] h = .ok ((List.range ws.length).map fun i : Nat => .int (0 + i)) h := range1_h mixH2 (by omega)
theorem sFor_ok {m : IM} {t : GT} {body : SM} {σ : Sg} {h : Hs} {xs : List D} {r : RS} (hm : m σ h = .ok xs h) (e : forGo t body xs σ h = r) : sFor m t body σ h = r := by
  rw [e_sFor, hm, e_eDo_ok, e]
theorem mixH4 {fd ft : FD} {ws : List Pw} {h : Hs} (hl : ws.length ≤ 30) {σ' : Sg} {h' : Hs} (e : forGo (tgName 2) (mixB fd ft) ((List.range ws.length).map fun i : Nat => .int (0 + i)) [.val (.ref 0), .own (ws.map pwD), .no, .no] h = .nx σ' h') : sFor (iRange1 (aCons (eCall gLen (aCons (oVar 1) aNil)) aNil)) (tgName 2) (mixB fd ft) [.val (.ref 0), .own (ws.map pwD), .no, .no] h = .nx σ' h' := sFor_ok (mixH3 hl) e
theorem mixB_eq {fd ft : FD} : B_law_mixed fd ft = sSeq (sSet 1 (xOwn (lListOf (aCons (oVar 1) aNil)))) (sSeq (sFor (iRange1 (aCons (eCall gLen (aCons (oVar 1) aNil)) aNil)) (tgName 2) (mixB fd ft)) (sRet (eCall gTuple (aCons (oVar 1) aNil)))) := by
  unfold B_law_mixed mixB
  rfl
theorem sSeq_nx {a b : SM} {σ σ' : Sg} {h h' : Hs} {r : RS} (e : a σ h = .nx σ' h') (e2 : b σ' h' = r) : sSeq a b σ h = r := by
  rw [e_sSeq, e]
  exact e2
theorem defF_rt {n : Nat} {b : SM} {ds : List D} {h h' : Hs} {σ : Sg} {d : D} (st : startS n ds = σ) (e : b σ h = .rt d h') : defF n b ds h = .ok d h' := by
  rw [e_defF, st, e]
theorem mixed_go {fd ft : FD} {n : Nat} {ws vs : List Pw} {s : St} {T : Hs} {d : D} {x2 x3 : Sl} {h' : Hs} (hl : ws.length ≤ 30) (hdd : d = wsD ws ∨ d = .lst (ws.map pwD)) (e : forGo (tgName 2) (mixB fd ft) ((List.range ws.length).map fun i : Nat => .int (0 + i)) [.val (.ref 0), .own (ws.map pwD), .no, .no] (s.ob :: T) = .nx [.val (.ref 0), .own (vs.map pwD), x2, x3] h') : defF 4 (B_law_mixed fd ft) [.ref 0, d] (s.ob :: T) = .ok (wsD vs) h' := by
  refine defF_rt (σ := [.val (.ref 0), .val d, .no, .no]) rfl ?_
  rw [mixB_eq]
  refine sSeq_nx (mixH1 hdd) (sSeq_nx (mixH4 hl e) ?_)
  simp
theorem mixed_ok {fd ft : FD} (hd : FDraw fd) (ht : FTimes ft) : FMixed (defF 4 (B_law_mixed fd ft)) := fun n ws k s T d C hdd o => by
  obtain ⟨σ', h', e, vs, s2, T2, x2, x3, e1, e2, p2, p3, C2, G2, l2, o2⟩ := mixFor hd ht (T := T) C o
  rw [e1, e2] at e
  exact ⟨vs, s2, T2, mixed_go (n := n) C.len hdd e, C2, G2, l2, o2.mono (by omega)⟩
end WC
set_option Elab.async false
set_option linter.all false
set_option maxRecDepth 100000
namespace WC
open PySem PySem.Spec PyProof.Rows L2 QC
variable {T : Hs} {s : St} {h : Hs}
abbrev FCode (f : FD) : Prop := ∀ (n m k : Nat) (s : St) (T : Hs), 1 ≤ m → m ≤ n → n ≤ 30 → s.Ok (k + 200) → ∃ (ws : List Pw) (s' : St) (T' : Hs), f [.ref 0, .int n, .int m] (s.ob :: T) = .ok (wsD ws) (s'.ob :: T') ∧ Cd n ws ∧ ws.length = m ∧ s'.Ok k
def codeB (fl fa fd : FD) : SM := (sSeq (sAsg (tgTup [(tgName 6), (tgName 7)]) (eFn 2 fl (aCons (eVar 3) (aCons (eFn 3 fa (aCons (eVar 1) (aCons (eVar 5) (aCons (eC (.str [90])) aNil)))) aNil))))
  (sAppend 4 (eTup (aCons (eOp gMod (eCall gIntA (aCons (eOp gAdd (oVar 6) (eOp gMul (eC (.int 2)) (eFn 2 fd (aCons (eVar 0) (aCons (eC (.int 2)) aNil))))) aNil)) (eC (.int 4))) (aCons (eVar 7) aNil)))))
section
variable {fl fa fd : FD} {n m i q : Nat} {gs : D} {W : List D} {x5 x6 x7 : Sl} {h1 h2 : Hs}
abbrev cst (n m : Nat) (gs : D) (W : List D) (x5 x6 x7 : Sl) : Sg := [.val (.ref 0), .val (.int n), .val (.int m), .val gs, .own W, x5, x6, x7]
theorem cb1 {a : D} {e : Int} {l : List Nat} (ha : fa [.int n, .int i, .str [90]] h = .ok a h) (hl : fl [gs, a] h = .ok (.tup [.int e, .str l]) h1) (p6 : x6.plain = true) (p7 : x7.plain = true) : sAsg (tgTup [(tgName 6), (tgName 7)]) (eFn 2 fl (aCons (eVar 3) (aCons (eFn 3 fa (aCons (eVar 1) (aCons (eVar 5) (aCons (eC (.str [90])) aNil)))) aNil))) (cst n m gs W (.val (.int i)) x6 x7) h = .nx (cst n m gs W (.val (.int i)) (.val (.int e)) (.val (.str l))) h1 := by
  simp [ha, hl, p6, p7]
theorem cb2 {e : Int} {l : List Nat} (f1 : fd [.ref 0, .int 2] h = .ok (.int q) h1) (hW : W.length < 16777216) : sAppend 4 (eTup (aCons (eOp gMod (eCall gIntA (aCons (eOp gAdd (oVar 6) (eOp gMul (eC (.int 2)) (eFn 2 fd (aCons (eVar 0) (aCons (eC (.int 2)) aNil))))) aNil)) (eC (.int 4))) (aCons (eVar 7) aNil))) (cst n m gs W x5 (.val (.int e)) (.val (.str l))) h = .nx (cst n m gs (W ++ [.tup [.int ((e + 2 * q) % 4), .str l]]) x5 (.val (.int e)) (.val (.str l))) h1 := by
  have e1 : gMul h1 (.int 2) (.int q) = some (.int (2 * q)) := g_mulOk (cMul_l (by decide))
  have e2 : gMod h1 (.int (e + 2 * q)) (.int 4) = some (.int ((e + 2 * q) % 4)) := g_mod (by decide)
  simp [f1, e1, e2, hW]
end
def CodeI (n m k : Nat) (gl : List Gt) (gs : D) (j : Nat) (σ : Sg) (h : Hs) : Prop := ∃ (ws : List Pw) (s2 : St) (T2 : Hs) (x5 x6 x7 : Sl), h = s2.ob :: T2 ∧ σ = cst n m gs (ws.map pwD) x5 x6 x7 ∧ x5.plain = true ∧ x6.plain = true ∧ x7.plain = true ∧ ws.map (·.l) = ((List.range j).map fun i => runL gl (atW n i .Z).l) ∧ (∀ w ∈ ws, w.e = 0 ∨ w.e = 2) ∧ s2.Ok (k + (m - j))
theorem codeTurn {fl fa fd : FD} (hl : FLed fl) (ha : FAt fa) (hd : FDraw fd) {n m k j : Nat} {gl : List Gt} (hg : ∀ g ∈ gl, Gt.Ok n g) (hn : n ≤ 30) (hm : m ≤ n) {σ : Sg} {h : Hs} (hj : j < m) (i : CodeI n m k gl (.tup (gl.map Gt.D)) j σ h) : ∃ σ1 σ2 h2, tgName 5 (.int (0 + (j : Int))) σ = some σ1 ∧ codeB fl fa fd σ1 h = .nx σ2 h2 ∧ CodeI n m k gl (.tup (gl.map Gt.D)) (j + 1) σ2 h2 := by
  obtain ⟨ws, s2, T2, x5, x6, x7, rfl, rfl, p5, p6, p7, hm2, he, o2⟩ := i
  have o2 : s2.Ok (k + (m - (j + 1)) + 1) := by refine o2.mono ?_; omega
  have a1 := ha n j .Z (s2.ob :: T2) (by omega) hn
  have a1 : fa [.int n, .int j, .str [90]] (s2.ob :: T2) = _ := a1
  have al : (atW n j .Z).l.length = n := atW_len (by omega)
  obtain ⟨g, l1⟩ := hl n gl (atW n j .Z) (s2.ob :: T2) (by omega) hn hg al
  have ev := run_even gl hg al
  have e0 : (atW n j .Z).e = 0 := rfl
  rw [e0] at l1
  generalize hE : (((0 : Nat) : Int) + yc (atW n j .Z).l + runE gl (atW n j .Z).l - yc (runL gl (atW n j .Z).l)) % 4 = E at *
  have hE2 : E = 0 ∨ E = 2 := by omega
  obtain ⟨q, t2, f2, hq, o3⟩ := hd _ 2 s2 (T2 ++ g) o2 (by omega) (by omega)
  have f2 : fd [.ref 0, .int 2] (s2.ob :: (T2 ++ g)) = .ok (.int q) (t2.ob :: (T2 ++ g)) := f2
  have wl : ws.length = j := by have := congrArg List.length hm2; simpa using this
  have et : tgName 5 (.int (0 + j)) (cst n m (.tup (gl.map Gt.D)) (ws.map pwD) x5 x6 x7) = some (cst n m (.tup (gl.map Gt.D)) (ws.map pwD) (.val (.int j)) x6 x7) := by simp [p5]
  have c1 := cb1 (m := m) (W := ws.map pwD) (x6 := x6) (x7 := x7) a1 l1 p6 p7
  have c2 := cb2 (n := n) (m := m) (gs := .tup (gl.map Gt.D)) (x5 := .val (.int j)) (e := E) (l := cd (runL gl (atW n j .Z).l)) (W := ws.map pwD) f2 (by simp; omega)
  let w : Pw := ⟨((E + 2 * q) % 4).toNat, runL gl (atW n j .Z).l⟩
  have ew : D.tup [.int ((E + 2 * q) % 4), .str (cd (runL gl (atW n j .Z).l))] = pwD w := by
    show _ = D.tup [.int (((E + 2 * q) % 4).toNat : Nat), _]
    have : (((E + 2 * q) % 4).toNat : Int) = (E + 2 * q) % 4 := by omega
    rw [this]
  refine ⟨_, _, _, et, sSeq_nx c1 c2, ws ++ [w], t2, T2 ++ g, .val (.int j), .val (.int E), .val (.str (cd (runL gl (atW n j .Z).l))), rfl, ?_, rfl, rfl, rfl, ?_, ?_, o3⟩
  · rw [ew, List.map_append]
    rfl
  · rw [List.map_append, hm2, List.range_succ, List.map_append]
    rfl
  · intro v hv
    rcases List.mem_append.mp hv with hv | hv
    · exact he v hv
    · have : v = w := by simpa using hv
      subst this
      show ((E + 2 * q) % 4).toNat = 0 ∨ ((E + 2 * q) % 4).toNat = 2
      omega
theorem codeFor {fl fa fd : FD} (hl : FLed fl) (ha : FAt fa) (hd : FDraw fd) {n m k : Nat} {gl : List Gt} (hg : ∀ g ∈ gl, Gt.Ok n g) (hn : n ≤ 30) (hm : m ≤ n) {s : St} {T : Hs} (o : s.Ok (k + m)) : ∃ σ' h', forGo (tgName 5) (codeB fl fa fd) ((List.range m).map fun i : Nat => .int (0 + i)) (cst n m (.tup (gl.map Gt.D)) [] .no .no .no) (s.ob :: T) = .nx σ' h' ∧ CodeI n m k gl (.tup (gl.map Gt.D)) m σ' h' := by
  generalize hr : forGo _ _ _ _ _ = r
  obtain ⟨σ', h', e, i⟩ := for_any hr (fun i : Nat => .int (0 + i)) (List.range m) rfl (fun done σ h => CodeI n m k gl (.tup (gl.map Gt.D)) done.length σ h) ⟨[], s, T, .no, .no, .no, rfl, rfl, rfl, rfl, rfl, rfl, by simp, o⟩ fun done x rest σ h e i => by
    have hx : x = done.length ∧ x < m := by
      have h1 : (List.range m)[done.length]? = some x := by rw [e]; simp
      obtain ⟨h3, h4⟩ := List.getElem?_eq_some_iff.mp h1
      simp at h3 h4
      omega
    obtain ⟨rfl, hx⟩ := hx
    obtain ⟨σ1, σ2, h2, e1, e2, i2⟩ := codeTurn hl ha hd hg hn hm hx i
    have dl : (done ++ [done.length]).length = done.length + 1 := by simp
    refine ⟨σ1, σ2, h2, e1, .inl e2, ?_⟩
    rw [dl]
    exact i2
  rw [List.length_range] at i
  exact ⟨σ', h', e, i⟩
theorem gnE {σ : Sg} : (eFrz (lLst (aCons (eC (.str [104])) (aCons (eC (.str [104])) (aCons (eC (.str [104])) (aCons (eC (.str [115])) (aCons (eC (.str [115, 100])) (aCons (eC (.str [120])) (aCons (eC (.str [121])) (aCons (eC (.str [122])) (aCons (eC (.str [99, 120])) (aCons (eC (.str [99, 120])) (aCons (eC (.str [99, 120])) (aCons (eC (.str [99, 122])) (aCons (eC (.str [115, 119, 97, 112])) (aCons (eC (.str [119])) aNil)))))))))))))))) σ h = .ok gnD h := rfl
theorem ct1 {fg : FD} {n m : Nat} {g : D} {N : EM} {NV : D} {h' : Hs} (hN : ∀ σ, N σ h = .ok NV h) (e : fg [.ref 0, .int n, .int 12, NV] h = .ok g h') : sSet 3 (xVal (eFn 4 fg (aCons (eVar 0) (aCons (eVar 1) (aCons (eC (.int 12)) (aCons N aNil)))))) [.val (.ref 0), .val (.int n), .val (.int m), .no, .no, .no, .no, .no] h = .nx [.val (.ref 0), .val (.int n), .val (.int m), .val g, .no, .no, .no, .no] h' := by
  simp [hN, e]
theorem ct2 {n m : Nat} {g : D} : sSet 4 (xOwn (lLst aNil)) [.val (.ref 0), .val (.int n), .val (.int m), .val g, .no, .no, .no, .no] h = .nx (cst n m g [] .no .no .no) h := by simp
theorem ct3 {fx : FD} {n m : Nat} {g : D} {W : List D} {x5 x6 x7 : Sl} {d : D} {h' : Hs} (e : fx [.ref 0, .lst W] h = .ok d h') : (sFrz [4] (sRet (eFn 2 fx (aCons (eVar 0) (aCons (eVar 4) aNil))))) (cst n m g W x5 x6 x7) h = .rt d h' := by
  simp [e]
theorem codeB_eq {fg fl fa fd fx : FD} : B_law_code fg fl fa fd fx = sSeq (sSet 3 (xVal (eFn 4 fg (aCons (eVar 0) (aCons (eVar 1) (aCons (eC (.int 12)) (aCons (eFrz (lLst (aCons (eC (.str [104])) (aCons (eC (.str [104])) (aCons (eC (.str [104])) (aCons (eC (.str [115])) (aCons (eC (.str [115, 100])) (aCons (eC (.str [120])) (aCons (eC (.str [121])) (aCons (eC (.str [122])) (aCons (eC (.str [99, 120])) (aCons (eC (.str [99, 120])) (aCons (eC (.str [99, 120])) (aCons (eC (.str [99, 122])) (aCons (eC (.str [115, 119, 97, 112])) (aCons (eC (.str [119])) aNil)))))))))))))))) aNil)))))))
  (sSeq (sSet 4 (xOwn (lLst aNil))) (sSeq (sFor (iRange1 (aCons (eVar 2) aNil)) (tgName 5) (codeB fl fa fd)) (sFrz [4] (sRet (eFn 2 fx (aCons (eVar 0) (aCons (eVar 4) aNil))))))) := by
  unfold B_law_code codeB
  rfl
theorem code_draw {fg fl fa fd fx : FD} (hg : FGates fg) (hl : FLed fl) (ha : FAt fa) (hd : FDraw fd) (hx : FMixed fx) : FCode (defF 8 (B_law_code fg fl fa fd fx)) := fun n m k s T h1 hm hn o => by
  obtain ⟨gl, s1, e1, hgl, o1⟩ := hg n (k + 2 * m + m) s T (by omega) hn (o.mono (by omega))
  obtain ⟨σ', h', e2, ws, s2, T2, x5, x6, x7, rfl, rfl, p5, p6, p7, hm2, he, o2⟩ := codeFor hl ha hd hgl hn hm (T := T) o1
  have C := led_cd hgl h1 hm hn hm2 he
  have wl : ws.length = m := by have := congrArg List.length hm2; simpa using this
  obtain ⟨vs, s3, T3, e3, C3, G3, l3, o3⟩ := hx n ws k s2 T2 (.lst (ws.map pwD)) C (.inr rfl) (o2.mono (by omega))
  refine ⟨vs, s3, T3, ?_, C3, l3.trans wl, o3⟩
  refine defF_rt (σ := [.val (.ref 0), .val (.int n), .val (.int m), .no, .no, .no, .no, .no]) rfl ?_
  rw [codeB_eq]
  have rg : iRange1 (aCons (eVar 2) aNil) (cst n m (.tup (gl.map Gt.D)) [] .no .no .no) (s1.ob :: T) = _ := range1_h (a := eVar 2) (h' := s1.ob :: T) (j := m) rfl (by omega)
  exact sSeq_nx (ct1 (fun σ => gnE) e1) (sSeq_nx ct2 (sSeq_nx (sFor_ok rg e2) (ct3 e3)))
abbrev FPauli (f : FD) : Prop := ∀ (n k : Nat) (s : St) (T : Hs), n ≤ 30 → s.Ok (k + 31) → ∃ (p : Pw) (s' : St), f [.ref 0, .int n] (s.ob :: T) = .ok (pwD p) (s'.ob :: T) ∧ p.l.length = n ∧ p.e ≤ 3 ∧ s'.Ok k
theorem letter {r : Nat} (h1 : r < 4) : ∃ a : P4, atD h (.str [73, 88, 89, 90]) (.int r) = some (.str [P4.code a]) := by
  have : r = 0 ∨ r = 1 ∨ r = 2 ∨ r = 3 := by omega
  rcases this with rfl | rfl | rfl | rfl
  · exact ⟨.I, rfl⟩
  · exact ⟨.X, rfl⟩
  · exact ⟨.Y, rfl⟩
  · exact ⟨.Z, rfl⟩
theorem pauliE {fd : FD} {m : LM} {n q : Nat} {h1 h2 : Hs} {l : Ls} (f1 : fd [.ref 0, .int 4] h = .ok (.int q) h1) (hm : m [.val (.ref 0), .val (.int n), .no] h1 = .ok (l.map fun a => .str [P4.code a]) h2) (hl : l.length ≤ 1000) : (eTup (aCons (eFn 2 fd (aCons (eVar 0) (aCons (eC (.int 4)) aNil))) (aCons (eMeth .str gJoin (eC (.str [])) (aCons (eFrz m) aNil)) aNil))) [.val (.ref 0), .val (.int n), .no] h = .ok (pwD ⟨q, l⟩) h2 := by
  have j := g_join1 (h := h2) (l := cd l) (by simp; omega)
  rw [cd_items] at j
  simp [f1, hm, j, tyM]
theorem pauli_ok {fd : FD} (hd : FDraw fd) : FPauli (defF 3 (B_law_pauli fd)) := fun n k s T hn o => by
  obtain ⟨q, t1, f1, hq, o1⟩ := hd (k + 30) 4 s T o (by omega) (by omega)
  have f1 : fd [.ref 0, .int 4] (s.ob :: T) = .ok (.int q) (t1.ob :: T) := f1
  generalize hr : lcL (iRange1 (aCons (eVar 1) aNil)) (tgName 2) tYesM (eOp atD (eC (.str [73, 88, 89, 90])) (eFn 2 fd (aCons (eVar 0) (aCons (eC (.int 4)) aNil)))) [2] [.val (.ref 0), .val (.int n), .no] (t1.ob :: T) = r
  obtain ⟨l, t2, rfl, ll, _, o2⟩ := lc_draw_of hr (List.range n) (fun i : Nat => .int (0 + i)) (fun a : P4 => .str [P4.code a]) (fun _ => True) 1 k (range1_h (a := eVar 1) (h' := t1.ob :: T) (j := n) rfl (by omega)) (by simp; omega) (o1.mono (by simp; omega)) fun x _ k s o => by
    obtain ⟨r, t, f, hr, o'⟩ := hd k 4 s T o (by omega) (by omega)
    have f : fd [.ref 0, .int 4] (s.ob :: T) = .ok (.int r) (t.ob :: T) := f
    obtain ⟨a, ea⟩ := letter (h := t.ob :: T) hr
    refine ⟨[.val (.ref 0), .val (.int n), .val (.int (0 + x))], a, t, rfl, ?_, trivial, o'⟩
    rw [e_eOp, e_eC, R.bind_ok]
    have : (eFn 2 fd (aCons (eVar 0) (aCons (eC (.int 4)) aNil))) [.val (.ref 0), .val (.int n), .val (.int (0 + x))] (s.ob :: T) = .ok (.int r) (t.ob :: T) := by simp [f]
    rw [this, R.bind_ok, ea]
    rfl
  have ll : l.length = n := by simpa using ll
  refine ⟨⟨q, l⟩, t2, ?_, ll, by show q ≤ 3; omega, o2⟩
  refine defF_rt (σ := [.val (.ref 0), .val (.int n), .no]) rfl ?_
  rw [B_law_pauli, e_sRet, pauliE f1 hr (by omega)]
  rfl
end WC
set_option Elab.async false
set_option linter.all false
set_option maxRecDepth 100000
namespace WC
open PySem PySem.Spec PyProof.Rows L2 QC
variable {T : Hs} {s : St} {h : Hs}
theorem at_neg1 {α : Type} {xs : List α} (ne : xs ≠ []) : atI xs (-1) = xs[xs.length - 1]? := by
  have : 1 ≤ xs.length := by cases xs with
    | nil => exact absurd rfl ne
    | cons a r => simp
  unfold atI ixN
  rw [if_neg (by omega), if_pos (by omega)]
  have : ((-1 : Int) + xs.length).toNat = xs.length - 1 := by omega
  simp [this]
def NoCode (d : D) : Prop := ∀ f : FD, FGrp f → ∀ h : Hs, f [d] h = .ok (.bl false) h
section
variable {n : Nat} {ws : List Pw}
theorem no_dep {L : List Pw} (ne : L ≠ []) (hl : L.length ≤ 100) (h1 : 1 ≤ n) (hn : n ≤ 30) (hu : ∀ w ∈ L, Up n w) (hi : ¬ Ind (rowsOf L)) : NoCode (wsD L) := fun f F h => by
  rw [F.ws n L h ne hl hn h1 hu]
  have : ((rr (rowsOf L)).length == L.length) = false := by
    apply beq_eq_false_iff_ne.mpr
    intro e
    exact hi ((rr_ind _).mp (by simpa using e))
  rw [this, Bool.and_false]
theorem no_meet {a v : Pw} {r : List Pw} (h1 : 1 ≤ n) (hn : n ≤ 30) (hl : r.length ≤ 90) (hu : ∀ w ∈ a :: r, Up n w) (hv : v ∈ r) (ha : lanti a.l v.l = true) : NoCode (wsD (a :: r)) := fun f F h => by
  rw [F.ws n (a :: r) h (by simp) (by simp; omega) hn h1 hu]
  have : allMeet (a :: r) = false := by
    unfold allMeet
    rw [List.all_eq_false]
    refine ⟨0, by simp, ?_⟩
    have : ((a :: r).drop (0 + 1)).all (fun o => !lanti ((a :: r).getD 0 default).l o.l) = false := by
      rw [List.all_eq_false]
      exact ⟨v, hv, by show ¬ (!lanti a.l v.l) = true; rw [ha]; simp⟩
    rw [this]
    simp
  rw [this, Bool.false_and]
theorem no_odd {x : D} {r : List Pw} (hn : n ≤ 30) (h1 : 1 ≤ n) (hl : r.length ≤ 90) (hu : ∀ w ∈ r, Up n w) (o : OddW x) : NoCode (.tup (x :: r.map pwD)) := fun f F h =>
  F.bad x r h (by omega) (fun w hw => by
    have u := hu w hw
    have l := u.len
    refine ⟨by intro z; rw [z] at l; simp at l; omega, by omega, ?_⟩
    rcases u.ev with e | e <;> omega) o
structure BentW (n p : Nat) (c : P4) (v : Pw) (r : List Pw) : Prop where
  C : Cd n (v :: r)
  n29 : n ≤ 29
  hp : p < n
  an : P4.anti (v.l.getD p .I) c = true
def bentL (n p : Nat) (c : P4) (v : Pw) (r : List Pw) (u : Pw) : List D :=
  [.lst ((v :: r).map pwD), .tup [], wsD ((v :: r) ++ [v]), wsD ((v :: r) ++ [pmul v u]), .tup (pwD ⟨1, v.l⟩ :: r.map pwD), .non] ++
  [wsD (⟨0, ones n⟩ :: r), wsD ((v :: r) ++ [⟨0, .Z :: v.l⟩]), wsD ((v :: r) ++ [atW n p c]), wsD (atW n p c :: (v :: r))] ++
  [.tup (.tup [.bl true, .str (cd v.l)] :: r.map pwD), .tup (.lst [.int v.e, .str (cd v.l)] :: r.map pwD), .tup (.tup [.int 0, .str (List.replicate n 65)] :: r.map pwD), .tup [.tup [.int 0, .str []]], .tup [.str (cd v.l)]]
theorem bent_no {p : Nat} {c : P4} {v u : Pw} {r : List Pw} (B : BentW n p c v r) (hu : u ∈ v :: r) : ∀ d ∈ bentL n p c v r u, NoCode d := by
  have C := B.C
  have n1 := C.n1
  have n2 := C.n2
  have l30 := C.len
  have lr : r.length ≤ 29 := by simpa using l30
  have up := C.sys.up
  have uv := up v (List.mem_cons_self ..)
  have ur : ∀ w ∈ r, Up n w := fun w m => up w (List.mem_cons_of_mem _ m)
  have app : ∀ w : Pw, Up n w → ∀ x ∈ (v :: r) ++ [w], Up n x := fun w hw x hx => by
    rcases List.mem_append.mp hx with hx | hx
    · exact up x hx
    · have : x = w := by simpa using hx
      subst this; exact hw
  have rows : ∀ w : Pw, rowsOf ((v :: r) ++ [w]) = rowsOf (v :: r) ++ [sg w.l] := fun w => by
    show ((v :: r) ++ [w]).map _ = _
    rw [List.map_append]
    rfl
  have ua : Up n (atW n p c) := ⟨atW_len B.hp, .inl rfl⟩
  have anv : lanti v.l (atW n p c).l = true := by
    have := lanti_at v.l p (n - 1 - p) c (by rw [uv.len]; have := B.hp; omega)
    show lanti v.l (ones p ++ c :: ones (n - 1 - p)) = true
    rw [this]; exact B.an
  have vne : v.l ≠ [] := by intro z; have := uv.len; rw [z] at this; simp at this; omega
  intro d hd
  simp only [bentL, List.cons_append, List.nil_append, List.mem_cons, List.not_mem_nil, or_false] at hd
  rcases hd with rfl | rfl | rfl | rfl | rfl | rfl | rfl | rfl | rfl | rfl | rfl | rfl | rfl | rfl | rfl
  · exact fun f F h => F.lst _ h
  · exact fun f F h => F.emp h
  · refine no_dep (by simp) (by simp; omega) n1 n2 (app v uv) ?_
    rw [← List.cons_append, rows, ind_snoc]
    exact fun z => z.2 (Spn.mem (List.mem_map.mpr ⟨v, List.mem_cons_self .., rfl⟩))
  · have g := InG.mul C.sys (InG.mem C.sys (List.mem_cons_self ..)) (InG.mem C.sys hu)
    refine no_dep (by simp) (by simp; omega) n1 n2 (app _ (g.up C.sys)) ?_
    rw [← List.cons_append, rows, ind_snoc]
    exact fun z => z.2 (g.sg C.sys)
  · exact no_odd n2 n1 (by omega) ur (.one ⟨1, v.l⟩ vne (by show 1 ≤ 3; omega) (by rw [uv.len]; omega) rfl)
  · exact fun f F h => F.non h
  · refine no_dep (n := n) (L := ⟨0, ones n⟩ :: r) (by simp) (by simp; omega) n1 n2 (fun w hw => ?_) fun I => ?_
    · rcases List.mem_cons.mp hw with rfl | hw
      · exact up_one n
      · exact ur w hw
    · have := I (true :: List.replicate r.length false) (by simp) (by
        show (sg (ones n)) ^^^ comb (List.replicate r.length false) (r.map fun w => sg w.l) = 0
        have := comb_zero (rowsOf r)
        simp only [List.length_map] at this
        rw [sg_ones, this]
        rfl) true (List.mem_cons_self ..)
      cases this
  · intro f F h
    refine F.len n _ h (by simp) (by simp; omega) n2 (fun w hw => ?_) uv.len ⟨⟨0, .Z :: v.l⟩, by simp, by simp [uv.len]⟩
    rw [← List.cons_append] at hw
    rcases List.mem_append.mp hw with hw | hw
    · have u := up w hw
      have l := u.len
      exact ⟨by intro z; rw [z] at l; simp at l; omega, by omega, u.ev⟩
    · have : w = ⟨0, .Z :: v.l⟩ := by simpa using hw
      subst this
      have := B.n29
      exact ⟨by simp, by simp [uv.len]; omega, .inl rfl⟩
  · exact no_meet (n := n) (a := v) (v := atW n p c) (r := r ++ [atW n p c]) n1 n2 (by simp; omega) (app _ ua) (by simp) anv
  · refine no_meet (n := n) (a := atW n p c) (v := v) (r := v :: r) n1 n2 (by simp; omega) (fun w hw => ?_) (List.mem_cons_self ..) (by rw [lanti_comm]; exact anv)
    rcases List.mem_cons.mp hw with rfl | hw
    · exact ua
    · exact up w hw
  · exact no_odd n2 n1 (by omega) ur (.bl _ _)
  · exact no_odd n2 n1 (by omega) ur (.lst _)
  · exact no_odd n2 n1 (by omega) ur (.odd n n1 (by omega))
  · exact no_odd (n := n) (r := []) n2 n1 (by simp) (by simp) .emp
  · exact no_odd (n := n) (r := []) n2 n1 (by simp) (by simp) (.str _)
end
end WC
set_option Elab.async false
set_option linter.all false
set_option maxRecDepth 100000
namespace WC
open PySem PySem.Spec PyProof.Rows L2 QC
variable {T : Hs} {s : St} {h : Hs}
theorem addAsg {σ : Sg} {i : Nat} {m : EM} {A B : List D} (hi : σ[i]? = some (.val (.lst A))) (hm : m σ h = .ok (.lst B) h) (hl : A.length + B.length ≤ 16777216) (hp : plAt σ i = true) : sSet i (xVal (eOp gAdd (oVar i) m)) σ h = .nx (σ.set i (.val (.lst (A ++ B)))) h := by
  rw [e_sSet, e_xVal, e_eOp, e_oVar, hi]
  dsimp only
  rw [R.bind_ok, hm, R.bind_ok, g_addL, if_pos hl, e_optR_some, R.bind_ok, e_eDo_ok, setS_if, if_pos hp]
abbrev FBent (f : FD) : Prop := ∀ (n : Nat) (ws : List Pw) (k : Nat) (s : St) (T : Hs), Cd n ws → n ≤ 29 → s.Ok (k + 1) → ∃ (d : D) (s' : St) (T' : Hs), f [.ref 0, wsD ws] (s.ob :: T) = .ok d (s'.ob :: T') ∧ NoCode d ∧ s'.Ok k
def K3 : KVs := [([88], .str [90]), ([89], .str [88]), ([90], .str [88])]
theorem k3_ok {a : P4} (ha : a ≠ .I) : ∃ c : P4, K3.lookup [P4.code a] = some (.str [P4.code c]) ∧ P4.anti a c = true := by
  cases a
  · exact absurd rfl ha
  · exact ⟨.Z, rfl, rfl⟩
  · exact ⟨.X, rfl, rfl⟩
  · exact ⟨.X, rfl, rfl⟩
section
variable {fa ft fd : FD} {n p : Nat} {v u : Pw} {r : List Pw} {c : P4} {A : List D} {x4 x5 x6 : Sl}
abbrev bst (n : Nat) (v : Pw) (r : List Pw) (x4 x5 x6 : Sl) : Sg := [.val (.ref 0), .val (wsD (v :: r)), .val (.int n), .val (pwD v), x4, x5, x6, .no]
theorem be23 (hl : v.l.length = n) (hn : n ≤ 30) : sAsg (tgTup [(tgName 2), (tgName 3)]) (eTup (aCons (eCall gLen (aCons (eOp atD (eOp atD (oVar 1) (eC (.int 0))) (eC (.int 1))) aNil)) (aCons (eOp atD (oVar 1) (eC (.int 0))) aNil))) [.val (.ref 0), .val (wsD (v :: r)), .no, .no, .no, .no, .no, .no] h = .nx (bst n v r .no .no .no) h := by
  have hn2 : n ≤ 16777216 := by omega
  simp [hl, hn2]
theorem be4 {F : List Nat} (hl : v.l.length = n) (hn : n ≤ 30) (hF : F = (List.range n).filter fun i => v.l.getD i .I != .I) (hp : F[0]? = some p) : sSet 4 (xVal (eOp atD (eFrz (lcL (iRange1 (aCons (eVar 2) aNil)) (tgName 7) (tB (eOp gNe (eOp atD (eOp atD (oVar 3) (eC (.int 1))) (oVar 7)) (eC (.str [73])))) (eVar 7) [7])) (eC (.int 0)))) (bst n v r .no .no .no) h = .nx (bst n v r (.val (.int p)) .no .no) h := by
  have rg : iRange1 (aCons (eVar 2) aNil) (bst n v r .no .no .no) h = _ := range1_h (a := eVar 2) (h' := h) (j := n) rfl (by omega)
  have key := lc_filt (t := tgName 7) (vs := [7]) (tt := (tB (eOp gNe (eOp atD (eOp atD (oVar 3) (eC (.int 1))) (oVar 7)) (eC (.str [73]))))) (te := eVar 7) (List.range n) (fun i : Nat => .int (0 + i)) (fun i : Nat => D.int i) (fun i => v.l.getD i .I != .I) rg (by simp; omega) fun i hi => ⟨[.val (.ref 0), .val (wsD (v :: r)), .val (.int n), .val (pwD v), .no, .no, .no, .val (.int i)], by simp, by
    have hlt : i < v.l.length := by rw [hl]; simpa using hi
    have c1 : (cd v.l)[i]? = some (P4.code v.l[i]) := by simp [cd, hlt]
    have hn2 : n ≤ 16777216 := by omega
    rw [getD_of hlt]
    simp [c1, hl, hn2]
    cases v.l[i] <;> rfl, fun _ => by simp⟩
  rw [← hF] at key
  have e0 : (F.map fun i : Nat => D.int i)[0]? = some (.int p) := by rw [List.getElem?_map, hp]; rfl
  have a1 : (eOp atD (eFrz (lcL (iRange1 (aCons (eVar 2) aNil)) (tgName 7) (tB (eOp gNe (eOp atD (eOp atD (oVar 3) (eC (.int 1))) (oVar 7)) (eC (.str [73])))) (eVar 7) [7])) (eC (.int 0))) (bst n v r .no .no .no) h = .ok (.int p) h := by
    rw [e_eOp, e_eFrz, key, R.bind_ok, R.bind_ok, e_eC, R.bind_ok, g_atL, a_0, e0]
    rfl
  rw [e_sSet, e_xVal, a1]
  simp
theorem be5 {a : P4} (hl : v.l.length = n) (hn : n ≤ 30) (hv : v.l[p]? = some a) (hk : K3.lookup [P4.code a] = some (.str [P4.code c])) (e : fa [.int n, .int p, .str [P4.code c]] h = .ok (pwD (atW n p c)) h) : sSet 5 (xVal (eFn 3 fa (aCons (eVar 2) (aCons (eVar 4) (aCons (eGetG K3 (eOp atD (eOp atD (oVar 3) (eC (.int 1))) (oVar 4))) aNil))))) (bst n v r (.val (.int p)) .no .no) h = .nx (bst n v r (.val (.int p)) (.val (pwD (atW n p c))) .no) h := by
  have hn2 : n ≤ 16777216 := by omega
  have c1 : (cd v.l)[p]? = some (P4.code a) := by simp [cd, hv]
  have a1 : (eGetG K3 (eOp atD (eOp atD (oVar 3) (eC (.int 1))) (oVar 4))) (bst n v r (.val (.int p)) .no .no) h = .ok (.str [P4.code c]) h := by
    rw [e_eGetG]
    have : (eOp atD (eOp atD (oVar 3) (eC (.int 1))) (oVar 4)) (bst n v r (.val (.int p)) .no .no) h = .ok (.str [P4.code a]) h := by simp [hl, hn2, c1]
    rw [this, R.bind_ok]
    dsimp only
    rw [hk]
  have a2 : (eFn 3 fa (aCons (eVar 2) (aCons (eVar 4) (aCons (eGetG K3 (eOp atD (eOp atD (oVar 3) (eC (.int 1))) (oVar 4))) aNil)))) (bst n v r (.val (.int p)) .no .no) h = .ok (pwD (atW n p c)) h := by
    rw [e_eFn, e_aCons, e_eVar]
    show (((R.ok (D.int n) h).bind _).bind _) = _
    rw [R.bind_ok, e_aCons, e_eVar]
    show ((((R.ok (D.int p) h).bind _).bind _).bind _) = _
    rw [R.bind_ok, e_aCons, a1, R.bind_ok, e_aNil, R.bind_ok, R.bind_ok, R.bind_ok, R.bind_ok]
    exact e
  rw [e_sSet, e_xVal, a2]
  simp
theorem be6a {h' : Hs} (hr : r.length ≤ 29) (hu : atI (pwD v :: r.map pwD) (-1) = some (pwD u)) (e : ft [pwD v, pwD u] h = .ok (pwD (pmul v u)) h') : sSet 6 (xVal (eFrz (lLst (aCons (eFrz (lListOf (aCons (oVar 1) aNil))) (aCons (eTup aNil) (aCons (eOp gAdd (oVar 1) (eTup (aCons (eVar 3) aNil))) (aCons (eOp gAdd (oVar 1) (eTup (aCons (eFn 2 ft (aCons (eVar 3) (aCons (eOp atD (oVar 1) (eNeg (eC (.int 1)))) aNil))) aNil))) (aCons (eOp gAdd (eTup (aCons (eTup (aCons (eC (.int 1)) (aCons (eOp atD (oVar 3) (eC (.int 1))) aNil))) aNil)) (eSlice (oVar 1) (oSome (eC (.int 1))) oNone)) (aCons (eC .non) aNil)))))))))
  (bst n v r x4 x5 .no) h = .nx (bst n v r x4 x5 (.val (.lst [.lst ((v :: r).map pwD), .tup [], wsD ((v :: r) ++ [v]), wsD ((v :: r) ++ [pmul v u]), .tup (pwD ⟨1, v.l⟩ :: r.map pwD), .non]))) h' := by
  have a1 : ∀ (h : Hs) (x : D), gAdd h (wsD (v :: r)) (.tup [x]) = some (.tup (pwD v :: (r.map pwD ++ [x]))) := fun h x => by
    rw [g_addT, if_pos (by simp; omega)]; rfl
  have a2 : ∀ (h : Hs) (x : D), gAdd h (.tup [x]) (.tup (r.map pwD)) = some (.tup (x :: r.map pwD)) := fun h x => by
    rw [g_addT, if_pos (by simp; omega)]; rfl
  simp [-g_addT, a1, a2, hu, e]
theorem be6b {a : Pw} (hl : v.l.length = n) (hn : n ≤ 30) (hr : r.length ≤ 29) : (eFrz (lLst (aCons (eOp gAdd (eTup (aCons (eTup (aCons (eC (.int 0)) (aCons (eOp gMul (eC (.str [73])) (oVar 2)) aNil))) aNil)) (eSlice (oVar 1) (oSome (eC (.int 1))) oNone)) (aCons (eOp gAdd (oVar 1) (eTup (aCons (eTup (aCons (eC (.int 0)) (aCons (eOp gAdd (eC (.str [90])) (eOp atD (oVar 3) (eC (.int 1)))) aNil))) aNil))) (aCons (eOp gAdd (oVar 1) (eTup (aCons (eVar 5) aNil))) (aCons (eOp gAdd (eTup (aCons (eVar 5) aNil)) (oVar 1)) aNil)))))) (bst n v r x4 (.val (pwD a)) x6) h = .ok (.lst [wsD (⟨0, ones n⟩ :: r), wsD ((v :: r) ++ [⟨0, .Z :: v.l⟩]), wsD ((v :: r) ++ [a]), wsD (a :: (v :: r))]) h := by
  have a1 : ∀ (h : Hs) (x : D), gAdd h (wsD (v :: r)) (.tup [x]) = some (.tup (pwD v :: (r.map pwD ++ [x]))) := fun h x => by
    rw [g_addT, if_pos (by simp; omega)]; rfl
  have a2 : ∀ (h : Hs) (x : D), gAdd h (.tup [x]) (.tup (r.map pwD)) = some (.tup (x :: r.map pwD)) := fun h x => by
    rw [g_addT, if_pos (by simp; omega)]; rfl
  have a3 : ∀ (h : Hs) (x : D), gAdd h (.tup [x]) (wsD (v :: r)) = some (.tup (x :: pwD v :: r.map pwD)) := fun h x => by
    rw [g_addT, if_pos (by simp; omega)]; rfl
  have a4 : gAdd h (.str [90]) (.str (cd v.l)) = some (.str (90 :: cd v.l)) := by
    rw [g_addS, if_pos (by simp; omega)]; rfl
  have e1 := g_mulI' (h := h) (n := n) (by omega)
  have e2 : cd (.Z :: v.l) = 90 :: cd v.l := rfl
  simp [-g_addT, -g_addS, a1, a2, a3, a4, e1, cd_ones, e2]
theorem be6c (hn : n ≤ 30) (hr : r.length ≤ 29) : (eFrz (lLst (aCons (eOp gAdd (eTup (aCons (eTup (aCons (eC (.bl true)) (aCons (eOp atD (oVar 3) (eC (.int 1))) aNil))) aNil)) (eSlice (oVar 1) (oSome (eC (.int 1))) oNone)) (aCons (eOp gAdd (eTup (aCons (eFrz (lListOf (aCons (oVar 3) aNil))) aNil)) (eSlice (oVar 1) (oSome (eC (.int 1))) oNone)) (aCons (eOp gAdd (eTup (aCons (eTup (aCons (eC (.int 0)) (aCons (eOp gMul (eC (.str [65])) (oVar 2)) aNil))) aNil)) (eSlice (oVar 1) (oSome (eC (.int 1))) oNone)) (aCons (eTup (aCons (eTup (aCons (eC (.int 0)) (aCons (eC (.str [])) aNil))) aNil)) (aCons (eTup (aCons (eOp atD (oVar 3) (eC (.int 1))) aNil)) aNil))))))) (bst n v r x4 x5 x6) h = .ok (.lst [.tup (.tup [.bl true, .str (cd v.l)] :: r.map pwD), .tup (.lst [.int v.e, .str (cd v.l)] :: r.map pwD), .tup (.tup [.int 0, .str (List.replicate n 65)] :: r.map pwD), .tup [.tup [.int 0, .str []]], .tup [.str (cd v.l)]]) h := by
  have a2 : ∀ (h : Hs) (x : D), gAdd h (.tup [x]) (.tup (r.map pwD)) = some (.tup (x :: r.map pwD)) := fun h x => by
    rw [g_addT, if_pos (by simp; omega)]; rfl
  have e1 : gMul h (.str [65]) (.int n) = some (.str (List.replicate n 65)) := by
    have e1 : gMul h (.str [65]) (.int n) = some (.str (List.replicate n [65]).flatten) := g_mulS (by omega) (by simp)
    rw [e1]; simp
  simp [-g_addT, a2, e1]
theorem beR {L : List D} {q : Nat} {d : D} {h' : Hs} (hL : L.length = 15) (e : fd [.ref 0, .int 15] h = .ok (.int q) h') (hd : L[q]? = some d) : sRet (eOp atD (oVar 6) (eFn 2 fd (aCons (eVar 0) (aCons (eCall gLen (aCons (oVar 6) aNil)) aNil)))) (bst n v r x4 x5 (.val (.lst L))) h = .rt d h' := by
  simp [hL, e, hd]
end
theorem bent_eq {fa ft fd : FD} : B_law_bent fa ft fd = sSeq (sAsg (tgTup [(tgName 2), (tgName 3)]) (eTup (aCons (eCall gLen (aCons (eOp atD (eOp atD (oVar 1) (eC (.int 0))) (eC (.int 1))) aNil)) (aCons (eOp atD (oVar 1) (eC (.int 0))) aNil))))
  (sSeq (sSet 4 (xVal (eOp atD (eFrz (lcL (iRange1 (aCons (eVar 2) aNil)) (tgName 7) (tB (eOp gNe (eOp atD (eOp atD (oVar 3) (eC (.int 1))) (oVar 7)) (eC (.str [73])))) (eVar 7) [7])) (eC (.int 0)))))
  (sSeq (sSet 5 (xVal (eFn 3 fa (aCons (eVar 2) (aCons (eVar 4) (aCons (eGetG K3 (eOp atD (eOp atD (oVar 3) (eC (.int 1))) (oVar 4))) aNil))))))
  (sSeq (sSet 6 (xVal (eFrz (lLst (aCons (eFrz (lListOf (aCons (oVar 1) aNil))) (aCons (eTup aNil) (aCons (eOp gAdd (oVar 1) (eTup (aCons (eVar 3) aNil))) (aCons (eOp gAdd (oVar 1) (eTup (aCons (eFn 2 ft (aCons (eVar 3) (aCons (eOp atD (oVar 1) (eNeg (eC (.int 1)))) aNil))) aNil))) (aCons (eOp gAdd (eTup (aCons (eTup (aCons (eC (.int 1)) (aCons (eOp atD (oVar 3) (eC (.int 1))) aNil))) aNil)) (eSlice (oVar 1) (oSome (eC (.int 1))) oNone)) (aCons (eC .non) aNil))))))))))
  (sSeq (sSet 6 (xVal (eOp gAdd (oVar 6) (eFrz (lLst (aCons (eOp gAdd (eTup (aCons (eTup (aCons (eC (.int 0)) (aCons (eOp gMul (eC (.str [73])) (oVar 2)) aNil))) aNil)) (eSlice (oVar 1) (oSome (eC (.int 1))) oNone)) (aCons (eOp gAdd (oVar 1) (eTup (aCons (eTup (aCons (eC (.int 0)) (aCons (eOp gAdd (eC (.str [90])) (eOp atD (oVar 3) (eC (.int 1)))) aNil))) aNil))) (aCons (eOp gAdd (oVar 1) (eTup (aCons (eVar 5) aNil))) (aCons (eOp gAdd (eTup (aCons (eVar 5) aNil)) (oVar 1)) aNil)))))))))
  (sSeq (sSet 6 (xVal (eOp gAdd (oVar 6) (eFrz (lLst (aCons (eOp gAdd (eTup (aCons (eTup (aCons (eC (.bl true)) (aCons (eOp atD (oVar 3) (eC (.int 1))) aNil))) aNil)) (eSlice (oVar 1) (oSome (eC (.int 1))) oNone)) (aCons (eOp gAdd (eTup (aCons (eFrz (lListOf (aCons (oVar 3) aNil))) aNil)) (eSlice (oVar 1) (oSome (eC (.int 1))) oNone)) (aCons (eOp gAdd (eTup (aCons (eTup (aCons (eC (.int 0)) (aCons (eOp gMul (eC (.str [65])) (oVar 2)) aNil))) aNil)) (eSlice (oVar 1) (oSome (eC (.int 1))) oNone)) (aCons (eTup (aCons (eTup (aCons (eC (.int 0)) (aCons (eC (.str [])) aNil))) aNil)) (aCons (eTup (aCons (eOp atD (oVar 3) (eC (.int 1))) aNil)) aNil))))))))))
  (sRet (eOp atD (oVar 6) (eFn 2 fd (aCons (eVar 0) (aCons (eCall gLen (aCons (oVar 6) aNil)) aNil))))))))))  := by
  unfold B_law_bent K3
  rfl
theorem bent_ok {fa ft fd : FD} (ha : FAt fa) (ht : FTimes ft) (hd : FDraw fd) : FBent (defF 8 (B_law_bent fa ft fd)) := fun n ws k s T C n29 o => by
  obtain ⟨v, r, rfl, hl⟩ := C.hd
  have n1 := C.n1
  have n2 := C.n2
  have l30 := C.len
  have lr : r.length ≤ 29 := by simpa using l30
  obtain ⟨F, hF⟩ : ∃ F, F = (List.range n).filter fun i => v.l.getD i .I != .I := ⟨_, rfl⟩
  have hFne : F ≠ [] := by
    intro z
    rw [hF, List.filter_eq_nil_iff] at z
    have e : v.l = ones n := by
      apply List.ext_getElem (by simp [ones, hl])
      intro i h1 h2
      have := z i (by simp; omega)
      rw [getD_of h1] at this
      have e2 : (ones n)[i] = .I := by simp [ones]
      rw [e2]
      simpa using this
    have hm : sg v.l ∈ rowsOf (v :: r) := List.mem_map.mpr ⟨v, List.mem_cons_self .., rfl⟩
    have := C.ind (true :: List.replicate r.length false) (by simp) (by
        show (sg v.l) ^^^ comb (List.replicate r.length false) (r.map fun w => sg w.l) = 0
        have := comb_zero (rowsOf r)
        simp only [List.length_map] at this
        rw [e, sg_ones, this]
        rfl) true (List.mem_cons_self ..)
    cases this
  obtain ⟨p, F', eF⟩ := List.exists_cons_of_ne_nil hFne
  have hp0 : F[0]? = some p := by rw [eF]; rfl
  have hpm : p ∈ F := by rw [eF]; exact List.mem_cons_self ..
  rw [hF, List.mem_filter] at hpm
  have hp : p < n := by simpa using hpm.1
  have hpv : v.l[p]? = some v.l[p] := List.getElem?_eq_getElem (by omega)
  have hne : v.l[p] ≠ .I := by
    have := hpm.2
    rw [getD_of (by omega)] at this
    simpa using this
  obtain ⟨c, hk, han⟩ := k3_ok hne
  obtain ⟨u, hu⟩ : ∃ u, (v :: r)[(v :: r).length - 1]? = some u := ⟨_, List.getElem?_eq_getElem (by simp)⟩
  have hum := List.mem_of_getElem? hu
  have uu := (C.sys.up u hum).len
  obtain ⟨g, et⟩ := ht v u (s.ob :: T) (by rw [hl, uu]) (by omega)
  have hlast : atI (pwD v :: r.map pwD) (-1) = some (pwD u) := by
    rw [at_neg1 (by simp)]
    have : ((v :: r).map pwD)[(v :: r).length - 1]? = some (pwD u) := by rw [List.getElem?_map, hu]; rfl
    simpa using this
  obtain ⟨q, s', f1, hq, o'⟩ := hd k 15 s (T ++ g) o (by omega) (by omega)
  have f1 : fd [.ref 0, .int 15] (s.ob :: (T ++ g)) = .ok (.int q) (s'.ob :: (T ++ g)) := f1
  have bl : (bentL n p c v r u).length = 15 := rfl
  obtain ⟨d, hd⟩ : ∃ d, (bentL n p c v r u)[q]? = some d := ⟨_, List.getElem?_eq_getElem (by rw [bl]; exact hq)⟩
  have B : BentW n p c v r := ⟨C, n29, hp, by rw [getD_of (by omega)]; exact han⟩
  refine ⟨d, s', T ++ g, ?_, bent_no B hum d (List.mem_of_getElem? hd), o'⟩
  refine defF_rt (σ := [.val (.ref 0), .val (wsD (v :: r)), .no, .no, .no, .no, .no, .no]) rfl ?_
  rw [bent_eq]
  have a5 := ha n p c (s.ob :: T) hp n2
  refine sSeq_nx (be23 hl n2) (sSeq_nx (be4 hl n2 hF hp0) (sSeq_nx (be5 hl n2 hpv hk a5) (sSeq_nx (be6a lr hlast et) ?_)))
  refine sSeq_nx (addAsg rfl (be6b hl n2 lr) (by simp) rfl) ?_
  refine sSeq_nx (addAsg rfl (be6c n2 lr) (by simp) rfl) ?_
  exact beR bl f1 hd
end WC
set_option Elab.async false
set_option linter.all false
set_option maxRecDepth 100000
namespace WC
open PySem PySem.Spec PyProof.Rows L2 QC
section
variable {σ : Sg} {h h1 h2 h3 h4 : Hs} {m a b c e : EM} {x y z w d : D} {f : FD}
theorem set_ok {i : Nat} (hm : m σ h = .ok d h1) (hp : plAt σ i = true) : sSet i (xVal m) σ h = .nx (σ.set i (.val d)) h1 := by
  rw [e_sSet, e_xVal, hm, R.bind_ok, e_eDo_ok, setS_if, if_pos hp]
theorem ifNot_ok {t : SM} (hm : m σ h = .ok (.bl true) h1) : sIf (tNot (tB m)) t sNil σ h = .nx σ h1 := by
  rw [e_sIf, e_tNot, e_tB, hm]
  rfl
theorem ifOr_ok {t : SM} (ha : a σ h = .ok (.bl true) h1) (hb : b σ h1 = .ok (.bl true) h2) : sIf (tOr (tNot (tB a)) (tNot (tB b))) t sNil σ h = .nx σ h2 := by
  rw [e_sIf, e_tOr, e_tNot, e_tB, ha]
  show eDo (tNot (tB b) σ h1) _ = _
  rw [e_tNot, e_tB, hb]
  rfl
theorem fn1 (ha : a σ h = .ok x h1) (e : f [x] h1 = .ok y h2) : eFn 1 f (aCons a aNil) σ h = .ok y h2 := by
  rw [e_eFn, e_aCons, ha, R.bind_ok, e_aNil, R.bind_ok, R.bind_ok]
  exact e
theorem fn2 (ha : a σ h = .ok x h1) (hb : b σ h1 = .ok y h2) (e : f [x, y] h2 = .ok z h3) : eFn 2 f (aCons a (aCons b aNil)) σ h = .ok z h3 := by
  rw [e_eFn, e_aCons, ha, R.bind_ok, e_aCons, hb, R.bind_ok, e_aNil, R.bind_ok, R.bind_ok, R.bind_ok]
  exact e
theorem fn3 (ha : a σ h = .ok x h1) (hb : b σ h1 = .ok y h2) (hc : c σ h2 = .ok z h3) (e : f [x, y, z] h3 = .ok w h4) : eFn 3 f (aCons a (aCons b (aCons c aNil))) σ h = .ok w h4 := by
  rw [e_eFn, e_aCons, ha, R.bind_ok, e_aCons, hb, R.bind_ok, e_aCons, hc, R.bind_ok, e_aNil, R.bind_ok, R.bind_ok, R.bind_ok, R.bind_ok]
  exact e
theorem fk1 (ha : a σ h = .ok x h1) (e : f [x] h1 = .ok y h2) : eFnK 1 0 1 [0] f aNil (aCons a aNil) σ h = .ok y h2 := by
  rw [e_eFnK, e_aNil, R.bind_ok, e_aCons, ha, R.bind_ok, e_aNil, R.bind_ok, R.bind_ok]
  exact e
theorem fk2 (ha : a σ h = .ok x h1) (hb : b σ h1 = .ok y h2) (e : f [y, x] h2 = .ok z h3) : eFnK 2 0 2 [1, 0] f aNil (aCons a (aCons b aNil)) σ h = .ok z h3 := by
  rw [e_eFnK, e_aNil, R.bind_ok, e_aCons, ha, R.bind_ok, e_aCons, hb, R.bind_ok, e_aNil, R.bind_ok, R.bind_ok, R.bind_ok]
  exact e
theorem ls2' (ha : a σ h = .ok x h1) (hb : b σ h1 = .ok y h2) : eFrz (lLst (aCons a (aCons b aNil))) σ h = .ok (.lst [x, y]) h2 := by
  rw [e_eFrz, e_lLst, e_aCons, ha, R.bind_ok, e_aCons, hb, R.bind_ok, e_aNil, R.bind_ok, R.bind_ok, R.bind_ok]
  rfl
theorem ls3' (ha : a σ h = .ok x h1) (hb : b σ h1 = .ok y h2) (hc : c σ h2 = .ok z h3) : eFrz (lLst (aCons a (aCons b (aCons c aNil)))) σ h = .ok (.lst [x, y, z]) h3 := by
  rw [e_eFrz, e_lLst, e_aCons, ha, R.bind_ok, e_aCons, hb, R.bind_ok, e_aCons, hc, R.bind_ok, e_aNil, R.bind_ok, R.bind_ok, R.bind_ok, R.bind_ok]
  rfl
theorem ls4' (ha : a σ h = .ok x h1) (hb : b σ h1 = .ok y h2) (hc : c σ h2 = .ok z h3) (he : e σ h3 = .ok w h4) : eFrz (lLst (aCons a (aCons b (aCons c (aCons e aNil))))) σ h = .ok (.lst [x, y, z, w]) h4 := by
  rw [e_eFrz, e_lLst, e_aCons, ha, R.bind_ok, e_aCons, hb, R.bind_ok, e_aCons, hc, R.bind_ok, e_aCons, he, R.bind_ok, e_aNil, R.bind_ok, R.bind_ok, R.bind_ok, R.bind_ok, R.bind_ok]
  rfl
theorem tup2_ok (ha : a σ h = .ok x h1) (hb : b σ h1 = .ok y h2) : eTup (aCons a (aCons b aNil)) σ h = .ok (.tup [x, y]) h2 := by
  rw [e_eTup, e_aCons, ha, R.bind_ok, e_aCons, hb, R.bind_ok, e_aNil, R.bind_ok, R.bind_ok, R.bind_ok]
  rfl
theorem par2_ok {i j : Nat} (ha : a σ h = .ok x h1) (hb : b σ h1 = .ok y h2) (hp : plAt σ i = true) (hq : plAt (σ.set i (.val x)) j = true) : sPar2 i j (xsCons (xVal a) (xsCons (xVal b) xsNil)) σ h = .nx ((σ.set i (.val x)).set j (.val y)) h2 := by
  rw [e_sPar2, e_xsCons, e_xVal, ha, R.bind_ok, R.bind_ok, e_xsCons, e_xVal, hb, R.bind_ok, R.bind_ok, e_xsNil, R.bind_ok, R.bind_ok, e_eDo_ok]
  show optS ((setS σ i (.val x)).bind fun σ1 => setS σ1 j (.val y)) h2 = _
  rw [setS_if, if_pos hp, Option.bind_some, setS_if, if_pos hq]
  rfl
theorem addI_ok {i j : Int} (ha : a σ h = .ok (.int i) h1) (hb : b σ h1 = .ok (.int j) h2) : eOp gAdd a b σ h = .ok (.int (i + j)) h2 := by
  rw [e_eOp, ha, R.bind_ok, hb, R.bind_ok]
  rfl
end
abbrev FLike (f : FD) : Prop := ∀ (x : D) (h : Hs), lk 5 x = true → f [x, x] h = .ok (.bl true) h
abbrev FSameGrp (f : FD) : Prop := ∀ (n : Nat) (L G : List Pw) (h : Hs), L ≠ [] → L.length ≤ 20 → n ≤ 30 → (∀ w ∈ L, w.l.length = n) → G.length = (grp n L).length → (∀ g ∈ G, g ∈ grp n L) → ∃ g, f [wsD L, .lst (G.map pwD)] h = .ok (.bl true) (h ++ g)
theorem sameGrp_ok {f : FD} (hf : FGroup f) : FSameGrp (defF 4 (B_law_same_group f)) := fun n L G h ne hl hn hw hG hm => by
  have h2 : (grp n L).length ≤ 2 ^ 20 := by rw [grp_len]; exact Nat.pow_le_pow_right (by decide) hl
  obtain ⟨g, e⟩ := lsame_ok hf (G := G) h ne hl hn hw (by rw [hG]; exact h2)
  refine ⟨g, ?_⟩
  rw [e]
  have e1 : decide ((grp n L).length = G.length) = true := decide_eq_true hG.symm
  have e2 : G.filter (fun w => !decide (w ∈ grp n L)) = [] := by
    rw [List.filter_eq_nil_iff]
    intro w hw'
    simp [hm w hw']
  rw [e1, e2]
  rfl
theorem lk_pw (n : Nat) (w : Pw) : lk (n + 1) (pwD w) = true := by simp [pwD, lk, lks]
theorem lk_ws (n : Nat) {ws : List Pw} (hl : ws.length ≤ 1000) : lk (n + 2) (wsD ws) = true := by
  have := lks_map (n := n + 1) (xs := ws) (c := pwD) fun w _ => lk_pw n w
  show (decide ((ws.map pwD).length ≤ 1000000) && lks (n + 1) (ws.map pwD)) = true
  rw [this, List.length_map, decide_eq_true (by omega)]
  rfl
structure LawF (fd fcode fmix fpau fis fbent flike fmeets fsyn fcr fare fsame fgroup fsc fisr : FD) : Prop where
  d : FDraw fd
  code : FCode fcode
  mix : FMixed fmix
  pau : FPauli fpau
  is : FGrp fis
  bent : FBent fbent
  like : FLike flike
  meets : FMeets fmeets
  syn : FSyn fsyn
  cr : FCR fcr
  are : FAre fare
  same : FSameGrp fsame
  group : FGroup fgroup
  sc : FSame fsc
  isr : FIsR fisr
abbrev lw (d0 : D) (x2 x3 x4 x5 x6 x7 x8 x9 x10 x11 : Sl) : Sg := [.val d0, .val (.ref 0), x2, x3, x4, x5, x6, x7, x8, x9, x10, x11, .no]
theorem syn_ok2 {fm : FD} (hm : FMeets fm) {d0 : D} {x2 x3 x5 x7 x8 x9 x10 x11 : Sl} {n : Nat} {ws : List Pw} {p : Pw} {h : Hs} (C : Cd n ws) (hp : p.l.length = n) : (eMeth .str gJoin (eC (.str [])) (aCons (eFrz (lcL (iVal (oVar 4)) (tgName 12) tYesM (eIf (tB (eFn 2 fm (aCons (eVar 12) (aCons (eVar 6) aNil)))) (eC (.str [48])) (eC (.str [49]))) [12])) aNil)) (lw d0 x2 x3 (.val (wsD ws)) x5 (.val (pwD p)) x7 x8 x9 x10 x11) h = .ok (.str (syn ws p)) h := by
  have l := C.len
  have n2 := C.n2
  have key := lc_typed (m := iVal (oVar 4)) (t := tgName 12) (vs := [12]) (te := (eIf (tB (eFn 2 fm (aCons (eVar 12) (aCons (eVar 6) aNil)))) (eC (.str [48])) (eC (.str [49])))) (σ := lw d0 x2 x3 (.val (wsD ws)) x5 (.val (pwD p)) x7 x8 x9 x10 x11) (h := h) ws pwD (fun w => .str [if lanti w.l p.l then 49 else 48]) (by simp) (by omega) fun w hw => ⟨_, rfl, by
    have hwl := (C.sys.up w hw).len
    have q := hm w p h (by rw [hwl, hp]) (by omega)
    have e1 : (eFn 2 fm (aCons (eVar 12) (aCons (eVar 6) aNil))) ((wipeS (lw d0 x2 x3 (.val (wsD ws)) x5 (.val (pwD p)) x7 x8 x9 x10 x11) [12]).set 12 (.val (pwD w))) h = _ := fn2 (x := pwD w) (y := pwD p) (h1 := h) (h2 := h) rfl rfl q
    rw [e_eIf, e_tB, e1]
    cases lanti w.l p.l <;> rfl⟩
  exact syn_join ws p (by omega) (by rw [e_eFrz, key, R.bind_ok])
theorem turn_ok2 {d0 : D} {x2 x3 x4 x6 x7 x8 x9 x11 : Sl} {n d : Nat} {vs : List Pw} {x : Pw} {h : Hs} (hl : vs.length ≤ 30) (hd : vs[d]? = some x) : (eOp gAdd (eOp gAdd (eSlice (oVar 5) oNone (oSome (eVar 10))) (eTup (aCons (eTup (aCons (eOp gMod (eCall gIntA (aCons (eOp gAdd (eOp atD (eOp atD (oVar 5) (oVar 10)) (eC (.int 0))) (eC (.int 2))) aNil)) (eC (.int 4))) (aCons (eOp atD (eOp atD (oVar 5) (oVar 10)) (eC (.int 1))) aNil))) aNil))) (eSlice (oVar 5) (oSome (eOp gAdd (oVar 10) (eC (.int 1)))) oNone)) (lw d0 x2 x3 x4 (.val (wsD vs)) x6 x7 x8 x9 (.val (.int d)) x11) h = .ok (wsD (vs.set d (neg x))) h := by
  have hlt := (List.getElem?_eq_some_iff.mp hd).1
  have e1 : (vs.map pwD)[d]? = some (pwD x) := by rw [List.getElem?_map, hd]; rfl
  have m4 : gMod h (.int ((x.e : Int) + 2)) (.int 4) = some (.int (((x.e + 2) % 4 : Nat) : Int)) := by
    rw [g_mod (by decide)]
    rfl
  have e2 : wsD (vs.set d (neg x)) = .tup ((vs.map pwD).take d ++ [pwD (neg x)] ++ (vs.map pwD).drop (d + 1)) := by
    show D.tup ((vs.set d (neg x)).map pwD) = _
    rw [List.set_eq_take_append_cons_drop, if_pos hlt, List.map_append, List.map_cons, List.map_take, List.map_drop, List.append_assoc]
    rfl
  rw [e2]
  have hW : (vs.map pwD).length ≤ 30 := by simpa using hl
  show (eOp gAdd _ _) [.val d0, .val (.ref 0), x2, x3, x4, .val (.tup (vs.map pwD)), x6, x7, x8, x9, .val (.int d), x11, .no] h = _
  generalize vs.map pwD = W at *
  obtain ⟨hlW, e1'⟩ := List.getElem?_eq_some_iff.mp e1
  have c1 : cutL W none (some (d : Int)) = W.take d := cut_to W d
  have c2 : cutL W (some ((d : Int) + 1)) none = W.drop (d + 1) := cut_fromS W d
  have g1 : ∀ u : D, gAdd h (.tup (W.take d)) (.tup [u]) = some (.tup (W.take d ++ [u])) := fun u => by rw [g_addT, if_pos (by simp; omega)]
  have g2 : ∀ u : D, gAdd h (.tup (W.take d ++ [u])) (.tup (W.drop (d + 1))) = some (.tup (W.take d ++ [u] ++ W.drop (d + 1))) := fun u => by rw [g_addT, if_pos (by simp; omega)]
  simp [-g_addT, c1, c2, g1, hlW, e1', m4, neg]
  rw [g2]
  simp [pwD]
end WC
set_option Elab.async false
set_option linter.all false
set_option maxRecDepth 100000
namespace WC
open PySem PySem.Spec PyProof.Rows L2 QC
def lawB (fd fcode fmix fpau fis fbent flike fmeets fsyn fcr fare fsame fgroup fsc fisr : FD) : SM := (sSeq (sSet 3 (xVal (eOp gAdd (eC (.int 1)) (eFn 2 fd (aCons (eVar 1) (aCons (eC (.int 5)) aNil))))))
  (sSeq (sSet 4 (xVal (eFn 3 fcode (aCons (eVar 1) (aCons (eVar 3) (aCons (eOp gAdd (eC (.int 1)) (eFn 2 fd (aCons (eVar 1) (aCons (eVar 3) aNil)))) aNil))))))
  (sSeq (sAsg (tgTup [(tgName 5), (tgName 6)]) (eTup (aCons (eFn 2 fmix (aCons (eVar 1) (aCons (eVar 4) aNil))) (aCons (eFn 2 fpau (aCons (eVar 1) (aCons (eVar 3) aNil))) aNil))))
  (sSeq (sSet 7 (xVal (eFrz (lLst (aCons (eFn 1 fis (aCons (eVar 4) aNil)) (aCons (eFnK 1 0 1 [0] fis aNil (aCons (eVar 5) aNil)) (aCons (eFn 1 fis (aCons (eFn 2 fbent (aCons (eVar 1) (aCons (eVar 4) aNil))) aNil)) aNil)))))))
  (sSeq (sIf (tNot (tB (eFn 2 flike (aCons (eVar 7) (aCons (eFrz (lLst (aCons (eC (.bl true)) (aCons (eC (.bl true)) (aCons (eC (.bl false)) aNil))))) aNil)))))
  (sRet (eC (.bl false)))
  sNil)
  (sSeq (sSet 8 (xVal (eMeth .str gJoin (eC (.str [])) (aCons (eFrz (lcL (iVal (oVar 4)) (tgName 12) tYesM (eIf (tB (eFn 2 fmeets (aCons (eVar 12) (aCons (eVar 6) aNil)))) (eC (.str [48])) (eC (.str [49]))) [12])) aNil))))
  (sSeq (sIf (tNot (tB (eFn 2 flike (aCons (eFrz (lLst (aCons (eFn 2 fsyn (aCons (eVar 4) (aCons (eVar 6) aNil))) (aCons (eFnK 2 0 2 [1, 0] fsyn aNil (aCons (eVar 6) (aCons (eVar 4) aNil))) aNil)))) (aCons (eFrz (lLst (aCons (eVar 8) (aCons (eVar 8) aNil)))) aNil)))))
  (sRet (eC (.bl false)))
  sNil)
  (sSeq (sPar2 9 10 (xsCons (xVal (eFn 1 fcr (aCons (eVar 4) aNil))) (xsCons (xVal (eFn 2 fd (aCons (eVar 1) (aCons (eCall gLen (aCons (oVar 4) aNil)) aNil)))) xsNil)))
  (sSeq (sIf (tOr (tNot (tB (eFn 3 fare (aCons (eVar 9) (aCons (eVar 3) (aCons (eCall gLen (aCons (oVar 4) aNil)) aNil)))))) (tNot (tB (eFn 2 fsame (aCons (eVar 9) (aCons (eFn 1 fgroup (aCons (eVar 4) aNil)) aNil))))))
  (sRet (eC (.bl false)))
  sNil)
  (sSeq (sSet 11 (xVal (eOp gAdd (eOp gAdd (eSlice (oVar 5) oNone (oSome (eVar 10))) (eTup (aCons (eTup (aCons (eOp gMod (eCall gIntA (aCons (eOp gAdd (eOp atD (eOp atD (oVar 5) (oVar 10)) (eC (.int 0))) (eC (.int 2))) aNil)) (eC (.int 4))) (aCons (eOp atD (eOp atD (oVar 5) (oVar 10)) (eC (.int 1))) aNil))) aNil))) (eSlice (oVar 5) (oSome (eOp gAdd (oVar 10) (eC (.int 1)))) oNone))))
  (sSeq (sSet 7 (xVal (eFrz (lLst (aCons (eFnK 1 0 1 [0] fcr aNil (aCons (eVar 5) aNil)) (aCons (eFn 2 fsc (aCons (eVar 4) (aCons (eVar 5) aNil))) (aCons (eFnK 2 0 2 [1, 0] fsc aNil (aCons (eVar 11) (aCons (eVar 4) aNil))) (aCons (eFn 2 fsc (aCons (eVar 9) (aCons (eVar 4) aNil))) aNil))))))))
  (sIf (tOr (tNot (tB (eFn 1 fisr (aCons (eVar 9) aNil)))) (tNot (tB (eFn 2 flike (aCons (eVar 7) (aCons (eFrz (lLst (aCons (eVar 9) (aCons (eC (.bl true)) (aCons (eC (.bl false)) (aCons (eC (.bl true)) aNil)))))) aNil))))))
  (sRet (eC (.bl false)))
  sNil))))))))))))
theorem law_eq {fd fcode fmix fpau fis fbent flike fmeets fsyn fcr fare fsame fgroup fsc fisr : FD} : B_law fd fcode fmix fpau fis fbent flike fmeets fsyn fcr fare fsame fgroup fsc fisr = sSeq (sSet 1 (xHeap (lLst (aCons (eC (.int 0)) (aCons (eC (.int 83)) (aCons (eC (.int 0)) (aCons (eC (.int 0)) (aCons (eFrz (lListOf (aCons (oVar 0) aNil))) aNil)))))))) (sSeq (sFor (iRange1 (aCons (eC (.int 2)) aNil)) (tgName 2) (lawB fd fcode fmix fpau fis fbent flike fmeets fsyn fcr fare fsame fgroup fsc fisr)) (sRet (eC (.bl true)))) := by
  unfold B_law lawB
  rfl
theorem law_turn {fd fcode fmix fpau fis fbent flike fmeets fsyn fcr fare fsame fgroup fsc fisr : FD} (F : LawF fd fcode fmix fpau fis fbent flike fmeets fsyn fcr fare fsame fgroup fsc fisr) {d0 : D} {x2 x3 x4 x5 x6 x7 x8 x9 x10 x11 : Sl} (p3 : x3.plain = true) (p4 : x4.plain = true) (p5 : x5.plain = true) (p6 : x6.plain = true) (p7 : x7.plain = true) (p8 : x8.plain = true) (p9 : x9.plain = true) (p10 : x10.plain = true) (p11 : x11.plain = true) {k : Nat} {s : St} {T : Hs} (o : s.Ok (k + 400)) :
    ∃ (y3 y4 y5 y6 y7 y8 y9 y10 y11 : D) (s' : St) (T' : Hs), lawB fd fcode fmix fpau fis fbent flike fmeets fsyn fcr fare fsame fgroup fsc fisr (lw d0 x2 x3 x4 x5 x6 x7 x8 x9 x10 x11) (s.ob :: T) = .nx (lw d0 x2 (.val y3) (.val y4) (.val y5) (.val y6) (.val y7) (.val y8) (.val y9) (.val y10) (.val y11)) (s'.ob :: T') ∧ s'.Ok k := by
  obtain ⟨q, s1, f1, hq, o1⟩ := F.d (k + 399) 5 s T o (by omega) (by omega)
  have f1 : fd [.ref 0, .int 5] (s.ob :: T) = .ok (.int q) (s1.ob :: T) := f1
  obtain ⟨n, hn⟩ : ∃ n, n = 1 + q := ⟨_, rfl⟩
  have hn' : (1 : Int) + q = n := by omega
  obtain ⟨q2, s2, f2, hq2, o2⟩ := F.d (k + 398) n s1 T o1 (by omega) (by omega)
  obtain ⟨m, hm⟩ : ∃ m, m = 1 + q2 := ⟨_, rfl⟩
  have hm' : (1 : Int) + q2 = m := by omega
  obtain ⟨ws, s3, T3, f3, C, hlen, o3⟩ := F.code n m (k + 198) s2 T (by omega) (by omega) (by omega) (by exact o2)
  obtain ⟨vs, s4, T4, f4, Cv, Gv, lv, o4⟩ := F.mix n ws (k + 100) s3 T3 (wsD ws) C (.inl rfl) (o3.mono (by omega))
  obtain ⟨p, s5, f5, hp, hpe, o5⟩ := F.pau n (k + 60) s4 T4 (by omega) (o4.mono (by omega))
  obtain ⟨bd, s6, T6, f6, nob, o6⟩ := F.bent n ws (k + 50) s5 T4 C (by omega) (o5.mono (by omega))
  obtain ⟨d, s7, f7, hd, o7⟩ := F.d k ws.length s6 T6 (o6.mono (by omega)) (by omega) (by omega)
  obtain ⟨CR, GR, lR⟩ := red_cd C
  have hdv : vs[d]? = some vs[d] := List.getElem?_eq_getElem (by omega)
  have CT := neg_cd Cv hdv
  have lwn : ∀ w ∈ ws, w.l.length = n := fun w hw => (C.sys.up w hw).len
  obtain ⟨g1, f8⟩ := F.group n ws (s7.ob :: T6) C.ne (by omega) (by omega) lwn
  obtain ⟨g2, f9⟩ := F.same n (redW n ws) (grp n ws) (s7.ob :: T6 ++ g1) CR.ne (by omega) (by omega) (fun w hw => (CR.sys.up w hw).len) (by rw [grp_len, grp_len, lR]) (fun g hg => by
    rw [mem_grp C.sys] at hg
    rw [mem_grp CR.sys]
    exact (GR g).mpr hg)
  have R := redW_ok C.sys
  obtain ⟨g3, f10⟩ := F.isr n (redW n ws) (s7.ob :: T6 ++ g1 ++ g2) (by omega) (by omega) (fun w hw => (CR.sys.up w hw).len) R.rr R.st
  have are := F.are n (redW n ws) (s7.ob :: T6) (by omega) (by omega) CR.sys.up
  rw [lR] at are
  have e1 : redW n ws = redW n vs := red_eq C Cv Gv.symm
  have e2 : redW n (redW n ws) = redW n ws := red_eq CR C GR
  have e3 : redW n ws ≠ redW n (vs.set d (neg vs[d])) := neg_ne C Cv Gv.symm hdv
  have lk3 : lk 5 (.lst [.bl true, .bl true, .bl false]) = true := rfl
  have lkS : lk 5 (.lst [.str (syn ws p), .str (syn ws p)]) = true := rfl
  have lkR : lk 5 (.lst [wsD (redW n ws), .bl true, .bl false, .bl true]) = true := by
    have := lk_ws 2 (ws := redW n ws) (by omega)
    show (decide (4 ≤ 1000000) && (lk 4 (wsD (redW n ws)) && _)) = true
    rw [this]
    rfl
  refine ⟨.int n, wsD ws, wsD vs, pwD p, .lst [wsD (redW n ws), .bl true, .bl false, .bl true], .str (syn ws p), wsD (redW n ws), .int d, wsD (vs.set d (neg vs[d])), s7, T6 ++ g1 ++ g2 ++ g3, ?_, o7⟩
  unfold lawB
  -- n
  refine sSeq_nx (set_ok (d := .int n) (h1 := s1.ob :: T) ?_ p3) ?_
  · have := addI_ok (a := eC (.int 1)) (b := eFn 2 fd (aCons (eVar 1) (aCons (eC (.int 5)) aNil))) (σ := lw d0 x2 x3 x4 x5 x6 x7 x8 x9 x10 x11) (h := s.ob :: T) (i := 1) (j := q) rfl (fn2 (x := .ref 0) (y := .int 5) rfl rfl f1)
    rw [hn'] at this
    exact this
  -- the code
  refine sSeq_nx (set_ok (d := wsD ws) (h1 := s3.ob :: T3) ?_ p4) ?_
  · have := addI_ok (a := eC (.int 1)) (b := eFn 2 fd (aCons (eVar 1) (aCons (eVar 3) aNil))) (σ := lw d0 x2 (.val (.int n)) x4 x5 x6 x7 x8 x9 x10 x11) (h := s1.ob :: T) (i := 1) (j := q2) rfl (fn2 (x := .ref 0) (y := .int n) rfl rfl f2)
    rw [hm'] at this
    exact fn3 (x := .ref 0) (y := .int n) rfl rfl this f3
  -- mixed, a word
  refine sSeq_nx (σ' := lw d0 x2 (.val (.int n)) (.val (wsD ws)) (.val (wsD vs)) (.val (pwD p)) x7 x8 x9 x10 x11) (h' := s5.ob :: T4) ?_ ?_
  · have := tup2_ok (σ := lw d0 x2 (.val (.int n)) (.val (wsD ws)) x5 x6 x7 x8 x9 x10 x11) (fn2 (a := eVar 1) (b := eVar 4) (x := .ref 0) (y := wsD ws) rfl rfl f4) (fn2 (a := eVar 1) (b := eVar 3) (x := .ref 0) (y := .int n) rfl rfl f5)
    show sAsg _ _ (lw d0 x2 (.val (.int n)) (.val (wsD ws)) x5 x6 x7 x8 x9 x10 x11) _ = _
    rw [e_sAsg, this]
    simp [p5, p6]
  refine sSeq_nx (set_ok (d := .lst [.bl true, .bl true, .bl false]) (h1 := s6.ob :: T6) (ls3' (h1 := s5.ob :: T4) (h2 := s5.ob :: T4) (fn1 (x := wsD ws) rfl (F.is.code C)) (fk1 (x := wsD vs) rfl (F.is.code Cv)) (fn1 (x := bd) (h1 := s6.ob :: T6) (fn2 (x := .ref 0) (y := wsD ws) rfl rfl f6) (nob fis F.is _))) p7) ?_
  refine sSeq_nx (ifNot_ok (h1 := s6.ob :: T6) (fn2 (x := .lst [.bl true, .bl true, .bl false]) (y := .lst [.bl true, .bl true, .bl false]) (h1 := s6.ob :: T6) (h2 := s6.ob :: T6) rfl rfl (F.like _ _ lk3))) ?_
  refine sSeq_nx (set_ok (d := .str (syn ws p)) (h1 := s6.ob :: T6) (syn_ok2 F.meets C hp) p8) ?_
  refine sSeq_nx (ifNot_ok (h1 := s6.ob :: T6) (fn2 (x := .lst [.str (syn ws p), .str (syn ws p)]) (y := .lst [.str (syn ws p), .str (syn ws p)]) (h1 := s6.ob :: T6) (h2 := s6.ob :: T6) (ls2' (h1 := s6.ob :: T6) (fn2 (x := wsD ws) (y := pwD p) rfl rfl (F.syn n ws p _ C hp hpe)) (fk2 (x := pwD p) (y := wsD ws) rfl rfl (F.syn n ws p _ C hp hpe))) rfl (F.like _ _ lkS))) ?_
  refine sSeq_nx (par2_ok (x := wsD (redW n ws)) (y := .int d) (h1 := s6.ob :: T6) (h2 := s7.ob :: T6) (fn1 (x := wsD ws) rfl (F.cr n ws _ C)) (fn2 (x := .ref 0) (y := .int ws.length) (h1 := s6.ob :: T6) (h2 := s6.ob :: T6) rfl ?_ f7) p9 p10) ?_
  · show (eCall gLen (aCons (oVar 4) aNil)) (lw d0 x2 (.val (.int n)) (.val (wsD ws)) (.val (wsD vs)) (.val (pwD p)) (.val (.lst [.bl true, .bl true, .bl false])) (.val (.str (syn ws p))) x9 x10 x11) _ = _
    simp
  refine sSeq_nx (ifOr_ok (h1 := s7.ob :: T6) (h2 := s7.ob :: T6 ++ g1 ++ g2) (fn3 (x := wsD (redW n ws)) (y := .int n) (z := .int ws.length) (h1 := s7.ob :: T6) (h2 := s7.ob :: T6) (h3 := s7.ob :: T6) rfl rfl ?_ are) (fn2 (x := wsD (redW n ws)) (y := .lst ((grp n ws).map pwD)) (h1 := s7.ob :: T6) (h2 := s7.ob :: T6 ++ g1) rfl (fn1 (x := wsD ws) rfl f8) f9)) ?_
  · show (eCall gLen (aCons (oVar 4) aNil)) (lw d0 x2 (.val (.int n)) (.val (wsD ws)) (.val (wsD vs)) (.val (pwD p)) (.val (.lst [.bl true, .bl true, .bl false])) (.val (.str (syn ws p))) (.val (wsD (redW n ws))) (.val (.int d)) x11) _ = _
    simp
  refine sSeq_nx (set_ok (d := wsD (vs.set d (neg vs[d]))) (h1 := s7.ob :: T6 ++ g1 ++ g2) (turn_ok2 (n := n) (d := d) (vs := vs) (by omega) hdv) p11) ?_
  have c1 := F.cr n vs (s7.ob :: T6 ++ g1 ++ g2) Cv
  rw [← e1] at c1
  have c2 := F.sc n ws vs (s7.ob :: T6 ++ g1 ++ g2) C Cv lv.symm
  rw [decide_eq_true e1] at c2
  have c3 := F.sc n ws (vs.set d (neg vs[d])) (s7.ob :: T6 ++ g1 ++ g2) C CT (by rw [List.length_set]; exact lv.symm)
  rw [decide_eq_false e3] at c3
  have c4 := F.sc n (redW n ws) ws (s7.ob :: T6 ++ g1 ++ g2) CR C lR
  rw [decide_eq_true e2] at c4
  refine sSeq_nx (set_ok (d := .lst [wsD (redW n ws), .bl true, .bl false, .bl true]) (h1 := s7.ob :: T6 ++ g1 ++ g2) (ls4' (fk1 (x := wsD vs) rfl c1) (fn2 (x := wsD ws) (y := wsD vs) rfl rfl c2) (fk2 (x := wsD (vs.set d (neg vs[d]))) (y := wsD ws) rfl rfl c3) (fn2 (x := wsD (redW n ws)) (y := wsD ws) rfl rfl c4)) rfl) ?_
  have tl : s7.ob :: (T6 ++ g1 ++ g2 ++ g3) = s7.ob :: T6 ++ g1 ++ g2 ++ g3 := rfl
  rw [tl]
  refine ifOr_ok (h1 := s7.ob :: T6 ++ g1 ++ g2 ++ g3) (h2 := s7.ob :: T6 ++ g1 ++ g2 ++ g3) (fn1 (x := wsD (redW n ws)) rfl f10) (fn2 (x := .lst [wsD (redW n ws), .bl true, .bl false, .bl true]) (y := .lst [wsD (redW n ws), .bl true, .bl false, .bl true]) (h1 := s7.ob :: T6 ++ g1 ++ g2 ++ g3) (h2 := s7.ob :: T6 ++ g1 ++ g2 ++ g3) rfl ?_ (F.like _ _ lkR))
  exact ls4' (x := wsD (redW n ws)) (y := .bl true) (z := .bl false) (w := .bl true) rfl rfl rfl rfl
end WC
set_option Elab.async false
set_option linter.all false
set_option maxRecDepth 100000
namespace WP
open PySem PySem.Spec PyProof.Rows L2 WC
def topS (i : Nat) : Stmt := PySem.Challenge.pw_wholecircuits_k83_codes_and_what_they_se.main.body.getD i (.Pass ⟨0, 0, 0, 0⟩)
def k_PRODUCTS : List (List Nat × D) := [([73, 73], .tup [(.int 0), (.str [73])]), ([73, 88], .tup [(.int 0), (.str [88])]), ([73, 89], .tup [(.int 0), (.str [89])]), ([73, 90], .tup [(.int 0), (.str [90])]), ([88, 73], .tup [(.int 0), (.str [88])]), ([88, 88], .tup [(.int 0), (.str [73])]), ([88, 89], .tup [(.int 1), (.str [90])]), ([88, 90], .tup [(.int 3), (.str [89])]), ([89, 73], .tup [(.int 0), (.str [89])]), ([89, 88], .tup [(.int 3), (.str [90])]), ([89, 89], .tup [(.int 0), (.str [73])]), ([89, 90], .tup [(.int 1), (.str [88])]), ([90, 73], .tup [(.int 0), (.str [90])]), ([90, 88], .tup [(.int 1), (.str [89])]), ([90, 89], .tup [(.int 3), (.str [88])]), ([90, 90], .tup [(.int 0), (.str [73])])]
def gFree : List Str := [("all" : Str), ("bool" : Str), ("enumerate" : Str), ("int" : Str), ("isinstance" : Str), ("len" : Str), ("list" : Str), ("max" : Str), ("range" : Str), ("sorted" : Str), ("str" : Str), ("sum" : Str), ("tuple" : Str), ("zip" : Str)]
def gConsts : List (Str × D) := []
def gDicts : List (Str × List (List Nat × D)) := [("PRODUCTS", k_PRODUCTS)]
def gFuns : List (Str × Nat × Nat) := [(("is_integer" : Str), 0, 1), (("reduced_rows" : Str), 1, 1), (("rank_of" : Str), 2, 1), (("are_independent" : Str), 3, 1), (("indexes_of" : Str), 4, 1), (("row_of" : Str), 5, 1), (("is_pauli" : Str), 6, 1), (("is_upright" : Str), 7, 1), (("check_pauli" : Str), 8, 2), (("product_of" : Str), 9, 2), (("product_of_all" : Str), 10, 2), (("meets_of" : Str), 11, 2), (("flips_of" : Str), 12, 1), (("turns_of" : Str), 13, 1), (("signs_of" : Str), 14, 1), (("are_group_words" : Str), 15, 1), (("combined" : Str), 16, 2), (("reduced_of" : Str), 17, 1), (("is_code" : Str), 18, 1), (("check_code" : Str), 19, 1), (("lines_of" : Str), 20, 1), (("code_reduced" : Str), 21, 1), (("same_code" : Str), 22, 2), (("syndrome" : Str), 23, 2), (("_law_draw" : Str), 24, 2), (("_law_like" : Str), 25, 2), (("_law_gates" : Str), 26, 4), (("_law_signs" : Str), 27, 1), (("_law_word" : Str), 28, 3), (("_law_times" : Str), 29, 2), (("_law_group" : Str), 30, 1), (("_law_meets" : Str), 31, 2), (("_law_led" : Str), 32, 2), (("_law_are_words" : Str), 33, 3), (("_law_same_group" : Str), 34, 2), (("_law_is_reduced" : Str), 35, 1), (("_law_at" : Str), 36, 3), (("_law_code" : Str), 37, 3), (("_law_mixed" : Str), 38, 2), (("_law_pauli" : Str), 39, 2), (("_law_bent" : Str), 40, 2), (("law" : Str), 41, 1)]
def gK : List (Str × Nat × List Str × List Nat) := [(("code_reduced" : Str), 0, ["code"], [0]), (("is_code" : Str), 0, ["value"], [0]), (("same_code" : Str), 0, ["second_code", "code"], [1, 0]), (("syndrome" : Str), 0, ["pauli", "code"], [1, 0])]
def GG : Glob := ⟨gFree, gConsts, gFuns, gK, gDicts⟩
-- is_integer
def n_0 : List Str := ["value"]
def m_0 : Md := fun x => 0
def b_0 (fe : Nat → FD) : SM := (sRet (eAnd (eIsI [.int] (oVar 0)) (eNot (eIsI [.bool] (oVar 0)))))
set_option maxHeartbeats 400000 in
theorem t_0 (fe : Nat → FD) : (den GG fe n_0 m_0 60).B (defDC (topS 5)) (defBody (topS 5)) = b_0 fe := by kernel_rfl
-- reduced_rows
def n_1 : List Str := ["rows", "found", "at", "row", "added", "own", "more", "first"]
def m_1 : Md := fun x => if x = ("found" : Str) then 1 else 0
def b_1 (fe : Nat → FD) : SM := (sSeq (sSet 1 (xOwn (lLst aNil)))
  (sSeq (sFor (iEnumL (aCons (eVar 0) aNil)) (tgTup [(tgName 2), (tgName 3)])
  (sSeq (sSet 4 (xVal (eOp gShl (eC (.int 1)) (oVar 2))))
  (sSeq (sForV 1 (tgTup [(tgName 5), (tgName 6)])
  (sIf (tB (eOp gEq (eOp gAnd (eOp gShr (oVar 3) (eOp gSub (eBits (oVar 5)) (eC (.int 1)))) (eC (.int 1))) (eC (.int 1))))
  (sAsg (tgTup [(tgName 3), (tgName 4)]) (eTup (aCons (eOp gXor (oVar 3) (oVar 5)) (aCons (eOp gXor (oVar 4) (oVar 6)) aNil))))
  sNil))
  (sSeq (sIf (tB (eOp gEq (oVar 3) (eC (.int 0))))
  sCont
  sNil)
  (sSeq (sSet 7 (xVal (eOp gSub (eBits (oVar 3)) (eC (.int 1)))))
  (sSeq (sSet 1 (xOwn (lcL (iVal (oVar 1)) (tgTup [(tgName 5), (tgName 6)]) tYesM (eIf (tB (eOp gEq (eOp gAnd (eOp gShr (oVar 5) (oVar 7)) (eC (.int 1))) (eC (.int 1)))) (eTup (aCons (eOp gXor (oVar 5) (oVar 3)) (aCons (eOp gXor (oVar 6) (oVar 4)) aNil))) (eTup (aCons (eVar 5) (aCons (eVar 6) aNil)))) [5, 6])))
  (sAppend 1 (eTup (aCons (eVar 3) (aCons (eVar 4) aNil))))))))))
  (sRet (eSortK (aCons (oVar 1) aNil) (aCons (eC (.bl true)) aNil)))))
set_option maxHeartbeats 400000 in
theorem t_1 (fe : Nat → FD) : (den GG fe n_1 m_1 60).B (defDC (topS 7)) (defBody (topS 7)) = b_1 fe := by kernel_rfl
-- rank_of
def n_2 : List Str := ["rows"]
def m_2 : Md := fun x => 0
def b_2 (fe : Nat → FD) : SM := (sRet (eCall gLen (aCons (eFn 1 (fe 1) (aCons (eVar 0) aNil)) aNil)))
set_option maxHeartbeats 400000 in
theorem t_2 (fe : Nat → FD) : (den GG fe n_2 m_2 60).B (defDC (topS 8)) (defBody (topS 8)) = b_2 fe := by kernel_rfl
-- are_independent
def n_3 : List Str := ["rows"]
def m_3 : Md := fun x => 0
def b_3 (fe : Nat → FD) : SM := (sRet (eOp gEq (eFn 1 (fe 2) (aCons (eVar 0) aNil)) (eCall gLen (aCons (oVar 0) aNil))))
set_option maxHeartbeats 400000 in
theorem t_3 (fe : Nat → FD) : (den GG fe n_3 m_3 60).B (defDC (topS 9)) (defBody (topS 9)) = b_3 fe := by kernel_rfl
-- indexes_of
def n_4 : List Str := ["added", "at"]
def m_4 : Md := fun x => 0
def b_4 (fe : Nat → FD) : SM := (sRet (eFrz (lcL (iRange1 (aCons (eBits (oVar 0)) aNil)) (tgName 1) (tB (eOp gEq (eOp gAnd (eOp gShr (oVar 0) (oVar 1)) (eC (.int 1))) (eC (.int 1)))) (eVar 1) [1])))
set_option maxHeartbeats 400000 in
theorem t_4 (fe : Nat → FD) : (den GG fe n_4 m_4 60).B (defDC (topS 10)) (defBody (topS 10)) = b_4 fe := by kernel_rfl
-- row_of
def n_5 : List Str := ["signs", "found", "sign"]
def m_5 : Md := fun x => 0
def b_5 (fe : Nat → FD) : SM := (sSeq (sSet 1 (xVal (eC (.int 0))))
  (sSeq (sForV 0 (tgName 2)
  (sSet 1 (xVal (eOp gAdd (eOp gMul (eC (.int 2)) (oVar 1)) (eCall gIntA (aCons (oVar 2) aNil))))))
  (sRet (eVar 1))))
set_option maxHeartbeats 400000 in
theorem t_5 (fe : Nat → FD) : (den GG fe n_5 m_5 60).B (defDC (topS 11)) (defBody (topS 11)) = b_5 fe := by kernel_rfl
-- is_pauli
def n_6 : List Str := ["value", "letters", "letter"]
def m_6 : Md := fun x => 0
def b_6 (fe : Nat → FD) : SM := (sSeq (sIf (tOr (tNot (tB (eIsI [.tuple] (oVar 0)))) (tOr (tB (eOp gNe (eCall gLen (aCons (oVar 0) aNil)) (eC (.int 2)))) (tOr (tNot (tB (eFn 1 (fe 0) (aCons (eOp atD (oVar 0) (eC (.int 0))) aNil)))) (tNot (tB (eChain gLeI gLeI (eC (.int 0)) (eOp atD (oVar 0) (eC (.int 0))) (eC (.int 3))))))))
  (sRet (eC (.bl false)))
  sNil)
  (sSeq (sSet 1 (xVal (eOp atD (oVar 0) (eC (.int 1)))))
  (sRet (eAnd (eIsI [.str] (oVar 1)) (eAnd (eOp gNe (oVar 1) (eC (.str []))) (eCall gAll (aCons (eFrz (lcL (iVal (oVar 1)) (tgName 2) tYesM (eOp gIn (oVar 2) (eC (.str [73, 88, 89, 90]))) [2])) aNil)))))))
set_option maxHeartbeats 400000 in
theorem t_6 (fe : Nat → FD) : (den GG fe n_6 m_6 60).B (defDC (topS 14)) (defBody (topS 14)) = b_6 fe := by kernel_rfl
-- is_upright
def n_7 : List Str := ["value"]
def m_7 : Md := fun x => 0
def b_7 (fe : Nat → FD) : SM := (sRet (eAnd (eFn 1 (fe 6) (aCons (eVar 0) aNil)) (eOp gEq (eOp gMod (eOp atD (oVar 0) (eC (.int 0))) (eC (.int 2))) (eC (.int 0)))))
set_option maxHeartbeats 400000 in
theorem t_7 (fe : Nat → FD) : (den GG fe n_7 m_7 60).B (defDC (topS 15)) (defBody (topS 15)) = b_7 fe := by kernel_rfl
-- check_pauli
def n_8 : List Str := ["pauli", "many"]
def m_8 : Md := fun x => 0
def b_8 (fe : Nat → FD) : SM := (sIf (tOr (tNot (tB (eFn 1 (fe 6) (aCons (eVar 0) aNil)))) (tAnd (tB (eOp gNotN (oVar 1) (eC .non))) (tB (eOp gNe (eCall gLen (aCons (eOp atD (oVar 0) (eC (.int 1))) aNil)) (oVar 1)))))
  sBad
  sNil)
set_option maxHeartbeats 400000 in
theorem t_8 (fe : Nat → FD) : (den GG fe n_8 m_8 60).B (defDC (topS 16)) (defBody (topS 16)) = b_8 fe := by kernel_rfl
-- product_of
def n_9 : List Str := ["pauli", "second", "e", "letters", "one", "other", "more", "letter"]
def m_9 : Md := fun x => if x = ("letters" : Str) then 1 else 0
def b_9 (fe : Nat → FD) : SM := (sSeq (sPar2 2 3 (xsCons (xVal (eOp gAdd (eOp atD (oVar 0) (eC (.int 0))) (eOp atD (oVar 1) (eC (.int 0))))) (xsCons (xOwn (lLst aNil)) xsNil)))
  (sSeq (sFor (iZipD (aCons (eOp atD (oVar 0) (eC (.int 1))) (aCons (eOp atD (oVar 1) (eC (.int 1))) aNil))) (tgTup [(tgName 4), (tgName 5)])
  (sSeq (sAsg (tgTup [(tgName 6), (tgName 7)]) (eGetG k_PRODUCTS (eOp gAdd (oVar 4) (oVar 5))))
  (sSeq (sAug 2 gIAdd (eVar 6))
  (sAppend 3 (eVar 7)))))
  (sRet (eTup (aCons (eOp gMod (oVar 2) (eC (.int 4))) (aCons (eMeth .str gJoin (eC (.str [])) (aCons (oVar 3) aNil)) aNil))))))
set_option maxHeartbeats 400000 in
theorem t_9 (fe : Nat → FD) : (den GG fe n_9 m_9 60).B (defDC (topS 17)) (defBody (topS 17)) = b_9 fe := by kernel_rfl
-- product_of_all
def n_10 : List Str := ["many", "words", "found", "word"]
def m_10 : Md := fun x => 0
def b_10 (fe : Nat → FD) : SM := (sSeq (sSet 2 (xVal (eTup (aCons (eC (.int 0)) (aCons (eOp gMul (eC (.str [73])) (oVar 0)) aNil)))))
  (sSeq (sForV 1 (tgName 3)
  (sSet 2 (xVal (eFn 2 (fe 9) (aCons (eVar 2) (aCons (eVar 3) aNil))))))
  (sRet (eVar 2))))
set_option maxHeartbeats 400000 in
theorem t_10 (fe : Nat → FD) : (den GG fe n_10 m_10 60).B (defDC (topS 18)) (defBody (topS 18)) = b_10 fe := by kernel_rfl
-- meets_of
def n_11 : List Str := ["pauli", "second", "unlike", "one", "other"]
def m_11 : Md := fun x => 0
def b_11 (fe : Nat → FD) : SM := (sSeq (sSet 2 (xVal (eFrz (lcL (iZipD (aCons (eOp atD (oVar 0) (eC (.int 1))) (aCons (eOp atD (oVar 1) (eC (.int 1))) aNil))) (tgTup [(tgName 3), (tgName 4)]) (tAnd (tB (eOp gNe (oVar 3) (oVar 4))) (tB (eOp gNotIn (eC (.str [73])) (eTup (aCons (eVar 3) (aCons (eVar 4) aNil)))))) (eVar 3) [3, 4]))))
  (sRet (eOp gEq (eOp gMod (eCall gLen (aCons (oVar 2) aNil)) (eC (.int 2))) (eC (.int 0)))))
set_option maxHeartbeats 400000 in
theorem t_11 (fe : Nat → FD) : (den GG fe n_11 m_11 60).B (defDC (topS 19)) (defBody (topS 19)) = b_11 fe := by kernel_rfl
-- flips_of
def n_12 : List Str := ["letters", "letter"]
def m_12 : Md := fun x => 0
def b_12 (fe : Nat → FD) : SM := (sRet (eFn 1 (fe 5) (aCons (eFrz (lcL (iVal (oVar 0)) (tgName 1) tYesM (eOp gIn (oVar 1) (eC (.str [88, 89]))) [1])) aNil)))
set_option maxHeartbeats 400000 in
theorem t_12 (fe : Nat → FD) : (den GG fe n_12 m_12 60).B (defDC (topS 20)) (defBody (topS 20)) = b_12 fe := by kernel_rfl
-- turns_of
def n_13 : List Str := ["letters", "letter"]
def m_13 : Md := fun x => 0
def b_13 (fe : Nat → FD) : SM := (sRet (eFn 1 (fe 5) (aCons (eFrz (lcL (iVal (oVar 0)) (tgName 1) tYesM (eOp gIn (oVar 1) (eC (.str [89, 90]))) [1])) aNil)))
set_option maxHeartbeats 400000 in
theorem t_13 (fe : Nat → FD) : (den GG fe n_13 m_13 60).B (defDC (topS 21)) (defBody (topS 21)) = b_13 fe := by kernel_rfl
-- signs_of
def n_14 : List Str := ["pauli"]
def m_14 : Md := fun x => 0
def b_14 (fe : Nat → FD) : SM := (sRet (eOp gOr (eOp gShl (eFn 1 (fe 12) (aCons (eOp atD (oVar 0) (eC (.int 1))) aNil)) (eCall gLen (aCons (eOp atD (oVar 0) (eC (.int 1))) aNil))) (eFn 1 (fe 13) (aCons (eOp atD (oVar 0) (eC (.int 1))) aNil))))
set_option maxHeartbeats 400000 in
theorem t_14 (fe : Nat → FD) : (den GG fe n_14 m_14 60).B (defDC (topS 22)) (defBody (topS 22)) = b_14 fe := by kernel_rfl
-- are_group_words
def n_15 : List Str := ["value", "many", "at", "word", "other"]
def m_15 : Md := fun x => 0
def b_15 (fe : Nat → FD) : SM := (sSeq (sIf (tOr (tNot (tB (eIsI [.tuple] (oVar 0)))) (tOr (tB (eOp gEq (eCall gLen (aCons (oVar 0) aNil)) (eC (.int 0)))) (tNot (tB (eCall gAll (aCons (eFrz (lcL (iVal (oVar 0)) (tgName 3) tYesM (eFn 1 (fe 7) (aCons (eVar 3) aNil)) [3])) aNil))))))
  (sRet (eC (.bl false)))
  sNil)
  (sSeq (sSet 1 (xVal (eCall gLen (aCons (eOp atD (eOp atD (oVar 0) (eC (.int 0))) (eC (.int 1))) aNil))))
  (sSeq (sIf (tNot (tB (eCall gAll (aCons (eFrz (lcL (iVal (oVar 0)) (tgName 3) tYesM (eOp gEq (eCall gLen (aCons (eOp atD (oVar 3) (eC (.int 1))) aNil)) (oVar 1)) [3])) aNil))))
  (sRet (eC (.bl false)))
  sNil)
  (sSeq (sFor (iEnumL (aCons (eVar 0) aNil)) (tgTup [(tgName 2), (tgName 3)])
  (sIf (tNot (tB (eCall gAll (aCons (eFrz (lcL (iVal (eSlice (oVar 0) (oSome (eOp gAdd (oVar 2) (eC (.int 1)))) oNone)) (tgName 4) tYesM (eFn 2 (fe 11) (aCons (eVar 3) (aCons (eVar 4) aNil))) [4])) aNil))))
  (sRet (eC (.bl false)))
  sNil))
  (sRet (eFn 1 (fe 3) (aCons (eFrz (lcL (iVal (oVar 0)) (tgName 3) tYesM (eFn 1 (fe 14) (aCons (eVar 3) aNil)) [3])) aNil)))))))
set_option maxHeartbeats 400000 in
theorem t_15 (fe : Nat → FD) : (den GG fe n_15 m_15 60).B (defDC (topS 24)) (defBody (topS 24)) = b_15 fe := by kernel_rfl
-- combined
def n_16 : List Str := ["words", "added", "at"]
def m_16 : Md := fun x => 0
def b_16 (fe : Nat → FD) : SM := (sRet (eFn 2 (fe 10) (aCons (eCall gLen (aCons (eOp atD (eOp atD (oVar 0) (eC (.int 0))) (eC (.int 1))) aNil)) (aCons (eFrz (lcL (iVal (eFn 1 (fe 4) (aCons (eVar 1) aNil))) (tgName 2) tYesM (eOp atD (oVar 0) (oVar 2)) [2])) aNil))))
set_option maxHeartbeats 400000 in
theorem t_16 (fe : Nat → FD) : (den GG fe n_16 m_16 60).B (defDC (topS 25)) (defBody (topS 25)) = b_16 fe := by kernel_rfl
-- reduced_of
def n_17 : List Str := ["words", "row", "added", "word"]
def m_17 : Md := fun x => 0
def b_17 (fe : Nat → FD) : SM := (sRet (eCall gTuple (aCons (eFrz (lcL (iVal (eFn 1 (fe 1) (aCons (eFrz (lcL (iVal (oVar 0)) (tgName 3) tYesM (eFn 1 (fe 14) (aCons (eVar 3) aNil)) [3])) aNil))) (tgTup [(tgName 1), (tgName 2)]) tYesM (eFn 2 (fe 16) (aCons (eVar 0) (aCons (eVar 2) aNil))) [1, 2])) aNil)))
set_option maxHeartbeats 400000 in
theorem t_17 (fe : Nat → FD) : (den GG fe n_17 m_17 60).B (defDC (topS 26)) (defBody (topS 26)) = b_17 fe := by kernel_rfl
-- is_code
def n_18 : List Str := ["value"]
def m_18 : Md := fun x => 0
def b_18 (fe : Nat → FD) : SM := (sRet (eFn 1 (fe 15) (aCons (eVar 0) aNil)))
set_option maxHeartbeats 400000 in
theorem t_18 (fe : Nat → FD) : (den GG fe n_18 m_18 60).B (defDC (topS 28)) (defBody (topS 28)) = b_18 fe := by kernel_rfl
-- check_code
def n_19 : List Str := ["code"]
def m_19 : Md := fun x => 0
def b_19 (fe : Nat → FD) : SM := (sIf (tNot (tB (eFn 1 (fe 18) (aCons (eVar 0) aNil))))
  sBad
  sNil)
set_option maxHeartbeats 400000 in
theorem t_19 (fe : Nat → FD) : (den GG fe n_19 m_19 60).B (defDC (topS 29)) (defBody (topS 29)) = b_19 fe := by kernel_rfl
-- lines_of
def n_20 : List Str := ["code"]
def m_20 : Md := fun x => 0
def b_20 (fe : Nat → FD) : SM := (sRet (eCall gLen (aCons (eOp atD (eOp atD (oVar 0) (eC (.int 0))) (eC (.int 1))) aNil)))
set_option maxHeartbeats 400000 in
theorem t_20 (fe : Nat → FD) : (den GG fe n_20 m_20 60).B (defDC (topS 30)) (defBody (topS 30)) = b_20 fe := by kernel_rfl
-- code_reduced
def n_21 : List Str := ["code"]
def m_21 : Md := fun x => 0
def b_21 (fe : Nat → FD) : SM := (sSeq (sExpr (eFn 1 (fe 19) (aCons (eVar 0) aNil)))
  (sRet (eFn 1 (fe 17) (aCons (eVar 0) aNil))))
set_option maxHeartbeats 400000 in
theorem t_21 (fe : Nat → FD) : (den GG fe n_21 m_21 60).B (defDC (topS 31)) (defBody (topS 31)) = b_21 fe := by kernel_rfl
-- same_code
def n_22 : List Str := ["code", "second_code"]
def m_22 : Md := fun x => 0
def b_22 (fe : Nat → FD) : SM := (sSeq (sExpr (eFn 1 (fe 19) (aCons (eVar 0) aNil)))
  (sSeq (sExpr (eFn 1 (fe 19) (aCons (eVar 1) aNil)))
  (sSeq (sIf (tOr (tB (eOp gNe (eCall gLen (aCons (oVar 0) aNil)) (eCall gLen (aCons (oVar 1) aNil)))) (tB (eOp gNe (eFn 1 (fe 20) (aCons (eVar 0) aNil)) (eFn 1 (fe 20) (aCons (eVar 1) aNil)))))
  sBad
  sNil)
  (sRet (eOp gEq (eFn 1 (fe 17) (aCons (eVar 0) aNil)) (eFn 1 (fe 17) (aCons (eVar 1) aNil)))))))
set_option maxHeartbeats 400000 in
theorem t_22 (fe : Nat → FD) : (den GG fe n_22 m_22 60).B (defDC (topS 32)) (defBody (topS 32)) = b_22 fe := by kernel_rfl
-- syndrome
def n_23 : List Str := ["code", "pauli", "own"]
def m_23 : Md := fun x => 0
def b_23 (fe : Nat → FD) : SM := (sSeq (sExpr (eFn 1 (fe 19) (aCons (eVar 0) aNil)))
  (sSeq (sExpr (eFn 2 (fe 8) (aCons (eVar 1) (aCons (eFn 1 (fe 20) (aCons (eVar 0) aNil)) aNil))))
  (sRet (eMeth .str gJoin (eC (.str [])) (aCons (eFrz (lcL (iVal (oVar 0)) (tgName 2) tYesM (eIf (tB (eFn 2 (fe 11) (aCons (eVar 2) (aCons (eVar 1) aNil)))) (eC (.str [48])) (eC (.str [49]))) [2])) aNil)))))
set_option maxHeartbeats 400000 in
theorem t_23 (fe : Nat → FD) : (den GG fe n_23 m_23 60).B (defDC (topS 33)) (defBody (topS 33)) = b_23 fe := by kernel_rfl
-- _law_draw
def n_24 : List Str := ["own", "many", "cell", "small", "digit"]
def m_24 : Md := fun x => 0
def b_24 (fe : Nat → FD) : SM := (sSeq (sAugS 0 gIAdd (eC (.int 2)) (eC (.int 1)))
  (sSeq (sIf (tAnd (tB (eOp gEq (eOp atD (oVar 0) (eC (.int 0))) (eC (.int 0)))) (tB (eOp gLt (eOp atD (oVar 0) (eC (.int 3))) (eCall gLen (aCons (eOp atD (oVar 0) (eC (.int 4))) aNil)))))
  (sSeq (sSet 2 (xVal (eOp atD (eOp atD (oVar 0) (eC (.int 4))) (eOp atD (oVar 0) (eC (.int 3))))))
  (sSeq (sAugS 0 gIAdd (eC (.int 3)) (eC (.int 1)))
  (sIf (tB (eOp gGe (oVar 2) (eOp gPow (eC (.int 10)) (eC (.int 18)))))
  (sStore 0 (eOp gSub (oVar 2) (eOp gPow (eC (.int 10)) (eC (.int 18)))) (eC (.int 0)))
  (sSeq (sSet 3 (xVal (eOp gMod (eCall gIntA (aCons (oVar 2) aNil)) (eC (.int 998244353)))))
  (sStore 0 (eOp gMod (eCall gIntA (aCons (eOp gAdd (eOp gAdd (eOp gAdd (eOp gMul (eOp atD (oVar 0) (eC (.int 1))) (eC (.int 69069))) (eOp gMul (oVar 3) (oVar 3))) (eOp gMul (eC (.int 7)) (oVar 3))) (eOp gMul (eC (.int 3)) (eOp atD (oVar 0) (eC (.int 3))))) aNil)) (eC (.int 2147483587))) (eC (.int 1)))))))
  sNil)
  (sSeq (sIf (tB (eOp gGt (eOp atD (oVar 0) (eC (.int 0))) (eC (.int 0))))
  (sSeq (sSet 4 (xVal (eOp gMod (eCall gIntA (aCons (eOp atD (oVar 0) (eC (.int 0))) aNil)) (oVar 1))))
  (sSeq (sStore 0 (eOp gFdiv (eOp atD (oVar 0) (eC (.int 0))) (oVar 1)) (eC (.int 0)))
  (sRet (eVar 4))))
  sNil)
  (sSeq (sStore 0 (eOp gMod (eCall gIntA (aCons (eOp gAdd (eOp gAdd (eOp gMul (eOp atD (oVar 0) (eC (.int 1))) (eOp atD (oVar 0) (eC (.int 1)))) (eOp gMul (eC (.int 16807)) (eOp atD (oVar 0) (eC (.int 2))))) (eC (.int 29))) aNil)) (eC (.int 2147483587))) (eC (.int 1)))
  (sRet (eOp gMod (eCall gIntA (aCons (eOp gAdd (eOp gFdiv (eOp atD (oVar 0) (eC (.int 1))) (eC (.int 16))) (eOp gMul (eOp atD (oVar 0) (eC (.int 2))) (eOp atD (oVar 0) (eC (.int 2))))) aNil)) (oVar 1)))))))
set_option maxHeartbeats 400000 in
theorem t_24 (fe : Nat → FD) : (den GG fe n_24 m_24 60).B (defDC (topS 35)) (defBody (topS 35)) = b_24 fe := by kernel_rfl
-- _law_like
def n_25 : List Str := ["got", "due", "k"]
def m_25 : Md := fun x => 0
def b_25 (fe : Nat → FD) : SM := (sSeq (sIf (tB (eIsI [.list, .tuple] (oVar 1)))
  (sSeq (sIf (tOr (tNot (tB (eIsI [.list, .tuple] (oVar 0)))) (tOr (tB (eOp gNe (eIsI [.list] (oVar 0)) (eIsI [.list] (oVar 1)))) (tB (eOp gNe (eCall gLen (aCons (oVar 0) aNil)) (eCall gLen (aCons (oVar 1) aNil))))))
  (sRet (eC (.bl false)))
  sNil)
  (sRet (eCall gAll (aCons (eFrz (lcL (iRange1 (aCons (eCall gLen (aCons (oVar 1) aNil)) aNil)) (tgName 2) tYesM (eFn 2 (fe 25) (aCons (eOp atD (oVar 0) (oVar 2)) (aCons (eOp atD (oVar 1) (oVar 2)) aNil))) [2])) aNil))))
  sNil)
  (sSeq (sIf (tB (eOp gIsN (oVar 1) (eC .non)))
  (sRet (eOp gIsN (oVar 0) (eC .non)))
  sNil)
  (sSeq (sIf (tB (eIsI [.bool] (oVar 1)))
  (sRet (eAnd (eIsI [.bool] (oVar 0)) (eOp gEq (oVar 0) (oVar 1))))
  sNil)
  (sSeq (sIf (tB (eIsI [.str] (oVar 1)))
  (sRet (eAnd (eIsI [.str] (oVar 0)) (eOp gEq (oVar 0) (oVar 1))))
  sNil)
  (sRet (eAnd (eIsI [.int] (oVar 0)) (eAnd (eNot (eIsI [.bool] (oVar 0))) (eOp gEq (oVar 0) (oVar 1)))))))))
set_option maxHeartbeats 400000 in
theorem t_25 (fe : Nat → FD) : (den GG fe n_25 m_25 60).B (defDC (topS 36)) (defBody (topS 36)) = b_25 fe := by kernel_rfl
-- _law_gates
def n_26 : List Str := ["own", "many", "most", "names", "found", "turn", "name", "first"]
def m_26 : Md := fun x => if x = ("found" : Str) then 1 else 0
def b_26 (fe : Nat → FD) : SM := (sSeq (sSet 4 (xOwn (lLst aNil)))
  (sSeq (sFor (iRange1 (aCons (eFn 2 (fe 24) (aCons (eVar 0) (aCons (eOp gAdd (oVar 2) (eC (.int 1))) aNil))) aNil)) (tgName 5)
  (sSeq (sSet 6 (xVal (eOp atD (oVar 3) (eFn 2 (fe 24) (aCons (eVar 0) (aCons (eCall gLen (aCons (oVar 3) aNil)) aNil))))))
  (sSeq (sSet 7 (xVal (eFn 2 (fe 24) (aCons (eVar 0) (aCons (eVar 1) aNil)))))
  (sIf (tB (eOp gEq (oVar 6) (eC (.str [119]))))
  (sAppend 4 (eTup (aCons (eVar 6) aNil)))
  (sIf (tB (eOp gNotIn (oVar 6) (eTup (aCons (eC (.str [99, 120])) (aCons (eC (.str [99, 122])) (aCons (eC (.str [115, 119, 97, 112])) aNil))))))
  (sAppend 4 (eTup (aCons (eVar 6) (aCons (eVar 7) aNil))))
  (sIf (tB (eOp gGt (oVar 1) (eC (.int 1))))
  (sAppend 4 (eTup (aCons (eVar 6) (aCons (eVar 7) (aCons (eOp gMod (eCall gIntA (aCons (eOp gAdd (eOp gAdd (oVar 7) (eC (.int 1))) (eFn 2 (fe 24) (aCons (eVar 0) (aCons (eOp gSub (oVar 1) (eC (.int 1))) aNil)))) aNil)) (oVar 1)) aNil)))))
  sNil))))))
  (sRet (eCall gTuple (aCons (oVar 4) aNil)))))
set_option maxHeartbeats 400000 in
theorem t_26 (fe : Nat → FD) : (den GG fe n_26 m_26 60).B (defDC (topS 37)) (defBody (topS 37)) = b_26 fe := by kernel_rfl
-- _law_signs
def n_27 : List Str := ["pauli", "e", "letters", "one"]
def m_27 : Md := fun x => if x = ("return" : Str) then 2 else 0
def b_27 (fe : Nat → FD) : SM := (sSeq (sAsg (tgTup [(tgName 1), (tgName 2)]) (eVar 0))
  (sRet (eFrz (lLst (aCons (eOp gAdd (oVar 1) (eMeth .str gCount (oVar 2) (aCons (eC (.str [89])) aNil))) (aCons (eNew (lcL (iVal (oVar 2)) (tgName 3) tYesM (eCall gIntA (aCons (eOp gIn (oVar 3) (eC (.str [88, 89]))) aNil)) [3])) (aCons (eNew (lcL (iVal (oVar 2)) (tgName 3) tYesM (eCall gIntA (aCons (eOp gIn (oVar 3) (eC (.str [89, 90]))) aNil)) [3])) aNil)))))))
set_option maxHeartbeats 400000 in
theorem t_27 (fe : Nat → FD) : (den GG fe n_27 m_27 60).B (defDC (topS 38)) (defBody (topS 38)) = b_27 fe := by kernel_rfl
-- _law_word
def n_28 : List Str := ["e", "x", "z", "letters", "k"]
def m_28 : Md := fun x => 0
def b_28 (fe : Nat → FD) : SM := (sSeq (sSet 3 (xVal (eMeth .str gJoin (eC (.str [])) (aCons (eFrz (lcL (iRange1 (aCons (eCall gLen (aCons (oVar 1) aNil)) aNil)) (tgName 4) tYesM (eOp atD (eC (.str [73, 90, 88, 89])) (eOp gAdd (eOp gMul (eC (.int 2)) (eOp atD (oVar 1) (oVar 4))) (eOp atD (oVar 2) (oVar 4)))) [4])) aNil))))
  (sRet (eTup (aCons (eOp gMod (eCall gIntA (aCons (eOp gSub (oVar 0) (eMeth .str gCount (oVar 3) (aCons (eC (.str [89])) aNil))) aNil)) (eC (.int 4))) (aCons (eVar 3) aNil)))))
set_option maxHeartbeats 400000 in
theorem t_28 (fe : Nat → FD) : (den GG fe n_28 m_28 60).B (defDC (topS 39)) (defBody (topS 39)) = b_28 fe := by kernel_rfl
-- _law_times
def n_29 : List Str := ["first", "second", "one", "other", "turns", "x", "z", "k"]
def m_29 : Md := fun x => 0
def b_29 (fe : Nat → FD) : SM := (sSeq (sAsg (tgTup [(tgName 2), (tgName 3)]) (eTup (aCons (eFn 1 (fe 27) (aCons (eVar 0) aNil)) (aCons (eFn 1 (fe 27) (aCons (eVar 1) aNil)) aNil))))
  (sSeq (sSet 4 (xVal (eCall gSum (aCons (eFrz (lcL (iRange1 (aCons (eCall gLen (aCons (eOp atD (oVar 0) (eC (.int 1))) aNil)) aNil)) (tgName 7) tYesM (eOp gMul (eOp atD (eOp atD (oVar 2) (eC (.int 2))) (oVar 7)) (eOp atD (eOp atD (oVar 3) (eC (.int 1))) (oVar 7))) [7])) aNil))))
  (sSeq (sSet 5 (xVal (eFrz (lcL (iRange1 (aCons (eCall gLen (aCons (eOp atD (oVar 0) (eC (.int 1))) aNil)) aNil)) (tgName 7) tYesM (eOp gMod (eCall gIntA (aCons (eOp gAdd (eOp atD (eOp atD (oVar 2) (eC (.int 1))) (oVar 7)) (eOp atD (eOp atD (oVar 3) (eC (.int 1))) (oVar 7))) aNil)) (eC (.int 2))) [7]))))
  (sSeq (sSet 6 (xVal (eFrz (lcL (iRange1 (aCons (eCall gLen (aCons (eOp atD (oVar 0) (eC (.int 1))) aNil)) aNil)) (tgName 7) tYesM (eOp gMod (eCall gIntA (aCons (eOp gAdd (eOp atD (eOp atD (oVar 2) (eC (.int 2))) (oVar 7)) (eOp atD (eOp atD (oVar 3) (eC (.int 2))) (oVar 7))) aNil)) (eC (.int 2))) [7]))))
  (sRet (eFn 3 (fe 28) (aCons (eOp gAdd (eOp gAdd (eOp atD (oVar 2) (eC (.int 0))) (eOp atD (oVar 3) (eC (.int 0)))) (eOp gMul (eC (.int 2)) (oVar 4))) (aCons (eVar 5) (aCons (eVar 6) aNil)))))))))
set_option maxHeartbeats 400000 in
theorem t_29 (fe : Nat → FD) : (den GG fe n_29 m_29 60).B (defDC (topS 40)) (defBody (topS 40)) = b_29 fe := by kernel_rfl
-- _law_group
def n_30 : List Str := ["words", "found", "word", "one"]
def m_30 : Md := fun x => 0
def b_30 (fe : Nat → FD) : SM := (sSeq (sSet 1 (xVal (eFrz (lLst (aCons (eTup (aCons (eC (.int 0)) (aCons (eOp gMul (eC (.str [73])) (eCall gLen (aCons (eOp atD (eOp atD (oVar 0) (eC (.int 0))) (eC (.int 1))) aNil))) aNil))) aNil)))))
  (sSeq (sForV 0 (tgName 2)
  (sSet 1 (xVal (eOp gAdd (oVar 1) (eFrz (lcL (iVal (oVar 1)) (tgName 3) tYesM (eFn 2 (fe 29) (aCons (eVar 3) (aCons (eVar 2) aNil))) [3]))))))
  (sRet (eVar 1))))
set_option maxHeartbeats 400000 in
theorem t_30 (fe : Nat → FD) : (den GG fe n_30 m_30 60).B (defDC (topS 41)) (defBody (topS 41)) = b_30 fe := by kernel_rfl
-- _law_meets
def n_31 : List Str := ["first", "second", "unlike", "k"]
def m_31 : Md := fun x => 0
def b_31 (fe : Nat → FD) : SM := (sSeq (sSet 2 (xVal (eFrz (lcL (iRange1 (aCons (eCall gLen (aCons (eOp atD (oVar 0) (eC (.int 1))) aNil)) aNil)) (tgName 3) (tAnd (tB (eOp gNe (eOp atD (eOp atD (oVar 0) (eC (.int 1))) (oVar 3)) (eOp atD (eOp atD (oVar 1) (eC (.int 1))) (oVar 3)))) (tB (eOp gNotIn (eC (.str [73])) (eTup (aCons (eOp atD (eOp atD (oVar 0) (eC (.int 1))) (oVar 3)) (aCons (eOp atD (eOp atD (oVar 1) (eC (.int 1))) (oVar 3)) aNil)))))) (eVar 3) [3]))))
  (sRet (eOp gEq (eOp gMod (eCall gIntA (aCons (eCall gLen (aCons (oVar 2) aNil)) aNil)) (eC (.int 2))) (eC (.int 0)))))
set_option maxHeartbeats 400000 in
theorem t_31 (fe : Nat → FD) : (den GG fe n_31 m_31 60).B (defDC (topS 42)) (defBody (topS 42)) = b_31 fe := by kernel_rfl
-- _law_led
def n_32 : List Str := ["gates", "pauli", "e", "x", "z", "gate", "name", "i", "j", "first", "second"]
def m_32 : Md := fun x => 0
def b_32 (fe : Nat → FD) : SM := (sSeq (sAsg (tgTup [(tgName 2), (tgName 3), (tgName 4)]) (eFn 1 (fe 27) (aCons (eVar 1) aNil)))
  (sSeq (sForV 0 (tgName 5)
  (sSeq (sPar3 6 7 8 (xsCons (xVal (eOp atD (oVar 5) (eC (.int 0)))) (xsCons (xVal (eC (.int 0))) (xsCons (xVal (eC (.int 0))) xsNil))))
  (sSeq (sIf (tB (eOp gGt (eCall gLen (aCons (oVar 5) aNil)) (eC (.int 1))))
  (sPar2 7 8 (xsCons (xVal (eOp atD (oVar 5) (eC (.int 1)))) (xsCons (xVal (eOp atD (oVar 5) (eNeg (eC (.int 1))))) xsNil)))
  sNil)
  (sSeq (sPar2 9 10 (xsCons (xVal (eOp atD (oVar 3) (oVar 7))) (xsCons (xVal (eOp atD (oVar 4) (oVar 7))) xsNil)))
  (sSeq (sIf (tB (eOp gEq (oVar 6) (eC (.str [104]))))
  (sSeq (sAug 2 gIAdd (eOp gMul (eOp gMul (eC (.int 2)) (oVar 9)) (oVar 10)))
  (sSeq (sStore 3 (eVar 10) (eVar 7))
  (sStore 4 (eVar 9) (eVar 7))))
  sNil)
  (sSeq (sIf (tOr (tB (eOp gEq (oVar 6) (eC (.str [115])))) (tB (eOp gEq (oVar 6) (eC (.str [115, 100])))))
  (sSeq (sAug 2 gIAdd (eOp gMul (oVar 9) (eIf (tB (eOp gEq (oVar 6) (eC (.str [115])))) (eC (.int 1)) (eC (.int 3)))))
  (sStore 4 (eOp gMod (eCall gIntA (aCons (eOp gAdd (oVar 9) (oVar 10)) aNil)) (eC (.int 2))) (eVar 7)))
  sNil)
  (sSeq (sIf (tOr (tB (eOp gEq (oVar 6) (eC (.str [120])))) (tB (eOp gEq (oVar 6) (eC (.str [121])))))
  (sAug 2 gIAdd (eOp gMul (eC (.int 2)) (oVar 10)))
  sNil)
  (sSeq (sIf (tOr (tB (eOp gEq (oVar 6) (eC (.str [122])))) (tB (eOp gEq (oVar 6) (eC (.str [121])))))
  (sAug 2 gIAdd (eOp gMul (eC (.int 2)) (oVar 9)))
  sNil)
  (sSeq (sIf (tB (eOp gEq (oVar 6) (eC (.str [99, 120]))))
  (sSeq (sStore 3 (eOp gMod (eCall gIntA (aCons (eOp gAdd (eOp atD (oVar 3) (oVar 8)) (oVar 9)) aNil)) (eC (.int 2))) (eVar 8))
  (sStore 4 (eOp gMod (eCall gIntA (aCons (eOp gAdd (oVar 10) (eOp atD (oVar 4) (oVar 8))) aNil)) (eC (.int 2))) (eVar 7)))
  sNil)
  (sSeq (sIf (tB (eOp gEq (oVar 6) (eC (.str [99, 122]))))
  (sSeq (sAug 2 gIAdd (eOp gMul (eOp gMul (eC (.int 2)) (oVar 9)) (eOp atD (oVar 3) (oVar 8))))
  (sSeq (sStore 4 (eOp gMod (eCall gIntA (aCons (eOp gAdd (oVar 10) (eOp atD (oVar 3) (oVar 8))) aNil)) (eC (.int 2))) (eVar 7))
  (sStore 4 (eOp gMod (eCall gIntA (aCons (eOp gAdd (eOp atD (oVar 4) (oVar 8)) (oVar 9)) aNil)) (eC (.int 2))) (eVar 8))))
  sNil)
  (sIf (tB (eOp gEq (oVar 6) (eC (.str [115, 119, 97, 112]))))
  (sSeq (sStore 3 (eOp atD (oVar 3) (oVar 8)) (eVar 7))
  (sSeq (sStore 4 (eOp atD (oVar 4) (oVar 8)) (eVar 7))
  (sSeq (sStore 3 (eVar 9) (eVar 8))
  (sStore 4 (eVar 10) (eVar 8)))))
  sNil)))))))))))
  (sRet (eFn 3 (fe 28) (aCons (eVar 2) (aCons (eVar 3) (aCons (eVar 4) aNil)))))))
set_option maxHeartbeats 400000 in
theorem t_32 (fe : Nat → FD) : (den GG fe n_32 m_32 60).B (defDC (topS 43)) (defBody (topS 43)) = b_32 fe := by kernel_rfl
-- _law_are_words
def n_33 : List Str := ["got", "many", "count", "one", "letter"]
def m_33 : Md := fun x => 0
def b_33 (fe : Nat → FD) : SM := (sSeq (sIf (tOr (tNot (tB (eIsI [.tuple] (oVar 0)))) (tB (eOp gNe (eCall gLen (aCons (oVar 0) aNil)) (oVar 2))))
  (sRet (eC (.bl false)))
  sNil)
  (sSeq (sForV 0 (tgName 3)
  (sSeq (sIf (tOr (tNot (tB (eIsI [.tuple] (oVar 3)))) (tOr (tB (eOp gNe (eCall gLen (aCons (oVar 3) aNil)) (eC (.int 2)))) (tOr (tNot (tB (eIsI [.int] (eOp atD (oVar 3) (eC (.int 0)))))) (tB (eIsI [.bool] (eOp atD (oVar 3) (eC (.int 0))))))))
  (sRet (eC (.bl false)))
  sNil)
  (sSeq (sIf (tOr (tB (eOp gNotIn (eOp atD (oVar 3) (eC (.int 0))) (eTup (aCons (eC (.int 0)) (aCons (eC (.int 2)) aNil))))) (tOr (tNot (tB (eIsI [.str] (eOp atD (oVar 3) (eC (.int 1)))))) (tB (eOp gNe (eCall gLen (aCons (eOp atD (oVar 3) (eC (.int 1))) aNil)) (oVar 1)))))
  (sRet (eC (.bl false)))
  sNil)
  (sIf (tB (eOp gNe (eFrz (lcL (iVal (eOp atD (oVar 3) (eC (.int 1)))) (tgName 4) (tB (eOp gNotIn (oVar 4) (eC (.str [73, 88, 89, 90])))) (eVar 4) [4])) (eFrz (lLst aNil))))
  (sRet (eC (.bl false)))
  sNil))))
  (sRet (eC (.bl true)))))
set_option maxHeartbeats 400000 in
theorem t_33 (fe : Nat → FD) : (den GG fe n_33 m_33 60).B (defDC (topS 44)) (defBody (topS 44)) = b_33 fe := by kernel_rfl
-- _law_same_group
def n_34 : List Str := ["words", "group", "made", "one"]
def m_34 : Md := fun x => 0
def b_34 (fe : Nat → FD) : SM := (sSeq (sSet 2 (xVal (eFn 1 (fe 30) (aCons (eVar 0) aNil))))
  (sRet (eAnd (eOp gEq (eCall gLen (aCons (oVar 2) aNil)) (eCall gLen (aCons (oVar 1) aNil))) (eOp gEq (eFrz (lcL (iVal (oVar 1)) (tgName 3) (tB (eOp gNotIn (oVar 3) (oVar 2))) (eVar 3) [3])) (eFrz (lLst aNil))))))
set_option maxHeartbeats 400000 in
theorem t_34 (fe : Nat → FD) : (den GG fe n_34 m_34 60).B (defDC (topS 45)) (defBody (topS 45)) = b_34 fe := by kernel_rfl
-- _law_is_reduced
def n_35 : List Str := ["words", "rows", "last", "row", "word", "other"]
def m_35 : Md := fun x => 0
def b_35 (fe : Nat → FD) : SM := (sSeq (sSet 1 (xVal (eFrz (lcL (iVal (oVar 0)) (tgName 4) tYesM (eOp gAdd (eOp atD (eFn 1 (fe 27) (aCons (eVar 4) aNil)) (eC (.int 1))) (eOp atD (eFn 1 (fe 27) (aCons (eVar 4) aNil)) (eC (.int 2)))) [4]))))
  (sSeq (sSet 2 (xVal (eNeg (eC (.int 1)))))
  (sSeq (sForV 1 (tgName 3)
  (sSeq (sIf (tOr (tB (eOp gNotIn (eC (.int 1)) (oVar 3))) (tOr (tB (eOp gLeI (eMeth .list gIndex (oVar 3) (aCons (eC (.int 1)) aNil)) (oVar 2))) (tB (eOp gNe (eCall gSum (aCons (eFrz (lcL (iVal (oVar 1)) (tgName 5) tYesM (eOp atD (oVar 5) (eMeth .list gIndex (oVar 3) (aCons (eC (.int 1)) aNil))) [5])) aNil)) (eC (.int 1))))))
  (sRet (eC (.bl false)))
  sNil)
  (sSet 2 (xVal (eMeth .list gIndex (oVar 3) (aCons (eC (.int 1)) aNil))))))
  (sRet (eC (.bl true))))))
set_option maxHeartbeats 400000 in
theorem t_35 (fe : Nat → FD) : (den GG fe n_35 m_35 60).B (defDC (topS 46)) (defBody (topS 46)) = b_35 fe := by kernel_rfl
-- _law_at
def n_36 : List Str := ["many", "line", "letter"]
def m_36 : Md := fun x => 0
def b_36 (fe : Nat → FD) : SM := (sRet (eTup (aCons (eC (.int 0)) (aCons (eOp gAdd (eOp gAdd (eOp gMul (eC (.str [73])) (oVar 1)) (oVar 2)) (eOp gMul (eC (.str [73])) (eOp gSub (eOp gSub (oVar 0) (eC (.int 1))) (oVar 1)))) aNil))))
set_option maxHeartbeats 400000 in
theorem t_36 (fe : Nat → FD) : (den GG fe n_36 m_36 60).B (defDC (topS 47)) (defBody (topS 47)) = b_36 fe := by kernel_rfl
-- _law_code
def n_37 : List Str := ["own", "many", "count", "gates", "words", "line", "e", "letters"]
def m_37 : Md := fun x => if x = ("words" : Str) then 1 else 0
def b_37 (fe : Nat → FD) : SM := (sSeq (sSet 3 (xVal (eFn 4 (fe 26) (aCons (eVar 0) (aCons (eVar 1) (aCons (eC (.int 12)) (aCons (eFrz (lLst (aCons (eC (.str [104])) (aCons (eC (.str [104])) (aCons (eC (.str [104])) (aCons (eC (.str [115])) (aCons (eC (.str [115, 100])) (aCons (eC (.str [120])) (aCons (eC (.str [121])) (aCons (eC (.str [122])) (aCons (eC (.str [99, 120])) (aCons (eC (.str [99, 120])) (aCons (eC (.str [99, 120])) (aCons (eC (.str [99, 122])) (aCons (eC (.str [115, 119, 97, 112])) (aCons (eC (.str [119])) aNil)))))))))))))))) aNil)))))))
  (sSeq (sSet 4 (xOwn (lLst aNil)))
  (sSeq (sFor (iRange1 (aCons (eVar 2) aNil)) (tgName 5)
  (sSeq (sAsg (tgTup [(tgName 6), (tgName 7)]) (eFn 2 (fe 32) (aCons (eVar 3) (aCons (eFn 3 (fe 36) (aCons (eVar 1) (aCons (eVar 5) (aCons (eC (.str [90])) aNil)))) aNil))))
  (sAppend 4 (eTup (aCons (eOp gMod (eCall gIntA (aCons (eOp gAdd (oVar 6) (eOp gMul (eC (.int 2)) (eFn 2 (fe 24) (aCons (eVar 0) (aCons (eC (.int 2)) aNil))))) aNil)) (eC (.int 4))) (aCons (eVar 7) aNil))))))
  (sFrz [4] (sRet (eFn 2 (fe 38) (aCons (eVar 0) (aCons (eVar 4) aNil))))))))
set_option maxHeartbeats 400000 in
theorem t_37 (fe : Nat → FD) : (den GG fe n_37 m_37 60).B (defDC (topS 48)) (defBody (topS 48)) = b_37 fe := by kernel_rfl
-- _law_mixed
def n_38 : List Str := ["own", "words", "at", "other"]
def m_38 : Md := fun x => if x = ("words" : Str) then 1 else 0
def b_38 (fe : Nat → FD) : SM := (sSeq (sSet 1 (xOwn (lListOf (aCons (oVar 1) aNil))))
  (sSeq (sFor (iRange1 (aCons (eCall gLen (aCons (oVar 1) aNil)) aNil)) (tgName 2)
  (sSeq (sSet 3 (xVal (eOp gMod (eCall gIntA (aCons (eOp gAdd (eOp gAdd (oVar 2) (eC (.int 1))) (eFn 2 (fe 24) (aCons (eVar 0) (aCons (eCall gMax2 (aCons (eC (.int 1)) (aCons (eOp gSub (eCall gLen (aCons (oVar 1) aNil)) (eC (.int 1))) aNil))) aNil)))) aNil)) (eCall gLen (aCons (oVar 1) aNil)))))
  (sIf (tAnd (tB (eOp gNe (oVar 3) (oVar 2))) (tB (eOp gEq (eFn 2 (fe 24) (aCons (eVar 0) (aCons (eC (.int 2)) aNil))) (eC (.int 1)))))
  (sStore 1 (eFn 2 (fe 29) (aCons (eOp atD (oVar 1) (oVar 2)) (aCons (eOp atD (oVar 1) (oVar 3)) aNil))) (eVar 2))
  sNil)))
  (sRet (eCall gTuple (aCons (oVar 1) aNil)))))
set_option maxHeartbeats 400000 in
theorem t_38 (fe : Nat → FD) : (den GG fe n_38 m_38 60).B (defDC (topS 49)) (defBody (topS 49)) = b_38 fe := by kernel_rfl
-- _law_pauli
def n_39 : List Str := ["own", "many", "k"]
def m_39 : Md := fun x => 0
def b_39 (fe : Nat → FD) : SM := (sRet (eTup (aCons (eFn 2 (fe 24) (aCons (eVar 0) (aCons (eC (.int 4)) aNil))) (aCons (eMeth .str gJoin (eC (.str [])) (aCons (eFrz (lcL (iRange1 (aCons (eVar 1) aNil)) (tgName 2) tYesM (eOp atD (eC (.str [73, 88, 89, 90])) (eFn 2 (fe 24) (aCons (eVar 0) (aCons (eC (.int 4)) aNil)))) [2])) aNil)) aNil))))
set_option maxHeartbeats 400000 in
theorem t_39 (fe : Nat → FD) : (den GG fe n_39 m_39 60).B (defDC (topS 50)) (defBody (topS 50)) = b_39 fe := by kernel_rfl
-- _law_bent
def n_40 : List Str := ["own", "code", "many", "first", "at", "strange", "some", "k"]
def m_40 : Md := fun x => 0
def b_40 (fe : Nat → FD) : SM := (sSeq (sAsg (tgTup [(tgName 2), (tgName 3)]) (eTup (aCons (eCall gLen (aCons (eOp atD (eOp atD (oVar 1) (eC (.int 0))) (eC (.int 1))) aNil)) (aCons (eOp atD (oVar 1) (eC (.int 0))) aNil))))
  (sSeq (sSet 4 (xVal (eOp atD (eFrz (lcL (iRange1 (aCons (eVar 2) aNil)) (tgName 7) (tB (eOp gNe (eOp atD (eOp atD (oVar 3) (eC (.int 1))) (oVar 7)) (eC (.str [73])))) (eVar 7) [7])) (eC (.int 0)))))
  (sSeq (sSet 5 (xVal (eFn 3 (fe 36) (aCons (eVar 2) (aCons (eVar 4) (aCons (eGetG [([88], .str [90]), ([89], .str [88]), ([90], .str [88])] (eOp atD (eOp atD (oVar 3) (eC (.int 1))) (oVar 4))) aNil))))))
  (sSeq (sSet 6 (xVal (eFrz (lLst (aCons (eFrz (lListOf (aCons (oVar 1) aNil))) (aCons (eTup aNil) (aCons (eOp gAdd (oVar 1) (eTup (aCons (eVar 3) aNil))) (aCons (eOp gAdd (oVar 1) (eTup (aCons (eFn 2 (fe 29) (aCons (eVar 3) (aCons (eOp atD (oVar 1) (eNeg (eC (.int 1)))) aNil))) aNil))) (aCons (eOp gAdd (eTup (aCons (eTup (aCons (eC (.int 1)) (aCons (eOp atD (oVar 3) (eC (.int 1))) aNil))) aNil)) (eSlice (oVar 1) (oSome (eC (.int 1))) oNone)) (aCons (eC .non) aNil))))))))))
  (sSeq (sSet 6 (xVal (eOp gAdd (oVar 6) (eFrz (lLst (aCons (eOp gAdd (eTup (aCons (eTup (aCons (eC (.int 0)) (aCons (eOp gMul (eC (.str [73])) (oVar 2)) aNil))) aNil)) (eSlice (oVar 1) (oSome (eC (.int 1))) oNone)) (aCons (eOp gAdd (oVar 1) (eTup (aCons (eTup (aCons (eC (.int 0)) (aCons (eOp gAdd (eC (.str [90])) (eOp atD (oVar 3) (eC (.int 1)))) aNil))) aNil))) (aCons (eOp gAdd (oVar 1) (eTup (aCons (eVar 5) aNil))) (aCons (eOp gAdd (eTup (aCons (eVar 5) aNil)) (oVar 1)) aNil)))))))))
  (sSeq (sSet 6 (xVal (eOp gAdd (oVar 6) (eFrz (lLst (aCons (eOp gAdd (eTup (aCons (eTup (aCons (eC (.bl true)) (aCons (eOp atD (oVar 3) (eC (.int 1))) aNil))) aNil)) (eSlice (oVar 1) (oSome (eC (.int 1))) oNone)) (aCons (eOp gAdd (eTup (aCons (eFrz (lListOf (aCons (oVar 3) aNil))) aNil)) (eSlice (oVar 1) (oSome (eC (.int 1))) oNone)) (aCons (eOp gAdd (eTup (aCons (eTup (aCons (eC (.int 0)) (aCons (eOp gMul (eC (.str [65])) (oVar 2)) aNil))) aNil)) (eSlice (oVar 1) (oSome (eC (.int 1))) oNone)) (aCons (eTup (aCons (eTup (aCons (eC (.int 0)) (aCons (eC (.str [])) aNil))) aNil)) (aCons (eTup (aCons (eOp atD (oVar 3) (eC (.int 1))) aNil)) aNil))))))))))
  (sRet (eOp atD (oVar 6) (eFn 2 (fe 24) (aCons (eVar 0) (aCons (eCall gLen (aCons (oVar 6) aNil)) aNil)))))))))))
set_option maxHeartbeats 400000 in
theorem t_40 (fe : Nat → FD) : (den GG fe n_40 m_40 60).B (defDC (topS 51)) (defBody (topS 51)) = b_40 fe := by kernel_rfl
-- law
def n_41 : List Str := ["script", "own", "turn", "many", "code", "mixed", "pauli", "got", "due", "told", "at", "turned", "word"]
def m_41 : Md := fun x => if x = ("own" : Str) then 2 else 0
def b_41 (fe : Nat → FD) : SM := (sSeq (sSet 1 (xHeap (lLst (aCons (eC (.int 0)) (aCons (eC (.int 83)) (aCons (eC (.int 0)) (aCons (eC (.int 0)) (aCons (eFrz (lListOf (aCons (oVar 0) aNil))) aNil))))))))
  (sSeq (sFor (iRange1 (aCons (eC (.int 2)) aNil)) (tgName 2)
  (sSeq (sSet 3 (xVal (eOp gAdd (eC (.int 1)) (eFn 2 (fe 24) (aCons (eVar 1) (aCons (eC (.int 5)) aNil))))))
  (sSeq (sSet 4 (xVal (eFn 3 (fe 37) (aCons (eVar 1) (aCons (eVar 3) (aCons (eOp gAdd (eC (.int 1)) (eFn 2 (fe 24) (aCons (eVar 1) (aCons (eVar 3) aNil)))) aNil))))))
  (sSeq (sAsg (tgTup [(tgName 5), (tgName 6)]) (eTup (aCons (eFn 2 (fe 38) (aCons (eVar 1) (aCons (eVar 4) aNil))) (aCons (eFn 2 (fe 39) (aCons (eVar 1) (aCons (eVar 3) aNil))) aNil))))
  (sSeq (sSet 7 (xVal (eFrz (lLst (aCons (eFn 1 (fe 18) (aCons (eVar 4) aNil)) (aCons (eFnK 1 0 1 [0] (fe 18) aNil (aCons (eVar 5) aNil)) (aCons (eFn 1 (fe 18) (aCons (eFn 2 (fe 40) (aCons (eVar 1) (aCons (eVar 4) aNil))) aNil)) aNil)))))))
  (sSeq (sIf (tNot (tB (eFn 2 (fe 25) (aCons (eVar 7) (aCons (eFrz (lLst (aCons (eC (.bl true)) (aCons (eC (.bl true)) (aCons (eC (.bl false)) aNil))))) aNil)))))
  (sRet (eC (.bl false)))
  sNil)
  (sSeq (sSet 8 (xVal (eMeth .str gJoin (eC (.str [])) (aCons (eFrz (lcL (iVal (oVar 4)) (tgName 12) tYesM (eIf (tB (eFn 2 (fe 31) (aCons (eVar 12) (aCons (eVar 6) aNil)))) (eC (.str [48])) (eC (.str [49]))) [12])) aNil))))
  (sSeq (sIf (tNot (tB (eFn 2 (fe 25) (aCons (eFrz (lLst (aCons (eFn 2 (fe 23) (aCons (eVar 4) (aCons (eVar 6) aNil))) (aCons (eFnK 2 0 2 [1, 0] (fe 23) aNil (aCons (eVar 6) (aCons (eVar 4) aNil))) aNil)))) (aCons (eFrz (lLst (aCons (eVar 8) (aCons (eVar 8) aNil)))) aNil)))))
  (sRet (eC (.bl false)))
  sNil)
  (sSeq (sPar2 9 10 (xsCons (xVal (eFn 1 (fe 21) (aCons (eVar 4) aNil))) (xsCons (xVal (eFn 2 (fe 24) (aCons (eVar 1) (aCons (eCall gLen (aCons (oVar 4) aNil)) aNil)))) xsNil)))
  (sSeq (sIf (tOr (tNot (tB (eFn 3 (fe 33) (aCons (eVar 9) (aCons (eVar 3) (aCons (eCall gLen (aCons (oVar 4) aNil)) aNil)))))) (tNot (tB (eFn 2 (fe 34) (aCons (eVar 9) (aCons (eFn 1 (fe 30) (aCons (eVar 4) aNil)) aNil))))))
  (sRet (eC (.bl false)))
  sNil)
  (sSeq (sSet 11 (xVal (eOp gAdd (eOp gAdd (eSlice (oVar 5) oNone (oSome (eVar 10))) (eTup (aCons (eTup (aCons (eOp gMod (eCall gIntA (aCons (eOp gAdd (eOp atD (eOp atD (oVar 5) (oVar 10)) (eC (.int 0))) (eC (.int 2))) aNil)) (eC (.int 4))) (aCons (eOp atD (eOp atD (oVar 5) (oVar 10)) (eC (.int 1))) aNil))) aNil))) (eSlice (oVar 5) (oSome (eOp gAdd (oVar 10) (eC (.int 1)))) oNone))))
  (sSeq (sSet 7 (xVal (eFrz (lLst (aCons (eFnK 1 0 1 [0] (fe 21) aNil (aCons (eVar 5) aNil)) (aCons (eFn 2 (fe 22) (aCons (eVar 4) (aCons (eVar 5) aNil))) (aCons (eFnK 2 0 2 [1, 0] (fe 22) aNil (aCons (eVar 11) (aCons (eVar 4) aNil))) (aCons (eFn 2 (fe 22) (aCons (eVar 9) (aCons (eVar 4) aNil))) aNil))))))))
  (sIf (tOr (tNot (tB (eFn 1 (fe 35) (aCons (eVar 9) aNil)))) (tNot (tB (eFn 2 (fe 25) (aCons (eVar 7) (aCons (eFrz (lLst (aCons (eVar 9) (aCons (eC (.bl true)) (aCons (eC (.bl false)) (aCons (eC (.bl true)) aNil)))))) aNil))))))
  (sRet (eC (.bl false)))
  sNil)))))))))))))
  (sRet (eC (.bl true)))))
set_option maxHeartbeats 400000 in
theorem t_41 (fe : Nat → FD) : (den GG fe n_41 m_41 60).B (defDC (topS 52)) (defBody (topS 52)) = b_41 fe := by kernel_rfl
def gTop : List (Str × Nat) := [(("is_integer" : Str), 5), (("reduced_rows" : Str), 7), (("rank_of" : Str), 8), (("are_independent" : Str), 9), (("indexes_of" : Str), 10), (("row_of" : Str), 11), (("is_pauli" : Str), 14), (("is_upright" : Str), 15), (("check_pauli" : Str), 16), (("product_of" : Str), 17), (("product_of_all" : Str), 18), (("meets_of" : Str), 19), (("flips_of" : Str), 20), (("turns_of" : Str), 21), (("signs_of" : Str), 22), (("are_group_words" : Str), 24), (("combined" : Str), 25), (("reduced_of" : Str), 26), (("is_code" : Str), 28), (("check_code" : Str), 29), (("lines_of" : Str), 30), (("code_reduced" : Str), 31), (("same_code" : Str), 32), (("syndrome" : Str), 33), (("_law_draw" : Str), 35), (("_law_like" : Str), 36), (("_law_gates" : Str), 37), (("_law_signs" : Str), 38), (("_law_word" : Str), 39), (("_law_times" : Str), 40), (("_law_group" : Str), 41), (("_law_meets" : Str), 42), (("_law_led" : Str), 43), (("_law_are_words" : Str), 44), (("_law_same_group" : Str), 45), (("_law_is_reduced" : Str), 46), (("_law_at" : Str), 47), (("_law_code" : Str), 48), (("_law_mixed" : Str), 49), (("_law_pauli" : Str), 50), (("_law_bent" : Str), 51), (("law" : Str), 52)]
def sts (x : Str) : Stmt := topS ((gTop.lookup x).getD 0)
def BB : Bodies := [(1, b_0), (8, b_1), (1, b_2), (1, b_3), (2, b_4), (3, b_5), (3, b_6), (1, b_7), (2, b_8), (8, b_9), (4, b_10), (5, b_11), (2, b_12), (2, b_13), (1, b_14), (5, b_15), (3, b_16), (4, b_17), (1, b_18), (1, b_19), (1, b_20), (1, b_21), (2, b_22), (3, b_23), (5, b_24), (3, b_25), (8, b_26), (4, b_27), (5, b_28), (8, b_29), (4, b_30), (4, b_31), (11, b_32), (5, b_33), (4, b_34), (6, b_35), (3, b_36), (8, b_37), (4, b_38), (3, b_39), (8, b_40), (13, b_41)]
theorem s_0 : sts "is_integer" = topS 5 := by kernel_rfl
theorem x_0 : DefTx GG BB "is_integer" 0 1 (topS 5) := ⟨n_0, ["value"], m_0, b_0, rfl, rfl, t_0, ⟨rfl, rfl, rfl, by decide +kernel, rfl, by decide +kernel, by decide +kernel⟩, fun kV doc pm an cdv ct us hl => match us, hl with | [_], _ => rfl, kf_of (l := []) (by kernel_rfl) all_nil⟩
theorem s_1 : sts "reduced_rows" = topS 7 := by kernel_rfl
theorem x_1 : DefTx GG BB "reduced_rows" 1 1 (topS 7) := ⟨n_1, ["rows"], m_1, b_1, rfl, rfl, t_1, ⟨rfl, rfl, rfl, by decide +kernel, rfl, by decide +kernel, by decide +kernel⟩, fun kV doc pm an cdv ct us hl => match us, hl with | [_], _ => rfl, kf_of (l := []) (by kernel_rfl) all_nil⟩
theorem s_2 : sts "rank_of" = topS 8 := by kernel_rfl
theorem x_2 : DefTx GG BB "rank_of" 2 1 (topS 8) := ⟨n_2, ["rows"], m_2, b_2, rfl, rfl, t_2, ⟨rfl, rfl, rfl, by decide +kernel, rfl, by decide +kernel, by decide +kernel⟩, fun kV doc pm an cdv ct us hl => match us, hl with | [_], _ => rfl, kf_of (l := []) (by kernel_rfl) all_nil⟩
theorem s_3 : sts "are_independent" = topS 9 := by kernel_rfl
theorem x_3 : DefTx GG BB "are_independent" 3 1 (topS 9) := ⟨n_3, ["rows"], m_3, b_3, rfl, rfl, t_3, ⟨rfl, rfl, rfl, by decide +kernel, rfl, by decide +kernel, by decide +kernel⟩, fun kV doc pm an cdv ct us hl => match us, hl with | [_], _ => rfl, kf_of (l := []) (by kernel_rfl) all_nil⟩
theorem s_4 : sts "indexes_of" = topS 10 := by kernel_rfl
theorem x_4 : DefTx GG BB "indexes_of" 4 1 (topS 10) := ⟨n_4, ["added"], m_4, b_4, rfl, rfl, t_4, ⟨rfl, rfl, rfl, by decide +kernel, rfl, by decide +kernel, by decide +kernel⟩, fun kV doc pm an cdv ct us hl => match us, hl with | [_], _ => rfl, kf_of (l := []) (by kernel_rfl) all_nil⟩
theorem s_5 : sts "row_of" = topS 11 := by kernel_rfl
theorem x_5 : DefTx GG BB "row_of" 5 1 (topS 11) := ⟨n_5, ["signs"], m_5, b_5, rfl, rfl, t_5, ⟨rfl, rfl, rfl, by decide +kernel, rfl, by decide +kernel, by decide +kernel⟩, fun kV doc pm an cdv ct us hl => match us, hl with | [_], _ => rfl, kf_of (l := []) (by kernel_rfl) all_nil⟩
theorem s_6 : sts "is_pauli" = topS 14 := by kernel_rfl
theorem x_6 : DefTx GG BB "is_pauli" 6 1 (topS 14) := ⟨n_6, ["value"], m_6, b_6, rfl, rfl, t_6, ⟨rfl, rfl, rfl, by decide +kernel, rfl, by decide +kernel, by decide +kernel⟩, fun kV doc pm an cdv ct us hl => match us, hl with | [_], _ => rfl, kf_of (l := []) (by kernel_rfl) all_nil⟩
theorem s_7 : sts "is_upright" = topS 15 := by kernel_rfl
theorem x_7 : DefTx GG BB "is_upright" 7 1 (topS 15) := ⟨n_7, ["value"], m_7, b_7, rfl, rfl, t_7, ⟨rfl, rfl, rfl, by decide +kernel, rfl, by decide +kernel, by decide +kernel⟩, fun kV doc pm an cdv ct us hl => match us, hl with | [_], _ => rfl, kf_of (l := []) (by kernel_rfl) all_nil⟩
theorem s_8 : sts "check_pauli" = topS 16 := by kernel_rfl
theorem x_8 : DefTx GG BB "check_pauli" 8 2 (topS 16) := ⟨n_8, ["pauli", "many"], m_8, b_8, rfl, rfl, t_8, ⟨rfl, rfl, rfl, by decide +kernel, rfl, by decide +kernel, by decide +kernel⟩, fun kV doc pm an cdv ct us hl => match us, hl with | [_, _], _ => rfl, kf_of (l := []) (by kernel_rfl) all_nil⟩
theorem s_9 : sts "product_of" = topS 17 := by kernel_rfl
theorem x_9 : DefTx GG BB "product_of" 9 2 (topS 17) := ⟨n_9, ["pauli", "second"], m_9, b_9, rfl, rfl, t_9, ⟨rfl, rfl, rfl, by decide +kernel, rfl, by decide +kernel, by decide +kernel⟩, fun kV doc pm an cdv ct us hl => match us, hl with | [_, _], _ => rfl, kf_of (l := []) (by kernel_rfl) all_nil⟩
theorem s_10 : sts "product_of_all" = topS 18 := by kernel_rfl
theorem x_10 : DefTx GG BB "product_of_all" 10 2 (topS 18) := ⟨n_10, ["many", "words"], m_10, b_10, rfl, rfl, t_10, ⟨rfl, rfl, rfl, by decide +kernel, rfl, by decide +kernel, by decide +kernel⟩, fun kV doc pm an cdv ct us hl => match us, hl with | [_, _], _ => rfl, kf_of (l := []) (by kernel_rfl) all_nil⟩
theorem s_11 : sts "meets_of" = topS 19 := by kernel_rfl
theorem x_11 : DefTx GG BB "meets_of" 11 2 (topS 19) := ⟨n_11, ["pauli", "second"], m_11, b_11, rfl, rfl, t_11, ⟨rfl, rfl, rfl, by decide +kernel, rfl, by decide +kernel, by decide +kernel⟩, fun kV doc pm an cdv ct us hl => match us, hl with | [_, _], _ => rfl, kf_of (l := []) (by kernel_rfl) all_nil⟩
theorem s_12 : sts "flips_of" = topS 20 := by kernel_rfl
theorem x_12 : DefTx GG BB "flips_of" 12 1 (topS 20) := ⟨n_12, ["letters"], m_12, b_12, rfl, rfl, t_12, ⟨rfl, rfl, rfl, by decide +kernel, rfl, by decide +kernel, by decide +kernel⟩, fun kV doc pm an cdv ct us hl => match us, hl with | [_], _ => rfl, kf_of (l := []) (by kernel_rfl) all_nil⟩
theorem s_13 : sts "turns_of" = topS 21 := by kernel_rfl
theorem x_13 : DefTx GG BB "turns_of" 13 1 (topS 21) := ⟨n_13, ["letters"], m_13, b_13, rfl, rfl, t_13, ⟨rfl, rfl, rfl, by decide +kernel, rfl, by decide +kernel, by decide +kernel⟩, fun kV doc pm an cdv ct us hl => match us, hl with | [_], _ => rfl, kf_of (l := []) (by kernel_rfl) all_nil⟩
theorem s_14 : sts "signs_of" = topS 22 := by kernel_rfl
theorem x_14 : DefTx GG BB "signs_of" 14 1 (topS 22) := ⟨n_14, ["pauli"], m_14, b_14, rfl, rfl, t_14, ⟨rfl, rfl, rfl, by decide +kernel, rfl, by decide +kernel, by decide +kernel⟩, fun kV doc pm an cdv ct us hl => match us, hl with | [_], _ => rfl, kf_of (l := []) (by kernel_rfl) all_nil⟩
theorem s_15 : sts "are_group_words" = topS 24 := by kernel_rfl
theorem x_15 : DefTx GG BB "are_group_words" 15 1 (topS 24) := ⟨n_15, ["value"], m_15, b_15, rfl, rfl, t_15, ⟨rfl, rfl, rfl, by decide +kernel, rfl, by decide +kernel, by decide +kernel⟩, fun kV doc pm an cdv ct us hl => match us, hl with | [_], _ => rfl, kf_of (l := []) (by kernel_rfl) all_nil⟩
theorem s_16 : sts "combined" = topS 25 := by kernel_rfl
theorem x_16 : DefTx GG BB "combined" 16 2 (topS 25) := ⟨n_16, ["words", "added"], m_16, b_16, rfl, rfl, t_16, ⟨rfl, rfl, rfl, by decide +kernel, rfl, by decide +kernel, by decide +kernel⟩, fun kV doc pm an cdv ct us hl => match us, hl with | [_, _], _ => rfl, kf_of (l := []) (by kernel_rfl) all_nil⟩
theorem s_17 : sts "reduced_of" = topS 26 := by kernel_rfl
theorem x_17 : DefTx GG BB "reduced_of" 17 1 (topS 26) := ⟨n_17, ["words"], m_17, b_17, rfl, rfl, t_17, ⟨rfl, rfl, rfl, by decide +kernel, rfl, by decide +kernel, by decide +kernel⟩, fun kV doc pm an cdv ct us hl => match us, hl with | [_], _ => rfl, kf_of (l := []) (by kernel_rfl) all_nil⟩
theorem s_18 : sts "is_code" = topS 28 := by kernel_rfl
theorem x_18 : DefTx GG BB "is_code" 18 1 (topS 28) := ⟨n_18, ["value"], m_18, b_18, rfl, rfl, t_18, ⟨rfl, rfl, rfl, by decide +kernel, rfl, by decide +kernel, by decide +kernel⟩, fun kV doc pm an cdv ct us hl => match us, hl with | [_], _ => rfl, kf_of (l := [(("is_code" : Str), 0, ["value"], [0])]) (by kernel_rfl) (all_cons (fun kV doc pm an cdv ct us ws hu hw => match us, ws, hu, hw with | [], [_], _, _ => rfl) all_nil)⟩
theorem s_19 : sts "check_code" = topS 29 := by kernel_rfl
theorem x_19 : DefTx GG BB "check_code" 19 1 (topS 29) := ⟨n_19, ["code"], m_19, b_19, rfl, rfl, t_19, ⟨rfl, rfl, rfl, by decide +kernel, rfl, by decide +kernel, by decide +kernel⟩, fun kV doc pm an cdv ct us hl => match us, hl with | [_], _ => rfl, kf_of (l := []) (by kernel_rfl) all_nil⟩
theorem s_20 : sts "lines_of" = topS 30 := by kernel_rfl
theorem x_20 : DefTx GG BB "lines_of" 20 1 (topS 30) := ⟨n_20, ["code"], m_20, b_20, rfl, rfl, t_20, ⟨rfl, rfl, rfl, by decide +kernel, rfl, by decide +kernel, by decide +kernel⟩, fun kV doc pm an cdv ct us hl => match us, hl with | [_], _ => rfl, kf_of (l := []) (by kernel_rfl) all_nil⟩
theorem s_21 : sts "code_reduced" = topS 31 := by kernel_rfl
theorem x_21 : DefTx GG BB "code_reduced" 21 1 (topS 31) := ⟨n_21, ["code"], m_21, b_21, rfl, rfl, t_21, ⟨rfl, rfl, rfl, by decide +kernel, rfl, by decide +kernel, by decide +kernel⟩, fun kV doc pm an cdv ct us hl => match us, hl with | [_], _ => rfl, kf_of (l := [(("code_reduced" : Str), 0, ["code"], [0])]) (by kernel_rfl) (all_cons (fun kV doc pm an cdv ct us ws hu hw => match us, ws, hu, hw with | [], [_], _, _ => rfl) all_nil)⟩
theorem s_22 : sts "same_code" = topS 32 := by kernel_rfl
theorem x_22 : DefTx GG BB "same_code" 22 2 (topS 32) := ⟨n_22, ["code", "second_code"], m_22, b_22, rfl, rfl, t_22, ⟨rfl, rfl, rfl, by decide +kernel, rfl, by decide +kernel, by decide +kernel⟩, fun kV doc pm an cdv ct us hl => match us, hl with | [_, _], _ => rfl, kf_of (l := [(("same_code" : Str), 0, ["second_code", "code"], [1, 0])]) (by kernel_rfl) (all_cons (fun kV doc pm an cdv ct us ws hu hw => match us, ws, hu, hw with | [], [_, _], _, _ => rfl) all_nil)⟩
theorem s_23 : sts "syndrome" = topS 33 := by kernel_rfl
theorem x_23 : DefTx GG BB "syndrome" 23 2 (topS 33) := ⟨n_23, ["code", "pauli"], m_23, b_23, rfl, rfl, t_23, ⟨rfl, rfl, rfl, by decide +kernel, rfl, by decide +kernel, by decide +kernel⟩, fun kV doc pm an cdv ct us hl => match us, hl with | [_, _], _ => rfl, kf_of (l := [(("syndrome" : Str), 0, ["pauli", "code"], [1, 0])]) (by kernel_rfl) (all_cons (fun kV doc pm an cdv ct us ws hu hw => match us, ws, hu, hw with | [], [_, _], _, _ => rfl) all_nil)⟩
theorem s_24 : sts "_law_draw" = topS 35 := by kernel_rfl
theorem x_24 : DefTx GG BB "_law_draw" 24 2 (topS 35) := ⟨n_24, ["own", "many"], m_24, b_24, rfl, rfl, t_24, ⟨rfl, rfl, rfl, by decide +kernel, rfl, by decide +kernel, by decide +kernel⟩, fun kV doc pm an cdv ct us hl => match us, hl with | [_, _], _ => rfl, kf_of (l := []) (by kernel_rfl) all_nil⟩
theorem s_25 : sts "_law_like" = topS 36 := by kernel_rfl
theorem x_25 : DefTx GG BB "_law_like" 25 2 (topS 36) := ⟨n_25, ["got", "due"], m_25, b_25, rfl, rfl, t_25, ⟨rfl, rfl, rfl, by decide +kernel, rfl, by decide +kernel, by decide +kernel⟩, fun kV doc pm an cdv ct us hl => match us, hl with | [_, _], _ => rfl, kf_of (l := []) (by kernel_rfl) all_nil⟩
theorem s_26 : sts "_law_gates" = topS 37 := by kernel_rfl
theorem x_26 : DefTx GG BB "_law_gates" 26 4 (topS 37) := ⟨n_26, ["own", "many", "most", "names"], m_26, b_26, rfl, rfl, t_26, ⟨rfl, rfl, rfl, by decide +kernel, rfl, by decide +kernel, by decide +kernel⟩, fun kV doc pm an cdv ct us hl => match us, hl with | [_, _, _, _], _ => rfl, kf_of (l := []) (by kernel_rfl) all_nil⟩
theorem s_27 : sts "_law_signs" = topS 38 := by kernel_rfl
theorem x_27 : DefTx GG BB "_law_signs" 27 1 (topS 38) := ⟨n_27, ["pauli"], m_27, b_27, rfl, rfl, t_27, ⟨rfl, rfl, rfl, by decide +kernel, rfl, by decide +kernel, by decide +kernel⟩, fun kV doc pm an cdv ct us hl => match us, hl with | [_], _ => rfl, kf_of (l := []) (by kernel_rfl) all_nil⟩
theorem s_28 : sts "_law_word" = topS 39 := by kernel_rfl
theorem x_28 : DefTx GG BB "_law_word" 28 3 (topS 39) := ⟨n_28, ["e", "x", "z"], m_28, b_28, rfl, rfl, t_28, ⟨rfl, rfl, rfl, by decide +kernel, rfl, by decide +kernel, by decide +kernel⟩, fun kV doc pm an cdv ct us hl => match us, hl with | [_, _, _], _ => rfl, kf_of (l := []) (by kernel_rfl) all_nil⟩
theorem s_29 : sts "_law_times" = topS 40 := by kernel_rfl
theorem x_29 : DefTx GG BB "_law_times" 29 2 (topS 40) := ⟨n_29, ["first", "second"], m_29, b_29, rfl, rfl, t_29, ⟨rfl, rfl, rfl, by decide +kernel, rfl, by decide +kernel, by decide +kernel⟩, fun kV doc pm an cdv ct us hl => match us, hl with | [_, _], _ => rfl, kf_of (l := []) (by kernel_rfl) all_nil⟩
theorem s_30 : sts "_law_group" = topS 41 := by kernel_rfl
theorem x_30 : DefTx GG BB "_law_group" 30 1 (topS 41) := ⟨n_30, ["words"], m_30, b_30, rfl, rfl, t_30, ⟨rfl, rfl, rfl, by decide +kernel, rfl, by decide +kernel, by decide +kernel⟩, fun kV doc pm an cdv ct us hl => match us, hl with | [_], _ => rfl, kf_of (l := []) (by kernel_rfl) all_nil⟩
theorem s_31 : sts "_law_meets" = topS 42 := by kernel_rfl
theorem x_31 : DefTx GG BB "_law_meets" 31 2 (topS 42) := ⟨n_31, ["first", "second"], m_31, b_31, rfl, rfl, t_31, ⟨rfl, rfl, rfl, by decide +kernel, rfl, by decide +kernel, by decide +kernel⟩, fun kV doc pm an cdv ct us hl => match us, hl with | [_, _], _ => rfl, kf_of (l := []) (by kernel_rfl) all_nil⟩
theorem s_32 : sts "_law_led" = topS 43 := by kernel_rfl
theorem x_32 : DefTx GG BB "_law_led" 32 2 (topS 43) := ⟨n_32, ["gates", "pauli"], m_32, b_32, rfl, rfl, t_32, ⟨rfl, rfl, rfl, by decide +kernel, rfl, by decide +kernel, by decide +kernel⟩, fun kV doc pm an cdv ct us hl => match us, hl with | [_, _], _ => rfl, kf_of (l := []) (by kernel_rfl) all_nil⟩
theorem s_33 : sts "_law_are_words" = topS 44 := by kernel_rfl
theorem x_33 : DefTx GG BB "_law_are_words" 33 3 (topS 44) := ⟨n_33, ["got", "many", "count"], m_33, b_33, rfl, rfl, t_33, ⟨rfl, rfl, rfl, by decide +kernel, rfl, by decide +kernel, by decide +kernel⟩, fun kV doc pm an cdv ct us hl => match us, hl with | [_, _, _], _ => rfl, kf_of (l := []) (by kernel_rfl) all_nil⟩
theorem s_34 : sts "_law_same_group" = topS 45 := by kernel_rfl
theorem x_34 : DefTx GG BB "_law_same_group" 34 2 (topS 45) := ⟨n_34, ["words", "group"], m_34, b_34, rfl, rfl, t_34, ⟨rfl, rfl, rfl, by decide +kernel, rfl, by decide +kernel, by decide +kernel⟩, fun kV doc pm an cdv ct us hl => match us, hl with | [_, _], _ => rfl, kf_of (l := []) (by kernel_rfl) all_nil⟩
theorem s_35 : sts "_law_is_reduced" = topS 46 := by kernel_rfl
theorem x_35 : DefTx GG BB "_law_is_reduced" 35 1 (topS 46) := ⟨n_35, ["words"], m_35, b_35, rfl, rfl, t_35, ⟨rfl, rfl, rfl, by decide +kernel, rfl, by decide +kernel, by decide +kernel⟩, fun kV doc pm an cdv ct us hl => match us, hl with | [_], _ => rfl, kf_of (l := []) (by kernel_rfl) all_nil⟩
theorem s_36 : sts "_law_at" = topS 47 := by kernel_rfl
theorem x_36 : DefTx GG BB "_law_at" 36 3 (topS 47) := ⟨n_36, ["many", "line", "letter"], m_36, b_36, rfl, rfl, t_36, ⟨rfl, rfl, rfl, by decide +kernel, rfl, by decide +kernel, by decide +kernel⟩, fun kV doc pm an cdv ct us hl => match us, hl with | [_, _, _], _ => rfl, kf_of (l := []) (by kernel_rfl) all_nil⟩
theorem s_37 : sts "_law_code" = topS 48 := by kernel_rfl
theorem x_37 : DefTx GG BB "_law_code" 37 3 (topS 48) := ⟨n_37, ["own", "many", "count"], m_37, b_37, rfl, rfl, t_37, ⟨rfl, rfl, rfl, by decide +kernel, rfl, by decide +kernel, by decide +kernel⟩, fun kV doc pm an cdv ct us hl => match us, hl with | [_, _, _], _ => rfl, kf_of (l := []) (by kernel_rfl) all_nil⟩
theorem s_38 : sts "_law_mixed" = topS 49 := by kernel_rfl
theorem x_38 : DefTx GG BB "_law_mixed" 38 2 (topS 49) := ⟨n_38, ["own", "words"], m_38, b_38, rfl, rfl, t_38, ⟨rfl, rfl, rfl, by decide +kernel, rfl, by decide +kernel, by decide +kernel⟩, fun kV doc pm an cdv ct us hl => match us, hl with | [_, _], _ => rfl, kf_of (l := []) (by kernel_rfl) all_nil⟩
theorem s_39 : sts "_law_pauli" = topS 50 := by kernel_rfl
theorem x_39 : DefTx GG BB "_law_pauli" 39 2 (topS 50) := ⟨n_39, ["own", "many"], m_39, b_39, rfl, rfl, t_39, ⟨rfl, rfl, rfl, by decide +kernel, rfl, by decide +kernel, by decide +kernel⟩, fun kV doc pm an cdv ct us hl => match us, hl with | [_, _], _ => rfl, kf_of (l := []) (by kernel_rfl) all_nil⟩
theorem s_40 : sts "_law_bent" = topS 51 := by kernel_rfl
theorem x_40 : DefTx GG BB "_law_bent" 40 2 (topS 51) := ⟨n_40, ["own", "code"], m_40, b_40, rfl, rfl, t_40, ⟨rfl, rfl, rfl, by decide +kernel, rfl, by decide +kernel, by decide +kernel⟩, fun kV doc pm an cdv ct us hl => match us, hl with | [_, _], _ => rfl, kf_of (l := []) (by kernel_rfl) all_nil⟩
theorem s_41 : sts "law" = topS 52 := by kernel_rfl
theorem x_41 : DefTx GG BB "law" 41 1 (topS 52) := ⟨n_41, ["script"], m_41, b_41, rfl, rfl, t_41, ⟨rfl, rfl, rfl, by decide +kernel, rfl, by decide +kernel, by decide +kernel⟩, fun kV doc pm an cdv ct us hl => match us, hl with | [_], _ => rfl, kf_of (l := []) (by kernel_rfl) all_nil⟩
theorem u_0 (k : Nat) : callN BB (k + 1) 0 = defF 1 (b_0 (callN BB k)) := rfl
theorem u_1 (k : Nat) : callN BB (k + 1) 1 = defF 8 (b_1 (callN BB k)) := rfl
theorem u_2 (k : Nat) : callN BB (k + 1) 2 = defF 1 (b_2 (callN BB k)) := rfl
theorem u_3 (k : Nat) : callN BB (k + 1) 3 = defF 1 (b_3 (callN BB k)) := rfl
theorem u_4 (k : Nat) : callN BB (k + 1) 4 = defF 2 (b_4 (callN BB k)) := rfl
theorem u_5 (k : Nat) : callN BB (k + 1) 5 = defF 3 (b_5 (callN BB k)) := rfl
theorem u_6 (k : Nat) : callN BB (k + 1) 6 = defF 3 (b_6 (callN BB k)) := rfl
theorem u_7 (k : Nat) : callN BB (k + 1) 7 = defF 1 (b_7 (callN BB k)) := rfl
theorem u_8 (k : Nat) : callN BB (k + 1) 8 = defF 2 (b_8 (callN BB k)) := rfl
theorem u_9 (k : Nat) : callN BB (k + 1) 9 = defF 8 (b_9 (callN BB k)) := rfl
theorem u_10 (k : Nat) : callN BB (k + 1) 10 = defF 4 (b_10 (callN BB k)) := rfl
theorem u_11 (k : Nat) : callN BB (k + 1) 11 = defF 5 (b_11 (callN BB k)) := rfl
theorem u_12 (k : Nat) : callN BB (k + 1) 12 = defF 2 (b_12 (callN BB k)) := rfl
theorem u_13 (k : Nat) : callN BB (k + 1) 13 = defF 2 (b_13 (callN BB k)) := rfl
theorem u_14 (k : Nat) : callN BB (k + 1) 14 = defF 1 (b_14 (callN BB k)) := rfl
theorem u_15 (k : Nat) : callN BB (k + 1) 15 = defF 5 (b_15 (callN BB k)) := rfl
theorem u_16 (k : Nat) : callN BB (k + 1) 16 = defF 3 (b_16 (callN BB k)) := rfl
theorem u_17 (k : Nat) : callN BB (k + 1) 17 = defF 4 (b_17 (callN BB k)) := rfl
theorem u_18 (k : Nat) : callN BB (k + 1) 18 = defF 1 (b_18 (callN BB k)) := rfl
theorem u_19 (k : Nat) : callN BB (k + 1) 19 = defF 1 (b_19 (callN BB k)) := rfl
theorem u_20 (k : Nat) : callN BB (k + 1) 20 = defF 1 (b_20 (callN BB k)) := rfl
theorem u_21 (k : Nat) : callN BB (k + 1) 21 = defF 1 (b_21 (callN BB k)) := rfl
theorem u_22 (k : Nat) : callN BB (k + 1) 22 = defF 2 (b_22 (callN BB k)) := rfl
theorem u_23 (k : Nat) : callN BB (k + 1) 23 = defF 3 (b_23 (callN BB k)) := rfl
theorem u_24 (k : Nat) : callN BB (k + 1) 24 = defF 5 (b_24 (callN BB k)) := rfl
theorem u_25 (k : Nat) : callN BB (k + 1) 25 = defF 3 (b_25 (callN BB k)) := rfl
theorem u_26 (k : Nat) : callN BB (k + 1) 26 = defF 8 (b_26 (callN BB k)) := rfl
theorem u_27 (k : Nat) : callN BB (k + 1) 27 = defF 4 (b_27 (callN BB k)) := rfl
theorem u_28 (k : Nat) : callN BB (k + 1) 28 = defF 5 (b_28 (callN BB k)) := rfl
theorem u_29 (k : Nat) : callN BB (k + 1) 29 = defF 8 (b_29 (callN BB k)) := rfl
theorem u_30 (k : Nat) : callN BB (k + 1) 30 = defF 4 (b_30 (callN BB k)) := rfl
theorem u_31 (k : Nat) : callN BB (k + 1) 31 = defF 4 (b_31 (callN BB k)) := rfl
theorem u_32 (k : Nat) : callN BB (k + 1) 32 = defF 11 (b_32 (callN BB k)) := rfl
theorem u_33 (k : Nat) : callN BB (k + 1) 33 = defF 5 (b_33 (callN BB k)) := rfl
theorem u_34 (k : Nat) : callN BB (k + 1) 34 = defF 4 (b_34 (callN BB k)) := rfl
theorem u_35 (k : Nat) : callN BB (k + 1) 35 = defF 6 (b_35 (callN BB k)) := rfl
theorem u_36 (k : Nat) : callN BB (k + 1) 36 = defF 3 (b_36 (callN BB k)) := rfl
theorem u_37 (k : Nat) : callN BB (k + 1) 37 = defF 8 (b_37 (callN BB k)) := rfl
theorem u_38 (k : Nat) : callN BB (k + 1) 38 = defF 4 (b_38 (callN BB k)) := rfl
theorem u_39 (k : Nat) : callN BB (k + 1) 39 = defF 3 (b_39 (callN BB k)) := rfl
theorem u_40 (k : Nat) : callN BB (k + 1) 40 = defF 8 (b_40 (callN BB k)) := rfl
theorem u_41 (k : Nat) : callN BB (k + 1) 41 = defF 13 (b_41 (callN BB k)) := rfl
abbrev lvl : Nat := 59
theorem all_mk {P : Program} {w : World} {K : PySem.W.Frag} {h : Heap} {mg : Str → Option Value} {fa : Addr} (X : K.In h) (G : h.Ns mainGlobals mg) (hfa : mg "law" = some (.ref fa))
    (d_0 : DefAt K "is_integer" (topS 5))
    (d_1 : DefAt K "reduced_rows" (topS 7))
    (d_2 : DefAt K "rank_of" (topS 8))
    (d_3 : DefAt K "are_independent" (topS 9))
    (d_4 : DefAt K "indexes_of" (topS 10))
    (d_5 : DefAt K "row_of" (topS 11))
    (d_6 : DefAt K "is_pauli" (topS 14))
    (d_7 : DefAt K "is_upright" (topS 15))
    (d_8 : DefAt K "check_pauli" (topS 16))
    (d_9 : DefAt K "product_of" (topS 17))
    (d_10 : DefAt K "product_of_all" (topS 18))
    (d_11 : DefAt K "meets_of" (topS 19))
    (d_12 : DefAt K "flips_of" (topS 20))
    (d_13 : DefAt K "turns_of" (topS 21))
    (d_14 : DefAt K "signs_of" (topS 22))
    (d_15 : DefAt K "are_group_words" (topS 24))
    (d_16 : DefAt K "combined" (topS 25))
    (d_17 : DefAt K "reduced_of" (topS 26))
    (d_18 : DefAt K "is_code" (topS 28))
    (d_19 : DefAt K "check_code" (topS 29))
    (d_20 : DefAt K "lines_of" (topS 30))
    (d_21 : DefAt K "code_reduced" (topS 31))
    (d_22 : DefAt K "same_code" (topS 32))
    (d_23 : DefAt K "syndrome" (topS 33))
    (d_24 : DefAt K "_law_draw" (topS 35))
    (d_25 : DefAt K "_law_like" (topS 36))
    (d_26 : DefAt K "_law_gates" (topS 37))
    (d_27 : DefAt K "_law_signs" (topS 38))
    (d_28 : DefAt K "_law_word" (topS 39))
    (d_29 : DefAt K "_law_times" (topS 40))
    (d_30 : DefAt K "_law_group" (topS 41))
    (d_31 : DefAt K "_law_meets" (topS 42))
    (d_32 : DefAt K "_law_led" (topS 43))
    (d_33 : DefAt K "_law_are_words" (topS 44))
    (d_34 : DefAt K "_law_same_group" (topS 45))
    (d_35 : DefAt K "_law_is_reduced" (topS 46))
    (d_36 : DefAt K "_law_at" (topS 47))
    (d_37 : DefAt K "_law_code" (topS 48))
    (d_38 : DefAt K "_law_mixed" (topS 49))
    (d_39 : DefAt K "_law_pauli" (topS 50))
    (d_40 : DefAt K "_law_bent" (topS 51))
    (d_41 : DefAt K "law" (topS 52))
    (z_0 : PySem.W.nsIn K mainGlobals "all" = some none)
    (z_1 : PySem.W.nsIn K mainGlobals "bool" = some none)
    (z_2 : PySem.W.nsIn K mainGlobals "enumerate" = some none)
    (z_3 : PySem.W.nsIn K mainGlobals "int" = some none)
    (z_4 : PySem.W.nsIn K mainGlobals "isinstance" = some none)
    (z_5 : PySem.W.nsIn K mainGlobals "len" = some none)
    (z_6 : PySem.W.nsIn K mainGlobals "list" = some none)
    (z_7 : PySem.W.nsIn K mainGlobals "max" = some none)
    (z_8 : PySem.W.nsIn K mainGlobals "range" = some none)
    (z_9 : PySem.W.nsIn K mainGlobals "sorted" = some none)
    (z_10 : PySem.W.nsIn K mainGlobals "str" = some none)
    (z_11 : PySem.W.nsIn K mainGlobals "sum" = some none)
    (z_12 : PySem.W.nsIn K mainGlobals "tuple" = some none)
    (z_13 : PySem.W.nsIn K mainGlobals "zip" = some none)
    (e0 : DctAt K w "PRODUCTS" k_PRODUCTS)
    : ∃ fd : FuncData, (∀ (s : Shared) (v : Value), BindsTo s fd ⟨[v], []⟩ [("script", v)]) ∧ ∀ base : Heap, K.In base → base.Ns mainGlobals mg → FnOk P w K mg base CX0 (lvl + 1) fa fd ["script"] (spI K 1 (callN BB (lvl + 1) 41)) := by
  have hat : ∀ q ∈ GG.funs, DefAt K q.1 (sts q.1) := (all_cons (Eq.mpr (congrArg (DefAt K _) s_0) d_0)
    (all_cons (Eq.mpr (congrArg (DefAt K _) s_1) d_1)
    (all_cons (Eq.mpr (congrArg (DefAt K _) s_2) d_2)
    (all_cons (Eq.mpr (congrArg (DefAt K _) s_3) d_3)
    (all_cons (Eq.mpr (congrArg (DefAt K _) s_4) d_4)
    (all_cons (Eq.mpr (congrArg (DefAt K _) s_5) d_5)
    (all_cons (Eq.mpr (congrArg (DefAt K _) s_6) d_6)
    (all_cons (Eq.mpr (congrArg (DefAt K _) s_7) d_7)
    (all_cons (Eq.mpr (congrArg (DefAt K _) s_8) d_8)
    (all_cons (Eq.mpr (congrArg (DefAt K _) s_9) d_9)
    (all_cons (Eq.mpr (congrArg (DefAt K _) s_10) d_10)
    (all_cons (Eq.mpr (congrArg (DefAt K _) s_11) d_11)
    (all_cons (Eq.mpr (congrArg (DefAt K _) s_12) d_12)
    (all_cons (Eq.mpr (congrArg (DefAt K _) s_13) d_13)
    (all_cons (Eq.mpr (congrArg (DefAt K _) s_14) d_14)
    (all_cons (Eq.mpr (congrArg (DefAt K _) s_15) d_15)
    (all_cons (Eq.mpr (congrArg (DefAt K _) s_16) d_16)
    (all_cons (Eq.mpr (congrArg (DefAt K _) s_17) d_17)
    (all_cons (Eq.mpr (congrArg (DefAt K _) s_18) d_18)
    (all_cons (Eq.mpr (congrArg (DefAt K _) s_19) d_19)
    (all_cons (Eq.mpr (congrArg (DefAt K _) s_20) d_20)
    (all_cons (Eq.mpr (congrArg (DefAt K _) s_21) d_21)
    (all_cons (Eq.mpr (congrArg (DefAt K _) s_22) d_22)
    (all_cons (Eq.mpr (congrArg (DefAt K _) s_23) d_23)
    (all_cons (Eq.mpr (congrArg (DefAt K _) s_24) d_24)
    (all_cons (Eq.mpr (congrArg (DefAt K _) s_25) d_25)
    (all_cons (Eq.mpr (congrArg (DefAt K _) s_26) d_26)
    (all_cons (Eq.mpr (congrArg (DefAt K _) s_27) d_27)
    (all_cons (Eq.mpr (congrArg (DefAt K _) s_28) d_28)
    (all_cons (Eq.mpr (congrArg (DefAt K _) s_29) d_29)
    (all_cons (Eq.mpr (congrArg (DefAt K _) s_30) d_30)
    (all_cons (Eq.mpr (congrArg (DefAt K _) s_31) d_31)
    (all_cons (Eq.mpr (congrArg (DefAt K _) s_32) d_32)
    (all_cons (Eq.mpr (congrArg (DefAt K _) s_33) d_33)
    (all_cons (Eq.mpr (congrArg (DefAt K _) s_34) d_34)
    (all_cons (Eq.mpr (congrArg (DefAt K _) s_35) d_35)
    (all_cons (Eq.mpr (congrArg (DefAt K _) s_36) d_36)
    (all_cons (Eq.mpr (congrArg (DefAt K _) s_37) d_37)
    (all_cons (Eq.mpr (congrArg (DefAt K _) s_38) d_38)
    (all_cons (Eq.mpr (congrArg (DefAt K _) s_39) d_39)
    (all_cons (Eq.mpr (congrArg (DefAt K _) s_40) d_40)
    (all_cons (Eq.mpr (congrArg (DefAt K _) s_41) d_41)
    all_nil))))))))))))))))))))))))))))))))))))))))))
  have htx : ∀ q ∈ GG.funs, DefTx GG BB q.1 q.2.1 q.2.2 (sts q.1) := (all_cons (Eq.mpr (congrArg (DefTx GG BB _ _ _) s_0) x_0)
    (all_cons (Eq.mpr (congrArg (DefTx GG BB _ _ _) s_1) x_1)
    (all_cons (Eq.mpr (congrArg (DefTx GG BB _ _ _) s_2) x_2)
    (all_cons (Eq.mpr (congrArg (DefTx GG BB _ _ _) s_3) x_3)
    (all_cons (Eq.mpr (congrArg (DefTx GG BB _ _ _) s_4) x_4)
    (all_cons (Eq.mpr (congrArg (DefTx GG BB _ _ _) s_5) x_5)
    (all_cons (Eq.mpr (congrArg (DefTx GG BB _ _ _) s_6) x_6)
    (all_cons (Eq.mpr (congrArg (DefTx GG BB _ _ _) s_7) x_7)
    (all_cons (Eq.mpr (congrArg (DefTx GG BB _ _ _) s_8) x_8)
    (all_cons (Eq.mpr (congrArg (DefTx GG BB _ _ _) s_9) x_9)
    (all_cons (Eq.mpr (congrArg (DefTx GG BB _ _ _) s_10) x_10)
    (all_cons (Eq.mpr (congrArg (DefTx GG BB _ _ _) s_11) x_11)
    (all_cons (Eq.mpr (congrArg (DefTx GG BB _ _ _) s_12) x_12)
    (all_cons (Eq.mpr (congrArg (DefTx GG BB _ _ _) s_13) x_13)
    (all_cons (Eq.mpr (congrArg (DefTx GG BB _ _ _) s_14) x_14)
    (all_cons (Eq.mpr (congrArg (DefTx GG BB _ _ _) s_15) x_15)
    (all_cons (Eq.mpr (congrArg (DefTx GG BB _ _ _) s_16) x_16)
    (all_cons (Eq.mpr (congrArg (DefTx GG BB _ _ _) s_17) x_17)
    (all_cons (Eq.mpr (congrArg (DefTx GG BB _ _ _) s_18) x_18)
    (all_cons (Eq.mpr (congrArg (DefTx GG BB _ _ _) s_19) x_19)
    (all_cons (Eq.mpr (congrArg (DefTx GG BB _ _ _) s_20) x_20)
    (all_cons (Eq.mpr (congrArg (DefTx GG BB _ _ _) s_21) x_21)
    (all_cons (Eq.mpr (congrArg (DefTx GG BB _ _ _) s_22) x_22)
    (all_cons (Eq.mpr (congrArg (DefTx GG BB _ _ _) s_23) x_23)
    (all_cons (Eq.mpr (congrArg (DefTx GG BB _ _ _) s_24) x_24)
    (all_cons (Eq.mpr (congrArg (DefTx GG BB _ _ _) s_25) x_25)
    (all_cons (Eq.mpr (congrArg (DefTx GG BB _ _ _) s_26) x_26)
    (all_cons (Eq.mpr (congrArg (DefTx GG BB _ _ _) s_27) x_27)
    (all_cons (Eq.mpr (congrArg (DefTx GG BB _ _ _) s_28) x_28)
    (all_cons (Eq.mpr (congrArg (DefTx GG BB _ _ _) s_29) x_29)
    (all_cons (Eq.mpr (congrArg (DefTx GG BB _ _ _) s_30) x_30)
    (all_cons (Eq.mpr (congrArg (DefTx GG BB _ _ _) s_31) x_31)
    (all_cons (Eq.mpr (congrArg (DefTx GG BB _ _ _) s_32) x_32)
    (all_cons (Eq.mpr (congrArg (DefTx GG BB _ _ _) s_33) x_33)
    (all_cons (Eq.mpr (congrArg (DefTx GG BB _ _ _) s_34) x_34)
    (all_cons (Eq.mpr (congrArg (DefTx GG BB _ _ _) s_35) x_35)
    (all_cons (Eq.mpr (congrArg (DefTx GG BB _ _ _) s_36) x_36)
    (all_cons (Eq.mpr (congrArg (DefTx GG BB _ _ _) s_37) x_37)
    (all_cons (Eq.mpr (congrArg (DefTx GG BB _ _ _) s_38) x_38)
    (all_cons (Eq.mpr (congrArg (DefTx GG BB _ _ _) s_39) x_39)
    (all_cons (Eq.mpr (congrArg (DefTx GG BB _ _ _) s_40) x_40)
    (all_cons (Eq.mpr (congrArg (DefTx GG BB _ _ _) s_41) x_41)
    all_nil))))))))))))))))))))))))))))))))))))))))))
  have hfree : ∀ x ∈ GG.free, mg x = none := (all_cons (PySem.W.mg_none_of X G z_0)
    (all_cons (PySem.W.mg_none_of X G z_1)
    (all_cons (PySem.W.mg_none_of X G z_2)
    (all_cons (PySem.W.mg_none_of X G z_3)
    (all_cons (PySem.W.mg_none_of X G z_4)
    (all_cons (PySem.W.mg_none_of X G z_5)
    (all_cons (PySem.W.mg_none_of X G z_6)
    (all_cons (PySem.W.mg_none_of X G z_7)
    (all_cons (PySem.W.mg_none_of X G z_8)
    (all_cons (PySem.W.mg_none_of X G z_9)
    (all_cons (PySem.W.mg_none_of X G z_10)
    (all_cons (PySem.W.mg_none_of X G z_11)
    (all_cons (PySem.W.mg_none_of X G z_12)
    (all_cons (PySem.W.mg_none_of X G z_13)
    all_nil))))))))))))))
  have hconsts : ∀ p ∈ GG.consts, ∃ v u, mg p.1 = some u ∧ RelV v u ∧ ∀ L, Rep K L v p.2 := all_nil
  have hdicts : ∀ p ∈ GG.dicts, ∃ a, mg p.1 = some (.ref a) ∧ KDOk K w a p.2 := (all_cons (let ⟨a, b, q⟩ := e0.ex; ⟨a, PySem.W.mg_of X G b, q⟩)
    all_nil)
  obtain ⟨f, oc, od, an, osl, kV, doc, pm, cdv, ct, a, l, c, kp⟩ := d_41.ex
  refine ⟨_, fun s v => .of_eq (rfl : bindArgs (PySem.W.fnOf "law" "law" (defArgs (topS 52)) (defBody (topS 52)) (defScope (topS 52)) .none kV doc pm an cdv ct) ⟨[v], []⟩ = _), fun base KX GX => ?_⟩
  have hf := prog_ok (P := P) (w := w) (base := base) KX GX sts hat htx hfree hconsts hdicts lvl
  have ok := def_ok (P := P) (w := w) (base := base) (G := GG) (fe := callN BB lvl) (k := lvl) (N := n_41) (ps := ["script"]) (md := m_41) (fun_mk (st := topS 52) l c kp) ⟨rfl, rfl, rfl, by decide +kernel, rfl, by decide +kernel, by decide +kernel⟩ hfree hconsts hdicts hf
  have e : denF GG n_41 m_41 (topS 52) (callN BB lvl) = callN BB (lvl + 1) 41 := by
    unfold denF
    rw [t_41]
    rfl
  rw [e] at ok
  have em := hfa.symm.trans (PySem.W.mg_of X G a)
  cases em
  exact ok
end WP
set_option Elab.async false
set_option linter.all false
set_option maxRecDepth 100000
namespace WP
open PySem PySem.Spec PyProof.Rows L2 WC QC
theorem kprod : KProd k_PRODUCTS := fun a b => by cases a <;> cases b <;> rfl
theorem q_0 (k : Nat) : FInt (callN BB (k + 1) 0) := by rw [u_0]; exact int_ok
theorem q_1 (k : Nat) : FRed (callN BB (k + 1) 1) := by rw [u_1]; exact red_ok
theorem q_2 (k : Nat) : ∀ (rows : List Nat) (h : Hs), rows.length ≤ 1000 → callN BB (k + 2) 2 [.lst (rows.map fun r : Nat => D.int r)] h = .ok (.int (rr rows).length) h := by rw [u_2]; exact fun rows h => rank_ok (q_1 k) rows
theorem q_3 (k : Nat) : FInd (callN BB (k + 3) 3) := by rw [u_3]; exact ind_ok (q_2 k)
theorem q_4 (k : Nat) : ∀ (m : Nat) (h : Hs), m < 2 ^ 100 → callN BB (k + 1) 4 [.int m] h = .ok (.lst ((sel m (bitsN (m : Int))).map fun i : Nat => D.int i)) h := by rw [u_4]; exact fun m h hm => idx_ok m hm
theorem q_5 (k : Nat) : FRow (callN BB (k + 1) 5) := by rw [u_5]; exact row_of_ok
theorem q_6 (k : Nat) : FPau (callN BB (k + 2) 6) := by rw [u_6]; exact pau_ok (q_0 k)
theorem q_7 (k : Nat) : FUp (callN BB (k + 3) 7) := by rw [u_7]; exact up_ok (q_6 k)
theorem q_8 (k : Nat) : FChP (callN BB (k + 3) 8) := by rw [u_8]; exact chp_ok (q_6 k)
theorem q_9 (k : Nat) : FProd (callN BB (k + 1) 9) := by rw [u_9]; exact prod_ok kprod
theorem q_10 (k : Nat) : FProdAll (callN BB (k + 2) 10) := by rw [u_10]; exact prodAll_ok (q_9 k)
theorem q_11 (k : Nat) : FMeets (callN BB (k + 1) 11) := by rw [u_11]; exact meets_ok
theorem q_12 (k : Nat) : ∀ (l : Ls) (h : Hs), l.length ≤ 1000 → callN BB (k + 2) 12 [.str (cd l)] h = .ok (.int (vb (l.map P4.xb))) h := by rw [u_12]; exact fun l h hl => flips_ok (q_5 k) l hl
theorem q_13 (k : Nat) : ∀ (l : Ls) (h : Hs), l.length ≤ 1000 → callN BB (k + 2) 13 [.str (cd l)] h = .ok (.int (vb (l.map P4.zb))) h := by rw [u_13]; exact fun l h hl => turns_ok (q_5 k) l hl
theorem q_14 (k : Nat) : FSg (callN BB (k + 3) 14) := by rw [u_14]; exact signs_ok (q_12 k) (q_13 k)
theorem q_15 (k : Nat) : FGrp (callN BB (k + 4) 15) := by rw [u_15]; exact grp_ok (q_7 k) (q_11 (k + 2)) (q_3 k) (q_14 k)
theorem q_16 (k : Nat) : FComb (callN BB (k + 3) 16) := by rw [u_16]; exact comb_ok (q_10 k) (q_4 (k + 1))
theorem q_17 (k : Nat) : FRedOf (callN BB (k + 4) 17) := by rw [u_17]; exact redOf_ok (q_1 (k + 2)) (q_14 k) (q_16 k)
theorem q_18 (k : Nat) : FGrp (callN BB (k + 5) 18) := by rw [u_18]; exact code_ok (q_15 k)
theorem q_19 (k : Nat) : FChk (callN BB (k + 6) 19) := by rw [u_19]; exact chk_ok (q_18 k)
theorem q_20 (k : Nat) : FLn (callN BB (k + 1) 20) := by rw [u_20]; exact ln_ok
theorem q_21 (k : Nat) : FCR (callN BB (k + 7) 21) := by rw [u_21]; exact cr_ok (q_19 k) (q_17 (k + 2))
theorem q_22 (k : Nat) : FSame (callN BB (k + 7) 22) := by rw [u_22]; exact same_ok (q_19 k) (q_20 (k + 5)) (q_17 (k + 2))
theorem q_23 (k : Nat) : FSyn (callN BB (k + 7) 23) := by rw [u_23]; exact syn_ok (q_19 k) (q_8 (k + 3)) (q_20 (k + 5)) (q_11 (k + 5))
theorem q_24 (k : Nat) : FDraw (callN BB (k + 1) 24) := by rw [u_24]; exact fdraw_ok
theorem q_25 (k : Nat) : FLike (callN BB (k + 5 + 1) 25) := fun x h e => like_ok (F := fun k => callN BB k 25) (fun k => u_25 k) k 5 x e
theorem q_26 (k : Nat) : FGates (callN BB (k + 2) 26) := by rw [u_26]; exact gates_ok (q_24 k)
theorem q_27 (k : Nat) : FSgns (callN BB (k + 1) 27) := by rw [u_27]; exact sgns_ok
theorem q_28 (k : Nat) : FWord (callN BB (k + 1) 28) := by rw [u_28]; exact word_ok
theorem q_29 (k : Nat) : FTimes (callN BB (k + 2) 29) := by rw [u_29]; exact times_ok (q_27 k) (q_28 k)
theorem q_30 (k : Nat) : FGroup (callN BB (k + 3) 30) := by rw [u_30]; exact group_ok (q_29 k)
theorem q_31 (k : Nat) : FMeets (callN BB (k + 1) 31) := by rw [u_31]; exact lmeets_ok
theorem q_32 (k : Nat) : FLed (callN BB (k + 2) 32) := by rw [u_32]; exact led_ok (q_27 k) (q_28 k)
theorem q_33 (k : Nat) : FAre (callN BB (k + 1) 33) := by rw [u_33]; exact are_ok
theorem q_34 (k : Nat) : FSameGrp (callN BB (k + 4) 34) := by rw [u_34]; exact sameGrp_ok (q_30 k)
theorem q_35 (k : Nat) : FIsR (callN BB (k + 2) 35) := by rw [u_35]; exact isr_ok (q_27 k)
theorem q_36 (k : Nat) : FAt (callN BB (k + 1) 36) := by rw [u_36]; exact at_ok
theorem q_38 (k : Nat) : FMixed (callN BB (k + 3) 38) := by rw [u_38]; exact mixed_ok (q_24 (k + 1)) (q_29 k)
theorem q_37 (k : Nat) : FCode (callN BB (k + 4) 37) := by rw [u_37]; exact code_draw (q_26 (k + 1)) (q_32 (k + 1)) (q_36 (k + 2)) (q_24 (k + 2)) (q_38 k)
theorem q_39 (k : Nat) : FPauli (callN BB (k + 2) 39) := by rw [u_39]; exact pauli_ok (q_24 k)
theorem q_40 (k : Nat) : FBent (callN BB (k + 3) 40) := by rw [u_40]; exact bent_ok (q_36 (k + 1)) (q_29 k) (q_24 (k + 1))
theorem lawF (k : Nat) : LawF (callN BB (k + 7) 24) (callN BB (k + 7) 37) (callN BB (k + 7) 38) (callN BB (k + 7) 39) (callN BB (k + 7) 18) (callN BB (k + 7) 40) (callN BB (k + 7) 25) (callN BB (k + 7) 31) (callN BB (k + 7) 23) (callN BB (k + 7) 21) (callN BB (k + 7) 33) (callN BB (k + 7) 34) (callN BB (k + 7) 30) (callN BB (k + 7) 22) (callN BB (k + 7) 35) :=
  ⟨q_24 (k + 6), q_37 (k + 3), q_38 (k + 4), q_39 (k + 5), q_18 (k + 2), q_40 (k + 4), q_25 (k + 1), q_31 (k + 6), q_23 k, q_21 k, q_33 (k + 6), q_34 (k + 3), q_30 (k + 4), q_22 k, q_35 (k + 5)⟩
theorem for2 {t : GT} {body : SM} {x y : D} {σ σ1 σ2 σ3 σ4 : Sg} {h h1 h2 : Hs} (t0 : t x σ = some σ1) (b0 : body σ1 h = .nx σ2 h1) (t1 : t y σ2 = some σ3) (b1 : body σ3 h1 = .nx σ4 h2) : forGo t body [x, y] σ h = .nx σ4 h2 := by
  simp [forGo, t0, b0, t1, b1]
theorem start_ok {ns : List Int} {b : Int} {n : Nat} (hb : 0 ≤ b) (hb2 : b < 2147483587) (hn : n ≤ 1000000) (hl : ns.length ≤ 63) : St.Ok n ⟨0, b, 0, 0, ns⟩ :=
  ⟨Int.le_refl 0, hb, hb2, Int.le_refl 0, by show (0 : Int) + n ≤ 1000000000000000000; omega, Int.le_refl 0, by show (0 : Int) ≤ 63; decide, hl⟩
theorem law_true (ns : List Int) (hl : ns.length ≤ 63) : ∃ h', callN BB (lvl + 1) 41 [.scr (ns.map .int)] [] = .ok (.bl true) h' := by
  have o : St.Ok (0 + 400 + 400) ⟨0, 83, 0, 0, ns⟩ := start_ok (by decide) (by decide) (by decide) hl
  obtain ⟨y3, y4, y5, y6, y7, y8, y9, y10, y11, s1, T1, e1, o1⟩ := law_turn (lawF 52) (d0 := .scr (ns.map .int)) (x2 := .val (.int 0)) (x3 := .no) (x4 := .no) (x5 := .no) (x6 := .no) (x7 := .no) (x8 := .no) (x9 := .no) (x10 := .no) (x11 := .no) rfl rfl rfl rfl rfl rfl rfl rfl rfl (T := []) o
  obtain ⟨z3, z4, z5, z6, z7, z8, z9, z10, z11, s2, T2, e2, o2⟩ := law_turn (lawF 52) (d0 := .scr (ns.map .int)) (x2 := .val (.int 1)) (x3 := .val y3) (x4 := .val y4) (x5 := .val y5) (x6 := .val y6) (x7 := .val y7) (x8 := .val y8) (x9 := .val y9) (x10 := .val y10) (x11 := .val y11) rfl rfl rfl rfl rfl rfl rfl rfl rfl (T := T1) o1
  refine ⟨s2.ob :: T2, ?_⟩
  rw [u_41]
  refine defF_rt (σ := [.val (.scr (ns.map .int)), .no, .no, .no, .no, .no, .no, .no, .no, .no, .no, .no, .no]) rfl ?_
  have q1 : (sSet 1 (xHeap (lLst (aCons (eC (.int 0)) (aCons (eC (.int 83)) (aCons (eC (.int 0)) (aCons (eC (.int 0)) (aCons (eFrz (lListOf (aCons (oVar 0) aNil))) aNil)))))))) [.val (.scr (ns.map .int)), .no, .no, .no, .no, .no, .no, .no, .no, .no, .no, .no, .no] [] = .nx (lw (.scr (ns.map .int)) .no .no .no .no .no .no .no .no .no .no) [St.ob ⟨0, 83, 0, 0, ns⟩] := by
    simp
  have im : iRange1 (aCons (eC (.int 2)) aNil) (lw (.scr (ns.map .int)) .no .no .no .no .no .no .no .no .no .no) [St.ob ⟨0, 83, 0, 0, ns⟩] = .ok [.int 0, .int 1] [St.ob ⟨0, 83, 0, 0, ns⟩] := by
    have := range1_ok (a := eC (.int 2)) (σ := lw (.scr (ns.map .int)) .no .no .no .no .no .no .no .no .no .no) (h := [St.ob ⟨0, 83, 0, 0, ns⟩]) (j := 2) rfl (by decide) (by decide)
    rw [this]
    rfl
  have hb : b_41 (callN BB lvl) = _ := law_eq (fd := callN BB lvl 24) (fcode := callN BB lvl 37) (fmix := callN BB lvl 38) (fpau := callN BB lvl 39) (fis := callN BB lvl 18) (fbent := callN BB lvl 40) (flike := callN BB lvl 25) (fmeets := callN BB lvl 31) (fsyn := callN BB lvl 23) (fcr := callN BB lvl 21) (fare := callN BB lvl 33) (fsame := callN BB lvl 34) (fgroup := callN BB lvl 30) (fsc := callN BB lvl 22) (fisr := callN BB lvl 35)
  rw [hb]
  exact sSeq_nx q1 (sSeq_nx (sFor_ok im (for2 rfl e1 rfl e2)) rfl)
end WP
open PySem PySem.W PyProof.Rows
set_option Elab.async false
set_option maxRecDepth 100000 in
set_option maxHeartbeats 8000000 in
open_top hd for PySem.Challenge.rw_wholecircuits_k83_codes_and_what_they_se
set_option Elab.async false
set_option linter.all false
set_option maxRecDepth 100000
open PySem PySem.W PyProof.Rows
set_option maxHeartbeats 0 in
theorem PySem.Challenge.cw_wholecircuits_k83_codes_and_what_they_se_holds : PySem.Challenge.rw_wholecircuits_k83_codes_and_what_they_se.Holds :=
  hd (by
  k_fill
  refine L2.walk_of (l := PySem.Challenge.rw_wholecircuits_k83_codes_and_what_they_se) (n := 63) (k := WP.lvl + 1) (x := "script") (CX := fun _ => L2.CX0) (sp := fun w => WC.spI _ 1 (WC.callN WP.BB (WP.lvl + 1) 41)) rfl (by decide) rfl ⟨by decide, by decide, by decide⟩ (fun w h Y => PySem.W.kIn_of Y) ?F (fun _ _ a ns hl _ hS => WC.law_end hS (WP.law_true ns hl)) (fun _ _ _ _ _ h => h)
  case F =>
    intro w mg fa h KX G hmg
    refine' WP.all_mk KX G hmg ?d_0 ?d_1 ?d_2 ?d_3 ?d_4 ?d_5 ?d_6 ?d_7 ?d_8 ?d_9 ?d_10 ?d_11 ?d_12 ?d_13 ?d_14 ?d_15 ?d_16 ?d_17 ?d_18 ?d_19 ?d_20 ?d_21 ?d_22 ?d_23 ?d_24 ?d_25 ?d_26 ?d_27 ?d_28 ?d_29 ?d_30 ?d_31 ?d_32 ?d_33 ?d_34 ?d_35 ?d_36 ?d_37 ?d_38 ?d_39 ?d_40 ?d_41 ?z_0 ?z_1 ?z_2 ?z_3 ?z_4 ?z_5 ?z_6 ?z_7 ?z_8 ?z_9 ?z_10 ?z_11 ?z_12 ?z_13 ?e0
    (case d_0 => exact ⟨⟨_, _, _, _, _, _, _, _, _, _, by k_is, by k_is, by k_is, by k_is⟩⟩)
    (case d_1 => exact ⟨⟨_, _, _, _, _, _, _, _, _, _, by k_is, by k_is, by k_is, by k_is⟩⟩)
    (case d_2 => exact ⟨⟨_, _, _, _, _, _, _, _, _, _, by k_is, by k_is, by k_is, by k_is⟩⟩)
    (case d_3 => exact ⟨⟨_, _, _, _, _, _, _, _, _, _, by k_is, by k_is, by k_is, by k_is⟩⟩)
    (case d_4 => exact ⟨⟨_, _, _, _, _, _, _, _, _, _, by k_is, by k_is, by k_is, by k_is⟩⟩)
    (case d_5 => exact ⟨⟨_, _, _, _, _, _, _, _, _, _, by k_is, by k_is, by k_is, by k_is⟩⟩)
    (case d_6 => exact ⟨⟨_, _, _, _, _, _, _, _, _, _, by k_is, by k_is, by k_is, by k_is⟩⟩)
    (case d_7 => exact ⟨⟨_, _, _, _, _, _, _, _, _, _, by k_is, by k_is, by k_is, by k_is⟩⟩)
    (case d_8 => exact ⟨⟨_, _, _, _, _, _, _, _, _, _, by k_is, by k_is, by k_is, by k_is⟩⟩)
    (case d_9 => exact ⟨⟨_, _, _, _, _, _, _, _, _, _, by k_is, by k_is, by k_is, by k_is⟩⟩)
    (case d_10 => exact ⟨⟨_, _, _, _, _, _, _, _, _, _, by k_is, by k_is, by k_is, by k_is⟩⟩)
    (case d_11 => exact ⟨⟨_, _, _, _, _, _, _, _, _, _, by k_is, by k_is, by k_is, by k_is⟩⟩)
    (case d_12 => exact ⟨⟨_, _, _, _, _, _, _, _, _, _, by k_is, by k_is, by k_is, by k_is⟩⟩)
    (case d_13 => exact ⟨⟨_, _, _, _, _, _, _, _, _, _, by k_is, by k_is, by k_is, by k_is⟩⟩)
    (case d_14 => exact ⟨⟨_, _, _, _, _, _, _, _, _, _, by k_is, by k_is, by k_is, by k_is⟩⟩)
    (case d_15 => exact ⟨⟨_, _, _, _, _, _, _, _, _, _, by k_is, by k_is, by k_is, by k_is⟩⟩)
    (case d_16 => exact ⟨⟨_, _, _, _, _, _, _, _, _, _, by k_is, by k_is, by k_is, by k_is⟩⟩)
    (case d_17 => exact ⟨⟨_, _, _, _, _, _, _, _, _, _, by k_is, by k_is, by k_is, by k_is⟩⟩)
    (case d_18 => exact ⟨⟨_, _, _, _, _, _, _, _, _, _, by k_is, by k_is, by k_is, by k_is⟩⟩)
    (case d_19 => exact ⟨⟨_, _, _, _, _, _, _, _, _, _, by k_is, by k_is, by k_is, by k_is⟩⟩)
    (case d_20 => exact ⟨⟨_, _, _, _, _, _, _, _, _, _, by k_is, by k_is, by k_is, by k_is⟩⟩)
    (case d_21 => exact ⟨⟨_, _, _, _, _, _, _, _, _, _, by k_is, by k_is, by k_is, by k_is⟩⟩)
    (case d_22 => exact ⟨⟨_, _, _, _, _, _, _, _, _, _, by k_is, by k_is, by k_is, by k_is⟩⟩)
    (case d_23 => exact ⟨⟨_, _, _, _, _, _, _, _, _, _, by k_is, by k_is, by k_is, by k_is⟩⟩)
    (case d_24 => exact ⟨⟨_, _, _, _, _, _, _, _, _, _, by k_is, by k_is, by k_is, by k_is⟩⟩)
    (case d_25 => exact ⟨⟨_, _, _, _, _, _, _, _, _, _, by k_is, by k_is, by k_is, by k_is⟩⟩)
    (case d_26 => exact ⟨⟨_, _, _, _, _, _, _, _, _, _, by k_is, by k_is, by k_is, by k_is⟩⟩)
    (case d_27 => exact ⟨⟨_, _, _, _, _, _, _, _, _, _, by k_is, by k_is, by k_is, by k_is⟩⟩)
    (case d_28 => exact ⟨⟨_, _, _, _, _, _, _, _, _, _, by k_is, by k_is, by k_is, by k_is⟩⟩)
    (case d_29 => exact ⟨⟨_, _, _, _, _, _, _, _, _, _, by k_is, by k_is, by k_is, by k_is⟩⟩)
    (case d_30 => exact ⟨⟨_, _, _, _, _, _, _, _, _, _, by k_is, by k_is, by k_is, by k_is⟩⟩)
    (case d_31 => exact ⟨⟨_, _, _, _, _, _, _, _, _, _, by k_is, by k_is, by k_is, by k_is⟩⟩)
    (case d_32 => exact ⟨⟨_, _, _, _, _, _, _, _, _, _, by k_is, by k_is, by k_is, by k_is⟩⟩)
    (case d_33 => exact ⟨⟨_, _, _, _, _, _, _, _, _, _, by k_is, by k_is, by k_is, by k_is⟩⟩)
    (case d_34 => exact ⟨⟨_, _, _, _, _, _, _, _, _, _, by k_is, by k_is, by k_is, by k_is⟩⟩)
    (case d_35 => exact ⟨⟨_, _, _, _, _, _, _, _, _, _, by k_is, by k_is, by k_is, by k_is⟩⟩)
    (case d_36 => exact ⟨⟨_, _, _, _, _, _, _, _, _, _, by k_is, by k_is, by k_is, by k_is⟩⟩)
    (case d_37 => exact ⟨⟨_, _, _, _, _, _, _, _, _, _, by k_is, by k_is, by k_is, by k_is⟩⟩)
    (case d_38 => exact ⟨⟨_, _, _, _, _, _, _, _, _, _, by k_is, by k_is, by k_is, by k_is⟩⟩)
    (case d_39 => exact ⟨⟨_, _, _, _, _, _, _, _, _, _, by k_is, by k_is, by k_is, by k_is⟩⟩)
    (case d_40 => exact ⟨⟨_, _, _, _, _, _, _, _, _, _, by k_is, by k_is, by k_is, by k_is⟩⟩)
    (case d_41 => exact ⟨⟨_, _, _, _, _, _, _, _, _, _, by k_is, by k_is, by k_is, by k_is⟩⟩)
    (case z_0 => k_is)
    (case z_1 => k_is)
    (case z_2 => k_is)
    (case z_3 => k_is)
    (case z_4 => k_is)
    (case z_5 => k_is)
    (case z_6 => k_is)
    (case z_7 => k_is)
    (case z_8 => k_is)
    (case z_9 => k_is)
    (case z_10 => k_is)
    (case z_11 => k_is)
    (case z_12 => k_is)
    (case z_13 => k_is)
    (case e0 => refine' ⟨⟨_, ?ea, WC.KDOk.mk1 ?eb ?ec ?ex ?ed⟩⟩; (case ea => k_is); (case eb => k_is); (case ex => decide); (case ec => exact ⟨⟨_, _, rfl, rfl⟩, ⟨_, _, rfl, rfl⟩, ⟨_, _, rfl, rfl⟩, ⟨_, _, rfl, rfl⟩, ⟨_, _, rfl, rfl⟩, ⟨_, _, rfl, rfl⟩, ⟨_, _, rfl, rfl⟩, ⟨_, _, rfl, rfl⟩, ⟨_, _, rfl, rfl⟩, ⟨_, _, rfl, rfl⟩, ⟨_, _, rfl, rfl⟩, ⟨_, _, rfl, rfl⟩, ⟨_, _, rfl, rfl⟩, ⟨_, _, rfl, rfl⟩, ⟨_, _, rfl, rfl⟩, ⟨_, _, rfl, rfl⟩, trivial⟩); (case ed => exact (.cons (x := "II") (v := .ref _) rfl rfl (fun L => WC.rep_ctup (vs := [.int 0, .str "I"]) (by k_is) rfl rfl (by decide) (.cons ⟨_, rfl⟩ (.cons ⟨_, rfl⟩ .nil)) (.cons (.int _) (.cons (.str "I" (by decide +kernel)) .nil))) (.cons (x := "IX") (v := .ref _) rfl rfl (fun L => WC.rep_ctup (vs := [.int 0, .str "X"]) (by k_is) rfl rfl (by decide) (.cons ⟨_, rfl⟩ (.cons ⟨_, rfl⟩ .nil)) (.cons (.int _) (.cons (.str "X" (by decide +kernel)) .nil))) (.cons (x := "IY") (v := .ref _) rfl rfl (fun L => WC.rep_ctup (vs := [.int 0, .str "Y"]) (by k_is) rfl rfl (by decide) (.cons ⟨_, rfl⟩ (.cons ⟨_, rfl⟩ .nil)) (.cons (.int _) (.cons (.str "Y" (by decide +kernel)) .nil))) (.cons (x := "IZ") (v := .ref _) rfl rfl (fun L => WC.rep_ctup (vs := [.int 0, .str "Z"]) (by k_is) rfl rfl (by decide) (.cons ⟨_, rfl⟩ (.cons ⟨_, rfl⟩ .nil)) (.cons (.int _) (.cons (.str "Z" (by decide +kernel)) .nil))) (.cons (x := "XI") (v := .ref _) rfl rfl (fun L => WC.rep_ctup (vs := [.int 0, .str "X"]) (by k_is) rfl rfl (by decide) (.cons ⟨_, rfl⟩ (.cons ⟨_, rfl⟩ .nil)) (.cons (.int _) (.cons (.str "X" (by decide +kernel)) .nil))) (.cons (x := "XX") (v := .ref _) rfl rfl (fun L => WC.rep_ctup (vs := [.int 0, .str "I"]) (by k_is) rfl rfl (by decide) (.cons ⟨_, rfl⟩ (.cons ⟨_, rfl⟩ .nil)) (.cons (.int _) (.cons (.str "I" (by decide +kernel)) .nil))) (.cons (x := "XY") (v := .ref _) rfl rfl (fun L => WC.rep_ctup (vs := [.int 1, .str "Z"]) (by k_is) rfl rfl (by decide) (.cons ⟨_, rfl⟩ (.cons ⟨_, rfl⟩ .nil)) (.cons (.int _) (.cons (.str "Z" (by decide +kernel)) .nil))) (.cons (x := "XZ") (v := .ref _) rfl rfl (fun L => WC.rep_ctup (vs := [.int 3, .str "Y"]) (by k_is) rfl rfl (by decide) (.cons ⟨_, rfl⟩ (.cons ⟨_, rfl⟩ .nil)) (.cons (.int _) (.cons (.str "Y" (by decide +kernel)) .nil))) (.cons (x := "YI") (v := .ref _) rfl rfl (fun L => WC.rep_ctup (vs := [.int 0, .str "Y"]) (by k_is) rfl rfl (by decide) (.cons ⟨_, rfl⟩ (.cons ⟨_, rfl⟩ .nil)) (.cons (.int _) (.cons (.str "Y" (by decide +kernel)) .nil))) (.cons (x := "YX") (v := .ref _) rfl rfl (fun L => WC.rep_ctup (vs := [.int 3, .str "Z"]) (by k_is) rfl rfl (by decide) (.cons ⟨_, rfl⟩ (.cons ⟨_, rfl⟩ .nil)) (.cons (.int _) (.cons (.str "Z" (by decide +kernel)) .nil))) (.cons (x := "YY") (v := .ref _) rfl rfl (fun L => WC.rep_ctup (vs := [.int 0, .str "I"]) (by k_is) rfl rfl (by decide) (.cons ⟨_, rfl⟩ (.cons ⟨_, rfl⟩ .nil)) (.cons (.int _) (.cons (.str "I" (by decide +kernel)) .nil))) (.cons (x := "YZ") (v := .ref _) rfl rfl (fun L => WC.rep_ctup (vs := [.int 1, .str "X"]) (by k_is) rfl rfl (by decide) (.cons ⟨_, rfl⟩ (.cons ⟨_, rfl⟩ .nil)) (.cons (.int _) (.cons (.str "X" (by decide +kernel)) .nil))) (.cons (x := "ZI") (v := .ref _) rfl rfl (fun L => WC.rep_ctup (vs := [.int 0, .str "Z"]) (by k_is) rfl rfl (by decide) (.cons ⟨_, rfl⟩ (.cons ⟨_, rfl⟩ .nil)) (.cons (.int _) (.cons (.str "Z" (by decide +kernel)) .nil))) (.cons (x := "ZX") (v := .ref _) rfl rfl (fun L => WC.rep_ctup (vs := [.int 1, .str "Y"]) (by k_is) rfl rfl (by decide) (.cons ⟨_, rfl⟩ (.cons ⟨_, rfl⟩ .nil)) (.cons (.int _) (.cons (.str "Y" (by decide +kernel)) .nil))) (.cons (x := "ZY") (v := .ref _) rfl rfl (fun L => WC.rep_ctup (vs := [.int 3, .str "X"]) (by k_is) rfl rfl (by decide) (.cons ⟨_, rfl⟩ (.cons ⟨_, rfl⟩ .nil)) (.cons (.int _) (.cons (.str "X" (by decide +kernel)) .nil))) (.cons (x := "ZZ") (v := .ref _) rfl rfl (fun L => WC.rep_ctup (vs := [.int 0, .str "I"]) (by k_is) rfl rfl (by decide) (.cons ⟨_, rfl⟩ (.cons ⟨_, rfl⟩ .nil)) (.cons (.int _) (.cons (.str "I" (by decide +kernel)) .nil))) .nil))))))))))))))))))
  )
