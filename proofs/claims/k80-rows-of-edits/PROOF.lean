import PyProof.Rows.All
import Wide.All
import OpenK.AllK
import Wide.FinOn
import KE.KStateDown
import KE.GoesMore
import KE.GoesZip
import PyProof.Draws
import HandS.ForMost
import HandS.Zip
import HandS.Walk
import HandS.Defaults
import HandS.IsInst
import HandS.Flow
import HandS.Style
import HandS.TupLe
import HandS.Conv
import HandS.NoneIn
import HandS.DeepEq
import HandS.Steps
import HandS.Codes
import HandS.HeadHook1
import HandS.HeadHook2
import HandS.HeadHook3
import HandS.HeadHook4
import HandS.Head0
import HandS.Head1
import HandS.Head2
import HandS.HeadEnd
import HandS.Exc
import HandS.ExcOwn
import HandS.ExcIs
import HandS.Lambda
import HandS.EndTab
import HandS.DictTup
import HandS.TupLen
import HandS.TupSets
import KE.KDictCopyH
import KE.KDictOf
import KE.KDictSum
import KE.KDictDisplayH
import KE.KRevSl
import HandS.Flt
import KE.DataMinMax
import HandS.SetFor
import HandS.Strs
import HandS.TupAny
import KE.KNestM
import PySem.Challenge.RW_firstreads_k80_whole_rows_of_edits_that
set_option Elab.async false
set_option linter.all false
set_option maxRecDepth 100000
set_option maxHeartbeats 2000000
/-! Rules of our own: dict.update, enumerate over a text, zip of a text and a tuple. -/
namespace Fr
open PySem PySem.Spec PyProof.Rows L2

theorem addne (n : Nat) {a b : Nat} (h : a ≠ b) : n + a ≠ n + b := fun e => h (Nat.add_left_cancel e)
theorem addne0 (n : Nat) {a : Nat} (h : 0 < a) : n + a ≠ n := by omega
/-! ### d.update(e) -/
def rUpdate : V → List V → Hp → VK → Prop := fun x vs H Q => ∃ (d o : Addr) (kvs more : List (Key × V)), x = .ref d ∧ vs = [.ref o] ∧ H d = some (.dK kvs) ∧ H o = some (.dK more) ∧ d ≠ o ∧ kvs.length + more.length ≤ sizeLine ∧ Q .non (upd H d (.dK (mergeK kvs more)))
theorem mt_update {X : Cx} : MtR X "dict.update" rUpdate := by
  intro pins s σ H x xs v us Q I rx r h
  obtain ⟨d, o, kvs, more, rfl, rfl, hd, ho, hne, hz, q⟩ := h
  cases rx
  obtain ⟨u, rfl, ru⟩ := vals1 r
  cases ru
  obtain ⟨z1, s1, vs1, rel1, dd1⟩ := dk_of I.hok hd
  obtain ⟨z2, s2, vs2, rel2, dd2⟩ := dk_of I.hok ho
  refine call_meetsIn PySem.F.slot_dict_update dd1.typeIs PySem.F.entry_dict_update (PySem.F.args_dict_update_2 _ _) (meets_dict_update (mixKind X.prog X.w) d o hne s2)
    ⟨vs1, vs2, dd1, dd2, (by rw [← rel1.length, ← rel2.length]; exact hz), fun h' hmm _ hs => ?_⟩
  have new : ObjOk X.prog X.w (upd H d (.dK (mergeK kvs more))) h' d (.dK (mergeK kvs more)) :=
    dk_new (Nat.le_trans (length_mergeK more kvs) hz) s1 (KV.merge rel2 rel1) hmm
  have he : ∃ q, h'.get? d = some q := by
    obtain ⟨ob, _, _, e, _⟩ := hmm
    exact ⟨ob, e⟩
  exact ⟨.non, _, d_write (t' := s.toks) I (by rw [hd]; trivial) hs he new, rfl, q⟩

/-! ### enumerate(a text) -/
def IteS (x : Str) : It :=
  ⟨fun i _ => i < x.cps.size, fun i H v H' => ∃ T c, v = .ref T ∧ H T = none ∧ H' = upd H T (.tup [.int (i : Nat), .str ⟨#[c]⟩]) ∧ x.cps[i]? = some c, fun i _ => x.cps.size ≤ i⟩
theorem handled_in1 {A : Around} (h : A.handled = none) : A.in1.handled = none := h
theorem turn_enumS {P : Program} {w : World} {K : PySem.W.Frag} {elts : List Expr} {kk : Nat} {tpos : Pos} (x : Str) (t : Tok) (e it : Addr) (hne : e ≠ it) :
    Turn P w K (.Tuple elts kk tpos) (IteS x) [e, it] e (fun i h => (∃ old, IsEnum h e it ((i : Nat) : Int) old) ∧ h.IsStrIter it (strIterType x) x t i ∧ i ≤ x.cps.size) where
  mem := by simp
  obj := fun i h st b hb => by
    obtain ⟨⟨old, he⟩, ⟨o, ho, hc, hd⟩, _⟩ := st
    have e' : b = e ∨ b = it := by simpa using hb
    rcases e' with z | z
    · rw [z]; exact ⟨_, he, fun v q => nomatch q⟩
    · rw [z]; exact ⟨o, ho, fun v q => by rw [hd] at q; cases q⟩
  keep := fun i h h' st k => let ⟨⟨old, he⟩, ⟨o, ho, r⟩, hle⟩ := st; ⟨⟨old, k e (by simp) _ he⟩, ⟨o, k it (by simp) o ho, r⟩, hle⟩
  item := by
    intro X hP hw hK hc i pins s σ H E I hf st hg
    subst hP hw hK
    obtain ⟨⟨old, he⟩, hit, hle⟩ := st
    have hel : e < s.heap.objs.size := Heap.lt_size he
    have hil : it < s.heap.objs.size := by obtain ⟨_, q, _⟩ := hit; exact Heap.lt_size q
    have D := Draws.text (prog := X.prog) (w := X.w) (A := X.A.in1) (I.ok.hd hc) it x t
    refine wpAny_pyNext_enum_itemD D he hit hg hne (by simpa using hne) fun v h' tk hv ho hit' hT hsz hk => ?_
    obtain ⟨c, u, hcx, rfl⟩ := hv
    refine ⟨_, rfl, wpAny_letOwnedTupleGo_enum (s := { s with heap := h', toks := tk + 1 }) ho fun h'' he' sb => ?_⟩
    have hT2 : h''.get? s.heap.objs.size = some { cls := .type "tuple", data := .seq #[.int i tk, .str ⟨#[c]⟩ u] } := (sb.2 _ (Nat.ne_of_gt hel)).trans hT
    have new : ObjOk X.prog X.w (upd H s.heap.objs.size (.tup [.int (i : Nat), .str ⟨#[c]⟩])) h'' s.heap.objs.size (.tup [.int (i : Nat), .str ⟨#[c]⟩]) :=
      ⟨by show 2 ≤ sizeLine; decide, [Value.int i tk, Value.str ⟨#[c]⟩ u], Paired.cons ⟨tk, rfl⟩ (Paired.cons ⟨u, rfl⟩ .nil), ⟨_, hT2, rfl, 0, rfl⟩⟩
    have I1 : Inv X pins σ (upd H s.heap.objs.size (.tup [.int (i : Nat), .str ⟨#[c]⟩])) { s with heap := h'', toks := tk + 1 } :=
      I.turnedNew (ch := [e, it]) (fun b ob hb q => (sb.2 b (fun z => hb (by simp [z]))).trans (hk b ob (fun z => hb (by simp [z])) (fun z => hb (by simp [z])) q)) hf (Nat.le_refl _) new
    refine ⟨.ref s.heap.objs.size, _, I1, rfl, ⟨_, c, rfl, I.hok.fresh (Nat.le_refl _), rfl, hcx⟩, ⟨⟨Value.str ⟨#[c]⟩ u, ?_⟩, ?_, hg⟩, fun b hb => ?_⟩
    · have e1 : ((i + 1 : Nat) : Int) = (i : Int) + 1 := by omega
      rw [e1]; exact he'
    · obtain ⟨oi, q1, q2⟩ := hit'
      exact ⟨oi, (sb.2 it (Ne.symm hne)).trans q1, q2⟩
    · have hb' : b < s.heap.objs.size := by
        have e' : b = e ∨ b = it := by simpa using hb
        rcases e' with z | z
        · rw [z]; exact hel
        · rw [z]; exact hil
      rw [upd_ne (Nat.ne_of_lt hb')]
      exact (hf b hb).1
  done := by
    intro X hP hw hK hc i pins s σ H E I hf st hg
    subst hP hw hK
    obtain ⟨⟨old, he⟩, hit, hle⟩ := st
    have ei : i = x.cps.size := Nat.le_antisymm hle hg
    subst ei
    obtain ⟨f0, f1, f2, f3, f4, f5⟩ := hf it (by simp)
    have D := Draws.text (prog := X.prog) (w := X.w) (A := X.A.in1) (I.ok.hd hc) it x t
    exact wpAny_pyNext_enum_endD D he hit fun h' eb => ⟨rfl, I.turned (t' := s.toks) (fun b o hb q => eb b o hb q) f0 f1 f3 f4 f5⟩
  self := fun A i s Q E st h => let ⟨⟨_, he⟩, _⟩ := st; wpAny_pyIter_enum he h
def iEnumS (ta : TA) : TI := fun σ H R => ta σ H fun vs H1 => ∃ x, vs = [.str x] ∧ R (IteS x) H1
theorem pi_enumS {X : Cx} {e : Expr} {ta : TA} {p pos tpos : Pos} {elts : List Expr} {kk : Nat} (hg : Gl X "enumerate") (hm : X.mg "enumerate" = none) (ha : PA X [e] ta) (hs : starEach [e] X.env = [(false, eval e X.env)] := by rfl) :
    PI X (.Tuple elts kk tpos) (.Call (.Name "enumerate" p) [e] [] pos) (iEnumS ta) := by
  refine ⟨fun pins s σ H R I h => ?_⟩
  refine Call_ (ld_blt I hg hm boot_enumerate (PyProof.Rows.callWith_type1 (thn (ha.run pos pins s σ H _ I h) fun us s1 ⟨vs, H1, I1, r1, q1⟩ => ?_) hs rfl))
  obtain ⟨x, ex, q⟩ := q1
  subst ex
  cases r1 with
  | cons r rr =>
    cases rr
    obtain ⟨t, rfl⟩ := r
    refine call_enumerate_str fun h' he hit hsz hk => wpAny_pyIter_enum he ?_
    have I2 : Inv X pins σ H1 { s1 with heap := h' } := I1.kept (t' := s1.toks) hk
    refine ⟨s1.heap.objs.size + 1, [s1.heap.objs.size + 1, s1.heap.objs.size], _, _, H1, rfl, I2, turn_enumS x t (s1.heap.objs.size + 1) s1.heap.objs.size (Nat.succ_ne_self _), ⟨⟨.none, he⟩, hit, Nat.zero_le _⟩, fun b hb => ?_, q⟩
    have e' : b = s1.heap.objs.size + 1 ∨ b = s1.heap.objs.size := by simpa using hb
    have hle : s1.heap.objs.size ≤ b := by
      rcases e' with z | z
      · rw [z]; exact Nat.le_add_right _ _
      · rw [z]; exact Nat.le_refl _
    exact I1.fpOk hle (I1.hok.fresh hle)
theorem walk_enumS (x : Str) : Walk (IteS x) x.cps.size (fun _ => True) (fun i H v H' => ∃ T c, v = .ref T ∧ H T = none ∧ H' = upd H T (.tup [.int (i : Nat), .str ⟨#[c]⟩]) ∧ x.cps[i]? = some c) :=
  ⟨fun _ _ h _ => h, fun _ _ => Nat.le_refl _, fun _ _ _ _ _ _ y => y⟩

/-! ### zip(a text, a tuple) -/
/-- the signs of x and the tuple at b, of which ys stand, in new pairs -/
def ItzST (K : PySem.W.Frag) (x : Str) (b : Addr) (ys : List V) : It :=
  ⟨fun i H => SqT K H b ys ∧ i < x.cps.size ∧ i < ys.length, fun i H v H' => ∃ T c y, v = .ref T ∧ H T = none ∧ H' = upd H T (.tup [.str ⟨#[c]⟩, y]) ∧ x.cps[i]? = some c ∧ ys[i]? = some y,
    fun i H => SqT K H b ys ∧ (x.cps.size ≤ i ∨ ys.length ≤ i)⟩
theorem turn_zipST {P : Program} {w : World} {K : PySem.W.Frag} {elts : List Expr} {kk : Nat} {tpos : Pos} (x : Str) (t : Tok) (ys : List V) (b : Addr) {z TI TO i1 i2 : Addr}
    (hb : b ≠ i2) (S : ZipSep2 z TI TO i1 i2 [i1] [i2, b]) :
    Turn P w K (.Tuple elts kk tpos) (ItzST K x b ys) [z, TI, TO, i1, i2] z (fun i h => IsZip h z TI TO .none ∧ IsTupOf2 h TI (.ref i1) (.ref i2) ∧ (∃ x y, IsTupOf2 h TO x y) ∧ h.IsStrIter i1 (strIterType x) x t i ∧ h.IsTupleIter i2 b i ∧ i ≤ x.cps.size ∧ i ≤ ys.length) where
  mem := by simp
  obj := fun i h st c hc => by
    obtain ⟨hz, hTI, ⟨x, y, hTO⟩, ⟨o1, e1, _, d1⟩, ⟨o2, e2, _, d2⟩, _⟩ := st
    have e' : c = z ∨ c = TI ∨ c = TO ∨ c = i1 ∨ c = i2 := by simpa using hc
    rcases e' with q | q | q | q | q
    · rw [q]; exact ⟨_, hz, fun v q => nomatch q⟩
    · rw [q]; exact ⟨_, hTI, fun v q => nomatch q⟩
    · rw [q]; exact ⟨_, hTO, fun v q => nomatch q⟩
    · rw [q]; exact ⟨o1, e1, fun v q => by rw [d1] at q; cases q⟩
    · rw [q]; exact ⟨o2, e2, fun v q => by rw [d2] at q; cases q⟩
  keep := fun i h h' st k => by
    obtain ⟨hz, hTI, ⟨x, y, hTO⟩, ⟨o1, e1, r1⟩, h2, hl⟩ := st
    exact ⟨k z (by simp) _ hz, k TI (by simp) _ hTI, ⟨x, y, k TO (by simp) _ hTO⟩, ⟨o1, k i1 (by simp) _ e1, r1⟩, h2.at fun o q => k i2 (by simp) o q, hl⟩
  item := by
    intro X hP hw hK hc i pins s σ H E I hf st hg
    subst hP hw hK
    obtain ⟨hz, hTI, ⟨x0, y0, hTO⟩, h1, h2, l1, l2⟩ := st
    obtain ⟨hq, g1, g2⟩ := hg
    obtain ⟨its, rv, p, _⟩ := I.tuple hq
    have el : its.length = ys.length := rv.length.symm
    have hzl : z < s.heap.objs.size := Heap.lt_size hz
    have D1 := Draws.text (prog := X.prog) (w := X.w) (A := X.A.in1) (I.ok.hd hc) i1 x t
    have D2 := Draws.tuple (prog := X.prog) (w := X.w) (A := X.A.in1) (I.ok.hd hc) i2 b hb its.toArray
    refine wpAny_pyNext_zipD2_item S D1 D2 hz hTI hTO h1 ⟨h2, show s.heap.IsTuple b its.toArray from p⟩ g1 (by simpa [el] using g2) fun v1 v2 h' tk y1 y2 z' TO' d1 d2 hT hsz hk => ?_
    obtain ⟨c, u, hcx, rfl⟩ := y1
    have hv2 : its[i]? = some v2 := by simpa using y2
    obtain ⟨y, hy⟩ : ∃ y, ys[i]? = some y := ⟨ys[i], List.getElem?_eq_getElem g2⟩
    obtain ⟨v2', hv2', ry⟩ := rv.get hy
    rw [hv2] at hv2'
    cases hv2'
    refine ⟨_, rfl, wpAny_letOwnedTupleGo_zip (s := { s with heap := h', toks := tk }) z' fun h'' z'' sb => ?_⟩
    have hT2 : h''.get? s.heap.objs.size = some { cls := .type "tuple", data := .seq #[.str ⟨#[c]⟩ u, v2] } := (sb.2 _ (Nat.ne_of_gt hzl)).trans hT
    have new : ObjOk X.prog X.w (upd H s.heap.objs.size (.tup [.str ⟨#[c]⟩, y])) h'' s.heap.objs.size (.tup [.str ⟨#[c]⟩, y]) :=
      ⟨by show 2 ≤ sizeLine; decide, [Value.str ⟨#[c]⟩ u, v2], Paired.cons ⟨u, rfl⟩ (Paired.cons ry .nil), ⟨_, hT2, rfl, 0, rfl⟩⟩
    have I1 : Inv X pins σ (upd H s.heap.objs.size (.tup [.str ⟨#[c]⟩, y])) { s with heap := h'', toks := tk } :=
      I.turnedNew (ch := [z, TI, TO, i1, i2]) (fun c o hb q => (sb.2 c (fun q' => hb (by simp [q']))).trans (hk c o (fun q' => hb (by simp [q'])) (fun q' => hb (by simp [q'])) (fun q' => hb (by simp [q'])) (fun q' => hb (by simp [q'])) q)) hf (Nat.le_refl _) new
    obtain ⟨d2a, d2b⟩ := d2
    refine ⟨.ref s.heap.objs.size, _, I1, rfl, ⟨_, c, y, rfl, I.hok.fresh (Nat.le_refl _), rfl, hcx, hy⟩, ⟨z'', ?_, ⟨Value.str ⟨#[c]⟩ u, v2, ?_⟩, ?_, ?_, g1, g2⟩, fun c hcm => ?_⟩
    · exact (sb.2 _ S.TIz).trans (hk _ _ S.TIz S.TITO S.TIi1 S.TIi2 hTI)
    · exact (sb.2 _ S.TOz).trans TO'
    · obtain ⟨o1, q1, q2⟩ := d1
      exact ⟨o1, (sb.2 _ S.zi1.symm).trans q1, q2⟩
    · exact d2a.at fun o q => (sb.2 _ S.zi2.symm).trans q
    · have hlt : c < s.heap.objs.size := by
        have e' : c = z ∨ c = TI ∨ c = TO ∨ c = i1 ∨ c = i2 := by simpa using hcm
        rcases e' with q | q | q | q | q
        · rw [q]; exact hzl
        · rw [q]; exact Heap.lt_size hTI
        · rw [q]; exact Heap.lt_size hTO
        · rw [q]; obtain ⟨_, e1, _⟩ := h1; exact Heap.lt_size e1
        · rw [q]; obtain ⟨_, e2, _⟩ := h2; exact Heap.lt_size e2
      rw [upd_ne (Nat.ne_of_lt hlt)]
      exact (hf c hcm).1
  done := by
    intro X hP hw hK hc i pins s σ H E I hf st hg
    subst hP hw hK
    obtain ⟨hz, hTI, ⟨x0, y0, hTO⟩, h1, h2, l1, l2⟩ := st
    obtain ⟨hq, g⟩ := hg
    obtain ⟨its, rv, p, _⟩ := I.tuple hq
    have el : its.length = ys.length := rv.length.symm
    have D1 := Draws.text (prog := X.prog) (w := X.w) (A := X.A.in1) (I.ok.hd hc) i1 x t
    have D2 := Draws.tuple (prog := X.prog) (w := X.w) (A := X.A.in1) (I.ok.hd hc) i2 b hb its.toArray
    refine wpAny_pyNext_zipD2_end S D1 D2 hz hTI hTO h1 ⟨h2, show s.heap.IsTuple b its.toArray from p⟩ l1 (by simpa [el] using l2) ?_ fun h' tk hk => ⟨rfl, I.turnedL (ch := [z, TI, TO, i1, i2]) (fun c o hb q =>
      hk c o (fun q' => hb (by simp [q'])) (fun q' => hb (by simp [q'])) (fun q' => hb (by simp [q'])) (fun q' => hb (by simp [q'])) q) hf⟩
    rcases g with g | g
    · exact .inl (Nat.le_antisymm l1 g)
    · exact .inr (by rw [List.size_toArray, el]; exact Nat.le_antisymm l2 g)
  self := fun A i s Q E st h => wpAny_pyIter_zip st.1 h
def iZipST (K : PySem.W.Frag) (ta : TA) : TI := fun σ H R => ta σ H fun vs H1 => ∃ x b ys, vs = [.str x, .ref b] ∧ SqT K H1 b ys ∧ R (ItzST K x b ys) H1
theorem pi_zipST {X : Cx} {e e2 : Expr} {ta : TA} {p pos tpos : Pos} {elts : List Expr} {kk : Nat} (hg : Gl X "zip") (hm : X.mg "zip" = none) (ha : PA X [e, e2] ta)
    (hs : starEach [e, e2] X.env = (false, eval e X.env) :: starEach [e2] X.env := by rfl) (hpl : (backTo pos (starEach [e2] X.env)).any (·.1) = false := by rfl) :
    PI X (.Tuple elts kk tpos) (.Call (.Name "zip" p) [e, e2] [] pos) (iZipST X.K ta) := by
  refine ⟨fun pins s σ H R I h => ?_⟩
  refine Call_ (ld_blt I hg hm PyProof.Rows.boot_zip (PyProof.Rows.callWith_type1 (thn (ha.run pos pins s σ H _ I h) fun us s1 ⟨vs, H1, I1, r1, q1⟩ => ?_) hs hpl))
  obtain ⟨x, b, ys, ex, hq, q⟩ := q1
  subst ex
  cases r1 with
  | cons r rr =>
    cases rr with
    | cons r' rr =>
      cases rr
      obtain ⟨t, rfl⟩ := r
      cases r'
      obtain ⟨its, rv, p, _⟩ := I1.tuple hq
      have hbl : b < s1.heap.objs.size := by obtain ⟨o, ho, _⟩ := id p; exact Heap.lt_size ho
      refine zip_begins2 (begins_text x t) (begins_tuple b its.toArray) trivial (show s1.heap.IsTuple b its.toArray from p) fun h' hz hTI hTO h1 h2 hsz hk => wpAny_pyIter_zip hz ?_
      have I2 : Inv X pins σ H1 { s1 with heap := h' } := I1.kept (t' := s1.toks) hk
      have hne : ∀ k : Nat, b ≠ s1.heap.objs.size + k := fun k => Nat.ne_of_lt (Nat.lt_of_lt_of_le hbl (Nat.le_add_right _ _))
      have hne0 : b ≠ s1.heap.objs.size := Nat.ne_of_lt hbl
      refine ⟨s1.heap.objs.size + 4, [s1.heap.objs.size + 4, s1.heap.objs.size + 2, s1.heap.objs.size + 3, s1.heap.objs.size, s1.heap.objs.size + 1], _, _, H1, rfl, I2,
        turn_zipST x t ys b (hne 1) ⟨addne _ (by decide), addne _ (by decide), addne _ (by decide), addne0 _ (by decide), List.mem_singleton.mpr rfl, fun q => addne0 _ (by decide) (List.mem_singleton.mp q), fun q => addne0 _ (by decide) (List.mem_singleton.mp q), addne _ (by decide), by simp, ?_, ?_, ?_, ?_⟩,
        ⟨hz, hTI, ⟨_, _, hTO⟩, ⟨_, h1, rfl, rfl⟩, ⟨_, h2, rfl, rfl⟩, Nat.zero_le _, Nat.zero_le _⟩, fun c hcm => ?_, q⟩
      · simp only [List.mem_cons, List.not_mem_nil, or_false, not_or]
        exact ⟨addne _ (by decide), (hne 4).symm⟩
      · simp only [List.mem_cons, List.not_mem_nil, or_false, not_or]
        exact ⟨addne _ (by decide), (hne 3).symm⟩
      · simp only [List.mem_cons, List.not_mem_nil, or_false, not_or]
        exact ⟨(addne0 _ (by decide)).symm, hne0.symm⟩
      · simp only [List.mem_cons, List.not_mem_nil, or_false]
        exact addne0 _ (by decide)
      · have e' : c = s1.heap.objs.size + 4 ∨ c = s1.heap.objs.size + 2 ∨ c = s1.heap.objs.size + 3 ∨ c = s1.heap.objs.size ∨ c = s1.heap.objs.size + 1 := by simpa using hcm
        have hle : s1.heap.objs.size ≤ c := by
          rcases e' with z | z | z | z | z <;> rw [z]
          · exact Nat.le_add_right _ _
          · exact Nat.le_add_right _ _
          · exact Nat.le_add_right _ _
          · exact Nat.le_refl _
          · exact Nat.le_add_right _ _
        exact I1.fpOk hle (I1.hok.fresh hle)
theorem walk_zipST {K : PySem.W.Frag} {x : Str} {b : Addr} {ys : List V} : Walk (ItzST K x b ys) (min x.cps.size ys.length) (fun H => SqT K H b ys) (fun i H v H' => ∃ T c y, v = .ref T ∧ H T = none ∧ H' = upd H T (.tup [.str ⟨#[c]⟩, y]) ∧ x.cps[i]? = some c ∧ ys[i]? = some y) :=
  ⟨fun i H hi h => ⟨h, by omega, by omega⟩, fun H h => ⟨h, by omega⟩, fun _ _ _ _ _ _ y => y⟩
end Fr

set_option maxHeartbeats 2000000
/-! Defs by name, wrappers of the rules, heaps that part in few places. -/
namespace Fr
open PySem PySem.Spec PyProof.Rows L2

/-! ### what the head tells, as one fact -/
structure TxB (fa : List He.Fa) (fn : List He.DefD) (ts : List He.Tab) (ex : PySem.W.Frag → Bool) (w : World) (K : PySem.W.Frag) (mg : Str → Option Value) : Prop where
  c : He.SaysT fa fn ts w K
  more : ex K = true
  h : ∃ h : Heap, K.In h ∧ h.Ns mainGlobals mg
section
variable {fa : List He.Fa} {fn : List He.DefD} {ts : List He.Tab} {ex : PySem.W.Frag → Bool} {w : World} {K : PySem.W.Frag} {mg : Str → Option Value}
theorem TxB.glo (T : TxB fa fn ts ex w K mg) (i : Nat) {x : Str} (e : fa[i]? = some (.glo x) := by rfl) : mg x = some (.ref (He.ga K x)) :=
  let ⟨_, X, G⟩ := T.h; He.glo_ok X G (T.c.d.fact i e)
theorem TxB.free (T : TxB fa fn ts ex w K mg) (i : Nat) {x : Str} (e : fa[i]? = some (.free x) := by rfl) : mg x = none :=
  let ⟨_, X, G⟩ := T.h; He.free_ok X G (T.c.d.fact i e)
theorem TxB.str (T : TxB fa fn ts ex w K mg) (i : Nat) {x z : Str} (e : fa[i]? = some (.str x z) := by rfl) : ∃ t, mg x = some (.str z t) :=
  let ⟨_, X, G⟩ := T.h; He.str_ok X G (T.c.d.fact i e)
theorem TxB.int (T : TxB fa fn ts ex w K mg) (i : Nat) {x : Str} {z : Int} (e : fa[i]? = some (.int x z) := by rfl) : ∃ t, mg x = some (.int z t) :=
  let ⟨_, X, G⟩ := T.h; He.int_ok X G (T.c.d.fact i e)
theorem TxB.cls (T : TxB fa fn ts ex w K mg) (i : Nat) {x : Str} (e : fa[i]? = some (.cls x) := by rfl) : Cls K (He.ga K x) := He.cls_ok (T.c.d.fact i e)
theorem TxB.noat (T : TxB fa fn ts ex w K mg) (i : Nat) {x f : Str} (e : fa[i]? = some (.noat x f) := by rfl) : NoAttr K (He.ga K x) f := He.noat_ok (T.c.d.fact i e)
theorem TxB.meth (T : TxB fa fn ts ex w K mg) (i : Nat) {x m : Str} (e : fa[i]? = some (.meth x m) := by rfl) : Meth K (He.ga K x) m (He.ma K (He.ga K x) m) := He.meth_ok (T.c.d.fact i e)
theorem TxB.mkr (T : TxB fa fn ts ex w K mg) (i : Nat) {x : Str} (e : fa[i]? = some (.mkr x) := by rfl) : Mk K (He.ga K x) (He.ma K (He.ga K x) "__init__") := He.mkr_ok (T.c.d.fact i e)
end

/-! ### a def by its name -/
/-- how its arguments bind -/
def BindH (d : He.DefD) (ps : List Str) : Prop := ∀ (kV doc pm : Value) (an : Option Addr) (cdv ct : Value) (us : List Value), us.length = ps.length →
  bindArgs (PySem.W.fnOf d.name d.qual d.params d.body d.scope .none kV doc pm an cdv ct) ⟨us, []⟩ = pure (ps.zip us)
/-- the function at f keeps the promise sp -/
structure HasF (P : Program) (w : World) (K : PySem.W.Frag) (mg : Str → Option Value) (base : Heap) (CX : CXT) (k : Nat) (f : Addr) (ps : List Str) (sp : Sp) : Prop where
  ex : ∃ fd, FnOk P w K mg base CX k f fd ps sp ∧ Binds K fd ps []
  kp : PySem.W.keepIn K (.ref f) = true
abbrev Has (P : Program) (w : World) (K : PySem.W.Frag) (mg : Str → Option Value) (base : Heap) (k : Nat) (x : Str) (ps : List Str) (sp : Sp) : Prop := HasF P w K mg base CX0 k (He.ga K x) ps sp
abbrev HasM (P : Program) (w : World) (K : PySem.W.Frag) (mg : Str → Option Value) (base : Heap) (k : Nat) (C m : Str) (ps : List Str) (sp : Sp) : Prop := HasF P w K mg base CX0 k (He.ma K (He.ga K C) m) ps sp
section
variable {fa : List He.Fa} {fn : List He.DefD} {ts : List He.Tab} {ex : PySem.W.Frag → Bool} {P : Program} {w : World} {K : PySem.W.Frag} {mg : Str → Option Value} {base : Heap}
theorem TxB.has (T : TxB fa fn ts ex w K mg) {d : He.DefD} (i : Nat) {f : Addr} {N ps : List Str} {k : Nat} {sp : Sp} (hd : fn[i]? = some d) (hf : He.fAd K d.at_ = f) (h0 : d.dfl = []) (h1 : d.kwd = []) (hb : BindH d ps) (S : FnScope N ps d.scope)
    (len : ∀ vs H Q E, sp vs H Q E → vs.length = ps.length)
    (hbody : ∀ (cdv : Value) (A : Around) (outer : List Env) (s : Shared) (H : Hp) (vs : List V) (Q : VK) (E : XK), Room k (A.deeper (envOfC d.qual d.scope s.heap.objs.size f cdv)) → sp vs H Q E →
      ∃ t, PSs (cxOf CX0 P w K mg base N d.qual d.scope f cdv A outer s H E).nox d.body t ∧ t { nx := fun _ H' => Q .non H', rt := Q } (start N vs) H) : HasF P w K mg base CX0 (k + 1) f ps sp := by
  obtain ⟨fd, F⟩ := T.c.d.def_ i hd
  rw [hf] at F
  have e0 : He.DefD.dvs K d = [] := by unfold He.DefD.dvs; rw [h0]; rfl
  have e1 : He.DefD.kws K d = [] := by unfold He.DefD.kws; rw [h1]; rfl
  rw [e0, e1] at F
  refine ⟨⟨fd, F.ok S len fun cdv A outer s H vs Q E hr h => ?_, F.bindsN hb⟩, F.kp⟩
  obtain ⟨t, ht, q⟩ := hbody cdv A outer s H vs Q E hr h
  exact ⟨t, ht.nox, q⟩
/-- the law itself: one function, over any base -/
abbrev Has1 (P : Program) (w : World) (K : PySem.W.Frag) (mg : Str → Option Value) (k : Nat) (x : Str) (ps : List Str) (sp : Sp) : Prop :=
  ∃ fd, (∀ (s : Shared) (us : List Value), us.length = ps.length → BindsTo s fd ⟨us, []⟩ (ps.zip us)) ∧ ∀ base : Heap, FnOk P w K mg base CX0 k (He.ga K x) fd ps sp
theorem TxB.has1 (T : TxB fa fn ts ex w K mg) {d : He.DefD} (i : Nat) {x : Str} {N ps : List Str} {k : Nat} {sp : Sp} (hd : fn[i]? = some d) (hf : He.fAd K d.at_ = He.ga K x) (h0 : d.dfl = []) (h1 : d.kwd = []) (hb : BindH d ps) (S : FnScope N ps d.scope)
    (len : ∀ vs H Q E, sp vs H Q E → vs.length = ps.length)
    (hbody : ∀ (base : Heap) (cdv : Value) (A : Around) (outer : List Env) (s : Shared) (H : Hp) (vs : List V) (Q : VK) (E : XK), Room k (A.deeper (envOfC d.qual d.scope s.heap.objs.size (He.ga K x) cdv)) → sp vs H Q E →
      ∃ t, PSs (cxOf CX0 P w K mg base N d.qual d.scope (He.ga K x) cdv A outer s H E).nox d.body t ∧ t { nx := fun _ H' => Q .non H', rt := Q } (start N vs) H) : Has1 P w K mg (k + 1) x ps sp := by
  obtain ⟨fd, F⟩ := T.c.d.def_ i hd
  rw [hf] at F
  have e0 : He.DefD.dvs K d = [] := by unfold He.DefD.dvs; rw [h0]; rfl
  have e1 : He.DefD.kws K d = [] := by unfold He.DefD.kws; rw [h1]; rfl
  rw [e0, e1] at F
  refine ⟨fd, F.bindsA hb, fun base => F.ok S len fun cdv A outer s H vs Q E hr h => ?_⟩
  obtain ⟨t, ht, q⟩ := hbody base cdv A outer s H vs Q E hr h
  exact ⟨t, ht.nox, q⟩
theorem HasF.imp {CX : CXT} {k : Nat} {f : Addr} {ps : List Str} {sp sp' : Sp} (h : HasF P w K mg base CX k f ps sp) (i : ∀ vs H Q E, sp' vs H Q E → sp vs H Q E) : HasF P w K mg base CX k f ps sp' := by
  obtain ⟨⟨fd, F, b⟩, kp⟩ := h
  exact ⟨⟨fd, F.imp i, b⟩, kp⟩
theorem HasF.mono {CX : CXT} {j k : Nat} {f : Addr} {ps : List Str} {sp : Sp} (h : HasF P w K mg base CX j f ps sp) (hk : j ≤ k) : HasF P w K mg base CX k f ps sp := by
  obtain ⟨⟨fd, F, b⟩, kp⟩ := h
  exact ⟨⟨fd, F.mono hk, b⟩, kp⟩
end
section
variable {X : Cx} {k : Nat} {f C : Addr} {ps : List Str} {sp : Sp} {x m : Str} {p pos apos pos' : Pos} {e o value : Expr} {es : List Expr} {ta tv : TE} {t : TA} {nm : Str}
theorem pe_callH (h : HasF X.prog X.w X.K X.mg X.base CX0 k f ps sp) (hr : Room k X.A) (hg : Gl X x) (hm : X.mg x = some (.ref f)) (ha : PA X (e :: es) t) (hdb : (x == ("__debug__" : Str)) = false := by decide)
    (he : starEach (e :: es) X.env = (false, eval e X.env) :: starEach es X.env := by rfl) (hpl : (backTo pos (starEach es X.env)).any (·.1) = false := by rfl) :
    PE X (.Call (.Name x p) (e :: es) [] pos) (tCall sp [] E0 t) := by
  obtain ⟨⟨fd, F, b⟩, kp⟩ := h
  exact pe_call F hr hg hm kp b .nil pass0 ha hdb he hpl
theorem pe_callH0 (h : HasF X.prog X.w X.K X.mg X.base CX0 k f ps sp) (hr : Room k X.A) (hg : Gl X x) (hm : X.mg x = some (.ref f)) (hdb : (x == ("__debug__" : Str)) = false := by decide) :
    PE X (.Call (.Name x p) [] [] pos) (tCall sp [] E0 tNil) := by
  obtain ⟨⟨fd, F, b⟩, kp⟩ := h
  exact pe_call0 F hr hg hm kp b .nil pass0 hdb
theorem pe_methH {pl : Sem Bool} (c : Cls X.K C) (hm : Meth X.K C m f) (h : HasF X.prog X.w X.K X.mg X.base CX0 k f ps sp) (hr : Room k X.A) (he : PE X o ta) (ha : PA X (e :: es) t)
    (hst : starEach (e :: es) X.env = (false, eval e X.env) :: starEach es X.env := by rfl) (hpl : (backTo pos (starEach es X.env)).any (·.1) = false := by rfl)
    (ht : eval (.Call (.Attribute o m apos) (e :: es) [] pos) X.env = (do
      let ov ← eval o X.env
      standAt apos.atName
      let (f, first) ← holding [ov] (getMethod ov m pl)
      callWith pos f first (backTo pos (starEach (e :: es) X.env)) (backToKw pos (keywordEach [] X.env))) := by rfl) :
    PE X (.Call (.Attribute o m apos) (e :: es) [] pos) (tMeth C m sp [] E0 ta t) := by
  obtain ⟨⟨fd, F, b⟩, kp⟩ := h
  exact pe_meth he c hm F hr b .nil pass0 ha hst hpl ht
theorem pe_methH0 {pl : Sem Bool} (c : Cls X.K C) (hm : Meth X.K C m f) (h : HasF X.prog X.w X.K X.mg X.base CX0 k f ps sp) (hr : Room k X.A) (he : PE X o ta)
    (ht : eval (.Call (.Attribute o m apos) [] [] pos) X.env = (do
      let ov ← eval o X.env
      standAt apos.atName
      let (f, first) ← holding [ov] (getMethod ov m pl)
      callWith pos f first (backTo pos (starEach [] X.env)) (backToKw pos (keywordEach [] X.env))) := by rfl) :
    PE X (.Call (.Attribute o m apos) [] [] pos) (tMeth C m sp [] E0 ta tNil) := by
  obtain ⟨⟨fd, F, b⟩, kp⟩ := h
  exact pe_meth0 he c hm F hr b .nil pass0 ht
theorem pe_makeH (M : Mk X.K C f) (h : HasF X.prog X.w X.K X.mg X.base CX0 k f ps sp) (hr : Room (k + 1) X.A) (hg : Gl X x) (hm : X.mg x = some (.ref C)) (ha : PA X (e :: es) t) (hdb : (x == ("__debug__" : Str)) = false := by decide)
    (he : starEach (e :: es) X.env = (false, eval e X.env) :: starEach es X.env := by rfl) (hpl : (backTo pos (starEach es X.env)).any (·.1) = false := by rfl) :
    PE X (.Call (.Name x p) (e :: es) [] pos) (tMake C sp [] E0 t) := by
  obtain ⟨⟨fd, F, b⟩, kp⟩ := h
  exact pe_make M F hr hg hm b .nil pass0 ha hdb he hpl
/-- o.f, o.f = e where the class is known -/
def tFldC (C : Addr) (ta : TE) (f : Str) : TE := fun σ H Q => ta σ H fun x H1 => ∃ a dx fs v, x = .ref a ∧ H1 a = some (.ins C dx fs) ∧ fs.lookup f = some v ∧ Q v H1
def sFldC (C : Addr) (ta tv : TE) (f : Str) : TS := fun D σ H => tv σ H fun y H1 => ta σ H1 fun x H2 => ∃ a dx fs, x = .ref a ∧ H2 a = some (.ins C dx fs) ∧ fs.length < 1000 ∧ D.nx σ (upd H2 a (.ins C dx (putF f y fs)))
theorem pe_fldC (c : Cls X.K C) (n : NoAttr X.K C nm) (he : PE X e ta) (hb : attributeBase e nm X.env (eval e X.env) = eval e X.env := by rfl) : PE X (.Attribute e nm pos) (tFldC C ta nm) := by
  refine ⟨fun pins s σ H Q I h => ?_⟩
  refine attr_of hb (thn (he.run pins s σ H _ I h) fun u s1 ⟨x, H1, I1, rx, a, dx, fs, v, ex, ea, l, q⟩ => ?_)
  subst ex
  obtain rfl : u = Value.ref a := rx
  exact getattr_ok I1 ea c n l fun u' s2 I2 ru => ⟨v, H1, I2, ru, q⟩
theorem ps_fldC (c : Cls X.K C) (n : NoAttr X.K C nm) (ha : PE X o ta) (hv : PE X value tv) (hs : swapsWith value (some (.Attribute o nm pos')) pos.line X.env = pure false) : PS X (.Assign [.Attribute o nm pos'] value pos) (sFldC C ta tv nm) := by
  refine ⟨fun pins s σ H D I h => ?_⟩
  refine plainObj_wpAny_Assign_Attribute (thn (hv.run pins s σ H _ I h) fun u s1 ⟨y, H1, I1, ry, q⟩ => thn (ha.run pins s1 σ H1 _ I1 q) fun ov s2 ⟨x, H2, I2, rx, a, dx, fs, ex, ea, l, q2⟩ => ?_) hs
  subst ex
  obtain rfl : ov = Value.ref a := rx
  exact setattr_ok I2 ea c n l ry fun s3 I3 => ⟨σ, _, I3, q2⟩
/-- z in a written dict, not in -/
theorem op_in_kdE {d : Addr} (h : ∃ es n, KDict X.K X.w d es n) : OpR X (compareOp .In) (fun x y H Q => ∃ (z : Str) (r : Option Value), x = .str z ∧ y = .ref d ∧ PySem.W.nsIn X.K d z = some r ∧ Q (.bl r.isSome) H) := by
  obtain ⟨es, n, D⟩ := h
  exact op_in_kd D
theorem op_notIn_kdE {d : Addr} (h : ∃ es n, KDict X.K X.w d es n) : OpR X (compareOp .NotIn) (fun x y H Q => ∃ (z : Str) (r : Option Value), x = .str z ∧ y = .ref d ∧ PySem.W.nsIn X.K d z = some r ∧ Q (.bl (!r.isSome)) H) := by
  obtain ⟨es, n, D⟩ := h
  exact op_notIn_kd D
theorem kdct_of {K : PySem.W.Frag} {w : World} {d : Addr} {kvs : List (Str × He.Dv)} (h : ∃ es n, KDict K w d es n) (hv : He.valsB K d kvs = true) {z : Str} {v : He.Dv} (hm : (z, v) ∈ kvs) : KDct K w d z (v.v K) ∧ ∃ u, PySem.W.nsIn K d z = some (some u) := by
  obtain ⟨es, n, D⟩ := h
  obtain ⟨u, h1, h2⟩ := He.valsB_ok hv hm
  exact ⟨⟨es, n, u, D.at_, D.lit, h1, h2⟩, u, h1⟩
/-- a module's constant -/
theorem pe_gs {z : Str} (hg : Gl X x) (hm : ∃ t, X.mg x = some (.str z t)) (hd : (x == ("__debug__" : Str)) = false := by decide) : PE X (.Name x pos) (tC (.str z)) := by
  obtain ⟨t, ht⟩ := hm
  exact pe_glob hg ht ⟨t, rfl⟩ hd
theorem pe_gr {a : Addr} (hg : Gl X x) (hm : X.mg x = some (.ref a)) (hd : (x == ("__debug__" : Str)) = false := by decide) : PE X (.Name x pos) (tC (.ref a)) := pe_glob hg hm rfl hd
theorem pe_gi {z : Int} (hg : Gl X x) (hm : ∃ t, X.mg x = some (.int z t)) (hd : (x == ("__debug__" : Str)) = false := by decide) : PE X (.Name x pos) (tC (.int z)) := by
  obtain ⟨t, ht⟩ := hm
  exact pe_glob hg ht ⟨t, rfl⟩ hd
end

/-! ### heaps that part in few places -/
/-- what was tracked and is not in ms stands as it was; tuples always -/
structure Mod (ms : List Addr) (H H' : Hp) : Prop where
  keep : ∀ b o, H b = some o → b ∉ ms → H' b = some o
  tup : ∀ b xs, H b = some (.tup xs) → H' b = some (.tup xs)
  there : ∀ b, H' b = none → H b = none
theorem Mod.refl {ms : List Addr} {H : Hp} : Mod ms H H := ⟨fun _ _ e _ => e, fun _ _ e => e, fun _ e => e⟩
theorem Mod.trans {ms : List Addr} {H H1 H2 : Hp} (a : Mod ms H H1) (b : Mod ms H1 H2) : Mod ms H H2 :=
  ⟨fun c o e n => b.keep c o (a.keep c o e n) n, fun c xs e => b.tup c xs (a.tup c xs e), fun c e => a.there c (b.there c e)⟩
theorem Mod.mono {ms ns : List Addr} {H H' : Hp} (a : Mod ms H H') (h : ∀ b ∈ ms, b ∈ ns) : Mod ns H H' := ⟨fun c o e n => a.keep c o e fun m => n (h c m), a.tup, a.there⟩
theorem Mod.nil {ns : List Addr} {H H' : Hp} (a : Mod [] H H') : Mod ns H H' := a.mono fun _ m => nomatch m
theorem Mod.same {H H' : Hp} (a : Mod [] H H') : Same H H' := fun b o e => a.keep b o e (by simp)
theorem Mod.of_same {H H' : Hp} (a : Same H H') : Mod [] H H' := ⟨fun b o e _ => a b o e, fun b xs e => a b _ e, fun b e => a.free e⟩
theorem Mod.new {ms : List Addr} {H H' : Hp} {p : Addr} {o : HO} (a : Mod ms H H') (hp : H' p = none) : Mod ms H (upd H' p o) :=
  ⟨fun c u e n => by rw [upd_ne (ne_of_none (a.keep c u e n) hp)]; exact a.keep c u e n, fun c xs e => by rw [upd_ne (ne_of_none (a.tup c xs e) hp)]; exact a.tup c xs e, fun c e => by
    by_cases q : c = p
    · subst q; rw [upd_same] at e; cases e
    · rw [upd_ne q] at e; exact a.there c e⟩
/-- an object in ms, no tuple, is written -/
theorem Mod.put {ms : List Addr} {H H' : Hp} {p : Addr} {o u : HO} (a : Mod ms H H') (hu : H' p = some u) (nt : ∀ xs, u ≠ .tup xs) (hp : p ∈ ms) : Mod ms H (upd H' p o) :=
  ⟨fun c v e n => by rw [upd_ne (fun (q : c = p) => n (by rw [q]; exact hp))]; exact a.keep c v e n, fun c xs e => by
    have e1 := a.tup c xs e
    rw [upd_ne (ne_of e1 hu (fun z => nt xs z.symm))]; exact e1, fun c e => by
    by_cases q : c = p
    · subst q; rw [upd_same] at e; cases e
    · rw [upd_ne q] at e; exact a.there c e⟩
/-- an object that H does not know may be written -/
theorem Mod.putNew {ms : List Addr} {H H' : Hp} {p : Addr} {o u : HO} (a : Mod ms H H') (hu : H' p = some u) (hp : H p = none) : Mod ms H (upd H' p o) :=
  ⟨fun c v e n => by rw [upd_ne (ne_of_none e hp)]; exact a.keep c v e n, fun c xs e => by
    rw [upd_ne (ne_of_none e hp)]; exact a.tup c xs e, fun c e => by
    by_cases q : c = p
    · subst q; rw [upd_same] at e; cases e
    · rw [upd_ne q] at e; exact a.there c e⟩
/-- one more step, whose changes are new to H or in ms -/
theorem Mod.step {ms ns : List Addr} {H H1 H2 : Hp} (a : Mod ms H H1) (b : Mod ns H1 H2) (h : ∀ p ∈ ns, p ∈ ms ∨ H p = none) : Mod ms H H2 :=
  ⟨fun c o e n => b.keep c o (a.keep c o e n) (fun m => (h c m).elim n fun z => by rw [e] at z; cases z), fun c xs e => b.tup c xs (a.tup c xs e), fun c e => a.there c (b.there c e)⟩
theorem Mod.back {ms : List Addr} {H H' : Hp} (a : Mod ms H H') {p : Addr} (h : H' p = none) : H p = none := a.there p h
theorem Mod.ne {ms : List Addr} {H H' : Hp} (a : Mod ms H H') {p c : Addr} {o : HO} (h : H' p = none) (e : H c = some o) : c ≠ p := ne_of_none e (a.there p h)
/-- a dict that was locked is itself again -/
theorem Mod.unlock {ms : List Addr} {d : Addr} {u : HO} {H H' : Hp} (a : Mod (d :: ms) H H') (hd : H d = some u) (nt : ∀ xs, u ≠ .tup xs) : Mod ms H (upd H' d u) :=
  ⟨fun c o e n => by
    by_cases q : c = d
    · subst q; rw [hd] at e; cases e; exact upd_same
    · rw [upd_ne q]; exact a.keep c o e (fun m => (List.mem_cons.mp m).elim q n), fun c xs e => by
    by_cases q : c = d
    · subst q; rw [hd] at e; cases e; exact absurd rfl (nt xs)
    · rw [upd_ne q]; exact a.tup c xs e, fun c e => by
    by_cases q : c = d
    · subst q; rw [upd_same] at e; cases e
    · rw [upd_ne q] at e; exact a.there c e⟩
theorem Mod.sqT {K : PySem.W.Frag} {ms : List Addr} {H H' : Hp} (a : Mod ms H H') {t : Addr} {xs : List V} (h : H t = some (.tup xs)) : SqT K H' t xs := SqT.of (a.tup t xs h)
end Fr

set_option maxHeartbeats 4000000
/-! Defs that raise, lambdas handed to a def, errors asked for their class. -/
namespace Fr
open PySem PySem.Spec PyProof.Rows L2 LamX
section
variable {X : Cx} {C : Addr} {bmB : List Value} {B newId initId : String}
/-- C() of an own error class -/
theorem pmk_own0 {x : Str} {p pos : Pos} (F : ExcBaseFacts B newId initId bmB) (q : PySem.W.excIn X.K C bmB newId = true) (gC : X.mg x = some (.ref C)) (kC : PySem.W.keepIn X.K (.ref C) = true) (r : Raises X (.ref C)) (hg : Gl X x)
    (hdb : (x == ("__debug__" : Str)) = false := by decide) : PMk X (.Call (.Name x p) [] [] pos) (fun _ H Q => Q (.ref C) none H) := by
  intro pins s σ H Q I h
  refine wpAny_Call_Name_kw (ld_glob I hg gC ?_ hdb)
  refine PySem.W.callWith_K0 I.kIn kC ?_
  show wpAny _ _ (call (.ref C) []) _ _ _
  obtain ⟨bm, N, nm, qn, bs, hdct, sn, sub, ab, col, dd, k0, k1, k2, k3, k5, mN, hC, hN, hni, T⟩ := exc_obj I.kIn q
  refine wpAny_call_exc_subT F T hC hN hni (fun h' e hm => ?_) (Nat.zero_le _)
  exact mk_of I hm r h (I.hok.gone hm.new)
theorem Takes.len {W : WX} (tk : Takes X W) : Takes X (fun cls d σ H => σ.length = X.N.length → W cls d σ H) := fun u s' ⟨a, B, sI, pins, σ, H, cls, d, e, I, nb, up, sky, na, os, ag, w⟩ =>
  tk u s' ⟨a, B, sI, pins, σ, H, cls, d, e, I, nb, up, sky, na, os, ag, w I.len⟩
/-- text * number -/
theorem op_mulS : OpR X (binaryOp .Mult) (fun x y H Q => ∃ (z : Str) (k : Int), x = .str z ∧ y = .int k ∧ 2 ≤ k ∧ k ≤ 1000 ∧ z.length = 1 ∧ (⟨(List.replicate k.toNat z.cps).foldl (· ++ ·) #[]⟩ : Str).length ≤ sizeLine ∧ Q (.str ⟨(List.replicate k.toNat z.cps).foldl (· ++ ·) #[]⟩) H) := by
  intro pins s σ H x y v u Q I rx ry h
  obtain ⟨z, k, rfl, rfl, h1, h2, hz, hlen, q⟩ := h
  obtain ⟨t, rfl⟩ := rx
  obtain ⟨t2, rfl⟩ := ry
  refine PySem.P.mul_str ?_ (fun _ _ => ?_) (fun _ _ => ?_) ?_
  · rw [Bool.or_eq_false_iff]
    exact ⟨decide_eq_false (by omega), decide_eq_false (by omega)⟩
  · rw [hz]
    have : (1 : Int) ≤ (2 ^ 63 - 1) / k := (Int.le_ediv_iff_mul_le (by omega)).mpr (by omega)
    omega
  · rw [hz]
    have hs := sizeLine_eq
    exact decide_eq_false (by omega)
  · rw [if_neg (by omega)]
    have : (k == 1 || z.length == 0) = false := by
      rw [hz, Bool.or_eq_false_iff]
      exact ⟨beq_eq_false_iff_ne.mpr (by omega), rfl⟩
    rw [if_neg (by rw [this]; simp)]
    exact ⟨hlen, .str _, H, I.tok _, ⟨_, rfl⟩, q⟩
/-- flags.count(True) of truth values -/
theorem mt_countB : MtR X "list.count" (fun x xs H Q => ∃ (p : Addr) (bs : List Bool), x = .ref p ∧ xs = [.bl true] ∧ SqL X.K H p (bs.map V.bl) ∧ Q (.int (bs.countP id : Nat)) H) := by
  intro pins s σ H x xs v us Q I rx rxs h
  obtain ⟨p, bs, rfl, rfl, hs, q⟩ := h
  cases rx
  obtain ⟨u, rfl, ru⟩ := rxs.one
  obtain rfl : u = Value.bool true := ru
  obtain ⟨its, rv, ⟨⟨cls, dd, data, sl⟩, n, ho, hc, hdn, hd⟩, hlen⟩ := I.list hs
  simp only at hc hd
  subst hc hd
  have hf : (bs.map V.bl).all flatV = true := by rw [List.all_map]; exact List.all_eq_true.mpr fun _ _ => rfl
  refine call_meets PySem.F.slot_list_count ⟨_, ho, rfl⟩ PySem.F.entry_list_count (PySem.F.args_list_count_2 _ _)
    (SeqAt.list_countAt p its.toArray n dd sl (.bool true) (eqU (.bl true))) ⟨ho, fun y hy => mem_eqAt (x := .bl true) rfl rfl rv hf y (by simpa using hy), ?_⟩
  have ec : ∀ {bs : List Bool} {us : List Value}, Vals (bs.map V.bl) us → us.countP (eqU (.bl true)) = bs.countP id := by
    intro bs
    induction bs with
    | nil => intro us h; cases h; rfl
    | cons b r ih =>
      intro us h
      cases h with
      | cons hb ht =>
        obtain rfl := hb
        rw [List.countP_cons, List.countP_cons, ih ht]
        cases b <;> rfl
  refine ⟨.int (bs.countP id : Nat), H, I.tok _, ⟨s.toks, ?_⟩, q⟩
  show Value.int ((its.toArray.toList.countP (eqU (.bl true)) : Nat) : Int) s.toks = _
  rw [show its.toArray.toList = its by simp, ec rv]
theorem mt_countK (K : PySem.W.Frag) (h : X.K = K := by rfl) : MtR X "list.count" (fun x xs H Q => ∃ (p : Addr) (bs : List Bool), x = .ref p ∧ xs = [.bl true] ∧ SqL K H p (bs.map V.bl) ∧ Q (.int (bs.countP id : Nat)) H) := by subst h; exact mt_countB
theorem mt_indexK (K : PySem.W.Frag) (h : X.K = K := by rfl) : MtR X "list.index" (rIndex K) := by subst h; exact mt_index
theorem pe_bmK (K : PySem.W.Frag) {T name id : String} {r : V → List V → Hp → VK → Prop} {o e : Expr} {es : List Expr} {to : TE} {t : TA} {apos cpos : Pos} (pa : PlainAttrs T) (slot : Slot T name id) (hty : typeOf (.builtin id) = pure (.type "method_descriptor")) (hm : MtR X id r) (ho : PE X o to) (ha : PA X (e :: es) t)
    (hK : X.K = K := by rfl)
    (hbase : attributeBase o name X.env (eval o X.env) = eval o X.env := by rfl)
    (hfew : ((backTo cpos (starEach (e :: es) X.env)).all (fun x => !x.1) && (backToKw cpos (keywordEach [] X.env)).all (fun x => x.1.isSome)
      && decide ((e :: es).length + ([] : List Keyword).length + (if ([] : List Keyword).isEmpty then 0 else 1) < 30)) = true := by rfl)
    (hline : (apos.endLine == cpos.line) = true := by rfl) (hs : starEach (e :: es) X.env = (false, eval e X.env) :: starEach es X.env := by rfl) (hplain : (backTo cpos (starEach es X.env)).any (·.1) = false := by rfl) :
    PE X (.Call (.Attribute o name apos) (e :: es) [] cpos) (tBM K T r to t) := by subst hK; exact pe_bm pa slot hty hm ho ha hbase hfew hline hs hplain
/-- isinstance(error, c) of the error that the suite holds -/
theorem call_isE2 {a : Addr} {oe : Obj} {cls : Value} {d : Option Addr} {pn : List (Addr × Obj)} (hz : Zc cls d oe) (hf : ∃ vs, oe.data = .fields vs) :
    CallR (X.suite a ((a, oe) :: pn)) (.builtin "isinstance") (fun xs H Q => ∃ D, cls = .ref D ∧ d = none ∧ ExcC X.K D ∧ rIsE X.K D a xs H Q) := by
  intro pins s σ H xs us Q I r ⟨D, e1, e2, C, h⟩
  subst e1 e2
  exact call_isE C hz hf pins s σ H xs us Q I r h
end
/-! ### what the head must tell of an error class -/
def excB (K : PySem.W.Frag) (D : Addr) : Bool := He.eqO (PySem.W.findIn K (.ref D) "__getattribute__") (some (some (.builtin "BaseException.__getattribute__"))) && (He.eqO (PySem.W.findIn K (.ref D) "__getattr__") (some none) &&
  (decide (PySem.W.subIn K (.ref D) (.type "BaseException") = some true) && (PySem.W.hasDictIn K D && (He.eqO (PySem.W.findIn K (.ref D) "__class__") (some (some (.builtin "object.__class__"))) &&
  (He.eqO (PySem.W.specialIn K (.builtin "object.__class__") "__get__") (some (some (.builtin "getset_descriptor.__get__"))) && (decide (PySem.W.takesIn K (.builtin "object.__class__") = some true) && (decide (PySem.W.mroIn K D (.type "object") = some true) &&
  decide (PySem.W.kitOne K (.ref D) (.type "ValueError") = some true))))))))
theorem excB_ok {K : PySem.W.Frag} {D : Addr} (h : excB K D = true) : ExcC K D ∧ PySem.W.kitOne K (.ref D) (.type "ValueError") = some true := by
  unfold excB at h
  obtain ⟨h1, h⟩ := He.ba h
  obtain ⟨h2, h⟩ := He.ba h
  obtain ⟨h3, h⟩ := He.ba h
  obtain ⟨h4, h⟩ := He.ba h
  obtain ⟨h5, h⟩ := He.ba h
  obtain ⟨h6, h⟩ := He.ba h
  obtain ⟨h7, h⟩ := He.ba h
  obtain ⟨h8, h9⟩ := He.ba h
  exact ⟨⟨He.eqO_ok h1, He.eqO_ok h2, of_decide_eq_true h3, h4, He.eqO_ok h5, He.eqO_ok h6, of_decide_eq_true h7, of_decide_eq_true h8⟩, of_decide_eq_true h9⟩
def kitEq (K : PySem.W.Frag) (x y : Str) (b : Bool) : Bool := decide (PySem.W.kitOne K (.ref (He.ga K x)) (.ref (He.ga K y)) = some b)
theorem kitEq_ok {K : PySem.W.Frag} {x y : Str} {b : Bool} (h : kitEq K x y b = true) : PySem.W.kitOne K (.ref (He.ga K x)) (.ref (He.ga K y)) = some b := of_decide_eq_true h
section
variable {fa : List He.Fa} {fn : List He.DefD} {ts : List He.Tab} {ex : PySem.W.Frag → Bool} {P : Program} {w : World} {K : PySem.W.Frag} {mg : Str → Option Value} {base : Heap}
theorem TxB.exc (T : TxB fa fn ts ex w K mg) (i : Nat) {x : Str} (e : fa[i]? = some (.exc x) := by rfl) : PySem.W.excIn K (He.ga K x) He.veBase "ValueError.__new__" = true ∧ PySem.W.keepIn K (.ref (He.ga K x)) = true ∧
    PySem.W.subIn K (.ref (He.ga K x)) (.type "BaseException") = some true ∧ PySem.W.typeIn K (.ref (He.ga K x)) = some (.type "type") := He.exc_ok (T.c.d.fact i e)
theorem TxB.exm (T : TxB fa fn ts ex w K mg) (i : Nat) {x y : Str} {b : Bool} (e : fa[i]? = some (.exm x y b) := by rfl) : PySem.W.exmOne K (.ref (He.ga K x)) (.ref (He.ga K y)) = some b := He.exm_ok (T.c.d.fact i e)
/-- a def that may raise -/
theorem TxB.hasX (T : TxB fa fn ts ex w K mg) {d : He.DefD} (i : Nat) {f : Addr} {N ps : List Str} {k : Nat} {sp : Sp} (hd : fn[i]? = some d) (hf : He.fAd K d.at_ = f) (h0 : d.dfl = []) (h1 : d.kwd = []) (hb : BindH d ps) (S : FnScope N ps d.scope)
    (len : ∀ vs H Q E, sp vs H Q E → vs.length = ps.length)
    (hbody : ∀ (cdv : Value) (A : Around) (outer : List Env) (s : Shared) (H : Hp) (vs : List V) (Q : VK) (E : XK), Room k (A.deeper (envOfC d.qual d.scope s.heap.objs.size f cdv)) → sp vs H Q E →
      ∃ t, PSs (cxOf (L2.CX P w) P w K mg base N d.qual d.scope f cdv A outer s H E) d.body t ∧ t { nx := fun _ H' => Q .non H', rt := Q } (start N vs) H) : HasF P w K mg base (L2.CX P w) (k + 1) f ps sp := by
  obtain ⟨fd, F⟩ := T.c.d.def_ i hd
  rw [hf] at F
  have e0 : He.DefD.dvs K d = [] := by unfold He.DefD.dvs; rw [h0]; rfl
  have e1 : He.DefD.kws K d = [] := by unfold He.DefD.kws; rw [h1]; rfl
  rw [e0, e1] at F
  exact ⟨⟨fd, F.ok S len hbody, F.bindsN hb⟩, F.kp⟩
/-- a def whose code object is known -/
theorem TxB.hasC (T : TxB fa fn ts ex w K mg) {d : He.DefD} (i : Nat) {f : Addr} {N ps : List Str} {k : Nat} {sp : Sp} (hd : fn[i]? = some d) (hf : He.fAd K d.at_ = f) (h0 : d.dfl = []) (h1 : d.kwd = []) (hb : BindH d ps) (S : FnScope N ps d.scope)
    (len : ∀ vs H Q E, sp vs H Q E → vs.length = ps.length)
    (hbody : ∀ (A : Around) (outer : List Env) (s : Shared) (H : Hp) (vs : List V) (Q : VK) (E : XK), Room k (A.deeper (envOfC d.qual d.scope s.heap.objs.size f (.ref (He.codeOf K d.at_)))) → sp vs H Q E →
      ∃ t, PSs (cxOf CX0 P w K mg base N d.qual d.scope f (.ref (He.codeOf K d.at_)) A outer s H E).nox d.body t ∧ t { nx := fun _ H' => Q .non H', rt := Q } (start N vs) H) : HasF P w K mg base CX0 (k + 1) f ps sp := by
  obtain ⟨fd, F⟩ := T.c.d.def_ i hd
  have e0 : He.DefD.dvs K d = [] := by unfold He.DefD.dvs; rw [h0]; rfl
  have e1 : He.DefD.kws K d = [] := by unfold He.DefD.kws; rw [h1]; rfl
  rw [e0, e1] at F
  refine ⟨⟨fd, ?_, by rw [hf] at F; exact F.bindsN hb⟩, by rw [← hf]; exact F.kp⟩
  obtain ⟨oc, od, dV, kV, doc, pm, an, cdv, ct, osl, rfl, lk, hcd, _, _⟩ := F.ex
  obtain ⟨c, rfl⟩ := He.codeIn_ref hcd
  have ec : He.codeOf K d.at_ = c := He.codeOf_eq lk rfl
  rw [hf] at lk
  refine fn_of lk hcd S len fun A outer s H vs Q E hr h => ?_
  have := hbody A outer s H vs Q E
  rw [ec] at this
  obtain ⟨t, ht, q⟩ := this hr h
  exact ⟨t, ht.nox, q⟩
/-- the law itself, over bases that B holds of -/
theorem TxB.has1B (T : TxB fa fn ts ex w K mg) {B : Heap → Prop} {d : He.DefD} (i : Nat) {x : Str} {N ps : List Str} {k : Nat} {sp : Sp} (hd : fn[i]? = some d) (hf : He.fAd K d.at_ = He.ga K x) (h0 : d.dfl = []) (h1 : d.kwd = []) (hb : BindH d ps) (S : FnScope N ps d.scope)
    (len : ∀ vs H Q E, sp vs H Q E → vs.length = ps.length)
    (hbody : ∀ (base : Heap), B base → ∀ (cdv : Value) (A : Around) (outer : List Env) (s : Shared) (H : Hp) (vs : List V) (Q : VK) (E : XK), Room k (A.deeper (envOfC d.qual d.scope s.heap.objs.size (He.ga K x) cdv)) → sp vs H Q E →
      ∃ t, PSs (cxOf CX0 P w K mg base N d.qual d.scope (He.ga K x) cdv A outer s H E).nox d.body t ∧ t { nx := fun _ H' => Q .non H', rt := Q } (start N vs) H) :
    ∃ fd, (∀ (s : Shared) (us : List Value), us.length = ps.length → BindsTo s fd ⟨us, []⟩ (ps.zip us)) ∧ ∀ base : Heap, B base → FnOk P w K mg base CX0 (k + 1) (He.ga K x) fd ps sp := by
  obtain ⟨fd, F⟩ := T.c.d.def_ i hd
  rw [hf] at F
  have e0 : He.DefD.dvs K d = [] := by unfold He.DefD.dvs; rw [h0]; rfl
  have e1 : He.DefD.kws K d = [] := by unfold He.DefD.kws; rw [h1]; rfl
  rw [e0, e1] at F
  refine ⟨fd, F.bindsA hb, fun base hB => F.ok S len fun cdv A outer s H vs Q E hr h => ?_⟩
  obtain ⟨t, ht, q⟩ := hbody base hB cdv A outer s H vs Q E hr h
  exact ⟨t, ht.nox, q⟩
/-- what a call of a def by a lambda's taker asks -/
theorem TxB.raw (T : TxB fa fn ts ex w K mg) {d : He.DefD} (i : Nat) {f : Addr} {ps : List Str} (hd : fn[i]? = some d) (hf : He.fAd K d.at_ = f) (h0 : d.dfl = []) (h1 : d.kwd = []) (hb : BindH d ps) :
    ∃ (oc : Value) (od : Option Addr) (dV kV doc pm : Value) (an : Option Addr) (cdv ct : Value) (osl : Array (Option Value)),
      K.lookup f = some ⟨oc, od, .func (PySem.W.fnOf d.name d.qual d.params d.body d.scope dV kV doc pm an cdv ct), osl⟩ ∧ PySem.W.codeIn K cdv d.qual = true ∧ PySem.W.keepIn K (.ref f) = true ∧ L2.Binds K (PySem.W.fnOf d.name d.qual d.params d.body d.scope dV kV doc pm an cdv ct) ps [] := by
  obtain ⟨fd, F⟩ := T.c.d.def_ i hd
  rw [hf] at F
  have e0 : He.DefD.dvs K d = [] := by unfold He.DefD.dvs; rw [h0]; rfl
  have e1 : He.DefD.kws K d = [] := by unfold He.DefD.kws; rw [h1]; rfl
  rw [e0, e1] at F
  have b := F.bindsN hb
  have kp := F.kp
  obtain ⟨oc, od, dV, kV, doc, pm, an, cdv, ct, osl, rfl, lk, hcd, _, _⟩ := F.ex
  exact ⟨oc, od, dV, kV, doc, pm, an, cdv, ct, osl, lk, hcd, kp, b⟩
end
section
variable {X : Cx} {k : Nat} {f : Addr} {ps : List Str} {sp : Sp} {x : Str} {p pos : Pos} {e : Expr} {es : List Expr} {t : TA} {E : XK} {W : WX}
/-- a call of a def that may raise -/
theorem pe_callX (h : HasF X.prog X.w X.K X.mg X.base (L2.CX X.prog X.w) k f ps sp) (hr : Room k X.A) (hg : Gl X x) (hm : X.mg x = some (.ref f)) (tk : Takes X W) (hW : ∀ cls d σ H, E cls d H → W cls d σ H) (ha : PA X (e :: es) t) (hdb : (x == ("__debug__" : Str)) = false := by decide)
    (he : starEach (e :: es) X.env = (false, eval e X.env) :: starEach es X.env := by rfl) (hpl : (backTo pos (starEach es X.env)).any (·.1) = false := by rfl) :
    PE X (.Call (.Name x p) (e :: es) [] pos) (tCall sp [] E t) := by
  obtain ⟨⟨fd, F, b⟩, kp⟩ := h
  exact pe_call F hr hg hm kp b .nil (passes_call tk hW) ha hdb he hpl
end
/-! ### the end of a law with tables of code objects -/
theorem walk_ofTE {l : PySem.W.OpenLaw} {n k : Nat} {q : Program} {loose : List Str} {XP : (Str → Option Value) → Heap → Prop} {YP : World → Heap → Prop} {d : DefRec} {CX : CXT} {x : Str}
    (hn : l.most = some n) (hn2 : n ≤ sizeLine) (hdf : d.params.defaults = []) (hr : Room k callerA)
    (F : ∀ (w : World) (mg : Str → Option Value) (fa : Addr) (h : Heap), YP w h → h.Ns mainGlobals mg → mg d.name = some (.ref fa) →
      ∃ (K : PySem.W.Frag) (fd : FuncData) (sp : Sp) (cs : List (Addr × Addr)), K.In h ∧ (∀ p ∈ cs, h.get? p.2 = some { cls := .none, data := .fields #[] }) ∧ (∀ p ∈ cs, K.lookup p.2 = none) ∧ (∀ p ∈ cs, PySem.W.CodeHd h p.1 p.2) ∧
        (∀ (s : Shared) (u : Value), BindsTo s fd ⟨[u], []⟩ [(x, u)]) ∧
        (∀ (H : Hp) (a : Addr) (ns : List Int), ns.length ≤ n → (∀ p ∈ cs, H p.2 = some (.tbl #[])) → SqL K H a (ns.map V.int) → sp [.ref a] H (fun v _ => v = .bl true) fun _ _ _ => False) ∧
        ∀ base : Heap, K.In base → base.Ns mainGlobals mg → (∀ p ∈ cs, TabB base mg p.1 p.2) → FnOk l.prog w K mg base CX k fa fd [x] sp)
    (hCX : ∀ (H : Hp) (s : Shared) (e : Value) (s' : Shared), CX [] H s (fun _ _ _ => False) e s' → False) :
    PySem.W.WalkO q loose XP YP l.row.toRowW d [] (fun f vs => PySem.call f vs) := by
  refine Att.attach_call hn hdf fun w s₀ s₁ mg mb fa o pm cd doc a vs ns G Y ho hd hcd hmg hobj hints hlen hg => ?_
  obtain ⟨K, fd, sp, cs, KX, hT, nT, C, hb, hsp, hF⟩ := F w mg fa _ Y G.T.g hmg
  exact law_callTs KX G.T.g G.T.b G.T.builtins G.T.nolimit hg hT nT C G.T.bmain hobj hints (Nat.le_trans hlen hn2) hr hF hb (fun H hH hS => hsp H a ns hlen hH hS) fun H e s' => hCX H s₁ e s'
end Fr

set_option maxHeartbeats 2000000
/-! Readings of comprehensions, isinstance. -/
namespace Fr
open PySem PySem.Spec PyProof.Rows L2

theorem take_range_succ {α : Type} (p : Nat → Bool) (i : Nat) : (List.range (i + 1)).filter p = (List.range i).filter p ++ (if p i then [i] else []) := by
  rw [List.range_succ, List.filter_append]
  congr 1
  simp only [List.filter_cons, List.filter_nil]
theorem pd_len {α β : Type} {F : α → β → Prop} : ∀ {l : List α} {m : List β}, Paired F l m → l.length = m.length
  | _, _, .nil => rfl
  | _, _, .cons _ t => congrArg Nat.succ (pd_len t)
theorem pd_snoc {α β : Type} {F : α → β → Prop} {a : α} {b : β} (r : F a b) : ∀ {l : List α} {m : List β}, Paired F l m → Paired F (l ++ [a]) (m ++ [b])
  | _, _, .nil => .cons r .nil
  | _, _, .cons q t => .cons q (pd_snoc r t)
theorem pd_imp {α β : Type} {F G : α → β → Prop} (f : ∀ a b, F a b → G a b) : ∀ {l : List α} {m : List β}, Paired F l m → Paired G l m
  | _, _, .nil => .nil
  | _, _, .cons q t => .cons (f _ _ q) (pd_imp f t)
theorem pd_map {α β : Type} {f : α → β} : ∀ {l : List α} {m : List β}, Paired (fun a b => b = f a) l m → m = l.map f
  | _, _, .nil => rfl
  | _, _, .cons q t => by rw [q, pd_map t]; rfl

theorem pd_get {α β : Type} {F : α → β → Prop} : ∀ {l : List α} {m : List β}, Paired F l m → ∀ (i : Nat) (a : α), l[i]? = some a → ∃ b, m[i]? = some b ∧ F a b
  | _, _, .nil, i, a, h => by simp at h
  | _, _, .cons r t, 0, a, h => by simp at h; subst h; exact ⟨_, rfl, r⟩
  | _, _, .cons r t, i + 1, a, h => by simpa using pd_get t i a (by simpa using h)
theorem pd_of {α β : Type} {F : α → β → Prop} : ∀ {l : List α} {m : List β}, l.length = m.length → (∀ (i : Nat) (a : α) (b : β), l[i]? = some a → m[i]? = some b → F a b) → Paired F l m
  | [], [], _, _ => .nil
  | [], _ :: _, h, _ => by simp at h
  | _ :: _, [], h, _ => by simp at h
  | a :: l, b :: m, h, f => .cons (f 0 a b rfl rfl) (pd_of (by simpa using h) fun i x y hx hy => f (i + 1) x y (by simpa using hx) (by simpa using hy))
theorem pd_append {α β : Type} {F : α → β → Prop} : ∀ {l l' : List α} {m m' : List β}, Paired F l m → Paired F l' m' → Paired F (l ++ l') (m ++ m')
  | _, _, _, _, .nil, s => s
  | _, _, _, _, .cons r t, s => .cons r (pd_append t s)
theorem pd_rev {α β : Type} {F : α → β → Prop} : ∀ {l : List α} {m : List β}, Paired F l m → Paired F l.reverse m.reverse
  | _, _, .nil => .nil
  | _, _, .cons r t => by rw [List.reverse_cons, List.reverse_cons]; exact pd_snoc r (pd_rev t)
theorem pd_range {α β : Type} {F : α → β → Prop} {G : Nat → β → Prop} {l : List α} {m : List β} (h : Paired G (List.range l.length) m) (f : ∀ i a b, l[i]? = some a → G i b → F a b) : Paired F l m := by
  have hl := pd_len h
  rw [List.length_range] at hl
  refine pd_of hl fun i a b ha hb => ?_
  have hi : i < l.length := (List.getElem?_eq_some_iff.mp ha).1
  obtain ⟨b', hb', g⟩ := pd_get h i i (by simp [hi])
  rw [hb] at hb'
  cases hb'
  exact f i a b ha g
theorem pd_mapL {α β γ : Type} {F : γ → β → Prop} {f : α → γ} : ∀ {l : List α} {m : List β}, Paired (fun a b => F (f a) b) l m → Paired F (l.map f) m
  | _, _, .nil => .nil
  | _, _, .cons r t => .cons r (pd_mapL t)
theorem iteY {c A B : Prop} [Decidable c] (hc : c) (h : A) : if decide c = true then A else B := by rw [if_pos (decide_eq_true hc)]; exact h
theorem iteN {c A B : Prop} [Decidable c] (hc : ¬ c) (h : B) : if decide c = true then A else B := by rw [if_neg (by simpa using hc)]; exact h

section
variable {J : It} {n : Nat} {G : Hp → Prop} {Y : Nat → Hp → V → Hp → Prop}
/-- a comprehension whose elements hang on the turn (and stand for ever); p: which are taken -/
theorem lc_rel (w : Walk J n G Y) {g : TG} {tt : TT} {te : TE} {vs : List Nat} {σ : L2.St} {H1 : Hp} {Qd : Addr → Hp → Prop} (ms : List Addr) (p : Nat → Bool) (Rl : Nat → V → Hp → Prop) (hn : n < sizeLine)
    (hst : ∀ ms H H' i y, Mod ms H H' → Rl i y H → Rl i y H') (hG : ∀ H, Mod ms H1 H → G H)
    (hs : ∀ i x H H' (R : V → Hp → Prop) (S : Hp → Prop), i < n → Mod ms H1 H → Y i H x H' → (∀ y H4, Mod ms H H4 → p i = true → Rl i y H4 → R y H4) → (∀ H4, Mod ms H H4 → p i = false → S H4) →
      g x (wipe σ vs) H' fun σ2 H2 => wipe σ2 vs = wipe σ vs ∧ tt σ2 H2 fun b H3 => if b = true then te σ2 H3 R else S H3)
    (hms : ∀ D, H1 D = none → D ∉ ms)
    (hd : ∀ D H' ys, H1 D = none → Mod ms H1 H' → H' D = some (.lst ys) → Paired (fun i y => Rl i y H') ((List.range n).filter p) ys → Qd D H') :
    ∀ D, H1 D = none → ∃ W : Nat → Nat → Hp → Prop, (∃ m, W 0 m (upd H1 D (.lst []))) ∧ ∀ i m H, W i m H →
      (J.stop i H ∧ Qd D H) ∨ (J.go i H ∧ ∃ Nx : Hp → Prop, (∀ H', Nx H' → ∃ m', m' < m ∧ W (i + 1) m' H') ∧ ∀ x H', J.yld i H x H' → g x (wipe σ vs) H' fun σ2 H2 => wipe σ2 vs = wipe σ vs ∧ tt σ2 H2 fun b H3 =>
        if b = true then te σ2 H3 fun y H4 => ∃ acc, H4 D = some (.lst acc) ∧ acc.length < sizeLine ∧ Nx (upd H4 D (.lst (acc ++ [y]))) else Nx H3) := by
  intro D hD
  refine lc_it w (fun i H' => Mod ms H1 H' ∧ ∃ ys, H' D = some (.lst ys) ∧ Paired (fun j y => Rl j y H') ((List.range i).filter p) ys) ⟨Mod.refl.new hD, [], upd_same, .nil⟩ (fun i H' _ h => hG H' h.1) ?_ fun H' ⟨m, ys, e, r⟩ => hd D H' ys hD m e r
  intro i x H H' hi ⟨m, ys, e, r⟩ hy
  refine hs i x H H' _ _ hi m hy (fun y H4 m4 hp hr => ?_) (fun H4 m4 hp => ?_)
  · have e4 : H4 D = some (.lst ys) := m4.keep D _ e (hms D hD)
    refine ⟨ys, e4, ?_, (m.trans m4).putNew e4 hD, ys ++ [y], upd_same, ?_⟩
    · rw [← pd_len r]
      exact Nat.lt_of_le_of_lt (Nat.le_trans (List.length_filter_le _ _) (by rw [List.length_range]; exact Nat.le_of_lt hi)) hn
    · rw [take_range_succ (α := Nat), hp, if_pos rfl]
      have mD : Mod [D] H4 (upd H4 D (.lst (ys ++ [y]))) := Mod.refl.put e4 (fun _ z => nomatch z) (List.mem_singleton.mpr rfl)
      exact pd_snoc (F := fun j y => Rl j y _) (hst _ _ _ _ _ mD hr) (pd_imp (fun j z h => hst _ _ _ _ _ mD (hst _ _ _ _ _ m4 h)) r)
  · refine ⟨m.trans m4, ys, m4.keep D _ e (hms D hD), ?_⟩
    rw [take_range_succ (α := Nat), hp, if_neg Bool.false_ne_true, List.append_nil]
    exact pd_imp (fun j z h => hst _ _ _ _ _ m4 h) r
/-- .. all are taken -/
theorem lc_all (w : Walk J n G Y) {g : TG} {te : TE} {vs : List Nat} {σ : L2.St} {H1 : Hp} {Qd : Addr → Hp → Prop} (ms : List Addr) (Rl : Nat → V → Hp → Prop) (hn : n < sizeLine)
    (hst : ∀ ms H H' i y, Mod ms H H' → Rl i y H → Rl i y H') (hG : ∀ H, Mod ms H1 H → G H)
    (hs : ∀ i x H H' (R : V → Hp → Prop), i < n → Mod ms H1 H → Y i H x H' → (∀ y H4, Mod ms H H4 → Rl i y H4 → R y H4) → g x (wipe σ vs) H' fun σ2 H2 => wipe σ2 vs = wipe σ vs ∧ te σ2 H2 R)
    (hms : ∀ D, H1 D = none → D ∉ ms)
    (hd : ∀ D H' ys, H1 D = none → Mod ms H1 H' → H' D = some (.lst ys) → Paired (fun i y => Rl i y H') (List.range n) ys → Qd D H') :
    ∀ D, H1 D = none → ∃ W : Nat → Nat → Hp → Prop, (∃ m, W 0 m (upd H1 D (.lst []))) ∧ ∀ i m H, W i m H →
      (J.stop i H ∧ Qd D H) ∨ (J.go i H ∧ ∃ Nx : Hp → Prop, (∀ H', Nx H' → ∃ m', m' < m ∧ W (i + 1) m' H') ∧ ∀ x H', J.yld i H x H' → g x (wipe σ vs) H' fun σ2 H2 => wipe σ2 vs = wipe σ vs ∧ tYes σ2 H2 fun b H3 =>
        if b = true then te σ2 H3 fun y H4 => ∃ acc, H4 D = some (.lst acc) ∧ acc.length < sizeLine ∧ Nx (upd H4 D (.lst (acc ++ [y]))) else Nx H3) := by
  have mono : ∀ i x H H' (R : V → Hp → Prop) (S : Hp → Prop), i < n → Mod ms H1 H → Y i H x H' → (∀ y H4, Mod ms H H4 → (fun _ => true) i = true → Rl i y H4 → R y H4) → (∀ H4, Mod ms H H4 → (fun _ => true) i = false → S H4) →
      g x (wipe σ vs) H' fun σ2 H2 => wipe σ2 vs = wipe σ vs ∧ tYes σ2 H2 fun b H3 => if b = true then te σ2 H3 R else S H3 := fun i x H H' R S hi m hy h1 _ => by
    have q := hs i x H H' R hi m hy fun y H4 m4 => h1 y H4 m4 rfl
    have e : (fun σ2 H2 => wipe σ2 vs = wipe σ vs ∧ tYes σ2 H2 fun b H3 => if b = true then te σ2 H3 R else S H3) = (fun σ2 H2 => wipe σ2 vs = wipe σ vs ∧ te σ2 H2 R) := by
      funext σ2 H2
      show (wipe σ2 vs = wipe σ vs ∧ if true = true then te σ2 H2 R else S H2) = _
      rw [if_pos rfl]
    rw [e]
    exact q
  refine lc_rel w ms (fun _ => true) Rl hn hst hG mono hms fun D H' ys hD m e r => hd D H' ys hD m e ?_
  rw [List.filter_eq_self.mpr (fun _ _ => rfl)] at r
  exact r
/-- .. whose elements are told by the turn alone; all are taken -/
theorem lc_map (w : Walk J n G Y) {g : TG} {te : TE} {vs : List Nat} {σ : L2.St} {H1 : Hp} {Qd : Addr → Hp → Prop} (ms : List Addr) (f : Nat → V) (hn : n < sizeLine) (hG : ∀ H, Mod ms H1 H → G H)
    (hs : ∀ i x H H' (R : V → Hp → Prop), i < n → Mod ms H1 H → Y i H x H' → (∀ H4, Mod ms H H4 → R (f i) H4) → g x (wipe σ vs) H' fun σ2 H2 => wipe σ2 vs = wipe σ vs ∧ te σ2 H2 R)
    (hms : ∀ D, H1 D = none → D ∉ ms) (hd : ∀ D H', H1 D = none → Mod ms H1 H' → H' D = some (.lst ((List.range n).map f)) → Qd D H') :
    ∀ D, H1 D = none → ∃ W : Nat → Nat → Hp → Prop, (∃ m, W 0 m (upd H1 D (.lst []))) ∧ ∀ i m H, W i m H →
      (J.stop i H ∧ Qd D H) ∨ (J.go i H ∧ ∃ Nx : Hp → Prop, (∀ H', Nx H' → ∃ m', m' < m ∧ W (i + 1) m' H') ∧ ∀ x H', J.yld i H x H' → g x (wipe σ vs) H' fun σ2 H2 => wipe σ2 vs = wipe σ vs ∧ tYes σ2 H2 fun b H3 =>
        if b = true then te σ2 H3 fun y H4 => ∃ acc, H4 D = some (.lst acc) ∧ acc.length < sizeLine ∧ Nx (upd H4 D (.lst (acc ++ [y]))) else Nx H3) := by
  have mono : ∀ i x H H' (R : V → Hp → Prop) (S : Hp → Prop), i < n → Mod ms H1 H → Y i H x H' → (∀ y H4, Mod ms H H4 → (fun _ => true) i = true → y = f i → R y H4) → (∀ H4, Mod ms H H4 → (fun _ => true) i = false → S H4) →
      g x (wipe σ vs) H' fun σ2 H2 => wipe σ2 vs = wipe σ vs ∧ tYes σ2 H2 fun b H3 => if b = true then te σ2 H3 R else S H3 := fun i x H H' R S hi m hy h1 _ => by
    have q := hs i x H H' R hi m hy fun H4 m4 => h1 (f i) H4 m4 rfl rfl
    have e : (fun σ2 H2 => wipe σ2 vs = wipe σ vs ∧ tYes σ2 H2 fun b H3 => if b = true then te σ2 H3 R else S H3) = (fun σ2 H2 => wipe σ2 vs = wipe σ vs ∧ te σ2 H2 R) := by
      funext σ2 H2
      show (wipe σ2 vs = wipe σ vs ∧ if true = true then te σ2 H2 R else S H2) = _
      rw [if_pos rfl]
    rw [e]
    exact q
  refine lc_rel w ms (fun _ => true) (fun i y _ => y = f i) hn (fun _ _ _ _ _ _ h => h) hG mono hms fun D H' ys hD m e r => hd D H' hD m ?_
  have ey := pd_map r
  rw [List.filter_eq_self.mpr (fun _ _ => rfl)] at ey
  rw [e, ey]
end

/-! ### isinstance -/
section
variable {K : PySem.W.Frag} {H : Hp} {Q : VK}
/-- x's built-in class is T, or is not -/
def IsB (K : PySem.W.Frag) (H : Hp) (x : V) (T : String) (b : Bool) : Prop := ∃ t : String, TyX K H x (.type t) ∧ kitB t T = some b
def rIsiB (K : PySem.W.Frag) : List V → Hp → VK → Prop := fun vs H Q => ∃ (x : V) (T : String) (b : Bool), vs = [x, .ty T] ∧ IsB K H x T b ∧ Q (.bl b) H
theorem call_isiB {X : Cx} : CallR X (.builtin "isinstance") (rIsiB X.K) := by
  intro pins s σ H xs us Q I r h
  obtain ⟨x, T, b, rfl, ⟨t, h1, h2⟩, q⟩ := h
  exact call_isi pins s σ H [x, .ty T] us Q I r ⟨x, .ty T, .type t, .type T, b, rfl, .ty T, h1, kit_ty h2, q⟩
theorem isb_str {z : Str} : IsB K H (.str z) "str" true := ⟨"str", .base (.str z), by decide +kernel⟩
theorem isb_tup {a : Addr} {xs : List V} (h : H a = some (.tup xs)) : IsB K H (.ref a) "tuple" true := ⟨"tuple", .base (.tup h), by decide +kernel⟩
end
theorem atx {α : Type} {xs : List α} {z : Int} {j : Nat} {v : α} (e : z = (j : Int)) (h : xs[j]? = some v) : atI xs z = some v := by
  rw [e]
  exact atI_nat h
theorem six1 (n d : Nat) : HT.sIx n d (some 1) = min 1 n := HT.sIx_nat n d 1
/-! ### rules within a comprehension: the written part named -/
section
variable {X : Cx}
theorem ix_listK (K : PySem.W.Frag) (h : X.K = K := by rfl) : IxR X (rIxL K) := by subst h; exact ix_list
theorem ix_tupK (K : PySem.W.Frag) (h : X.K = K := by rfl) : IxR X (rIxT K) := by subst h; exact ix_tup
theorem ix_seqK (K : PySem.W.Frag) (h : X.K = K := by rfl) : IxR X (rIx K) := by subst h; exact ix_seq
theorem sl_listK (K : PySem.W.Frag) (h : X.K = K := by rfl) : SlR X (rSlL K) := by subst h; exact sl_list
theorem sl_tupK (K : PySem.W.Frag) (h : X.K = K := by rfl) : SlR X (rSlT K) := by subst h; exact sl_tup
theorem op_in_seqK (K : PySem.W.Frag) (h : X.K = K := by rfl) : OpR X (compareOp .In) (rIn K false) := by subst h; exact op_in_seq
theorem op_notIn_seqK (K : PySem.W.Frag) (h : X.K = K := by rfl) : OpR X (compareOp .NotIn) (rIn K true) := by subst h; exact op_notIn_seq
theorem call_len_seqK (K : PySem.W.Frag) (h : X.K = K := by rfl) : CallR X (.builtin "len") (fun xs H Q => ∃ p ys, xs = [.ref p] ∧ (SqL K H p ys ∨ SqT K H p ys) ∧ Q (.int ys.length) H) := by subst h; exact call_len_seq
theorem call_isiBK (K : PySem.W.Frag) (h : X.K = K := by rfl) : CallR X (.builtin "isinstance") (rIsiB K) := by subst h; exact call_isiB
end
theorem line63k : (100000 : Nat) < sizeLine := by rw [sizeLine_eq]; decide
theorem lt_line {n : Nat} (h : n ≤ 100000) : n < sizeLine := Nat.lt_of_le_of_lt h line63k
theorem le_line {n : Nat} (h : n ≤ 100000) : n ≤ sizeLine := Nat.le_of_lt (lt_line h)

theorem ln1 {x : V} : [x].length ≤ sizeLine := le_line (by simp)
theorem ln2 {x y : V} : [x, y].length ≤ sizeLine := le_line (by simp)
theorem ln3 {x y z : V} : [x, y, z].length ≤ sizeLine := le_line (by simp)
theorem ln4 {x y z t : V} : [x, y, z, t].length ≤ sizeLine := le_line (by simp)
theorem ln5 {x y z t u : V} : [x, y, z, t, u].length ≤ sizeLine := le_line (by simp)
/-- the signs of a text, by places -/
theorem range_map_get {α β : Type} [Inhabited α] (l : List α) (f : α → β) : (List.range l.length).map (fun i => f (l.getD i default)) = l.map f := by
  apply List.ext_getElem
  · simp
  · intro i h1 h2
    simp at h1
    simp [h1]

end Fr

set_option maxHeartbeats 2000000
/-! Patterns as plain data, how a heap bears them, the walk over their nodes. -/
namespace Fr
open PySem PySem.Spec PyProof.Rows L2

inductive Pat where
  | non | emp | sign (l : List Nat) | thn (p q : Pat) | orr (p q : Pat) | many (p : Pat) | few (p : Pat) | mark (m : List Nat) (p : Pat)
  deriving DecidableEq
namespace Pat
def word : Pat → Str
  | non => "none" | emp => "empty" | sign _ => "sign" | thn _ _ => "then" | orr _ _ => "or" | many _ => "many" | few _ => "few" | mark _ _ => "mark"
def form : Pat → Str
  | non => "" | emp => "" | sign _ => "l" | thn _ _ => "pp" | orr _ _ => "pp" | many _ => "p" | few _ => "p" | mark _ _ => "mp"
def kids : Pat → List Pat
  | thn p q => [p, q] | orr p q => [p, q] | many p => [p] | few p => [p] | mark _ p => [p] | _ => []
def size : Pat → Nat
  | thn p q => 1 + p.size + q.size | orr p q => 1 + p.size + q.size | many p => 1 + p.size | few p => 1 + p.size | mark _ p => 1 + p.size | _ => 1
def deep : Pat → Nat
  | thn p q => 1 + max p.deep q.deep | orr p q => 1 + max p.deep q.deep | many p => 1 + p.deep | few p => 1 + p.deep | mark _ p => 1 + p.deep | _ => 1
theorem size_pos : ∀ p : Pat, 0 < p.size
  | non => by decide
  | emp => by decide
  | sign _ => Nat.one_pos
  | thn _ _ => by unfold size; omega
  | orr _ _ => by unfold size; omega
  | many _ => by unfold size; omega
  | few _ => by unfold size; omega
  | mark _ _ => by unfold size; omega
theorem deep_pos : ∀ p : Pat, 0 < p.deep
  | non => by decide
  | emp => by decide
  | sign _ => Nat.one_pos
  | thn _ _ => by unfold deep; omega
  | orr _ _ => by unfold deep; omega
  | many _ => by unfold deep; omega
  | few _ => by unfold deep; omega
  | mark _ _ => by unfold deep; omega
end Pat
def okSign (c : Nat) : Bool := decide (c ∈ ("abcd" : Str).cps.toList)
def okLetter (c : Nat) : Bool := decide (c ∈ ("abcdefghijklmnopqrstuvwxyz" : Str).cps.toList)
/-- a lot, a mark -/
structure LotOk (l : List Nat) : Prop where
  ne : l ≠ []
  le : l.length ≤ 4
  ok : ∀ c ∈ l, okSign c = true
  up : ∀ i a b, l[i]? = some a → l[i + 1]? = some b → a < b
structure MarkOk (m : List Nat) : Prop where
  ne : m ≠ []
  le : m.length ≤ 6
  ok : ∀ c ∈ m, okLetter c = true
def Pat.Ok : Pat → Prop
  | .sign l => LotOk l
  | .thn p q => p.Ok ∧ q.Ok
  | .orr p q => p.Ok ∧ q.Ok
  | .many p => p.Ok
  | .few p => p.Ok
  | .mark m p => MarkOk m ∧ p.Ok
  | _ => True
theorem Pat.Ok.kids {p : Pat} (h : p.Ok) : ∀ q ∈ p.kids, q.Ok := by
  cases p with
  | thn p q => intro r hr; simp [Pat.kids] at hr; rcases hr with rfl | rfl; exact h.1; exact h.2
  | orr p q => intro r hr; simp [Pat.kids] at hr; rcases hr with rfl | rfl; exact h.1; exact h.2
  | many p => intro r hr; simp [Pat.kids] at hr; subst hr; exact h
  | few p => intro r hr; simp [Pat.kids] at hr; subst hr; exact h
  | mark m p => intro r hr; simp [Pat.kids] at hr; subst hr; exact h.2
  | _ => intro r hr; simp [Pat.kids] at hr
theorem Pat.deep_kid {p q : Pat} (h : q ∈ p.kids) : q.deep + 1 ≤ p.deep := by
  cases p with
  | thn a b => simp [Pat.kids] at h; rcases h with rfl | rfl <;> (show _ + 1 ≤ 1 + max _ _; omega)
  | orr a b => simp [Pat.kids] at h; rcases h with rfl | rfl <;> (show _ + 1 ≤ 1 + max _ _; omega)
  | many a => simp [Pat.kids] at h; subst h; simp [Pat.deep]; omega
  | few a => simp [Pat.kids] at h; subst h; simp [Pat.deep]; omega
  | mark m a => simp [Pat.kids] at h; subst h; simp [Pat.deep]; omega
  | _ => simp [Pat.kids] at h
theorem Pat.size_kids (p : Pat) : (p.kids.map Pat.size).sum + 1 = p.size := by
  cases p <;> simp [Pat.kids, Pat.size] <;> omega

/-! ### how a heap bears a pattern -/
/-- what stands in a pattern's tuple behind the word -/
def Pat.Tail (H : Hp) (R : V → Pat → Prop) (xs : List V) : Pat → Prop
  | .sign l => xs = [.str ⟨l.toArray⟩]
  | .thn p q => ∃ x y, xs = [x, y] ∧ R x p ∧ R y q
  | .orr p q => ∃ x y, xs = [x, y] ∧ R x p ∧ R y q
  | .many p => ∃ x, xs = [x] ∧ R x p
  | .few p => ∃ x, xs = [x] ∧ R x p
  | .mark m p => ∃ x, xs = [.str ⟨m.toArray⟩, x] ∧ R x p
  | _ => xs = []
def IsP (H : Hp) : V → Pat → Prop
  | v, .non => ∃ a, v = .ref a ∧ H a = some (.tup [.str "none"])
  | v, .emp => ∃ a, v = .ref a ∧ H a = some (.tup [.str "empty"])
  | v, .sign l => ∃ a, v = .ref a ∧ H a = some (.tup [.str "sign", .str ⟨l.toArray⟩])
  | v, .thn p q => ∃ a x y, v = .ref a ∧ H a = some (.tup [.str "then", x, y]) ∧ IsP H x p ∧ IsP H y q
  | v, .orr p q => ∃ a x y, v = .ref a ∧ H a = some (.tup [.str "or", x, y]) ∧ IsP H x p ∧ IsP H y q
  | v, .many p => ∃ a x, v = .ref a ∧ H a = some (.tup [.str "many", x]) ∧ IsP H x p
  | v, .few p => ∃ a x, v = .ref a ∧ H a = some (.tup [.str "few", x]) ∧ IsP H x p
  | v, .mark m p => ∃ a x, v = .ref a ∧ H a = some (.tup [.str "mark", .str ⟨m.toArray⟩, x]) ∧ IsP H x p
theorem IsP.mod {ms : List Addr} {H H' : Hp} (m : Mod ms H H') : ∀ {p : Pat} {v : V}, IsP H v p → IsP H' v p
  | .non, _, ⟨a, e, h⟩ => ⟨a, e, m.tup _ _ h⟩
  | .emp, _, ⟨a, e, h⟩ => ⟨a, e, m.tup _ _ h⟩
  | .sign _, _, ⟨a, e, h⟩ => ⟨a, e, m.tup _ _ h⟩
  | .thn _ _, _, ⟨a, x, y, e, h, h1, h2⟩ => ⟨a, x, y, e, m.tup _ _ h, IsP.mod m h1, IsP.mod m h2⟩
  | .orr _ _, _, ⟨a, x, y, e, h, h1, h2⟩ => ⟨a, x, y, e, m.tup _ _ h, IsP.mod m h1, IsP.mod m h2⟩
  | .many _, _, ⟨a, x, e, h, h1⟩ => ⟨a, x, e, m.tup _ _ h, IsP.mod m h1⟩
  | .few _, _, ⟨a, x, e, h, h1⟩ => ⟨a, x, e, m.tup _ _ h, IsP.mod m h1⟩
  | .mark _ _, _, ⟨a, x, e, h, h1⟩ => ⟨a, x, e, m.tup _ _ h, IsP.mod m h1⟩
/-- the tuple, whatever the pattern -/
theorem IsP.tup {H : Hp} : ∀ {p : Pat} {v : V}, IsP H v p → ∃ a xs, v = .ref a ∧ H a = some (.tup (.str p.word :: xs)) ∧ xs.length = p.form.length ∧ Pat.Tail H (IsP H) xs p
  | .non, _, ⟨a, e, h⟩ => ⟨a, [], e, h, rfl, rfl⟩
  | .emp, _, ⟨a, e, h⟩ => ⟨a, [], e, h, rfl, rfl⟩
  | .sign _, _, ⟨a, e, h⟩ => ⟨a, _, e, h, rfl, rfl⟩
  | .thn _ _, _, ⟨a, x, y, e, h, h1, h2⟩ => ⟨a, _, e, h, rfl, x, y, rfl, h1, h2⟩
  | .orr _ _, _, ⟨a, x, y, e, h, h1, h2⟩ => ⟨a, _, e, h, rfl, x, y, rfl, h1, h2⟩
  | .many _, _, ⟨a, x, e, h, h1⟩ => ⟨a, _, e, h, rfl, x, rfl, h1⟩
  | .few _, _, ⟨a, x, e, h, h1⟩ => ⟨a, _, e, h, rfl, x, rfl, h1⟩
  | .mark _ _, _, ⟨a, x, e, h, h1⟩ => ⟨a, _, e, h, rfl, x, rfl, h1⟩
theorem word_is (p : Pat) : decide (V.str p.word = V.str "sign") = (match p with | .sign _ => true | _ => false) := by
  cases p <;> rfl
theorem word_mark (p : Pat) : decide (V.str p.word = V.str "mark") = (match p with | .mark _ _ => true | _ => false) := by
  cases p <;> rfl

/-! ### the rows of nodes -/
/-- the rows of a pattern whose node stands at n: each node with the numbers of its parts -/
def rowsFrom : Pat → Nat → List (Pat × List Nat)
  | .thn p q, n => (.thn p q, [n + 1, n + 1 + p.size]) :: (rowsFrom p (n + 1) ++ rowsFrom q (n + 1 + p.size))
  | .orr p q, n => (.orr p q, [n + 1, n + 1 + p.size]) :: (rowsFrom p (n + 1) ++ rowsFrom q (n + 1 + p.size))
  | .many p, n => (.many p, [n + 1]) :: rowsFrom p (n + 1)
  | .few p, n => (.few p, [n + 1]) :: rowsFrom p (n + 1)
  | .mark m p, n => (.mark m p, [n + 1]) :: rowsFrom p (n + 1)
  | p, _ => [(p, [])]
theorem rowsFrom_len : ∀ (p : Pat) (n : Nat), (rowsFrom p n).length = p.size
  | .non, _ => rfl
  | .emp, _ => rfl
  | .sign _, _ => rfl
  | .thn p q, n => by simp [rowsFrom, Pat.size, rowsFrom_len]; omega
  | .orr p q, n => by simp [rowsFrom, Pat.size, rowsFrom_len]; omega
  | .many p, n => by simp [rowsFrom, Pat.size, rowsFrom_len]; omega
  | .few p, n => by simp [rowsFrom, Pat.size, rowsFrom_len]; omega
  | .mark _ p, n => by simp [rowsFrom, Pat.size, rowsFrom_len]; omega
abbrev Rows := List (Pat × List Nat)
/-- the node at a has one part more, number n -/
def addKid (a : Int) (n : Nat) (fs : Rows) : Rows := if 0 ≤ a then fs.modify a.toNat fun r => (r.1, r.2 ++ [n]) else fs
/-- what becomes of the rows when a pattern under node a is gone through -/
def emit : Pat → Int → Rows → Rows
  | .thn p q, a, fs => emit q (fs.length : Nat) (emit p (fs.length : Nat) (addKid a fs.length fs ++ [(.thn p q, [])]))
  | .orr p q, a, fs => emit q (fs.length : Nat) (emit p (fs.length : Nat) (addKid a fs.length fs ++ [(.orr p q, [])]))
  | .many p, a, fs => emit p (fs.length : Nat) (addKid a fs.length fs ++ [(.many p, [])])
  | .few p, a, fs => emit p (fs.length : Nat) (addKid a fs.length fs ++ [(.few p, [])])
  | .mark m p, a, fs => emit p (fs.length : Nat) (addKid a fs.length fs ++ [(.mark m p, [])])
  | p, a, fs => addKid a fs.length fs ++ [(p, [])]
theorem emit_kids (p : Pat) (a : Int) (fs : Rows) : emit p a fs = p.kids.foldl (fun f q => emit q (fs.length : Nat) f) (addKid a fs.length fs ++ [(p, [])]) := by
  cases p <;> rfl
theorem addKid_len (a : Int) (n : Nat) (fs : Rows) : (addKid a n fs).length = fs.length := by
  unfold addKid; split <;> simp
theorem addKid_at (n k : Nat) (fs gs : Rows) (r : Pat × List Nat) (h : fs.length = k) : addKid (k : Nat) n (fs ++ r :: gs) = fs ++ (r.1, r.2 ++ [n]) :: gs := by
  unfold addKid
  rw [if_pos (by omega)]
  subst h
  rw [show ((fs.length : Nat) : Int).toNat = fs.length by omega]
  induction fs with
  | nil => rfl
  | cons x r ih => simp [ih]
theorem emit_eq : ∀ (p : Pat) (a : Int) (fs : Rows), emit p a fs = addKid a fs.length fs ++ rowsFrom p fs.length
  | .non, a, fs => rfl
  | .emp, a, fs => rfl
  | .sign _, a, fs => rfl
  | .many p, a, fs => by
    show emit p (fs.length : Nat) (addKid a fs.length fs ++ [(.many p, [])]) = _
    rw [emit_eq p]
    have e : (addKid a fs.length fs ++ [(Pat.many p, ([] : List Nat))]).length = fs.length + 1 := by rw [List.length_append, addKid_len]; rfl
    rw [e, addKid_at (fs.length + 1) fs.length _ [] (.many p, []) (addKid_len _ _ _)]
    simp [rowsFrom]
  | .few p, a, fs => by
    show emit p (fs.length : Nat) (addKid a fs.length fs ++ [(.few p, [])]) = _
    rw [emit_eq p]
    have e : (addKid a fs.length fs ++ [(Pat.few p, ([] : List Nat))]).length = fs.length + 1 := by rw [List.length_append, addKid_len]; rfl
    rw [e, addKid_at (fs.length + 1) fs.length _ [] (.few p, []) (addKid_len _ _ _)]
    simp [rowsFrom]
  | .mark m p, a, fs => by
    show emit p (fs.length : Nat) (addKid a fs.length fs ++ [(.mark m p, [])]) = _
    rw [emit_eq p]
    have e : (addKid a fs.length fs ++ [(Pat.mark m p, ([] : List Nat))]).length = fs.length + 1 := by rw [List.length_append, addKid_len]; rfl
    rw [e, addKid_at (fs.length + 1) fs.length _ [] (.mark m p, []) (addKid_len _ _ _)]
    simp [rowsFrom]
  | .thn p q, a, fs => by
    show emit q (fs.length : Nat) (emit p (fs.length : Nat) (addKid a fs.length fs ++ [(.thn p q, [])])) = _
    rw [emit_eq p]
    have e : (addKid a fs.length fs ++ [(Pat.thn p q, ([] : List Nat))]).length = fs.length + 1 := by rw [List.length_append, addKid_len]; rfl
    rw [e, addKid_at (fs.length + 1) fs.length _ [] (.thn p q, []) (addKid_len _ _ _), emit_eq q]
    have e2 : (addKid a fs.length fs ++ [(Pat.thn p q, ([] : List Nat) ++ [fs.length + 1])] ++ rowsFrom p (fs.length + 1)).length = fs.length + 1 + p.size := by
      rw [List.length_append, List.length_append, addKid_len, rowsFrom_len]; rfl
    rw [e2, List.append_assoc, List.singleton_append, addKid_at (fs.length + 1 + p.size) fs.length _ _ _ (addKid_len _ _ _)]
    simp [rowsFrom]
  | .orr p q, a, fs => by
    show emit q (fs.length : Nat) (emit p (fs.length : Nat) (addKid a fs.length fs ++ [(.orr p q, [])])) = _
    rw [emit_eq p]
    have e : (addKid a fs.length fs ++ [(Pat.orr p q, ([] : List Nat))]).length = fs.length + 1 := by rw [List.length_append, addKid_len]; rfl
    rw [e, addKid_at (fs.length + 1) fs.length _ [] (.orr p q, []) (addKid_len _ _ _), emit_eq q]
    have e2 : (addKid a fs.length fs ++ [(Pat.orr p q, ([] : List Nat) ++ [fs.length + 1])] ++ rowsFrom p (fs.length + 1)).length = fs.length + 1 + p.size := by
      rw [List.length_append, List.length_append, addKid_len, rowsFrom_len]; rfl
    rw [e2, List.append_assoc, List.singleton_append, addKid_at (fs.length + 1 + p.size) fs.length _ _ _ (addKid_len _ _ _)]
    simp [rowsFrom]
/-- the whole: the rows of a pattern -/
theorem emit_top (p : Pat) : emit p (-1) [] = rowsFrom p 0 := by
  rw [emit_eq]; rfl
/-- one step of the stack -/
theorem emit_step (p : Pat) (a : Int) (fs : Rows) (rest : List (Pat × Int)) :
    ((p, a) :: rest).foldl (fun f q => emit q.1 q.2 f) fs = (p.kids.map (fun q => (q, (fs.length : Int))) ++ rest).foldl (fun f q => emit q.1 q.2 f) (addKid a fs.length fs ++ [(p, [])]) := by
  rw [List.foldl_cons, List.foldl_append, List.foldl_map, emit_kids]
end Fr

set_option maxHeartbeats 0
namespace Fr
open PySem PySem.Spec PyProof.Rows L2
/-! ### the text by places -/
def topS (i : Nat) : Stmt := PySem.Challenge.pw_firstreads_k80_whole_rows_of_edits_that.main.body.getD i (.Pass ⟨0, 0, 0, 0⟩)
abbrev s_are_signs : Stmt := topS 14
abbrev s_is_text : Stmt := topS 15
abbrev s_check_text : Stmt := topS 16
abbrev s_is_lot : Stmt := topS 17
abbrev s_is_mark : Stmt := topS 18
abbrev s_has_form : Stmt := topS 19
abbrev s_parts_of : Stmt := topS 20
abbrev s_is_pattern : Stmt := topS 21
abbrev s_check_pattern : Stmt := topS 22
abbrev s_node_rows : Stmt := topS 23
abbrev s_Sets_init : Stmt := inClass (topS 25) 0
abbrev s_Sets_join : Stmt := inClass (topS 25) 1
abbrev s_Sets_told_of : Stmt := inClass (topS 25) 2
abbrev s_Mender_init : Stmt := inClass (topS 31) 0
abbrev s_Mender_fill_last : Stmt := inClass (topS 31) 1
abbrev s_Mender_spread : Stmt := inClass (topS 31) 2
abbrev s_Mender_lessened : Stmt := inClass (topS 31) 3
abbrev s_Mender_fill : Stmt := inClass (topS 31) 4
abbrev s_Mender_least : Stmt := inClass (topS 31) 5
abbrev s_Mender_steps_from : Stmt := inClass (topS 31) 6
abbrev s_Mender_later : Stmt := inClass (topS 31) 7
abbrev s_Mender_closed : Stmt := inClass (topS 31) 8
abbrev s_way_of : Stmt := topS 32
abbrev s_mend_price : Stmt := topS 33
abbrev s_mended : Stmt := topS 34
abbrev s_mend_row : Stmt := topS 35
abbrev s_is_sign : Stmt := topS 36
abbrev s_is_edit : Stmt := topS 37
abbrev s_raw_done : Stmt := topS 38
abbrev s_done_by : Stmt := topS 39
abbrev s_is_mending : Stmt := topS 40
abbrev s_law_hand : Stmt := topS 42
abbrev s_law_draw : Stmt := topS 43
abbrev s_law_any : Stmt := topS 44
abbrev s_law_pattern : Stmt := topS 45
abbrev s_law_text : Stmt := topS 46
abbrev s_law_ends : Stmt := topS 47
abbrev s_law_is_read : Stmt := topS 48
abbrev s_law_texts : Stmt := topS 49
abbrev s_law_price : Stmt := topS 50
abbrev s_law_best : Stmt := topS 51
abbrev s_law_done : Stmt := topS 52
abbrev s_law_word : Stmt := topS 53
abbrev s_law_bent : Stmt := topS 54
abbrev s_law_is_right : Stmt := topS 55
abbrev s_law : Stmt := topS 56
theorem sc_are_signs : FnScope ["thing", "most", "sign"] ["thing", "most"] (defScope s_are_signs) := ⟨rfl, rfl, rfl, by decide +kernel, rfl, by decide +kernel, by decide +kernel⟩
theorem sc_is_text : FnScope ["thing"] ["thing"] (defScope s_is_text) := ⟨rfl, rfl, rfl, by decide +kernel, rfl, by decide +kernel, by decide +kernel⟩
theorem sc_check_text : FnScope ["thing"] ["thing"] (defScope s_check_text) := ⟨rfl, rfl, rfl, by decide +kernel, rfl, by decide +kernel, by decide +kernel⟩
theorem sc_is_lot : FnScope ["thing", "at"] ["thing"] (defScope s_is_lot) := ⟨rfl, rfl, rfl, by decide +kernel, rfl, by decide +kernel, by decide +kernel⟩
theorem sc_is_mark : FnScope ["thing", "sign"] ["thing"] (defScope s_is_mark) := ⟨rfl, rfl, rfl, by decide +kernel, rfl, by decide +kernel, by decide +kernel⟩
theorem sc_has_form : FnScope ["thing"] ["thing"] (defScope s_has_form) := ⟨rfl, rfl, rfl, by decide +kernel, rfl, by decide +kernel, by decide +kernel⟩
theorem sc_parts_of : FnScope ["pattern", "sign", "part"] ["pattern"] (defScope s_parts_of) := ⟨rfl, rfl, rfl, by decide +kernel, rfl, by decide +kernel, by decide +kernel⟩
theorem sc_is_pattern : FnScope ["thing", "many", "waiting", "here", "depth", "part"] ["thing"] (defScope s_is_pattern) := ⟨rfl, rfl, rfl, by decide +kernel, rfl, by decide +kernel, by decide +kernel⟩
theorem sc_check_pattern : FnScope ["thing"] ["thing"] (defScope s_check_pattern) := ⟨rfl, rfl, rfl, by decide +kernel, rfl, by decide +kernel, by decide +kernel⟩
theorem sc_node_rows : FnScope ["pattern", "found", "waiting", "here", "above", "number", "part"] ["pattern"] (defScope s_node_rows) := ⟨rfl, rfl, rfl, by decide +kernel, rfl, by decide +kernel, by decide +kernel⟩
theorem sc_Sets_init : FnScope ["self", "pattern", "number", "told", "is_empty", "firsts", "lasts", "node", "parts"] ["self", "pattern"] (defScope s_Sets_init) := ⟨rfl, rfl, rfl, by decide +kernel, rfl, by decide +kernel, by decide +kernel⟩
theorem sc_Sets_join : FnScope ["self", "lasts", "firsts", "last"] ["self", "lasts", "firsts"] (defScope s_Sets_join) := ⟨rfl, rfl, rfl, by decide +kernel, rfl, by decide +kernel, by decide +kernel⟩
theorem sc_Sets_told_of : FnScope ["self", "row", "told", "node", "parts", "word", "one", "other", "firsts", "lasts"] ["self", "row", "told"] (defScope s_Sets_told_of) := ⟨rfl, rfl, rfl, by decide +kernel, rfl, by decide +kernel, by decide +kernel⟩
theorem sc_Mender_init : FnScope ["self", "pattern", "text", "place"] ["self", "pattern", "text"] (defScope s_Mender_init) := ⟨rfl, rfl, rfl, by decide +kernel, rfl, by decide +kernel, by decide +kernel⟩
theorem sc_Mender_fill_last : FnScope ["self", "end", "state", "waiting"] ["self"] (defScope s_Mender_fill_last) := ⟨rfl, rfl, rfl, by decide +kernel, rfl, by decide +kernel, by decide +kernel⟩
theorem sc_Mender_spread : FnScope ["self", "place", "is_more", "state", "target", "told"] ["self", "place"] (defScope s_Mender_spread) := ⟨rfl, rfl, rfl, by decide +kernel, rfl, by decide +kernel, by decide +kernel⟩
theorem sc_Mender_lessened : FnScope ["self", "place", "state", "told", "there"] ["self", "place", "state", "told"] (defScope s_Mender_lessened) := ⟨rfl, rfl, rfl, by decide +kernel, rfl, by decide +kernel, by decide +kernel⟩
theorem sc_Mender_fill : FnScope ["self", "place", "sign", "state", "told", "target", "price"] ["self", "place"] (defScope s_Mender_fill) := ⟨rfl, rfl, rfl, by decide +kernel, rfl, by decide +kernel, by decide +kernel⟩
theorem sc_Mender_least : FnScope ["self"] ["self"] (defScope s_Mender_least) := ⟨rfl, rfl, rfl, by decide +kernel, rfl, by decide +kernel, by decide +kernel⟩
theorem sc_Mender_steps_from : FnScope ["self", "place", "state", "sign", "found", "target"] ["self", "place", "state", "sign"] (defScope s_Mender_steps_from) := ⟨rfl, rfl, rfl, by decide +kernel, rfl, by decide +kernel, by decide +kernel⟩
theorem sc_Mender_later : FnScope ["self", "here", "sign", "found", "place", "state", "told", "price", "there", "target", "edit", "due"] ["self", "here", "sign"] (defScope s_Mender_later) := ⟨rfl, rfl, rfl, by decide +kernel, rfl, by decide +kernel, by decide +kernel⟩
theorem sc_Mender_closed : FnScope ["self", "here", "found", "waiting", "one", "there", "told"] ["self", "here"] (defScope s_Mender_closed) := ⟨rfl, rfl, rfl, by decide +kernel, rfl, by decide +kernel, by decide +kernel⟩
theorem sc_way_of : FnScope ["mender", "price", "long", "layers", "found", "turn", "sign", "there"] ["mender"] (defScope s_way_of) := ⟨rfl, rfl, rfl, by decide +kernel, rfl, by decide +kernel, by decide +kernel⟩
theorem sc_mend_price : FnScope ["pattern", "text", "told"] ["pattern", "text"] (defScope s_mend_price) := ⟨rfl, rfl, rfl, by decide +kernel, rfl, by decide +kernel, by decide +kernel⟩
theorem sc_mended : FnScope ["pattern", "text", "mender"] ["pattern", "text"] (defScope s_mended) := ⟨rfl, rfl, rfl, by decide +kernel, rfl, by decide +kernel, by decide +kernel⟩
theorem sc_mend_row : FnScope ["pattern", "text", "mender", "layers", "at", "here", "found", "edit", "there", "one"] ["pattern", "text"] (defScope s_mend_row) := ⟨rfl, rfl, rfl, by decide +kernel, rfl, by decide +kernel, by decide +kernel⟩
theorem sc_is_sign : FnScope ["thing"] ["thing"] (defScope s_is_sign) := ⟨rfl, rfl, rfl, by decide +kernel, rfl, by decide +kernel, by decide +kernel⟩
theorem sc_is_edit : FnScope ["thing", "one"] ["thing"] (defScope s_is_edit) := ⟨rfl, rfl, rfl, by decide +kernel, rfl, by decide +kernel, by decide +kernel⟩
theorem sc_raw_done : FnScope ["text", "row", "found", "at", "edit", "one"] ["text", "row"] (defScope s_raw_done) := ⟨rfl, rfl, rfl, by decide +kernel, rfl, by decide +kernel, by decide +kernel⟩
theorem sc_done_by : FnScope ["text", "row", "found"] ["text", "row"] (defScope s_done_by) := ⟨rfl, rfl, rfl, by decide +kernel, rfl, by decide +kernel, by decide +kernel⟩
theorem sc_is_mending : FnScope ["pattern", "text", "thing", "found", "mender", "told", "edit"] ["pattern", "text", "thing"] (defScope s_is_mending) := ⟨rfl, rfl, rfl, by decide +kernel, rfl, by decide +kernel, by decide +kernel⟩
theorem sc_law_hand : FnScope ["script", "cells", "cell"] ["script"] (defScope s_law_hand) := ⟨rfl, rfl, rfl, by decide +kernel, rfl, by decide +kernel, by decide +kernel⟩
theorem sc_law_draw : FnScope ["hand", "many", "cell", "digit", "number"] ["hand", "many"] (defScope s_law_draw) := ⟨rfl, rfl, rfl, by decide +kernel, rfl, by decide +kernel, by decide +kernel⟩
theorem sc_law_any : FnScope ["hand", "some"] ["hand", "some"] (defScope s_law_any) := ⟨rfl, rfl, rfl, by decide +kernel, rfl, by decide +kernel, by decide +kernel⟩
theorem sc_law_pattern : FnScope ["hand", "deep", "kind", "lot"] ["hand", "deep"] (defScope s_law_pattern) := ⟨rfl, rfl, rfl, by decide +kernel, rfl, by decide +kernel, by decide +kernel⟩
theorem sc_law_text : FnScope ["hand", "most", "turn"] ["hand", "most"] (defScope s_law_text) := ⟨rfl, rfl, rfl, by decide +kernel, rfl, by decide +kernel, by decide +kernel⟩
theorem sc_law_ends : FnScope ["pattern", "text", "place", "word", "found", "fresh", "end", "later"] ["pattern", "text", "place"] (defScope s_law_ends) := ⟨rfl, rfl, rfl, by decide +kernel, rfl, by decide +kernel, by decide +kernel⟩
theorem sc_law_is_read : FnScope ["pattern", "text"] ["pattern", "text"] (defScope s_law_is_read) := ⟨rfl, rfl, rfl, by decide +kernel, rfl, by decide +kernel, by decide +kernel⟩
theorem sc_law_texts : FnScope ["long", "found", "last", "turn", "longer", "text", "sign"] ["long"] (defScope s_law_texts) := ⟨rfl, rfl, rfl, by decide +kernel, rfl, by decide +kernel, by decide +kernel⟩
theorem sc_law_price : FnScope ["one", "other", "row", "at", "sign", "later", "place", "its"] ["one", "other"] (defScope s_law_price) := ⟨rfl, rfl, rfl, by decide +kernel, rfl, by decide +kernel, by decide +kernel⟩
theorem sc_law_best : FnScope ["pattern", "text", "some", "one"] ["pattern", "text"] (defScope s_law_best) := ⟨rfl, rfl, rfl, by decide +kernel, rfl, by decide +kernel, by decide +kernel⟩
theorem sc_law_done : FnScope ["text", "row", "found", "place", "price", "edit"] ["text", "row"] (defScope s_law_done) := ⟨rfl, rfl, rfl, by decide +kernel, rfl, by decide +kernel, by decide +kernel⟩
theorem sc_law_word : FnScope ["call", "found", "error", "flags", "is_one"] ["call"] (defScope s_law_word) := ⟨rfl, rfl, rfl, by decide +kernel, rfl, by decide +kernel, by decide +kernel⟩
theorem sc_law_bent : FnScope ["hand", "row", "at", "sign", "some"] ["hand", "row"] (defScope s_law_bent) := ⟨rfl, rfl, rfl, by decide +kernel, rfl, by decide +kernel, by decide +kernel⟩
theorem sc_law_is_right : FnScope ["hand", "pattern", "price", "row", "told", "best", "done", "is_none", "bent", "text"] ["hand"] (defScope s_law_is_right) := ⟨rfl, rfl, rfl, by decide +kernel, rfl, by decide +kernel, by decide +kernel⟩
theorem sc_law : FnScope ["script", "hand", "turn"] ["script"] (defScope s_law) := ⟨rfl, rfl, rfl, by decide +kernel, rfl, by decide +kernel, by decide +kernel⟩
/-! ### what the head tells -/
def d_are_signs : He.DefD := ⟨("are_signs", none), "are_signs", "are_signs", defArgs s_are_signs, defBody s_are_signs, defScope s_are_signs, [], []⟩
def d_is_text : He.DefD := ⟨("is_text", none), "is_text", "is_text", defArgs s_is_text, defBody s_is_text, defScope s_is_text, [], []⟩
def d_check_text : He.DefD := ⟨("check_text", none), "check_text", "check_text", defArgs s_check_text, defBody s_check_text, defScope s_check_text, [], []⟩
def d_is_lot : He.DefD := ⟨("is_lot", none), "is_lot", "is_lot", defArgs s_is_lot, defBody s_is_lot, defScope s_is_lot, [], []⟩
def d_is_mark : He.DefD := ⟨("is_mark", none), "is_mark", "is_mark", defArgs s_is_mark, defBody s_is_mark, defScope s_is_mark, [], []⟩
def d_has_form : He.DefD := ⟨("has_form", none), "has_form", "has_form", defArgs s_has_form, defBody s_has_form, defScope s_has_form, [], []⟩
def d_parts_of : He.DefD := ⟨("parts_of", none), "parts_of", "parts_of", defArgs s_parts_of, defBody s_parts_of, defScope s_parts_of, [], []⟩
def d_is_pattern : He.DefD := ⟨("is_pattern", none), "is_pattern", "is_pattern", defArgs s_is_pattern, defBody s_is_pattern, defScope s_is_pattern, [], []⟩
def d_check_pattern : He.DefD := ⟨("check_pattern", none), "check_pattern", "check_pattern", defArgs s_check_pattern, defBody s_check_pattern, defScope s_check_pattern, [], []⟩
def d_node_rows : He.DefD := ⟨("node_rows", none), "node_rows", "node_rows", defArgs s_node_rows, defBody s_node_rows, defScope s_node_rows, [], []⟩
def d_Sets_init : He.DefD := ⟨("Sets", some "__init__"), "__init__", "Sets.__init__", defArgs s_Sets_init, defBody s_Sets_init, defScope s_Sets_init, [], []⟩
def d_Sets_join : He.DefD := ⟨("Sets", some "join"), "join", "Sets.join", defArgs s_Sets_join, defBody s_Sets_join, defScope s_Sets_join, [], []⟩
def d_Sets_told_of : He.DefD := ⟨("Sets", some "told_of"), "told_of", "Sets.told_of", defArgs s_Sets_told_of, defBody s_Sets_told_of, defScope s_Sets_told_of, [], []⟩
def d_Mender_init : He.DefD := ⟨("Mender", some "__init__"), "__init__", "Mender.__init__", defArgs s_Mender_init, defBody s_Mender_init, defScope s_Mender_init, [], []⟩
def d_Mender_fill_last : He.DefD := ⟨("Mender", some "fill_last"), "fill_last", "Mender.fill_last", defArgs s_Mender_fill_last, defBody s_Mender_fill_last, defScope s_Mender_fill_last, [], []⟩
def d_Mender_spread : He.DefD := ⟨("Mender", some "spread"), "spread", "Mender.spread", defArgs s_Mender_spread, defBody s_Mender_spread, defScope s_Mender_spread, [], []⟩
def d_Mender_lessened : He.DefD := ⟨("Mender", some "lessened"), "lessened", "Mender.lessened", defArgs s_Mender_lessened, defBody s_Mender_lessened, defScope s_Mender_lessened, [], []⟩
def d_Mender_fill : He.DefD := ⟨("Mender", some "fill"), "fill", "Mender.fill", defArgs s_Mender_fill, defBody s_Mender_fill, defScope s_Mender_fill, [], []⟩
def d_Mender_least : He.DefD := ⟨("Mender", some "least"), "least", "Mender.least", defArgs s_Mender_least, defBody s_Mender_least, defScope s_Mender_least, [], []⟩
def d_Mender_steps_from : He.DefD := ⟨("Mender", some "steps_from"), "steps_from", "Mender.steps_from", defArgs s_Mender_steps_from, defBody s_Mender_steps_from, defScope s_Mender_steps_from, [], []⟩
def d_Mender_later : He.DefD := ⟨("Mender", some "later"), "later", "Mender.later", defArgs s_Mender_later, defBody s_Mender_later, defScope s_Mender_later, [], []⟩
def d_Mender_closed : He.DefD := ⟨("Mender", some "closed"), "closed", "Mender.closed", defArgs s_Mender_closed, defBody s_Mender_closed, defScope s_Mender_closed, [], []⟩
def d_way_of : He.DefD := ⟨("way_of", none), "way_of", "way_of", defArgs s_way_of, defBody s_way_of, defScope s_way_of, [], []⟩
def d_mend_price : He.DefD := ⟨("mend_price", none), "mend_price", "mend_price", defArgs s_mend_price, defBody s_mend_price, defScope s_mend_price, [], []⟩
def d_mended : He.DefD := ⟨("mended", none), "mended", "mended", defArgs s_mended, defBody s_mended, defScope s_mended, [], []⟩
def d_mend_row : He.DefD := ⟨("mend_row", none), "mend_row", "mend_row", defArgs s_mend_row, defBody s_mend_row, defScope s_mend_row, [], []⟩
def d_is_sign : He.DefD := ⟨("is_sign", none), "is_sign", "is_sign", defArgs s_is_sign, defBody s_is_sign, defScope s_is_sign, [], []⟩
def d_is_edit : He.DefD := ⟨("is_edit", none), "is_edit", "is_edit", defArgs s_is_edit, defBody s_is_edit, defScope s_is_edit, [], []⟩
def d_raw_done : He.DefD := ⟨("raw_done", none), "raw_done", "raw_done", defArgs s_raw_done, defBody s_raw_done, defScope s_raw_done, [], []⟩
def d_done_by : He.DefD := ⟨("done_by", none), "done_by", "done_by", defArgs s_done_by, defBody s_done_by, defScope s_done_by, [], []⟩
def d_is_mending : He.DefD := ⟨("is_mending", none), "is_mending", "is_mending", defArgs s_is_mending, defBody s_is_mending, defScope s_is_mending, [], []⟩
def d_law_hand : He.DefD := ⟨("_law_hand", none), "_law_hand", "_law_hand", defArgs s_law_hand, defBody s_law_hand, defScope s_law_hand, [], []⟩
def d_law_draw : He.DefD := ⟨("_law_draw", none), "_law_draw", "_law_draw", defArgs s_law_draw, defBody s_law_draw, defScope s_law_draw, [], []⟩
def d_law_any : He.DefD := ⟨("_law_any", none), "_law_any", "_law_any", defArgs s_law_any, defBody s_law_any, defScope s_law_any, [], []⟩
def d_law_pattern : He.DefD := ⟨("_law_pattern", none), "_law_pattern", "_law_pattern", defArgs s_law_pattern, defBody s_law_pattern, defScope s_law_pattern, [], []⟩
def d_law_text : He.DefD := ⟨("_law_text", none), "_law_text", "_law_text", defArgs s_law_text, defBody s_law_text, defScope s_law_text, [], []⟩
def d_law_ends : He.DefD := ⟨("_law_ends", none), "_law_ends", "_law_ends", defArgs s_law_ends, defBody s_law_ends, defScope s_law_ends, [], []⟩
def d_law_is_read : He.DefD := ⟨("_law_is_read", none), "_law_is_read", "_law_is_read", defArgs s_law_is_read, defBody s_law_is_read, defScope s_law_is_read, [], []⟩
def d_law_texts : He.DefD := ⟨("_law_texts", none), "_law_texts", "_law_texts", defArgs s_law_texts, defBody s_law_texts, defScope s_law_texts, [], []⟩
def d_law_price : He.DefD := ⟨("_law_price", none), "_law_price", "_law_price", defArgs s_law_price, defBody s_law_price, defScope s_law_price, [], []⟩
def d_law_best : He.DefD := ⟨("_law_best", none), "_law_best", "_law_best", defArgs s_law_best, defBody s_law_best, defScope s_law_best, [], []⟩
def d_law_done : He.DefD := ⟨("_law_done", none), "_law_done", "_law_done", defArgs s_law_done, defBody s_law_done, defScope s_law_done, [], []⟩
def d_law_word : He.DefD := ⟨("_law_word", none), "_law_word", "_law_word", defArgs s_law_word, defBody s_law_word, defScope s_law_word, [], []⟩
def d_law_bent : He.DefD := ⟨("_law_bent", none), "_law_bent", "_law_bent", defArgs s_law_bent, defBody s_law_bent, defScope s_law_bent, [], []⟩
def d_law_is_right : He.DefD := ⟨("_law_is_right", none), "_law_is_right", "_law_is_right", defArgs s_law_is_right, defBody s_law_is_right, defScope s_law_is_right, [], []⟩
def d_law : He.DefD := ⟨("law", none), "law", "law", defArgs s_law, defBody s_law, defScope s_law, [], []⟩
def fn : List He.DefD := [d_are_signs, d_is_text, d_check_text, d_is_lot, d_is_mark, d_has_form, d_parts_of, d_is_pattern, d_check_pattern, d_node_rows, d_Sets_init, d_Sets_join, d_Sets_told_of, d_Mender_init, d_Mender_fill_last, d_Mender_spread, d_Mender_lessened, d_Mender_fill, d_Mender_least, d_Mender_steps_from, d_Mender_later, d_Mender_closed, d_way_of, d_mend_price, d_mended, d_mend_row, d_is_sign, d_is_edit, d_raw_done, d_done_by, d_is_mending, d_law_hand, d_law_draw, d_law_any, d_law_pattern, d_law_text, d_law_ends, d_law_is_read, d_law_texts, d_law_price, d_law_best, d_law_done, d_law_word, d_law_bent, d_law_is_right, d_law]
def fa : List He.Fa := [.glo "are_signs", .glo "is_text", .glo "check_text", .glo "is_lot", .glo "is_mark", .glo "has_form", .glo "parts_of", .glo "is_pattern", .glo "check_pattern", .glo "node_rows", .glo "way_of", .glo "mend_price", .glo "mended", .glo "mend_row", .glo "is_sign", .glo "is_edit", .glo "raw_done", .glo "done_by", .glo "is_mending", .glo "_law_hand", .glo "_law_draw", .glo "_law_any", .glo "_law_pattern", .glo "_law_text", .glo "_law_ends", .glo "_law_is_read", .glo "_law_texts", .glo "_law_price", .glo "_law_best", .glo "_law_done", .glo "_law_word", .glo "_law_bent", .glo "_law_is_right", .glo "law", .glo "ReadError", .glo "NoMending", .glo "NoPattern", .glo "NoText", .glo "Sets", .glo "Mender", .free "isinstance", .free "len", .free "all", .free "range", .free "zip", .free "dict", .free "list", .free "enumerate", .free "int", .free "min", .free "abs", .free "sorted", .free "str", .free "tuple", .free "set", .free "ValueError", .str "SIGNS" "abcd", .str "LETTERS" "abcdefghijklmnopqrstuvwxyz", .int "MOST_TEXT" 300, .int "MOST_MARK" 6, .int "MOST_NODES" 60, .int "MOST_DEEP" 15, .glo "FORMS", .str "KEEP" "keep", .str "PUT" "put", .str "TAKE" "take", .str "CHANGE" "change", .cls "Sets", .noat "Sets" "enders", .noat "Sets" "follows", .noat "Sets" "lots", .noat "Sets" "position", .noat "Sets" "rows", .meth "Sets" "join", .meth "Sets" "told_of", .meth "Sets" "moved", .meth "Sets" "can_stop", .mkr "Sets", .cls "Mender", .noat "Mender" "begun_text", .noat "Mender" "best", .noat "Mender" "sets", .noat "Mender" "states", .meth "Mender" "fill_last", .meth "Mender" "spread", .meth "Mender" "lessened", .meth "Mender" "fill", .meth "Mender" "least", .meth "Mender" "steps_from", .meth "Mender" "later", .meth "Mender" "closed", .mkr "Mender", .keep "ReadError", .exc "NoMending", .keep "NoPattern", .keep "NoText", .exm "NoMending" "ReadError" true]
def ts : List He.Tab := [(fun K => He.ga K "FORMS", ["none", "empty", "sign", "then", "or", "many", "few", "mark"])]
def tab_FORMS : List (Str × He.Dv) := [("none", .str ""), ("empty", .str ""), ("sign", .str "l"), ("then", .str "pp"), ("or", .str "pp"), ("many", .str "p"), ("few", .str "p"), ("mark", .str "mp")]
def ex (K : PySem.W.Frag) : Bool := (He.valsB K (He.ga K "FORMS") tab_FORMS && (excB K (He.ga K "NoMending") && (kitEq K "NoMending" "NoMending" true && decide ((He.cT K ("_law_is_right", none)).2 ≠ (He.cT K ("law", none)).2))))
def tf : List He.Defn := [("_law_is_right", none), ("law", none)]
abbrev R : PySem.W.OpenRow := PySem.W.OpenLaw.row PySem.Challenge.rw_firstreads_k80_whole_rows_of_edits_that
abbrev hk : PySem.W.Hook := He.hookX 5 fa fn ts tf ex
def ob (s : PySem.W.SharedT) : He.AlX := He.obsX 5 fa fn ts tf ex (HandSHeadRun.getT s)
theorem ob_eq (s : PySem.W.SharedT) : ob s = hk.obs s.abs := He.obsX_eq (HandSHeadRun.getT_eq s)
abbrev Tx (w : World) (K : PySem.W.Frag) (mg : Str → Option Value) : Prop := TxB fa fn ts ex w K mg
section
variable {w : World} {K : PySem.W.Frag} {mg : Str → Option Value}
theorem g_are_signs (T : Tx w K mg) : mg "are_signs" = some (.ref (He.ga K "are_signs")) := T.glo 0
theorem g_is_text (T : Tx w K mg) : mg "is_text" = some (.ref (He.ga K "is_text")) := T.glo 1
theorem g_check_text (T : Tx w K mg) : mg "check_text" = some (.ref (He.ga K "check_text")) := T.glo 2
theorem g_is_lot (T : Tx w K mg) : mg "is_lot" = some (.ref (He.ga K "is_lot")) := T.glo 3
theorem g_is_mark (T : Tx w K mg) : mg "is_mark" = some (.ref (He.ga K "is_mark")) := T.glo 4
theorem g_has_form (T : Tx w K mg) : mg "has_form" = some (.ref (He.ga K "has_form")) := T.glo 5
theorem g_parts_of (T : Tx w K mg) : mg "parts_of" = some (.ref (He.ga K "parts_of")) := T.glo 6
theorem g_is_pattern (T : Tx w K mg) : mg "is_pattern" = some (.ref (He.ga K "is_pattern")) := T.glo 7
theorem g_check_pattern (T : Tx w K mg) : mg "check_pattern" = some (.ref (He.ga K "check_pattern")) := T.glo 8
theorem g_node_rows (T : Tx w K mg) : mg "node_rows" = some (.ref (He.ga K "node_rows")) := T.glo 9
theorem g_way_of (T : Tx w K mg) : mg "way_of" = some (.ref (He.ga K "way_of")) := T.glo 10
theorem g_mend_price (T : Tx w K mg) : mg "mend_price" = some (.ref (He.ga K "mend_price")) := T.glo 11
theorem g_mended (T : Tx w K mg) : mg "mended" = some (.ref (He.ga K "mended")) := T.glo 12
theorem g_mend_row (T : Tx w K mg) : mg "mend_row" = some (.ref (He.ga K "mend_row")) := T.glo 13
theorem g_is_sign (T : Tx w K mg) : mg "is_sign" = some (.ref (He.ga K "is_sign")) := T.glo 14
theorem g_is_edit (T : Tx w K mg) : mg "is_edit" = some (.ref (He.ga K "is_edit")) := T.glo 15
theorem g_raw_done (T : Tx w K mg) : mg "raw_done" = some (.ref (He.ga K "raw_done")) := T.glo 16
theorem g_done_by (T : Tx w K mg) : mg "done_by" = some (.ref (He.ga K "done_by")) := T.glo 17
theorem g_is_mending (T : Tx w K mg) : mg "is_mending" = some (.ref (He.ga K "is_mending")) := T.glo 18
theorem g__law_hand (T : Tx w K mg) : mg "_law_hand" = some (.ref (He.ga K "_law_hand")) := T.glo 19
theorem g__law_draw (T : Tx w K mg) : mg "_law_draw" = some (.ref (He.ga K "_law_draw")) := T.glo 20
theorem g__law_any (T : Tx w K mg) : mg "_law_any" = some (.ref (He.ga K "_law_any")) := T.glo 21
theorem g__law_pattern (T : Tx w K mg) : mg "_law_pattern" = some (.ref (He.ga K "_law_pattern")) := T.glo 22
theorem g__law_text (T : Tx w K mg) : mg "_law_text" = some (.ref (He.ga K "_law_text")) := T.glo 23
theorem g__law_ends (T : Tx w K mg) : mg "_law_ends" = some (.ref (He.ga K "_law_ends")) := T.glo 24
theorem g__law_is_read (T : Tx w K mg) : mg "_law_is_read" = some (.ref (He.ga K "_law_is_read")) := T.glo 25
theorem g__law_texts (T : Tx w K mg) : mg "_law_texts" = some (.ref (He.ga K "_law_texts")) := T.glo 26
theorem g__law_price (T : Tx w K mg) : mg "_law_price" = some (.ref (He.ga K "_law_price")) := T.glo 27
theorem g__law_best (T : Tx w K mg) : mg "_law_best" = some (.ref (He.ga K "_law_best")) := T.glo 28
theorem g__law_done (T : Tx w K mg) : mg "_law_done" = some (.ref (He.ga K "_law_done")) := T.glo 29
theorem g__law_word (T : Tx w K mg) : mg "_law_word" = some (.ref (He.ga K "_law_word")) := T.glo 30
theorem g__law_bent (T : Tx w K mg) : mg "_law_bent" = some (.ref (He.ga K "_law_bent")) := T.glo 31
theorem g__law_is_right (T : Tx w K mg) : mg "_law_is_right" = some (.ref (He.ga K "_law_is_right")) := T.glo 32
theorem g_law (T : Tx w K mg) : mg "law" = some (.ref (He.ga K "law")) := T.glo 33
theorem g_ReadError (T : Tx w K mg) : mg "ReadError" = some (.ref (He.ga K "ReadError")) := T.glo 34
theorem g_NoMending (T : Tx w K mg) : mg "NoMending" = some (.ref (He.ga K "NoMending")) := T.glo 35
theorem g_NoPattern (T : Tx w K mg) : mg "NoPattern" = some (.ref (He.ga K "NoPattern")) := T.glo 36
theorem g_NoText (T : Tx w K mg) : mg "NoText" = some (.ref (He.ga K "NoText")) := T.glo 37
theorem g_Sets (T : Tx w K mg) : mg "Sets" = some (.ref (He.ga K "Sets")) := T.glo 38
theorem g_Mender (T : Tx w K mg) : mg "Mender" = some (.ref (He.ga K "Mender")) := T.glo 39
theorem z_isinstance (T : Tx w K mg) : mg "isinstance" = none := T.free 40
theorem z_len (T : Tx w K mg) : mg "len" = none := T.free 41
theorem z_all (T : Tx w K mg) : mg "all" = none := T.free 42
theorem z_range (T : Tx w K mg) : mg "range" = none := T.free 43
theorem z_zip (T : Tx w K mg) : mg "zip" = none := T.free 44
theorem z_dict (T : Tx w K mg) : mg "dict" = none := T.free 45
theorem z_list (T : Tx w K mg) : mg "list" = none := T.free 46
theorem z_enumerate (T : Tx w K mg) : mg "enumerate" = none := T.free 47
theorem z_int (T : Tx w K mg) : mg "int" = none := T.free 48
theorem z_min (T : Tx w K mg) : mg "min" = none := T.free 49
theorem z_abs (T : Tx w K mg) : mg "abs" = none := T.free 50
theorem z_sorted (T : Tx w K mg) : mg "sorted" = none := T.free 51
theorem z_str (T : Tx w K mg) : mg "str" = none := T.free 52
theorem z_tuple (T : Tx w K mg) : mg "tuple" = none := T.free 53
theorem z_set (T : Tx w K mg) : mg "set" = none := T.free 54
theorem z_ValueError (T : Tx w K mg) : mg "ValueError" = none := T.free 55
theorem k_SIGNS (T : Tx w K mg) : ∃ t, mg "SIGNS" = some (.str "abcd" t) := T.str 56
theorem k_LETTERS (T : Tx w K mg) : ∃ t, mg "LETTERS" = some (.str "abcdefghijklmnopqrstuvwxyz" t) := T.str 57
theorem k_MOST_TEXT (T : Tx w K mg) : ∃ t, mg "MOST_TEXT" = some (.int 300 t) := T.int 58
theorem k_MOST_MARK (T : Tx w K mg) : ∃ t, mg "MOST_MARK" = some (.int 6 t) := T.int 59
theorem k_MOST_NODES (T : Tx w K mg) : ∃ t, mg "MOST_NODES" = some (.int 60 t) := T.int 60
theorem k_MOST_DEEP (T : Tx w K mg) : ∃ t, mg "MOST_DEEP" = some (.int 15 t) := T.int 61
theorem g_FORMS (T : Tx w K mg) : mg "FORMS" = some (.ref (He.ga K "FORMS")) := T.glo 62
theorem k_KEEP (T : Tx w K mg) : ∃ t, mg "KEEP" = some (.str "keep" t) := T.str 63
theorem k_PUT (T : Tx w K mg) : ∃ t, mg "PUT" = some (.str "put" t) := T.str 64
theorem k_TAKE (T : Tx w K mg) : ∃ t, mg "TAKE" = some (.str "take" t) := T.str 65
theorem k_CHANGE (T : Tx w K mg) : ∃ t, mg "CHANGE" = some (.str "change" t) := T.str 66
theorem c_Sets (T : Tx w K mg) : Cls K (He.ga K "Sets") := T.cls 67
theorem n_Sets_enders (T : Tx w K mg) : NoAttr K (He.ga K "Sets") "enders" := T.noat 68
theorem n_Sets_follows (T : Tx w K mg) : NoAttr K (He.ga K "Sets") "follows" := T.noat 69
theorem n_Sets_lots (T : Tx w K mg) : NoAttr K (He.ga K "Sets") "lots" := T.noat 70
theorem n_Sets_position (T : Tx w K mg) : NoAttr K (He.ga K "Sets") "position" := T.noat 71
theorem n_Sets_rows (T : Tx w K mg) : NoAttr K (He.ga K "Sets") "rows" := T.noat 72
theorem m_Sets_join (T : Tx w K mg) : Meth K (He.ga K "Sets") "join" (He.ma K (He.ga K "Sets") "join") := T.meth 73
theorem m_Sets_told_of (T : Tx w K mg) : Meth K (He.ga K "Sets") "told_of" (He.ma K (He.ga K "Sets") "told_of") := T.meth 74
theorem m_Sets_moved (T : Tx w K mg) : Meth K (He.ga K "Sets") "moved" (He.ma K (He.ga K "Sets") "moved") := T.meth 75
theorem m_Sets_can_stop (T : Tx w K mg) : Meth K (He.ga K "Sets") "can_stop" (He.ma K (He.ga K "Sets") "can_stop") := T.meth 76
theorem mk_Sets (T : Tx w K mg) : Mk K (He.ga K "Sets") (He.ma K (He.ga K "Sets") "__init__") := T.mkr 77
theorem c_Mender (T : Tx w K mg) : Cls K (He.ga K "Mender") := T.cls 78
theorem n_Mender_begun_text (T : Tx w K mg) : NoAttr K (He.ga K "Mender") "begun_text" := T.noat 79
theorem n_Mender_best (T : Tx w K mg) : NoAttr K (He.ga K "Mender") "best" := T.noat 80
theorem n_Mender_sets (T : Tx w K mg) : NoAttr K (He.ga K "Mender") "sets" := T.noat 81
theorem n_Mender_states (T : Tx w K mg) : NoAttr K (He.ga K "Mender") "states" := T.noat 82
theorem m_Mender_fill_last (T : Tx w K mg) : Meth K (He.ga K "Mender") "fill_last" (He.ma K (He.ga K "Mender") "fill_last") := T.meth 83
theorem m_Mender_spread (T : Tx w K mg) : Meth K (He.ga K "Mender") "spread" (He.ma K (He.ga K "Mender") "spread") := T.meth 84
theorem m_Mender_lessened (T : Tx w K mg) : Meth K (He.ga K "Mender") "lessened" (He.ma K (He.ga K "Mender") "lessened") := T.meth 85
theorem m_Mender_fill (T : Tx w K mg) : Meth K (He.ga K "Mender") "fill" (He.ma K (He.ga K "Mender") "fill") := T.meth 86
theorem m_Mender_least (T : Tx w K mg) : Meth K (He.ga K "Mender") "least" (He.ma K (He.ga K "Mender") "least") := T.meth 87
theorem m_Mender_steps_from (T : Tx w K mg) : Meth K (He.ga K "Mender") "steps_from" (He.ma K (He.ga K "Mender") "steps_from") := T.meth 88
theorem m_Mender_later (T : Tx w K mg) : Meth K (He.ga K "Mender") "later" (He.ma K (He.ga K "Mender") "later") := T.meth 89
theorem m_Mender_closed (T : Tx w K mg) : Meth K (He.ga K "Mender") "closed" (He.ma K (He.ga K "Mender") "closed") := T.meth 90
theorem mk_Mender (T : Tx w K mg) : Mk K (He.ga K "Mender") (He.ma K (He.ga K "Mender") "__init__") := T.mkr 91
theorem x_NoMending (T : Tx w K mg) : PySem.W.excIn K (He.ga K "NoMending") He.veBase "ValueError.__new__" = true ∧ PySem.W.keepIn K (.ref (He.ga K "NoMending")) = true ∧ PySem.W.subIn K (.ref (He.ga K "NoMending")) (.type "BaseException") = some true ∧ PySem.W.typeIn K (.ref (He.ga K "NoMending")) = some (.type "type") := T.exc 93
theorem e_NoMending (T : Tx w K mg) : PySem.W.exmOne K (.ref (He.ga K "NoMending")) (.ref (He.ga K "ReadError")) = some true := T.exm 96
theorem D_FORMS (T : Tx w K mg) : ∃ es n, KDict K w (He.ga K "FORMS") es n := T.c.tab 0
theorem V_FORMS (T : Tx w K mg) : He.valsB K (He.ga K "FORMS") tab_FORMS = true := (He.ba T.more).1
theorem i_NoMending (T : Tx w K mg) : ExcC K (He.ga K "NoMending") ∧ PySem.W.kitOne K (.ref (He.ga K "NoMending")) (.type "ValueError") = some true := excB_ok ((He.ba (He.ba T.more).2).1)
theorem i_NoMending_NoMending (T : Tx w K mg) : PySem.W.kitOne K (.ref (He.ga K "NoMending")) (.ref (He.ga K "NoMending")) = some true := kitEq_ok ((He.ba (He.ba (He.ba T.more).2).2).1)
theorem t_law_is_right_law (T : Tx w K mg) : (He.cT K ("_law_is_right", none)).2 ≠ (He.cT K ("law", none)).2 := of_decide_eq_true ((He.ba (He.ba (He.ba T.more).2).2).2)
end
theorem b_are_signs : BindH d_are_signs ["thing", "most"] := fun _ _ _ _ _ _ us hl => match us, hl with | [_, _], _ => rfl
theorem b_is_text : BindH d_is_text ["thing"] := fun _ _ _ _ _ _ us hl => match us, hl with | [_], _ => rfl
theorem b_check_text : BindH d_check_text ["thing"] := fun _ _ _ _ _ _ us hl => match us, hl with | [_], _ => rfl
theorem b_is_lot : BindH d_is_lot ["thing"] := fun _ _ _ _ _ _ us hl => match us, hl with | [_], _ => rfl
theorem b_is_mark : BindH d_is_mark ["thing"] := fun _ _ _ _ _ _ us hl => match us, hl with | [_], _ => rfl
theorem b_has_form : BindH d_has_form ["thing"] := fun _ _ _ _ _ _ us hl => match us, hl with | [_], _ => rfl
theorem b_parts_of : BindH d_parts_of ["pattern"] := fun _ _ _ _ _ _ us hl => match us, hl with | [_], _ => rfl
theorem b_is_pattern : BindH d_is_pattern ["thing"] := fun _ _ _ _ _ _ us hl => match us, hl with | [_], _ => rfl
theorem b_check_pattern : BindH d_check_pattern ["thing"] := fun _ _ _ _ _ _ us hl => match us, hl with | [_], _ => rfl
theorem b_node_rows : BindH d_node_rows ["pattern"] := fun _ _ _ _ _ _ us hl => match us, hl with | [_], _ => rfl
theorem b_Sets_init : BindH d_Sets_init ["self", "pattern"] := fun _ _ _ _ _ _ us hl => match us, hl with | [_, _], _ => rfl
theorem b_Sets_join : BindH d_Sets_join ["self", "lasts", "firsts"] := fun _ _ _ _ _ _ us hl => match us, hl with | [_, _, _], _ => rfl
theorem b_Sets_told_of : BindH d_Sets_told_of ["self", "row", "told"] := fun _ _ _ _ _ _ us hl => match us, hl with | [_, _, _], _ => rfl
theorem b_Mender_init : BindH d_Mender_init ["self", "pattern", "text"] := fun _ _ _ _ _ _ us hl => match us, hl with | [_, _, _], _ => rfl
theorem b_Mender_fill_last : BindH d_Mender_fill_last ["self"] := fun _ _ _ _ _ _ us hl => match us, hl with | [_], _ => rfl
theorem b_Mender_spread : BindH d_Mender_spread ["self", "place"] := fun _ _ _ _ _ _ us hl => match us, hl with | [_, _], _ => rfl
theorem b_Mender_lessened : BindH d_Mender_lessened ["self", "place", "state", "told"] := fun _ _ _ _ _ _ us hl => match us, hl with | [_, _, _, _], _ => rfl
theorem b_Mender_fill : BindH d_Mender_fill ["self", "place"] := fun _ _ _ _ _ _ us hl => match us, hl with | [_, _], _ => rfl
theorem b_Mender_least : BindH d_Mender_least ["self"] := fun _ _ _ _ _ _ us hl => match us, hl with | [_], _ => rfl
theorem b_Mender_steps_from : BindH d_Mender_steps_from ["self", "place", "state", "sign"] := fun _ _ _ _ _ _ us hl => match us, hl with | [_, _, _, _], _ => rfl
theorem b_Mender_later : BindH d_Mender_later ["self", "here", "sign"] := fun _ _ _ _ _ _ us hl => match us, hl with | [_, _, _], _ => rfl
theorem b_Mender_closed : BindH d_Mender_closed ["self", "here"] := fun _ _ _ _ _ _ us hl => match us, hl with | [_, _], _ => rfl
theorem b_way_of : BindH d_way_of ["mender"] := fun _ _ _ _ _ _ us hl => match us, hl with | [_], _ => rfl
theorem b_mend_price : BindH d_mend_price ["pattern", "text"] := fun _ _ _ _ _ _ us hl => match us, hl with | [_, _], _ => rfl
theorem b_mended : BindH d_mended ["pattern", "text"] := fun _ _ _ _ _ _ us hl => match us, hl with | [_, _], _ => rfl
theorem b_mend_row : BindH d_mend_row ["pattern", "text"] := fun _ _ _ _ _ _ us hl => match us, hl with | [_, _], _ => rfl
theorem b_is_sign : BindH d_is_sign ["thing"] := fun _ _ _ _ _ _ us hl => match us, hl with | [_], _ => rfl
theorem b_is_edit : BindH d_is_edit ["thing"] := fun _ _ _ _ _ _ us hl => match us, hl with | [_], _ => rfl
theorem b_raw_done : BindH d_raw_done ["text", "row"] := fun _ _ _ _ _ _ us hl => match us, hl with | [_, _], _ => rfl
theorem b_done_by : BindH d_done_by ["text", "row"] := fun _ _ _ _ _ _ us hl => match us, hl with | [_, _], _ => rfl
theorem b_is_mending : BindH d_is_mending ["pattern", "text", "thing"] := fun _ _ _ _ _ _ us hl => match us, hl with | [_, _, _], _ => rfl
theorem b_law_hand : BindH d_law_hand ["script"] := fun _ _ _ _ _ _ us hl => match us, hl with | [_], _ => rfl
theorem b_law_draw : BindH d_law_draw ["hand", "many"] := fun _ _ _ _ _ _ us hl => match us, hl with | [_, _], _ => rfl
theorem b_law_any : BindH d_law_any ["hand", "some"] := fun _ _ _ _ _ _ us hl => match us, hl with | [_, _], _ => rfl
theorem b_law_pattern : BindH d_law_pattern ["hand", "deep"] := fun _ _ _ _ _ _ us hl => match us, hl with | [_, _], _ => rfl
theorem b_law_text : BindH d_law_text ["hand", "most"] := fun _ _ _ _ _ _ us hl => match us, hl with | [_, _], _ => rfl
theorem b_law_ends : BindH d_law_ends ["pattern", "text", "place"] := fun _ _ _ _ _ _ us hl => match us, hl with | [_, _, _], _ => rfl
theorem b_law_is_read : BindH d_law_is_read ["pattern", "text"] := fun _ _ _ _ _ _ us hl => match us, hl with | [_, _], _ => rfl
theorem b_law_texts : BindH d_law_texts ["long"] := fun _ _ _ _ _ _ us hl => match us, hl with | [_], _ => rfl
theorem b_law_price : BindH d_law_price ["one", "other"] := fun _ _ _ _ _ _ us hl => match us, hl with | [_, _], _ => rfl
theorem b_law_best : BindH d_law_best ["pattern", "text"] := fun _ _ _ _ _ _ us hl => match us, hl with | [_, _], _ => rfl
theorem b_law_done : BindH d_law_done ["text", "row"] := fun _ _ _ _ _ _ us hl => match us, hl with | [_, _], _ => rfl
theorem b_law_word : BindH d_law_word ["call"] := fun _ _ _ _ _ _ us hl => match us, hl with | [_], _ => rfl
theorem b_law_bent : BindH d_law_bent ["hand", "row"] := fun _ _ _ _ _ _ us hl => match us, hl with | [_, _], _ => rfl
theorem b_law_is_right : BindH d_law_is_right ["hand"] := fun _ _ _ _ _ _ us hl => match us, hl with | [_], _ => rfl
theorem b_law : BindH d_law ["script"] := fun _ _ _ _ _ _ us hl => match us, hl with | [_], _ => rfl
def loose0 : List PySem.Str := ["_wall", "__name__", "ReadError", "NoMending", "NoPattern", "NoText", "SIGNS", "LETTERS", "MOST_TEXT", "MOST_MARK", "MOST_NODES", "MOST_DEEP", "FORMS", "are_signs", "is_text", "check_text", "is_lot", "is_mark", "has_form", "parts_of", "is_pattern", "check_pattern", "node_rows", "Sets", "KEEP", "PUT", "TAKE", "CHANGE", "Mender", "way_of"]
def loose1 : List PySem.Str := ["mend_price", "mended", "mend_row", "is_sign", "is_edit", "raw_done", "done_by", "is_mending", "_law_hand", "_law_draw", "_law_any", "_law_pattern", "_law_text", "_law_ends", "_law_is_read", "_law_texts", "_law_price", "_law_best", "_law_done", "_law_word", "_law_bent", "_law_is_right"]
def loose : List PySem.Str := loose0 ++ loose1
def lawI : Nat := 56
end Fr

set_option maxHeartbeats 0
namespace Fr
open PySem PySem.Spec PyProof.Rows L2
theorem runA (w : World) : HandSHeadRun.RunEq R (PySem.W.view R.prog [56]) hk ob 6000 loose (w.withFollow "special-get-raises" true) := by
  intro os
  kernel_rfl
theorem runB (w : World) : HandSHeadRun.RunEq R (PySem.W.view R.prog [56]) hk ob 6000 loose (w.withFollow "special-get-raises" false) := by
  intro os
  kernel_rfl
theorem run (w : World) : HandSHeadRun.RunEq R (PySem.W.view R.prog [56]) hk ob 6000 loose w := PySem.W.byRow2 "special-get-raises" (P := fun w => HandSHeadRun.RunEq R (PySem.W.view R.prog [56]) hk ob 6000 loose w) runB runA w
end Fr

set_option maxHeartbeats 4000000
namespace Fr
open PySem PySem.Spec PyProof.Rows L2
section
variable {P : Program} {w : World} {K : PySem.W.Frag} {mg : Str → Option Value} {base : Heap}

/-! ### texts -/

def spSigns : Sp := fun vs H Q _ => ∃ (z : Str) (m : Int), vs = [.str z, .int m] ∧ z.length ≤ 100000 ∧ ∀ H', Mod [] H H' → Q (.bl (decide ((z.length : Int) ≤ m) && z.cps.toList.all okSign)) H'
theorem has_are_signs (T : Tx w K mg) : Has P w K mg base 1 "are_signs" ["thing", "most"] spSigns := by
  refine (T.has (d := d_are_signs) 0 rfl rfl rfl rfl b_are_signs sc_are_signs (fun vs H Q E h => ?_) fun cdv A outer s H vs Q E hr h => ?_)
  · obtain ⟨z, m, rfl, _⟩ := h; rfl
  obtain ⟨z, m, rfl, hz, q⟩ := h
  refine ⟨_, (pss_one (ps_ret (pe_and (pe_callB call_isiB (by rfl) (z_isinstance T) (by decide +kernel) (pa_cons (pv 0) (pa_cons (pe_bltn (v := .ty "str") (by rfl) (z_str T) (by decide +kernel) rfl) pa_nil))) (pe_and (pe_cmpR op_le (pe_callB call_len_str (by rfl) (z_len T) (by decide +kernel) (pa_cons (pv 0) pa_nil)) (pv 1) (nomark _)) (pe_one (pe_callB (cr_all rfl) (by rfl) (z_all T) (by decide +kernel) (pa_cons (pe_lc (own := [("sign", 2)]) (g := (gName 2)) (tt := tYes) rfl sc_are_signs.nd (pi_str (pv 0)) (blkOk_by (own := [("sign", 2)]) (N := ["thing", "most", "sign"]) (sc := defScope s_are_signs) (by decide +kernel)) (fun _ _ _ _ _ => (pg_name (i := 2) sc_are_signs.nd rfl (Or.inl rfl))) (fun _ _ _ _ _ => pts_nil) (fun _ _ _ _ _ => (pe_cmpR op_in_sign (pv 2) (pe_gs (by rfl) (k_SIGNS T)) rfl))) pa_nil))))))), ?_⟩
  refine ⟨_, rfl, _, _, true, rfl, isb_str, true, rfl, iteT ?_⟩
  refine ⟨_, rfl, z, rfl, le_line hz, _, rfl, _, _, rfl, rfl, _, rfl, ite2 (fun e => ?_) (fun e => ?_)⟩
  · rw [e, Bool.true_and] at q
    refine ⟨_, rfl, z, rfl, lc_map walk_str [] (fun i => .bl (okSign (z.cps.toList.getD i default))) (lt_line hz) (fun _ _ => trivial) ?_ (fun _ _ h => nomatch h) fun D H' hD m e => ?_⟩
    · rintro i x H1 _ R hi m1 ⟨rfl, c, hc, rfl⟩ k
      have ec : z.cps.toList.getD i default = c := by
        rw [List.getD_eq_getElem?_getD, Array.getElem?_toList, hc]; rfl
      rw [ec] at k
      exact ⟨rfl, _, rfl, c, _, rfl, rfl, k _ Mod.refl⟩
    · have e2 := range_map_get z.cps.toList (fun c => V.bl (okSign c))
      rw [Array.length_toList] at e2
      refine ⟨D, z.cps.toList.map okSign, rfl, SqL.of (e.trans (by rw [e2, List.map_map]; rfl)), ?_⟩
      rw [List.all_map] 
      exact q _ m
  · have e0 : decide ((z.length : Int) ≤ m) = false := Bool.eq_false_iff.mpr e
    rw [e0] at q
    exact q _ Mod.refl
def spIsText : Sp := fun vs H Q _ => ∃ (z : Str), vs = [.str z] ∧ z.length ≤ 100000 ∧ ∀ H', Mod [] H H' → Q (.bl (decide ((z.length : Int) ≤ 300) && z.cps.toList.all okSign)) H'
theorem has_is_text (T : Tx w K mg) : Has P w K mg base 2 "is_text" ["thing"] spIsText := by
  have H_are_signs := has_are_signs (P := P) (base := base) T
  refine (T.has (d := d_is_text) 1 rfl rfl rfl rfl b_is_text sc_is_text (fun vs H Q E h => ?_) fun cdv A outer s H vs Q E hr h => ?_)
  · obtain ⟨z, rfl, _⟩ := h; rfl
  obtain ⟨z, rfl, hz, q⟩ := h
  refine ⟨_, (pss_one (ps_ret (pe_callH H_are_signs (hr.mono (by decide)) (by rfl) (g_are_signs T) (pa_cons (pv 0) (pa_cons (pe_gi (by rfl) (k_MOST_TEXT T)) pa_nil))))), ?_⟩
  exact ⟨_, rfl, z, 300, rfl, hz, q⟩
/-- a text -/
def IsText (z : Str) : Prop := z.length ≤ 300 ∧ ∀ c ∈ z.cps.toList, okSign c = true
def spCheckText : Sp := fun vs H Q _ => ∃ (z : Str), vs = [.str z] ∧ IsText z ∧ ∀ H', Mod [] H H' → Q .non H'
theorem has_check_text (T : Tx w K mg) : Has P w K mg base 3 "check_text" ["thing"] spCheckText := by
  have H_is_text := has_is_text (P := P) (base := base) T
  refine (T.has (d := d_check_text) 2 rfl rfl rfl rfl b_check_text sc_check_text (fun vs H Q E h => ?_) fun cdv A outer s H vs Q E hr h => ?_)
  · obtain ⟨z, rfl, _⟩ := h; rfl
  obtain ⟨z, rfl, ⟨hz, hs⟩, q⟩ := h
  refine ⟨_, (pss_one (ps_if (pt_not (pt_val (pe_callH H_is_text (hr.mono (by decide)) (by rfl) (g_is_text T) (pa_cons (pv 0) pa_nil)))) (pss_one ps_never) pss_nil)), ?_⟩
  refine ⟨_, rfl, z, rfl, Nat.le_trans hz (by decide), fun H' m => ⟨_, rfl, ?_⟩⟩
  have e1 : decide ((z.length : Int) ≤ 300) = true := decide_eq_true (by omega)
  have e2 : z.cps.toList.all okSign = true := List.all_eq_true.mpr hs
  rw [e1, e2]
  exact q _ m
end
end Fr

set_option maxHeartbeats 4000000
namespace Fr
open PySem PySem.Spec PyProof.Rows L2
section
variable {P : Program} {w : World} {K : PySem.W.Frag} {mg : Str → Option Value} {base : Heap}

theorem all_true {n : Nat} : ((List.range n).map fun _ => V.bl true) = ((List.range n).map fun _ => true).map V.bl := by rw [List.map_map]; rfl
theorem all_true' {n : Nat} : (((List.range n).map fun _ => true).all id) = true := List.all_eq_true.mpr fun b hb => by
  obtain ⟨_, _, e⟩ := List.mem_map.mp hb
  rw [← e]; rfl
def spIsLot : Sp := fun vs H Q _ => ∃ (l : List Nat), vs = [.str ⟨l.toArray⟩] ∧ LotOk l ∧ ∀ H', Mod [] H H' → Q (.bl true) H'
theorem lot_lt {l : List Nat} (h : LotOk l) {i a b : Nat} (ha : l[i]? = some a) (hb : l[i + 1]? = some b) : decide (([a] : List Nat) < [b]) = true := decide_eq_true (by
  have := h.up i a b ha hb
  exact List.Lex.rel this)
theorem has_is_lot (T : Tx w K mg) : Has P w K mg base 2 "is_lot" ["thing"] spIsLot := by
  have H_are_signs := has_are_signs (P := P) (base := base) T
  refine (T.has (d := d_is_lot) 3 rfl rfl rfl rfl b_is_lot sc_is_lot (fun vs H Q E h => ?_) fun cdv A outer s H vs Q E hr h => ?_)
  · obtain ⟨z, rfl, _⟩ := h; rfl
  obtain ⟨l, rfl, hl, q⟩ := h
  refine ⟨_, (pss_cons (ps_if (PW.pt (pw_or (pt_not (pt_val (pe_callH H_are_signs (hr.mono (by decide)) (by rfl) (g_are_signs T) (pa_cons (pv 0) (pa_cons (pe_callB call_len_str (by rfl) (z_len T) (by decide +kernel) (pa_cons (pe_gs (by rfl) (k_SIGNS T)) pa_nil)) pa_nil))))) (pw_or1 (pt_cmpR op_eq (pe_callB call_len_str (by rfl) (z_len T) (by decide +kernel) (pa_cons (pv 0) pa_nil)) pe_int (nomark _))))) (pss_one (ps_ret pe_bl)) pss_nil)
      (pss_one (ps_ret (pe_callB (cr_all rfl) (by rfl) (z_all T) (by decide +kernel) (pa_cons (pe_lc (own := [("at", 1)]) (g := (gName 1)) (tt := tYes) rfl sc_is_lot.nd (pi_range2 (by rfl) (z_range T) (pa_cons pe_int (pa_cons (pe_callB call_len_str (by rfl) (z_len T) (by decide +kernel) (pa_cons (pv 0) pa_nil)) pa_nil))) (blkOk_by (own := [("at", 1)]) (N := ["thing", "at"]) (sc := defScope s_is_lot) (by decide +kernel)) (fun _ _ _ _ _ => (pg_name (i := 1) sc_is_lot.nd rfl (Or.inl rfl))) (fun _ _ _ _ _ => pts_nil) (fun _ _ _ _ _ => (pe_cmpR op_lt_str (pe_ix ix_str (pv 0) (pe_op op_sub (pv 1) pe_int) (fun _ _ => rfl)) (pe_ix ix_str (pv 0) (pv 1) (fun _ _ => rfl)) (nomark _)))) pa_nil))))), ?_⟩
  have hlen : l.length ≤ 4 := hl.le
  have hle : (⟨l.toArray⟩ : Str).length = l.length := rfl
  have hpos : 0 < l.length := List.length_pos_iff.mpr hl.ne
  have eb : (decide (((⟨l.toArray⟩ : Str).length : Int) ≤ (("abcd" : Str).length : Int)) && (⟨l.toArray⟩ : Str).cps.toList.all okSign) = true := by
    rw [Bool.and_eq_true]
    refine ⟨decide_eq_true ?_, List.all_eq_true.mpr hl.ok⟩
    show (l.length : Int) ≤ 4
    omega
  refine ⟨_, rfl, _, rfl, le_line (by decide), _, _, rfl, by rw [hle]; omega, fun H1 m1 => ?_⟩
  rw [eb]
  refine ⟨true, rfl, iteF ?_⟩
  refine ⟨_, rfl, _, rfl, le_line (by rw [hle]; omega), rfl, _, rfl, ?_⟩
  have e0 : decide (V.int ((⟨l.toArray⟩ : Str).length : Nat) = V.int 0) = false := decide_eq_false fun e => by
    have := V.int.inj e
    rw [hle] at this
    omega
  rw [e0]
  refine iteF ?_
  refine ⟨_, rfl, _, rfl, le_line (by rw [hle]; omega), _, _, rfl, ⟨by decide, by decide, by rw [hle]; omega, by rw [hle]; omega⟩, ?_⟩
  have en : ((((⟨l.toArray⟩ : Str).length : Nat) : Int) - 1).toNat = l.length - 1 := by rw [hle]; omega
  rw [en]
  refine lc_map walk_range [] (fun i => .bl true) (lt_line (by omega)) (fun _ _ => trivial) ?_ (fun _ _ h => nomatch h) fun D H' hD m e => ?_
  · rintro i x _ H2 R hi m2 ⟨rfl, rfl⟩ k
    have h1 : i < l.length := by omega
    have h2 : i + 1 < l.length := by omega
    have lt := lot_lt hl (List.getElem?_eq_getElem h1) (List.getElem?_eq_getElem h2)
    refine ⟨rfl, _, rfl, _, rfl, _, _, rfl, rfl, _, (1 + (i : Int) - 1), l[i], rfl, rfl, le_line (by rw [hle]; omega), atx (j := i) (by omega) (List.getElem?_eq_getElem h1), _, rfl, _, rfl, _, (1 + (i : Int)), l[i + 1], rfl, rfl, le_line (by rw [hle]; omega),
      atx (j := i + 1) (by omega) (List.getElem?_eq_getElem h2), _, _, rfl, rfl, ?_⟩
    show R (V.bl (decide (([l[i]] : List Nat) < [l[i + 1]]))) _
    rw [lt]
    exact k _ Mod.refl
  · refine ⟨D, (List.range (l.length - 1)).map fun _ => true, rfl, SqL.of (e.trans (by rw [all_true])), ?_⟩
    rw [all_true']
    exact q _ (m1.trans m)
def spIsMark : Sp := fun vs H Q _ => ∃ (l : List Nat), vs = [.str ⟨l.toArray⟩] ∧ MarkOk l ∧ ∀ H', Mod [] H H' → Q (.bl true) H'
theorem has_is_mark (T : Tx w K mg) : Has P w K mg base 1 "is_mark" ["thing"] spIsMark := by
  refine (T.has (d := d_is_mark) 4 rfl rfl rfl rfl b_is_mark sc_is_mark (fun vs H Q E h => ?_) fun cdv A outer s H vs Q E hr h => ?_)
  · obtain ⟨z, rfl, _⟩ := h; rfl
  obtain ⟨l, rfl, hl, q⟩ := h
  refine ⟨_, (pss_one (ps_ret (pe_and (pe_callB call_isiB (by rfl) (z_isinstance T) (by decide +kernel) (pa_cons (pv 0) (pa_cons (pe_bltn (v := .ty "str") (by rfl) (z_str T) (by decide +kernel) rfl) pa_nil))) (pe_and (pe_chain op_le op_le pe_int (pe_callB call_len_str (by rfl) (z_len T) (by decide +kernel) (pa_cons (pv 0) pa_nil)) (pe_gi (by rfl) (k_MOST_MARK T))) (pe_one (pe_callB (cr_all rfl) (by rfl) (z_all T) (by decide +kernel) (pa_cons (pe_lc (own := [("sign", 1)]) (g := (gName 1)) (tt := tYes) rfl sc_is_mark.nd (pi_str (pv 0)) (blkOk_by (own := [("sign", 1)]) (N := ["thing", "sign"]) (sc := defScope s_is_mark) (by decide +kernel)) (fun _ _ _ _ _ => (pg_name (i := 1) sc_is_mark.nd rfl (Or.inl rfl))) (fun _ _ _ _ _ => pts_nil) (fun _ _ _ _ _ => (pe_cmpR op_in_sign (pv 1) (pe_gs (by rfl) (k_LETTERS T)) rfl))) pa_nil))))))), ?_⟩
  have hlen : l.length ≤ 6 := hl.le
  have hle : (⟨l.toArray⟩ : Str).length = l.length := rfl
  have hpos : 0 < l.length := List.length_pos_iff.mpr hl.ne
  refine ⟨_, rfl, _, _, true, rfl, isb_str, true, rfl, iteT ?_⟩
  refine ⟨_, rfl, _, rfl, le_line (by rw [hle]; omega), _, _, rfl, rfl, true, by rw [hle]; exact congrArg V.bl (decide_eq_true (by omega)), iteT ?_⟩
  refine ⟨_, _, rfl, rfl, _, by rw [hle]; exact congrArg V.bl (decide_eq_true (by omega)), iteT ?_⟩
  refine ⟨_, rfl, _, rfl, lc_map walk_str [] (fun i => .bl true) (lt_line (by show l.toArray.size ≤ _; rw [List.size_toArray]; omega)) (fun _ _ => trivial) ?_ (fun _ _ h => nomatch h) fun D H' hD m e => ?_⟩
  · rintro i x H1 _ R hi m1 ⟨rfl, c, hc, rfl⟩ k
    have hm : c ∈ l := by
      have h2 : l[i]? = some c := by simpa using hc
      exact List.mem_of_getElem? h2
    refine ⟨rfl, _, rfl, c, _, rfl, rfl, ?_⟩
    rw [show decide (c ∈ ("abcdefghijklmnopqrstuvwxyz" : Str).cps.toList) = true from hl.ok c hm]
    exact k _ Mod.refl
  · refine ⟨D, (List.range (⟨l.toArray⟩ : Str).cps.size).map fun _ => true, rfl, SqL.of (e.trans (by rw [all_true])), ?_⟩
    rw [all_true']
    exact q _ m
/-! ### forms -/
theorem tab_mem (p : Pat) : (p.word, He.Dv.str p.form) ∈ tab_FORMS := by
  cases p <;> simp [tab_FORMS, Pat.word, Pat.form]
theorem form_kd (T : Tx w K mg) (p : Pat) : KDct K w (He.ga K "FORMS") p.word (.str p.form) ∧ ∃ u, PySem.W.nsIn K (He.ga K "FORMS") p.word = some (some u) := kdct_of (D_FORMS T) (V_FORMS T) (tab_mem p)
theorem form_len (p : Pat) : p.form.length ≤ 2 := by
  cases p <;> first | exact (by decide +kernel : ("" : Str).length ≤ 2) | exact (by decide +kernel : ("l" : Str).length ≤ 2) | exact (by decide +kernel : ("p" : Str).length ≤ 2) | exact (by decide +kernel : ("pp" : Str).length ≤ 2) | exact (by decide +kernel : ("mp" : Str).length ≤ 2)
def spHasForm : Sp := fun vs H Q _ => ∃ (p : Pat) (v : V), vs = [v] ∧ IsP H v p ∧ p.Ok ∧ ∀ H', Mod [] H H' → Q (.bl true) H'
theorem has_has_form (T : Tx w K mg) : Has P w K mg base 3 "has_form" ["thing"] spHasForm := by
  have H_is_lot := has_is_lot (P := P) (base := base) T
  have H_is_mark := has_is_mark (P := P) (base := base) T
  refine (T.has (d := d_has_form) 5 rfl rfl rfl rfl b_has_form sc_has_form (fun vs H Q E h => ?_) fun cdv A outer s H vs Q E hr h => ?_)
  · obtain ⟨p, v, rfl, _⟩ := h; rfl
  obtain ⟨p, v, rfl, hp, ok, q⟩ := h
  obtain ⟨a, xs, rfl, ha, hxl, tl⟩ := hp.tup
  obtain ⟨kd, u, hu⟩ := form_kd T p
  have fl := form_len p
  refine ⟨_, (pss_cons (ps_if (PW.pt (pw_or (pt_not (pt_val (pe_callB call_isiB (by rfl) (z_isinstance T) (by decide +kernel) (pa_cons (pv 0) (pa_cons (pe_bltn (v := .ty "tuple") (by rfl) (z_tuple T) (by decide +kernel) rfl) pa_nil))))) (pw_or (pt_cmpR op_eq (pe_callB call_len_seq (by rfl) (z_len T) (by decide +kernel) (pa_cons (pv 0) pa_nil)) pe_int (nomark _)) (pw_or (pt_not (pt_val (pe_callB call_isiB (by rfl) (z_isinstance T) (by decide +kernel) (pa_cons (pe_ix ix_tup (pv 0) pe_int (fun _ _ => rfl)) (pa_cons (pe_bltn (v := .ty "str") (by rfl) (z_str T) (by decide +kernel) rfl) pa_nil))))) (pw_or1 (pt_cmpR (op_notIn_kdE (D_FORMS T)) (pe_ix ix_tup (pv 0) pe_int (fun _ _ => rfl)) (pe_gr (by rfl) (g_FORMS T)) rfl)))))) (pss_one (ps_ret pe_bl)) pss_nil)
      (pss_cons (ps_if (pt_cmpR op_ne (pe_callB call_len_seq (by rfl) (z_len T) (by decide +kernel) (pa_cons (pv 0) pa_nil)) (pe_op op_add pe_int (pe_callB call_len (by rfl) (z_len T) (by decide +kernel) (pa_cons (pe_ix ix_kdict (pe_gr (by rfl) (g_FORMS T)) (pe_ix ix_tup (pv 0) pe_int (fun _ _ => rfl)) (fun _ _ => rfl)) pa_nil))) (nomark _)) (pss_one (ps_ret pe_bl)) pss_nil)
      (pss_cons (ps_if (pt_cmpR op_eq (pe_ix ix_tup (pv 0) pe_int (fun _ _ => rfl)) pe_str (nomark _)) (pss_one (ps_ret (pe_callH H_is_lot (hr.mono (by decide)) (by rfl) (g_is_lot T) (pa_cons (pe_ix ix_tup (pv 0) pe_int (fun _ _ => rfl)) pa_nil)))) pss_nil)
      (pss_one (ps_ret (pe_or (pe_cmpR op_ne (pe_ix ix_tup (pv 0) pe_int (fun _ _ => rfl)) pe_str (nomark _)) (pe_one (pe_callH H_is_mark (hr.mono (by decide)) (by rfl) (g_is_mark T) (pa_cons (pe_ix ix_tup (pv 0) pe_int (fun _ _ => rfl)) pa_nil))))))))), ?_⟩
  have e0 : decide (V.int (((V.str p.word :: xs).length : Nat)) = V.int 0) = false := decide_eq_false fun e => by
    have := V.int.inj e
    rw [List.length_cons] at this
    omega
  refine ⟨_, rfl, _, _, true, rfl, isb_tup ha, true, rfl, iteF ?_⟩
  refine ⟨_, rfl, a, _, rfl, .inr (SqT.of ha), rfl, _, rfl, ?_⟩
  rw [e0]
  refine iteF ⟨_, rfl, a, _, 0, _, rfl, rfl, SqT.of ha, at_of (j := 0) rfl rfl, _, _, true, rfl, isb_str, true, rfl, iteF ?_⟩
  refine ⟨_, rfl, a, _, 0, _, rfl, rfl, SqT.of ha, at_of (j := 0) rfl rfl, _, _, rfl, rfl, hu, _, rfl, iteF ?_⟩
  -- the length
  refine ⟨_, rfl, a, _, rfl, .inr (SqT.of ha), _, rfl, a, _, 0, _, rfl, rfl, SqT.of ha, at_of (j := 0) rfl rfl, _, _, _, rfl, rfl, kd, _, _, rfl, ⟨le_line (by omega), rfl⟩, _, _, rfl, rfl, rfl, _, rfl, ?_⟩
  have e1 : (!decide (V.int (((V.str p.word :: xs).length : Nat)) = V.int (1 + ((p.form.length : Nat) : Int)))) = false := by
    rw [decide_eq_true]
    · rfl
    · rw [List.length_cons, hxl]
      exact congrArg V.int (by omega)
  rw [e1]
  refine iteF ?_
  -- a sign's lot
  refine ⟨_, rfl, a, _, 0, _, rfl, rfl, SqT.of ha, at_of (j := 0) rfl rfl, rfl, _, rfl, ?_⟩
  rw [word_is p]
  cases p with
  | sign l =>
    have ex : xs = [.str ⟨l.toArray⟩] := tl
    subst ex
    exact iteT ⟨_, rfl, a, _, 1, _, rfl, rfl, SqT.of ha, at_of (j := 1) rfl rfl, l, rfl, ok, q⟩
  | mark m p =>
    obtain ⟨x, rfl, _⟩ := tl
    refine iteF ⟨_, rfl, a, _, 0, _, rfl, rfl, SqT.of ha, at_of (j := 0) rfl rfl, rfl, false, rfl, iteF ?_⟩
    exact ⟨_, rfl, a, _, 1, _, rfl, rfl, SqT.of ha, at_of (j := 1) rfl rfl, m, rfl, ok.1, q⟩
  | _ => exact iteF ⟨_, rfl, a, _, 0, _, rfl, rfl, SqT.of ha, at_of (j := 0) rfl rfl, rfl, true, rfl, iteT (q _ Mod.refl)⟩
/-! ### the parts of a node -/
def spParts : Sp := fun vs H Q _ => ∃ (p : Pat) (v : V), vs = [v] ∧ IsP H v p ∧ ∀ H' l ys, Mod [] H H' → H l = none → H' l = some (.lst ys) → Paired (fun q y => IsP H' y q) p.kids ys → Q (.ref l) H'
theorem parts_pair {H : Hp} {p : Pat} {xs ys : List V} (tl : Pat.Tail H (IsP H) xs p) (h : Paired (fun i y => xs[i]? = some y) ((List.range (min p.form.cps.size xs.length)).filter fun i => decide (p.form.cps[i]? = some 112)) ys) : Paired (fun q y => IsP H y q) p.kids ys := by
  cases p with
  | non => cases (show xs = [] from tl); cases h; exact .nil
  | emp => cases (show xs = [] from tl); cases h; exact .nil
  | sign l => cases (show xs = _ from tl); cases h; exact .nil
  | thn p q =>
    obtain ⟨x, y, rfl, h1, h2⟩ := tl
    cases h with
    | cons r t => cases t with
      | cons r2 t2 =>
        cases t2
        cases r; cases r2
        exact .cons h1 (.cons h2 .nil)
  | orr p q =>
    obtain ⟨x, y, rfl, h1, h2⟩ := tl
    cases h with
    | cons r t => cases t with
      | cons r2 t2 =>
        cases t2
        cases r; cases r2
        exact .cons h1 (.cons h2 .nil)
  | many p =>
    obtain ⟨x, rfl, h1⟩ := tl
    cases h with
    | cons r t => cases t; cases r; exact .cons h1 .nil
  | few p =>
    obtain ⟨x, rfl, h1⟩ := tl
    cases h with
    | cons r t => cases t; cases r; exact .cons h1 .nil
  | mark m p =>
    obtain ⟨x, rfl, h1⟩ := tl
    cases h with
    | cons r t => cases t; cases r; exact .cons h1 .nil
theorem Pat.Tail.mod {ms : List Addr} {H H' : Hp} {p : Pat} {xs : List V} (m : Mod ms H H') (tl : Pat.Tail H (IsP H) xs p) : Pat.Tail H' (IsP H') xs p := by
  cases p with
  | thn p q => obtain ⟨x, y, e, h1, h2⟩ := tl; exact ⟨x, y, e, h1.mod m, h2.mod m⟩
  | orr p q => obtain ⟨x, y, e, h1, h2⟩ := tl; exact ⟨x, y, e, h1.mod m, h2.mod m⟩
  | many p => obtain ⟨x, e, h1⟩ := tl; exact ⟨x, e, h1.mod m⟩
  | few p => obtain ⟨x, e, h1⟩ := tl; exact ⟨x, e, h1.mod m⟩
  | mark m' p => obtain ⟨x, e, h1⟩ := tl; exact ⟨x, e, h1.mod m⟩
  | _ => exact tl
theorem has_parts_of (T : Tx w K mg) : Has P w K mg base 1 "parts_of" ["pattern"] spParts := by
  refine (T.has (d := d_parts_of) 6 rfl rfl rfl rfl b_parts_of sc_parts_of (fun vs H Q E h => ?_) fun cdv A outer s H vs Q E hr h => ?_)
  · obtain ⟨p, v, rfl, _⟩ := h; rfl
  obtain ⟨p, v, rfl, hp, q⟩ := h
  obtain ⟨a, xs, rfl, ha, hxl, tl⟩ := hp.tup
  obtain ⟨kd, u, hu⟩ := form_kd T p
  have fl := form_len p
  refine ⟨_, (pss_one (ps_ret (pe_lc (own := [("sign", 1), ("part", 2)]) (g := (gTup K 2 (gCons (gName 1) (gCons (gName 2) gNil)))) rfl sc_parts_of.nd (pi_zipST (by rfl) (z_zip T) (pa_cons (pe_ix ix_kdict (pe_gr (by rfl) (g_FORMS T)) (pe_ix ix_tup (pv 0) pe_int (fun _ _ => rfl)) (fun _ _ => rfl)) (pa_cons (pe_slice sl_tup (pv 0) (po_some pe_int) po_none) pa_nil))) (blkOk_by (own := [("sign", 1), ("part", 2)]) (N := ["pattern", "sign", "part"]) (sc := defScope s_parts_of) (by decide +kernel)) (fun _ _ _ _ _ => (pg_tup rfl (pgs_cons (pg_name (i := 1) sc_parts_of.nd rfl (Or.inl rfl)) (pgs_cons (pg_name (i := 2) sc_parts_of.nd rfl (Or.inl rfl)) pgs_nil)))) (fun _ _ _ _ _ => (pts_one (pt_cmpR op_eq (pv 1) pe_str (nomark _)))) (fun _ _ _ _ _ => (pv 2))))), ?_⟩
  refine ⟨_, rfl, a, _, 0, _, rfl, rfl, SqT.of ha, at_of (j := 0) rfl rfl, _, _, _, rfl, rfl, kd, _, rfl, 1, rfl, a, _, rfl, SqT.of ha, ?_, fun b hb => ?_⟩
  · rintro ⟨h1, _⟩
    rw [six1, List.length_cons] at h1
    omega
  have ecut : cutV (V.str p.word :: xs) (some 1) none = xs := by
    unfold cutV
    rw [six1, HT.sIx_none, List.length_cons, show min 1 (xs.length + 1) = 1 by omega, List.drop_one, List.tail_cons, Nat.add_sub_cancel, List.take_length]
  have m1 : Mod [] H (upd H b (.tup (cutV (V.str p.word :: xs) (some 1) none))) := Mod.refl.new hb
  rw [ecut] at m1 ⊢
  refine ⟨p.form, b, xs, rfl, SqT.of upd_same, ?_⟩
  refine lc_rel walk_zipST [] (fun i => decide (p.form.cps[i]? = some 112)) (fun i y _ => xs[i]? = some y) (lt_line (by have : p.form.cps.size ≤ 2 := fl; omega)) (fun _ _ _ _ _ _ h => h) (fun H2 m2 => SqT.of (m2.tup _ _ upd_same)) ?_ (fun _ _ h => nomatch h) fun D H' ys hD m e r => ?_
  · rintro i x H2 _ R S hi m2 ⟨t, c, y, rfl, ht, rfl, hc, hy⟩ k1 k2
    have mt : Mod [] H2 (upd H2 t (.tup [.str ⟨#[c]⟩, y])) := Mod.refl.new ht
    refine ⟨t, _, rfl, SqT.of upd_same, rfl, _, _, rfl, _, _, rfl, rfl, rfl, ?_⟩
    refine ⟨_, rfl, rfl, _, rfl, ?_⟩
    have ed : decide (V.str ⟨#[c]⟩ = V.str "p") = decide (p.form.cps[i]? = some 112) := by
      rw [hc]
      by_cases hcp : c = 112
      · subst hcp; rfl
      · rw [decide_eq_false (fun z => hcp (by injection z with z; injection z with z; injection z with z; injection z)), decide_eq_false (fun z => hcp (Option.some.inj z))]
    rw [ed]
    refine ite2 (fun e => ⟨_, rfl, k1 _ _ mt e hy⟩) fun e => k2 _ mt (Bool.eq_false_iff.mpr e)
  · have hD' : H D = none := by
      by_cases e : D = b
      · rw [e]; exact hb
      · rw [upd_ne e] at hD; exact hD
    exact q H' D ys (m1.trans m) hD' e (parts_pair ((tl.mod m1).mod m) r)
end
end Fr

set_option maxHeartbeats 4000000
namespace Fr
open PySem PySem.Spec PyProof.Rows L2
section
variable {P : Program} {w : World} {K : PySem.W.Frag} {mg : Str → Option Value} {base : Heap}

/-- what waits: a pattern and a number -/
def StkR (H : Hp) (e : Pat × Int) (y : V) : Prop := ∃ t v, y = .ref t ∧ H t = some (.tup [v, .int e.2]) ∧ IsP H v e.1
theorem StkR.mod {ms : List Addr} {H H' : Hp} (m : Mod ms H H') {e : Pat × Int} {y : V} (h : StkR H e y) : StkR H' e y := by
  obtain ⟨t, v, e1, e2, e3⟩ := h
  exact ⟨t, v, e1, m.tup _ _ e2, e3.mod m⟩
def sizes (st : List (Pat × Int)) : Nat := (st.map fun e => e.1.size).sum
theorem sizes_cons (e : Pat × Int) (st : List (Pat × Int)) : sizes (e :: st) = e.1.size + sizes st := by simp [sizes]
theorem sizes_append (s t : List (Pat × Int)) : sizes (s ++ t) = sizes s + sizes t := by simp [sizes]
theorem sizes_rev (s : List (Pat × Int)) : sizes s.reverse = sizes s := by simp [sizes, List.sum_reverse]
theorem sizes_kids (p : Pat) (d : Int) : sizes (p.kids.map fun q => (q, d)) + 1 = p.size := by
  rw [← p.size_kids]; simp [sizes, List.map_map, Function.comp_def]
theorem sizes_len (st : List (Pat × Int)) : st.length ≤ sizes st := by
  induction st with
  | nil => simp
  | cons e r ih => rw [sizes_cons, List.length_cons]; have := e.1.size_pos; omega
theorem kids_len (p : Pat) : p.kids.length ≤ 2 := by cases p <;> simp [Pat.kids]
def spIsPattern : Sp := fun vs H Q _ => ∃ (p : Pat) (v : V), vs = [v] ∧ IsP H v p ∧ p.Ok ∧ p.size ≤ 60 ∧ p.deep ≤ 15 ∧ ∀ H', Mod [] H H' → Q (.bl true) H'
theorem has_is_pattern (T : Tx w K mg) : Has P w K mg base 4 "is_pattern" ["thing"] spIsPattern := by
  have H_has_form := has_has_form (P := P) (base := base) T
  have H_parts_of := has_parts_of (P := P) (base := base) T
  refine (T.has (d := d_is_pattern) 7 rfl rfl rfl rfl b_is_pattern sc_is_pattern (fun vs H Q E h => ?_) fun cdv A outer s H vs Q E hr h => ?_)
  · obtain ⟨p, v, rfl, _⟩ := h; rfl
  obtain ⟨p, v, rfl, hp, ok, hs, hd, q⟩ := h
  refine ⟨_, (pss_cons (ps_par (i := 1) (j := 2) rfl sc_is_pattern.nd rfl rfl (by decide) rfl rfl (pa_cons pe_int (pa_cons (pe_lst (pa_cons (pe_tup (pa_cons (pv 0) (pa_cons pe_int pa_nil))) pa_nil)) pa_nil)) (by rfl))
      (pss_cons (ps_while PassesOwn.never (pt_cmpR op_gt (pe_callB call_len_seq (by rfl) (z_len T) (by decide +kernel) (pa_cons (pv 2) pa_nil)) pe_int (nomark _)) (pss_cons (ps_asg (pe_bm0 PySem.F.plainAttrs_list PySem.F.slot_list_pop PySem.F.type_list_pop mt_pop (pv 2)) (pg_tup rfl (pgs_cons (pg_name (i := 3) sc_is_pattern.nd rfl (Or.inl rfl)) (pgs_cons (pg_name (i := 4) sc_is_pattern.nd rfl (Or.inr rfl)) pgs_nil))))
      (pss_cons (ps_aug (i := 1) sc_is_pattern.nd rfl (Or.inl rfl) pe_int ip_add)
      (pss_cons (ps_if (PW.pt (pw_or (pt_cmpR op_gt (pv 1) (pe_gi (by rfl) (k_MOST_NODES T)) (nomark _)) (pw_or (pt_cmpR op_gt (pv 4) (pe_gi (by rfl) (k_MOST_DEEP T)) (nomark _)) (pw_or1 (pt_not (pt_val (pe_callH H_has_form (hr.mono (by decide)) (by rfl) (g_has_form T) (pa_cons (pv 3) pa_nil)))))))) (pss_one (ps_ret pe_bl)) pss_nil)
      (pss_one (ps_expr (pe_bm PySem.F.plainAttrs_list PySem.F.slot_list_extend PySem.F.type_list_extend mt_extend (pv 2) (pa_cons (pe_lc (own := [("part", 5)]) (g := (gName 5)) (tt := tYes) rfl sc_is_pattern.nd (pi_list (pe_callH H_parts_of (hr.mono (by decide)) (by rfl) (g_parts_of T) (pa_cons (pv 3) pa_nil))) (blkOk_by (own := [("part", 5)]) (N := ["thing", "many", "waiting", "here", "depth", "part"]) (sc := defScope s_is_pattern) (by decide +kernel)) (fun _ _ _ _ _ => (pg_name (i := 5) sc_is_pattern.nd rfl (Or.inl rfl))) (fun _ _ _ _ _ => pts_nil) (fun _ _ _ _ _ => (pe_tup (pa_cons (pv 5) (pa_cons (pe_op op_add (pv 4) pe_int) pa_nil))))) pa_nil))))))))
      (pss_one (ps_ret pe_bl)))), ?_⟩
  refine ⟨_, rfl, ln2, fun t ht => ⟨ln1, fun l hl => ⟨_, _, rfl, ?_⟩⟩⟩
  have hl0 : H l = none := (Mod.refl (ms := []).new ht).back hl
  refine ⟨fun m σ H' => ∃ (st : List (Pat × Int)) (ys : List V) (many : Int) (y3 y4 y5 : Option V), σ = [some v, some (.int many), some (.ref l), y3, y4, y5] ∧ Mod [] H H' ∧ H' l = some (.lst ys) ∧ Paired (StkR H') st ys.reverse ∧
      m = sizes st ∧ (0 ≤ many ∧ many + sizes st ≤ 60) ∧ ∀ e ∈ st, e.1.Ok ∧ e.2 + e.1.deep ≤ 16, ⟨p.size, [(p, 1)], [.ref t], 0, none, none, none, rfl, (Mod.refl.new ht).new hl, upd_same, ?_, by simp [sizes], ⟨by decide, by simp [sizes]; omega⟩, ?_⟩, ?_⟩
  · have m1 : Mod [] (upd H t (.tup [v, .int 1])) (upd (upd H t (.tup [v, .int 1])) l (.lst [.ref t])) := Mod.refl.new hl
    exact .cons ⟨t, v, rfl, m1.tup _ _ upd_same, hp.mod ((Mod.refl (ms := []).new ht).new hl)⟩ .nil
  · intro e he
    simp at he
    subst he
    exact ⟨ok, by show (1 : Int) + (p.deep : Int) ≤ 16; omega⟩
  · rintro m σ H1 ⟨st, ys, many, y3, y4, y5, rfl, m1, el, pr, rfl, ⟨hmany0, hmany⟩, hall⟩
    have hlen : st.length = ys.length := by rw [pd_len pr, List.length_reverse]
    have hszl := sizes_len st
    refine ⟨_, rfl, l, ys, rfl, .inl (SqL.of el), _, _, rfl, rfl, _, rfl, ite2 (fun hpos => ?_) (fun hpos => ?_)⟩
    · cases st with
      | nil => simp at hlen; rw [← hlen] at hpos; exact absurd hpos (by decide)
      | cons e rest =>
        obtain ⟨pe, d⟩ := e
        obtain ⟨y, ysr, ey⟩ : ∃ y ysr, ys.reverse = y :: ysr := by
          cases hh : ys.reverse with
          | nil => rw [hh] at pr; cases pr
          | cons y r => exact ⟨y, r, rfl⟩
        have eys : ys = ysr.reverse ++ [y] := by rw [← List.reverse_reverse ys, ey, List.reverse_cons]
        rw [ey] at pr
        obtain ⟨⟨t1, v1, rfl, ht1, hp1⟩, pr'⟩ : StkR H1 (pe, d) y ∧ Paired (StkR H1) rest ysr := by cases pr with | cons a b => exact ⟨a, b⟩
        obtain ⟨ok1, hd1⟩ := hall _ (List.mem_cons_self ..)
        have hdrop : ys.dropLast = ysr.reverse := by rw [eys, List.dropLast_concat]
        have hlast : ys[ys.length - 1]? = some (.ref t1) := by rw [eys]; simp
        rw [sizes_cons] at hmany hszl
        simp only at hmany hszl hd1 ok1
        have hsz1 := pe.size_pos
        refine ⟨fun σ' H' => ∃ m', m' < sizes ((pe, d) :: rest) ∧ _, fun _ _ h => h, ?_⟩
        have m2 : Mod [] H (upd H1 l (.lst ys.dropLast)) := m1.putNew el hl0
        have m2l : Mod [l] H1 (upd H1 l (.lst ys.dropLast)) := Mod.refl.put el (fun _ z => nomatch z) (List.mem_singleton.mpr rfl)
        have hp2 := hp1.mod m2l
        refine ⟨_, rfl, .inl ⟨rfl, _, SqL.of el⟩, l, ys, _, rfl, rfl, el, hlast, t1, _, rfl, m2l.sqT ht1, rfl, _, _, rfl, _, _, rfl, rfl, ?_⟩
        refine ⟨_, rfl, _, _, rfl, rfl, ?_⟩
        refine ⟨_, rfl, _, _, rfl, rfl, _, rfl, iteN (by show ¬ 60 < many + 1; omega) ⟨_, rfl, _, _, rfl, rfl, _, rfl, iteN (by have := pe.deep_pos; show ¬ 15 < d; omega) ⟨_, rfl, pe, _, rfl, hp2, ok1, fun H3 m3 => ⟨true, rfl, iteF ?_⟩⟩⟩⟩
        have el3 : H3 l = some (.lst ys.dropLast) := m3.keep _ _ upd_same (by simp)
        refine ⟨_, rfl, .inl ⟨rfl, _, SqL.of el3⟩, _, rfl, pe, _, rfl, hp2.mod m3, fun H4 l4 ys4 m4 hl4 e4 r4 => ⟨l4, rfl, ⟨_, SqL.of e4⟩, ?_⟩⟩
        have hk := kids_len pe
        have hyl : ys4.length = pe.kids.length := (pd_len r4).symm
        refine lc_all walk_list [] (fun i y H => ∃ t v q, y = .ref t ∧ H t = some (.tup [v, .int (d + 1)]) ∧ pe.kids[i]? = some q ∧ IsP H v q) (lt_line (by omega)) (fun ms H H' i y m ⟨t, v, q, a, b, c, e⟩ => ⟨t, v, q, a, m.tup _ _ b, c, e.mod m⟩)
          (fun H5 m5 => SqL.of (m5.keep _ _ e4 (by simp))) ?_ (fun _ _ h => nomatch h) fun D H5 zs hD m5 e5 r5 => ?_
        · rintro i x H5 _ R hi m5 ⟨rfl, hx⟩ k
          have hi2 : i < pe.kids.length := by omega
          obtain ⟨x', hx', hq⟩ := pd_get r4 i pe.kids[i] (List.getElem?_eq_getElem hi2)
          rw [hx] at hx'
          cases hx'
          refine ⟨rfl, _, rfl, _, rfl, _, _, rfl, rfl, ln2, fun t5 ht5 => k _ _ (Mod.refl.new ht5) ⟨t5, x, pe.kids[i], rfl, upd_same, List.getElem?_eq_getElem hi2, (hq.mod m5).mod (Mod.refl (ms := []).new ht5)⟩⟩
        · have el5 : H5 l = some (.lst ys.dropLast) := m5.keep _ _ (m4.keep _ _ el3 (by simp)) (by simp)
          have hzl : zs.length = pe.kids.length := by rw [← pd_len r5, List.length_range, hyl]
          have m6 : Mod [l] H5 (upd H5 l (.lst (ys.dropLast ++ zs))) := Mod.refl.put el5 (fun _ z => nomatch z) (List.mem_singleton.mpr rfl)
          have mm : Mod [l] H1 (upd H5 l (.lst (ys.dropLast ++ zs))) := (((m2l.trans m3.nil).trans m4.nil).trans m5.nil).trans m6
          refine ⟨l, D, _, zs, rfl, rfl, el5, e5, le_line (by rw [List.length_dropLast]; omega), ?_⟩
          have hks := sizes_kids pe (d + 1)
          refine ⟨sizes ((pe.kids.map fun q => (q, d + 1)).reverse ++ rest), ?_, (pe.kids.map fun q => (q, d + 1)).reverse ++ rest, ys.dropLast ++ zs, many + 1, _, _, _, rfl, ((m2.trans m3).trans m4).trans m5 |>.putNew el5 hl0, upd_same, ?_, rfl, ?_, ?_⟩
          · rw [sizes_cons, sizes_append, sizes_rev]
            show _ < pe.size + _
            omega
          · rw [hyl] at r5
            have g1 : Paired (StkR (upd H5 l (.lst (ys.dropLast ++ zs)))) (pe.kids.map fun q => (q, d + 1)) zs := pd_mapL (pd_range r5 fun i a b ha ⟨t, v, q, h1, h2, h3, h4⟩ => by
              rw [ha] at h3
              cases h3
              exact StkR.mod m6 ⟨t, v, h1, h2, h4⟩)
            have g2 := pd_append (pd_rev g1) (pd_imp (fun e y h => h.mod mm) pr')
            rw [List.reverse_append, hdrop, List.reverse_reverse]
            rw [hdrop] at g2
            exact g2
          · rw [sizes_append, sizes_rev]
            have : pe.size = sizes (pe.kids.map fun q => (q, d + 1)) + 1 := hks.symm
            exact ⟨by omega, by omega⟩
          · intro e he
            rcases List.mem_append.mp he with he | he
            · rw [List.mem_reverse] at he
              obtain ⟨qk, hq, rfl⟩ := List.mem_map.mp he
              have := Pat.deep_kid hq
              exact ⟨Pat.Ok.kids ok1 qk hq, by show d + 1 + (qk.deep : Int) ≤ 16; omega⟩
            · exact hall e (List.mem_cons_of_mem _ he)
    · exact q _ m1
def spCheckPattern : Sp := fun vs H Q _ => ∃ (p : Pat) (v : V), vs = [v] ∧ IsP H v p ∧ p.Ok ∧ p.size ≤ 60 ∧ p.deep ≤ 15 ∧ ∀ H', Mod [] H H' → Q .non H'
theorem has_check_pattern (T : Tx w K mg) : Has P w K mg base 5 "check_pattern" ["thing"] spCheckPattern := by
  have H_is_pattern := has_is_pattern (P := P) (base := base) T
  refine (T.has (d := d_check_pattern) 8 rfl rfl rfl rfl b_check_pattern sc_check_pattern (fun vs H Q E h => ?_) fun cdv A outer s H vs Q E hr h => ?_)
  · obtain ⟨p, v, rfl, _⟩ := h; rfl
  obtain ⟨p, v, rfl, hp, ok, hs, hd, q⟩ := h
  refine ⟨_, (pss_one (ps_if (pt_not (pt_val (pe_callH H_is_pattern (hr.mono (by decide)) (by rfl) (g_is_pattern T) (pa_cons (pv 0) pa_nil)))) (pss_one ps_never) pss_nil)), ?_⟩
  exact ⟨_, rfl, p, v, rfl, hp, ok, hs, hd, fun H1 m1 => ⟨true, rfl, iteF (q _ m1)⟩⟩
end
end Fr

set_option maxHeartbeats 4000000
namespace Fr
open PySem PySem.Spec PyProof.Rows L2
section
variable {P : Program} {w : World} {K : PySem.W.Frag} {mg : Str → Option Value} {base : Heap}

/-! ### the rows of nodes -/
def intsV (ns : List Nat) : List V := ns.map fun (n : Nat) => V.int (n : Int)
/-- the rows fs stand as the items rs, the lists of parts at cs -/
structure RowsR (H : Hp) (fs : Rows) (rs : List V) (cs : List Addr) : Prop where
  l1 : fs.length = rs.length
  l2 : fs.length = cs.length
  nd : cs.Nodup
  row : ∀ (i : Nat) (r : Pat × List Nat), fs[i]? = some r → ∃ (t : Addr) (v : V) (c : Addr), rs[i]? = some (.ref t) ∧ cs[i]? = some c ∧ H t = some (.tup [v, .ref c]) ∧ IsP H v r.1 ∧ H c = some (.lst (intsV r.2))
theorem RowsR.mod {ms : List Addr} {H H' : Hp} {fs : Rows} {rs : List V} {cs : List Addr} (m : Mod ms H H') (h : RowsR H fs rs cs) (hc : ∀ c ∈ cs, c ∉ ms) : RowsR H' fs rs cs :=
  ⟨h.l1, h.l2, h.nd, fun i r hi => by
    obtain ⟨t, v, c, h1, h2, h3, h4, h5⟩ := h.row i r hi
    exact ⟨t, v, c, h1, h2, m.tup _ _ h3, h4.mod m, m.keep _ _ h5 (hc c (List.mem_of_getElem? h2))⟩⟩
theorem RowsR.kid {H : Hp} {fs : Rows} {rs : List V} {cs : List Addr} (h : RowsR H fs rs cs) {a n : Nat} {r : Pat × List Nat} {c : Addr} (ha : fs[a]? = some r) (hc : cs[a]? = some c) :
    RowsR (upd H c (.lst (intsV r.2 ++ [.int (n : Int)]))) (addKid (a : Nat) n fs) rs cs := by
  obtain ⟨t0, v0, c0, g1, g2, g3, g4, g5⟩ := h.row a r ha
  rw [hc] at g2
  cases g2
  have m : Mod [c] H (upd H c (.lst (intsV r.2 ++ [.int (n : Int)]))) := Mod.refl.put g5 (fun _ z => nomatch z) (List.mem_singleton.mpr rfl)
  refine ⟨by rw [addKid_len]; exact h.l1, by rw [addKid_len]; exact h.l2, h.nd, fun i q hi => ?_⟩
  unfold addKid at hi
  rw [if_pos (by omega), show ((a : Nat) : Int).toNat = a by omega, List.getElem?_modify] at hi
  by_cases e : a = i
  · subst e
    rw [ha] at hi
    simp at hi
    subst hi
    exact ⟨t0, v0, c, g1, hc, m.tup _ _ g3, g4.mod m, by rw [upd_same]; simp [intsV]⟩
  · have hi2 : fs[i]? = some q := by
      cases hh : fs[i]? with
      | none => rw [hh] at hi; cases hi
      | some z => rw [hh] at hi; simpa [e] using hi
    obtain ⟨t, v, c', h1, h2, h3, h4, h5⟩ := h.row i q hi2
    have hne : c' ≠ c := fun z => by
      subst z
      exact e (nd_ix h.nd hc h2)
    exact ⟨t, v, c', h1, h2, m.tup _ _ h3, h4.mod m, by rw [upd_ne hne]; exact h5⟩
theorem RowsR.snoc {H : Hp} {fs : Rows} {rs : List V} {cs : List Addr} (h : RowsR H fs rs cs) {p : Pat} {v : V} {t c : Addr} (ht : H t = some (.tup [v, .ref c])) (hc : H c = some (.lst [])) (hp : IsP H v p) (hn : c ∉ cs) :
    RowsR H (fs ++ [(p, [])]) (rs ++ [.ref t]) (cs ++ [c]) := by
  refine ⟨by simp [h.l1], by simp [h.l2], nd_snoc h.nd hn, fun i r hi => ?_⟩
  by_cases e : i < fs.length
  · rw [List.getElem?_append_left e] at hi
    obtain ⟨t', v', c', h1, h2, h3, h4, h5⟩ := h.row i r hi
    exact ⟨t', v', c', by rw [List.getElem?_append_left (by rw [← h.l1]; exact e)]; exact h1, by rw [List.getElem?_append_left (by rw [← h.l2]; exact e)]; exact h2, h3, h4, h5⟩
  · have e2 : i = fs.length := by
      have := (List.getElem?_eq_some_iff.mp hi).1
      simp at this
      omega
    subst e2
    simp at hi
    subst hi
    exact ⟨t, v, c, by rw [h.l1]; simp, by rw [h.l2]; simp, ht, hp, hc⟩
theorem addKid_kid {a : Int} {n i : Nat} {fs : Rows} {r : Pat × List Nat} (h : (addKid a n fs)[i]? = some r) : fs[i]? = some r ∨ ∃ r', fs[i]? = some r' ∧ r.2.length = r'.2.length + 1 := by
  unfold addKid at h
  split at h
  · rw [List.getElem?_modify] at h
    cases hh : fs[i]? with
    | none => rw [hh] at h; simp at h
    | some z =>
      rw [hh] at h
      by_cases e : a.toNat = i
      · simp [e] at h
        exact .inr ⟨z, rfl, by rw [← h]; simp⟩
      · exact .inl (by simpa [e] using h)
  · exact .inl h
/-- the rows of a pattern stand in a new list at f -/
def spNodeRows : Sp := fun vs H Q _ => ∃ (p : Pat) (v : V), vs = [v] ∧ IsP H v p ∧ p.size ≤ 60 ∧ ∀ H' f rs cs, Mod [] H H' → H f = none → (∀ c ∈ cs, H c = none) → H' f = some (.lst rs) → RowsR H' (rowsFrom p 0) rs cs → Q (.ref f) H'
theorem has_node_rows (T : Tx w K mg) : Has P w K mg base 2 "node_rows" ["pattern"] spNodeRows := by
  have H_parts_of := has_parts_of (P := P) (base := base) T
  refine (T.has (d := d_node_rows) 9 rfl rfl rfl rfl b_node_rows sc_node_rows (fun vs H Q E h => ?_) fun cdv A outer s H vs Q E hr h => ?_)
  · obtain ⟨p, v, rfl, _⟩ := h; rfl
  obtain ⟨p, v, rfl, hp, hs, q⟩ := h
  refine ⟨_, (pss_cons (ps_par (i := 1) (j := 2) rfl sc_node_rows.nd rfl rfl (by decide) rfl rfl (pa_cons (pe_lst pa_nil) (pa_cons (pe_lst (pa_cons (pe_tup (pa_cons (pv 0) (pa_cons (pe_un un_neg pe_int) pa_nil))) pa_nil)) pa_nil)) (by rfl))
      (pss_cons (ps_while PassesOwn.never (pt_cmpR op_gt (pe_callB call_len_seq (by rfl) (z_len T) (by decide +kernel) (pa_cons (pv 2) pa_nil)) pe_int (nomark _)) (pss_cons (ps_asg (pe_bm0 PySem.F.plainAttrs_list PySem.F.slot_list_pop PySem.F.type_list_pop mt_pop (pv 2)) (pg_tup rfl (pgs_cons (pg_name (i := 3) sc_node_rows.nd rfl (Or.inl rfl)) (pgs_cons (pg_name (i := 4) sc_node_rows.nd rfl (Or.inl rfl)) pgs_nil))))
      (C8.pss_cut (ps_if (pt_cmpR op_ge (pv 4) pe_int (nomark _)) (pss_one (ps_expr (pe_bm PySem.F.plainAttrs_list PySem.F.slot_list_append PySem.F.type_list_append mt_append (pe_ix ix_tup (pe_ix ix_list (pv 1) (pv 4) (fun _ _ => rfl)) pe_int (fun _ _ => rfl)) (pa_cons (pe_callB call_len_seq (by rfl) (z_len T) (by decide +kernel) (pa_cons (pv 1) pa_nil)) pa_nil)))) pss_nil)
      (pss_cons (ps_set (i := 5) sc_node_rows.nd rfl (Or.inr rfl) (pe_callB call_len_seq (by rfl) (z_len T) (by decide +kernel) (pa_cons (pv 1) pa_nil)))
      (pss_cons (ps_expr (pe_bm PySem.F.plainAttrs_list PySem.F.slot_list_append PySem.F.type_list_append mt_append (pv 1) (pa_cons (pe_tup (pa_cons (pv 3) (pa_cons (pe_lst pa_nil) pa_nil))) pa_nil)))
      (pss_one (ps_expr (pe_bm PySem.F.plainAttrs_list PySem.F.slot_list_extend PySem.F.type_list_extend mt_extend (pv 2) (pa_cons (pe_revL (pe_lc (own := [("part", 6)]) (g := (gName 6)) (tt := tYes) rfl sc_node_rows.nd (pi_list (pe_callH H_parts_of (hr.mono (by decide)) (by rfl) (g_parts_of T) (pa_cons (pv 3) pa_nil))) (blkOk_by (own := [("part", 6)]) (N := ["pattern", "found", "waiting", "here", "above", "number", "part"]) (sc := defScope s_node_rows) (by decide +kernel)) (fun _ _ _ _ _ => (pg_name (i := 6) sc_node_rows.nd rfl (Or.inl rfl))) (fun _ _ _ _ _ => pts_nil) (fun _ _ _ _ _ => (pe_tup (pa_cons (pv 6) (pa_cons (pv 5) pa_nil)))))) pa_nil)))))))))
      (pss_one (ps_ret (pv 1))))), ?_⟩
  refine ⟨le_line (by decide), fun f hf => ⟨_, rfl, _, rfl, ln2, fun t ht => ⟨ln1, fun l hl => ⟨_, _, rfl, ?_⟩⟩⟩⟩
  have mA : Mod [] H (upd H f (.lst [])) := Mod.refl.new hf
  have mB := mA.new (o := .tup [v, .int (-1)]) ht
  have hf0 := hf
  have hl0 : H l = none := mB.back hl
  have hfl : f ≠ l := ne_of_none (by rw [upd_ne (ne_of_none upd_same ht)]; exact upd_same) hl
  refine ⟨fun m σ H1 => ∃ (st : List (Pat × Int)) (ys : List V) (fs : Rows) (rs : List V) (cs : List Addr) (y3 y4 y5 y6 : Option V), σ = [some v, some (.ref f), some (.ref l), y3, y4, y5, y6] ∧ Mod [] H H1 ∧ H1 l = some (.lst ys) ∧ Paired (StkR H1) st ys.reverse ∧
      H1 f = some (.lst rs) ∧ RowsR H1 fs rs cs ∧ m = sizes st ∧ fs.length + sizes st ≤ 60 ∧ st.foldl (fun f q => emit q.1 q.2 f) fs = rowsFrom p 0 ∧ (∀ e ∈ st, -1 ≤ e.2 ∧ e.2 < fs.length) ∧ (∀ c ∈ cs, H c = none ∧ c ≠ f ∧ c ≠ l) ∧ (∀ (i : Nat) (r : Pat × List Nat), fs[i]? = some r → r.2.length ≤ fs.length),
    ⟨p.size, [(p, -1)], [.ref t], [], [], [], none, none, none, none, rfl, mB.new hl, upd_same, ?_, ?_, ⟨rfl, rfl, List.nodup_nil, fun i r h => by simp at h⟩, by simp [sizes], by simp [sizes]; omega, emit_top p, ?_, (fun c h => by simp at h), fun i r h => by simp at h⟩, ?_⟩
  · exact .cons ⟨t, v, rfl, by rw [upd_ne (ne_of_none upd_same hl)]; exact upd_same, hp.mod (mB.new hl)⟩ .nil
  · rw [upd_ne hfl, upd_ne (ne_of_none upd_same ht), upd_same]
  · intro e he
    simp at he
    subst he
    exact ⟨by show (-1 : Int) ≤ -1; decide, by show (-1 : Int) < 0; decide⟩
  · rintro m σ H1 ⟨st, ys, fs, rs, cs, y3, y4, y5, y6, rfl, m1, el, pr, ef, rr, rfl, hsz, hfold, hab, hcs, hkb⟩
    have hlen : st.length = ys.length := by rw [pd_len pr, List.length_reverse]
    have hszl := sizes_len st
    refine ⟨_, rfl, l, ys, rfl, .inl (SqL.of el), _, _, rfl, rfl, _, rfl, ite2 (fun hpos => ?_) (fun hpos => ?_)⟩
    · cases st with
      | nil => simp at hlen; rw [← hlen] at hpos; exact absurd hpos (by decide)
      | cons e rest =>
        obtain ⟨pe, a⟩ := e
        obtain ⟨y, ysr, ey⟩ : ∃ y ysr, ys.reverse = y :: ysr := by
          cases hh : ys.reverse with
          | nil => rw [hh] at pr; cases pr
          | cons y r => exact ⟨y, r, rfl⟩
        have eys : ys = ysr.reverse ++ [y] := by rw [← List.reverse_reverse ys, ey, List.reverse_cons]
        rw [ey] at pr
        obtain ⟨⟨t1, v1, rfl, ht1, hp1⟩, pr'⟩ : StkR H1 (pe, a) y ∧ Paired (StkR H1) rest ysr := by cases pr with | cons a b => exact ⟨a, b⟩
        have hab1 := hab _ (List.mem_cons_self ..)
        have hdrop : ys.dropLast = ysr.reverse := by rw [eys, List.dropLast_concat]
        have hlast : ys[ys.length - 1]? = some (.ref t1) := by rw [eys]; simp
        rw [sizes_cons] at hsz hszl
        simp only at hsz hszl hab1 ht1 hp1
        have hsz1 := pe.size_pos
        refine ⟨fun σ' H' => ∃ m', m' < sizes ((pe, a) :: rest) ∧ _, fun _ _ h => h, ?_⟩
        have m2 : Mod [] H (upd H1 l (.lst ys.dropLast)) := m1.putNew el hl0
        have m2l : Mod [l] H1 (upd H1 l (.lst ys.dropLast)) := Mod.refl.put el (fun _ z => nomatch z) (List.mem_singleton.mpr rfl)
        have hp2 := hp1.mod m2l
        have ef2 : upd H1 l (.lst ys.dropLast) f = some (.lst rs) := by rw [upd_ne hfl]; exact ef
        have rr2 := rr.mod m2l fun c hc z => (hcs c hc).2.2 (List.mem_singleton.mp z)
        refine ⟨_, rfl, .inl ⟨rfl, _, SqL.of el⟩, l, ys, _, rfl, rfl, el, hlast, t1, _, rfl, m2l.sqT ht1, rfl, _, _, rfl, _, _, rfl, rfl, ?_⟩
        -- found[above][1].append(len(found))
        refine ⟨fun σ' H3 => σ' = [some v, some (.ref f), some (.ref l), some v1, some (.int a), y5, y6] ∧ Mod [] H H3 ∧ (∃ ms, Mod ms (upd H1 l (.lst ys.dropLast)) H3 ∧ ∀ b ∈ ms, b ≠ l ∧ b ≠ f) ∧ RowsR H3 (addKid a fs.length fs) rs cs, ?_, ?_⟩
        · refine ⟨_, rfl, _, _, rfl, rfl, _, rfl, ite2 (fun ha => ?_) (fun ha => ?_)⟩
          · have ha0 : 0 ≤ a := of_decide_eq_true ha
            obtain ⟨n, rfl⟩ : ∃ n : Nat, a = n := ⟨a.toNat, by omega⟩
            have hn : n < fs.length := by omega
            obtain ⟨t3, v3, c3, g1, g2, g3, g4, g5⟩ := rr2.row n fs[n] (List.getElem?_eq_getElem hn)
            have hc3 := hcs c3 (List.mem_of_getElem? g2)
            refine ⟨_, rfl, _, rfl, f, rs, _, _, rfl, rfl, SqL.of ef2, at_of (j := n) rfl g1, t3, _, 1, _, rfl, rfl, SqT.of g3, at_of (j := 1) rfl rfl, .inl ⟨rfl, _, SqL.of g5⟩, _, rfl, f, rs, rfl, .inl (SqL.of ef2), c3, _, _, rfl, rfl, g5, lt_line ?_, ?_⟩
            · have : (intsV fs[n].2).length = fs[n].2.length := by simp [intsV]
              rw [this]
              have := hkb n fs[n] (List.getElem?_eq_getElem hn)
              omega
            · have hlen2 : rs.length = fs.length := rr.l1.symm
              have hc3l : c3 ≠ l := hc3.2.2
              refine ⟨rfl, m2.putNew g5 hc3.1, ⟨[c3], Mod.refl.put g5 (fun _ z => nomatch z) (List.mem_singleton.mpr rfl), fun b hb => ?_⟩, ?_⟩
              · rw [List.mem_singleton.mp hb]; exact ⟨hc3l, hc3.2.1⟩
              · rw [hlen2]; exact rr2.kid (List.getElem?_eq_getElem hn) g2
          · have ha0 : ¬ 0 ≤ a := fun z => ha (decide_eq_true z)
            refine ⟨rfl, m2, ⟨[], Mod.refl, fun b hb => nomatch hb⟩, ?_⟩
            unfold addKid
            rw [if_neg ha0]
            exact rr2
        · rintro σ' H3 ⟨rfl, m3, ⟨ms, m3s, hms⟩, rr3⟩
          have ef3 : H3 f = some (.lst rs) := m3s.keep _ _ ef2 fun z => (hms f z).2 rfl
          have el3 : H3 l = some (.lst ys.dropLast) := m3s.keep _ _ upd_same fun z => (hms l z).1 rfl
          have hrl : rs.length = fs.length := rr.l1.symm
          -- number = len(found); found.append((here, []))
          refine ⟨_, rfl, f, rs, rfl, .inl (SqL.of ef3), ?_⟩
          refine ⟨_, rfl, .inl ⟨rfl, _, SqL.of ef3⟩, _, rfl, le_line (by decide), fun c4 hc4 => ⟨ln2, fun t4 ht4 => ⟨f, rs, _, rfl, rfl, ?_, lt_line (by omega), ?_⟩⟩⟩
          · exact ((Mod.refl (ms := []).new hc4).new ht4).keep _ _ ef3 (by simp)
          have m4 : Mod [] H3 (upd (upd H3 c4 (.lst [])) t4 (.tup [v1, .ref c4])) := (Mod.refl.new hc4).new ht4
          have ef4 := m4.keep _ _ ef3 (by simp)
          have m5 : Mod [f] H3 (upd (upd (upd H3 c4 (.lst [])) t4 (.tup [v1, .ref c4])) f (.lst (rs ++ [.ref t4]))) := m4.nil.put ef4 (fun _ z => nomatch z) (List.mem_singleton.mpr rfl)
          have m5H : Mod [] H (upd (upd (upd H3 c4 (.lst [])) t4 (.tup [v1, .ref c4])) f (.lst (rs ++ [.ref t4]))) := (m3.trans m4).putNew ef4 hf0
          have hc40 : H c4 = none := m3.back hc4
          have hc4f : c4 ≠ f := (ne_of_none ef3 hc4).symm
          have hc4l : c4 ≠ l := (ne_of_none el3 hc4).symm
          have hc4cs : c4 ∉ cs := fun z => by
            obtain ⟨i, hi⟩ := List.mem_iff_getElem?.mp z
            have hil : i < fs.length := by
              have := (List.getElem?_eq_some_iff.mp hi).1
              rw [rr.l2]; exact this
            have hil2 : i < (addKid a fs.length fs).length := by rw [addKid_len]; exact hil
            obtain ⟨t9, v9, c9, h1, h2, h3, h4, h5⟩ := rr3.row i _ (List.getElem?_eq_getElem hil2)
            rw [hi] at h2
            cases h2
            rw [hc4] at h5
            cases h5
          have ec4 : upd (upd (upd H3 c4 (.lst [])) t4 (.tup [v1, .ref c4])) f (.lst (rs ++ [.ref t4])) c4 = some (.lst []) := by
            rw [upd_ne hc4f, upd_ne (ne_of_none upd_same ht4), upd_same]
          have et4 : upd (upd (upd H3 c4 (.lst [])) t4 (.tup [v1, .ref c4])) f (.lst (rs ++ [.ref t4])) t4 = some (.tup [v1, .ref c4]) := by
            rw [upd_ne (ne_of upd_same ef4 (by intro z; cases z)), upd_same]
          have hp5 := ((hp2.mod m3s).mod m5)
          have rr5 := (rr3.mod m5 fun c hc z => (hcs c hc).2.1 (List.mem_singleton.mp z)).snoc et4 ec4 hp5 hc4cs
          generalize hH5 : upd (upd (upd H3 c4 (.lst [])) t4 (.tup [v1, .ref c4])) f (.lst (rs ++ [.ref t4])) = H5 at *
          have el5 : H5 l = some (.lst ys.dropLast) := m5.keep _ _ el3 (fun z => hfl (List.mem_singleton.mp z).symm)
          have ef5 : H5 f = some (.lst (rs ++ [.ref t4])) := by rw [← hH5]; exact upd_same
          -- waiting.extend([(part, number) for part in parts_of(here)][::-1])
          refine ⟨_, rfl, .inl ⟨rfl, _, SqL.of el5⟩, _, rfl, pe, _, rfl, hp5, fun H6 l6 ys6 m6 hl6 e6 r6 => ⟨l6, rfl, ⟨_, SqL.of e6⟩, ?_⟩⟩
          have hk := kids_len pe
          have hyl : ys6.length = pe.kids.length := (pd_len r6).symm
          refine lc_all walk_list [] (fun i y H => ∃ t v q, y = .ref t ∧ H t = some (.tup [v, .int (rs.length : Nat)]) ∧ pe.kids[i]? = some q ∧ IsP H v q) (lt_line (by omega)) (fun ms H H' i y m ⟨t, v, q, a, b, c, e⟩ => ⟨t, v, q, a, m.tup _ _ b, c, e.mod m⟩)
            (fun H7 m7 => SqL.of (m7.keep _ _ e6 (by simp))) ?_ (fun _ _ h => nomatch h) fun D H7 zs hD m7 e7 r7 => ?_
          · rintro i x H7 _ R hi m7 ⟨rfl, hx⟩ k
            have hi2 : i < pe.kids.length := by omega
            obtain ⟨x', hx', hq⟩ := pd_get r6 i pe.kids[i] (List.getElem?_eq_getElem hi2)
            rw [hx] at hx'
            cases hx'
            exact ⟨rfl, _, rfl, _, rfl, ln2, fun t8 ht8 => k _ _ (Mod.refl.new ht8) ⟨t8, x, pe.kids[i], rfl, upd_same, List.getElem?_eq_getElem hi2, (hq.mod m7).mod (Mod.refl (ms := []).new ht8)⟩⟩
          · refine ⟨D, zs, rfl, SqL.of e7, fun g hg => ?_⟩
            have m7b : Mod [] H5 (upd H7 g (.lst zs.reverse)) := (m6.trans m7).new hg
            have el8 := m7b.keep _ _ el5 (by simp)
            have ef8 := m7b.keep _ _ ef5 (by simp)
            have hzl : zs.length = pe.kids.length := by rw [← pd_len r7, List.length_range, hyl]
            generalize hH8 : upd H7 g (.lst zs.reverse) = H8 at *
            have eg8 : H8 g = some (.lst zs.reverse) := by rw [← hH8]; exact upd_same
            have m78 : Mod [] H7 H8 := by rw [← hH8]; exact Mod.refl.new hg
            have m9 : Mod [l] H8 (upd H8 l (.lst (ys.dropLast ++ zs.reverse))) := Mod.refl.put el8 (fun _ z => nomatch z) (List.mem_singleton.mpr rfl)
            refine ⟨l, g, _, zs.reverse, rfl, rfl, el8, eg8, le_line (by rw [List.length_dropLast, List.length_reverse]; omega), ?_⟩
            have hks := sizes_kids pe (rs.length : Nat)
            rw [hyl] at r7
            have mm : Mod (l :: f :: ms) H1 (upd H8 l (.lst (ys.dropLast ++ zs.reverse))) :=
              ((((m2l.mono fun b hb => by rw [List.mem_singleton.mp hb]; simp).trans (m3s.mono fun b hb => by simp [hb])).trans (m5.mono fun b hb => by rw [List.mem_singleton.mp hb]; simp)).trans m7b.nil).trans (m9.mono fun b hb => by rw [List.mem_singleton.mp hb]; simp)
            refine ⟨sizes ((pe.kids.map fun q => (q, ((rs.length : Nat) : Int))) ++ rest), ?_, (pe.kids.map fun q => (q, ((rs.length : Nat) : Int))) ++ rest, ys.dropLast ++ zs.reverse, addKid a fs.length fs ++ [(pe, [])], rs ++ [.ref t4], cs ++ [c4], _, _, _, _, rfl, (m5H.trans m7b).putNew el8 hl0, upd_same, ?_, ?_, ?_, rfl, ?_, ?_, ?_, ?_, ?_⟩
            · rw [sizes_cons, sizes_append]
              show _ < pe.size + _
              omega
            · have g1 : Paired (StkR (upd H8 l (.lst (ys.dropLast ++ zs.reverse)))) (pe.kids.map fun q => (q, ((rs.length : Nat) : Int))) zs := pd_mapL (pd_range r7 fun i a b ha ⟨t, v, q, h1, h2, h3, h4⟩ => by
                rw [ha] at h3
                cases h3
                exact (StkR.mod m78 ⟨t, v, h1, h2, h4⟩).mod m9)
              have g2 := pd_append g1 (pd_imp (fun e y h => StkR.mod mm h) pr')
              rw [List.reverse_append, List.reverse_reverse, hdrop, List.reverse_reverse]
              rw [hdrop] at g2
              exact g2
            · rw [upd_ne hfl]; exact ef8
            · exact ((rr5.mod m7b fun c _ z => nomatch z).mod m9 fun c hc z => by
                rcases List.mem_append.mp hc with hc | hc
                · exact (hcs c hc).2.2 (List.mem_singleton.mp z)
                · rw [List.mem_singleton.mp hc] at z; exact hc4l (List.mem_singleton.mp z))
            · rw [sizes_append, List.length_append, addKid_len, List.length_singleton]
              omega
            · rw [emit_step] at hfold
              rw [hrl]
              exact hfold
            · intro e he
              rw [List.length_append, addKid_len, List.length_singleton]
              rcases List.mem_append.mp he with he | he
              · obtain ⟨qk, _, rfl⟩ := List.mem_map.mp he
                exact ⟨by show (-1 : Int) ≤ (rs.length : Nat); omega, by show ((rs.length : Nat) : Int) < _; omega⟩
              · have := hab e (List.mem_cons_of_mem _ he)
                exact ⟨this.1, by omega⟩
            · intro c hc
              rcases List.mem_append.mp hc with hc | hc
              · exact hcs c hc
              · rw [List.mem_singleton.mp hc]; exact ⟨hc40, hc4f, hc4l⟩
            · intro i r hi
              have hL : (addKid a fs.length fs ++ [(pe, ([] : List Nat))]).length = fs.length + 1 := by rw [List.length_append, addKid_len]; rfl
              rw [hL]
              by_cases e : i < fs.length
              · rw [List.getElem?_append_left (by rw [addKid_len]; exact e)] at hi
                have := addKid_kid hi
                rcases this with h | ⟨r', h, h2⟩
                · have := hkb i r h; omega
                · have := hkb i r' h; omega
              · have e2 : i = fs.length := by
                  have := (List.getElem?_eq_some_iff.mp hi).1
                  rw [hL] at this
                  omega
                subst e2
                rw [List.getElem?_append_right (by rw [addKid_len]; exact Nat.le_refl _), addKid_len, Nat.sub_self] at hi
                cases hi
                exact Nat.zero_le _
    · have est : st = [] := by
        cases st with
        | nil => rfl
        | cons e r => exact absurd (decide_eq_true (show (0 : Int) < (ys.length : Nat) by rw [← hlen]; simp)) hpos
      subst est
      exact ⟨_, rfl, q H1 f rs cs m1 hf0 (fun c hc => (hcs c hc).1) ef (by rw [← hfold]; exact rr)⟩
end
end Fr

set_option maxHeartbeats 2000000
/-! The sets of states of a pattern: which come first, last, behind which; dicts of states. -/
namespace Fr
open PySem PySem.Spec PyProof.Rows L2

namespace Pat
def nul : Pat → Bool
  | non => false | emp => true | sign _ => false | thn p q => p.nul && q.nul | orr p q => p.nul || q.nul | many _ => true | few _ => true | mark _ p => p.nul
/-- how many signs -/
def sg : Pat → Nat
  | sign _ => 1 | thn p q => p.sg + q.sg | orr p q => p.sg + q.sg | many p => p.sg | few p => p.sg | mark _ p => p.sg | _ => 0
/-- the lots in order -/
def lots : Pat → List (List Nat)
  | sign l => [l] | thn p q => p.lots ++ q.lots | orr p q => p.lots ++ q.lots | many p => p.lots | few p => p.lots | mark _ p => p.lots | _ => []
theorem lots_len : ∀ p : Pat, p.lots.length = p.sg
  | non => rfl | emp => rfl | sign _ => rfl
  | thn p q => by simp [lots, sg, lots_len p, lots_len q]
  | orr p q => by simp [lots, sg, lots_len p, lots_len q]
  | many p => lots_len p | few p => lots_len p | mark _ p => lots_len p
theorem sg_le : ∀ p : Pat, p.sg ≤ p.size
  | non => by decide
  | emp => by decide
  | sign _ => Nat.le_refl 1
  | thn p q => by have := sg_le p; have := sg_le q; simp only [sg, size]; omega
  | orr p q => by have := sg_le p; have := sg_le q; simp only [sg, size]; omega
  | many p => by have := sg_le p; simp only [sg, size]; omega
  | few p => by have := sg_le p; simp only [sg, size]; omega
  | mark _ p => by have := sg_le p; simp only [sg, size]; omega
/-- the states that may come first, o signs standing ahead -/
def Fst : Pat → Nat → Nat → Prop
  | sign _, o, s => s = o + 1
  | thn p q, o, s => p.Fst o s ∨ (p.nul = true ∧ q.Fst (o + p.sg) s)
  | orr p q, o, s => p.Fst o s ∨ q.Fst (o + p.sg) s
  | many p, o, s => p.Fst o s | few p, o, s => p.Fst o s | mark _ p, o, s => p.Fst o s
  | _, _, _ => False
def Lst : Pat → Nat → Nat → Prop
  | sign _, o, s => s = o + 1
  | thn p q, o, s => q.Lst (o + p.sg) s ∨ (q.nul = true ∧ p.Lst o s)
  | orr p q, o, s => q.Lst (o + p.sg) s ∨ p.Lst o s
  | many p, o, s => p.Lst o s | few p, o, s => p.Lst o s | mark _ p, o, s => p.Lst o s
  | _, _, _ => False
/-- what a node lets follow by itself -/
def Con : Pat → Nat → Nat → Nat → Prop
  | thn p q, o, s, t => p.Lst o s ∧ q.Fst (o + p.sg) t
  | many p, o, s, t => p.Lst o s ∧ p.Fst o t
  | few p, o, s, t => p.Lst o s ∧ p.Fst o t
  | _, _, _, _ => False
def Fol : Pat → Nat → Nat → Nat → Prop
  | thn p q, o, s, t => (p.Lst o s ∧ q.Fst (o + p.sg) t) ∨ p.Fol o s t ∨ q.Fol (o + p.sg) s t
  | orr p q, o, s, t => p.Fol o s t ∨ q.Fol (o + p.sg) s t
  | many p, o, s, t => (p.Lst o s ∧ p.Fst o t) ∨ p.Fol o s t
  | few p, o, s, t => (p.Lst o s ∧ p.Fst o t) ∨ p.Fol o s t
  | mark _ p, o, s, t => p.Fol o s t
  | _, _, _, _ => False
theorem Fst_in : ∀ {p : Pat} {o s : Nat}, p.Fst o s → o < s ∧ s ≤ o + p.sg
  | sign _, o, s, h => by simp only [Fst] at h; simp only [sg]; omega
  | thn p q, o, s, h => by simp only [Fst] at h; simp only [sg]; rcases h with h | ⟨_, h⟩ <;> have := Fst_in h <;> omega
  | orr p q, o, s, h => by simp only [Fst] at h; simp only [sg]; rcases h with h | h <;> have := Fst_in h <;> omega
  | many p, o, s, h => Fst_in (p := p) h
  | few p, o, s, h => Fst_in (p := p) h
  | mark _ p, o, s, h => Fst_in (p := p) h
  | non, _, _, h => h.elim
  | emp, _, _, h => h.elim
theorem Lst_in : ∀ {p : Pat} {o s : Nat}, p.Lst o s → o < s ∧ s ≤ o + p.sg
  | sign _, o, s, h => by simp only [Lst] at h; simp only [sg]; omega
  | thn p q, o, s, h => by simp only [Lst] at h; simp only [sg]; rcases h with h | ⟨_, h⟩ <;> have := Lst_in h <;> omega
  | orr p q, o, s, h => by simp only [Lst] at h; simp only [sg]; rcases h with h | h <;> have := Lst_in h <;> omega
  | many p, o, s, h => Lst_in (p := p) h
  | few p, o, s, h => Lst_in (p := p) h
  | mark _ p, o, s, h => Lst_in (p := p) h
  | non, _, _, h => h.elim
  | emp, _, _, h => h.elim
/-- the nodes in order, each with how many signs stand ahead -/
def nodes : Pat → Nat → List (Pat × Nat)
  | thn p q, o => (thn p q, o) :: (p.nodes o ++ q.nodes (o + p.sg))
  | orr p q, o => (orr p q, o) :: (p.nodes o ++ q.nodes (o + p.sg))
  | many p, o => (many p, o) :: p.nodes o
  | few p, o => (few p, o) :: p.nodes o
  | mark m p, o => (mark m p, o) :: p.nodes o
  | p, o => [(p, o)]
theorem nodes_len : ∀ (p : Pat) (o : Nat), (p.nodes o).length = p.size
  | non, _ => rfl | emp, _ => rfl | sign _, _ => rfl
  | thn p q, o => by simp [nodes, size, nodes_len]; omega
  | orr p q, o => by simp [nodes, size, nodes_len]; omega
  | many p, o => by simp [nodes, size, nodes_len]; omega
  | few p, o => by simp [nodes, size, nodes_len]; omega
  | mark _ p, o => by simp [nodes, size, nodes_len]; omega
theorem nodes_head (p : Pat) (o : Nat) : (p.nodes o)[0]? = some (p, o) := by cases p <;> rfl
theorem Fol_nodes : ∀ {p : Pat} {o s t : Nat}, p.Fol o s t ↔ ∃ e ∈ p.nodes o, e.1.Con e.2 s t
  | thn p q, o, s, t => by
    simp only [Fol, nodes, List.mem_cons, List.mem_append, Fol_nodes (p := p), Fol_nodes (p := q)]
    constructor
    · rintro (h | ⟨e, h1, h2⟩ | ⟨e, h1, h2⟩)
      · exact ⟨_, .inl rfl, h⟩
      · exact ⟨e, .inr (.inl h1), h2⟩
      · exact ⟨e, .inr (.inr h1), h2⟩
    · rintro ⟨e, rfl | h1 | h1, h2⟩
      · exact .inl h2
      · exact .inr (.inl ⟨e, h1, h2⟩)
      · exact .inr (.inr ⟨e, h1, h2⟩)
  | orr p q, o, s, t => by
    simp only [Fol, nodes, List.mem_cons, List.mem_append, Fol_nodes (p := p), Fol_nodes (p := q)]
    constructor
    · rintro (⟨e, h1, h2⟩ | ⟨e, h1, h2⟩)
      · exact ⟨e, .inr (.inl h1), h2⟩
      · exact ⟨e, .inr (.inr h1), h2⟩
    · rintro ⟨e, rfl | h1 | h1, h2⟩
      · exact h2.elim
      · exact .inl ⟨e, h1, h2⟩
      · exact .inr ⟨e, h1, h2⟩
  | many p, o, s, t => by
    simp only [Fol, nodes, List.mem_cons, Fol_nodes (p := p)]
    constructor
    · rintro (h | ⟨e, h1, h2⟩)
      · exact ⟨_, .inl rfl, h⟩
      · exact ⟨e, .inr h1, h2⟩
    · rintro ⟨e, rfl | h1, h2⟩
      · exact .inl h2
      · exact .inr ⟨e, h1, h2⟩
  | few p, o, s, t => by
    simp only [Fol, nodes, List.mem_cons, Fol_nodes (p := p)]
    constructor
    · rintro (h | ⟨e, h1, h2⟩)
      · exact ⟨_, .inl rfl, h⟩
      · exact ⟨e, .inr h1, h2⟩
    · rintro ⟨e, rfl | h1, h2⟩
      · exact .inl h2
      · exact .inr ⟨e, h1, h2⟩
  | mark m p, o, s, t => by
    simp only [Fol, nodes, List.mem_cons, Fol_nodes (p := p)]
    constructor
    · rintro ⟨e, h1, h2⟩
      exact ⟨e, .inr h1, h2⟩
    · rintro ⟨e, rfl | h1, h2⟩
      · exact h2.elim
      · exact ⟨e, h1, h2⟩
  | non, o, s, t => ⟨fun h => h.elim, fun ⟨e, h1, h2⟩ => by rw [List.mem_singleton.mp h1] at h2; exact h2⟩
  | emp, o, s, t => ⟨fun h => h.elim, fun ⟨e, h1, h2⟩ => by rw [List.mem_singleton.mp h1] at h2; exact h2⟩
  | sign _, o, s, t => ⟨fun h => h.elim, fun ⟨e, h1, h2⟩ => by rw [List.mem_singleton.mp h1] at h2; exact h2⟩
def isSign : Pat → Bool
  | sign _ => true | _ => false
/-- the signs among some nodes -/
def cnt (l : List (Pat × Nat)) : Nat := (l.filter fun e => e.1.isSign).length
theorem cnt_append (a b : List (Pat × Nat)) : cnt (a ++ b) = cnt a + cnt b := by simp [cnt]
theorem cnt_cons (e : Pat × Nat) (b : List (Pat × Nat)) : cnt (e :: b) = (if e.1.isSign then 1 else 0) + cnt b := by
  unfold cnt; rw [List.filter_cons]; split <;> simp; omega
theorem cnt_nodes : ∀ (p : Pat) (o : Nat), cnt (p.nodes o) = p.sg
  | non, _ => rfl | emp, _ => rfl | sign _, _ => rfl
  | thn p q, o => by rw [nodes, cnt_cons, cnt_append, cnt_nodes p, cnt_nodes q]; simp [isSign, sg]
  | orr p q, o => by rw [nodes, cnt_cons, cnt_append, cnt_nodes p, cnt_nodes q]; simp [isSign, sg]
  | many p, o => by rw [nodes, cnt_cons, cnt_nodes p]; simp [isSign, sg]
  | few p, o => by rw [nodes, cnt_cons, cnt_nodes p]; simp [isSign, sg]
  | mark _ p, o => by rw [nodes, cnt_cons, cnt_nodes p]; simp [isSign, sg]
theorem take_append_nodes {a b : List (Pat × Nat)} {i : Nat} : cnt ((a ++ b).take i) = cnt (a.take i) + cnt (b.take (i - a.length)) := by rw [List.take_append, cnt_append]
/-- a node's number of signs ahead is their number -/
theorem nodes_off : ∀ (p : Pat) (o i : Nat) (e : Pat × Nat), (p.nodes o)[i]? = some e → e.2 = o + cnt ((p.nodes o).take i)
  | p, o, 0, e, h => by rw [nodes_head] at h; cases h; simp [cnt]
  | thn p q, o, i + 1, e, h => by
    simp only [nodes, List.getElem?_cons_succ, List.take_succ_cons, cnt_cons, isSign] at h ⊢
    rw [take_append_nodes]
    by_cases hi : i < (p.nodes o).length
    · rw [List.getElem?_append_left hi] at h
      rw [nodes_off p o i e h, show i - (p.nodes o).length = 0 by omega]
      simp [cnt]
    · rw [List.getElem?_append_right (by omega)] at h
      have e1 : (p.nodes o).take i = p.nodes o := List.take_of_length_le (by omega)
      rw [nodes_off q _ _ e h, e1, cnt_nodes]
      simp; omega
  | orr p q, o, i + 1, e, h => by
    simp only [nodes, List.getElem?_cons_succ, List.take_succ_cons, cnt_cons, isSign] at h ⊢
    rw [take_append_nodes]
    by_cases hi : i < (p.nodes o).length
    · rw [List.getElem?_append_left hi] at h
      rw [nodes_off p o i e h, show i - (p.nodes o).length = 0 by omega]
      simp [cnt]
    · rw [List.getElem?_append_right (by omega)] at h
      have e1 : (p.nodes o).take i = p.nodes o := List.take_of_length_le (by omega)
      rw [nodes_off q _ _ e h, e1, cnt_nodes]
      simp; omega
  | many p, o, i + 1, e, h => by
    simp only [nodes, List.getElem?_cons_succ, List.take_succ_cons, cnt_cons, isSign] at h ⊢
    rw [nodes_off p o i e h]; simp
  | few p, o, i + 1, e, h => by
    simp only [nodes, List.getElem?_cons_succ, List.take_succ_cons, cnt_cons, isSign] at h ⊢
    rw [nodes_off p o i e h]; simp
  | mark m p, o, i + 1, e, h => by
    simp only [nodes, List.getElem?_cons_succ, List.take_succ_cons, cnt_cons, isSign] at h ⊢
    rw [nodes_off p o i e h]; simp
  | non, o, i + 1, e, h => by simp [nodes] at h
  | emp, o, i + 1, e, h => by simp [nodes] at h
  | sign _, o, i + 1, e, h => by simp [nodes] at h
/-- where the parts of a node stand -/
def KidsAt (l : List (Pat × Nat)) (n : Nat) (e : Pat × Nat) (ks : List Nat) (i : Nat) : Prop :=
  match e.1 with
  | thn a b => ∃ c d, ks = [n + c, n + d] ∧ i < c ∧ i < d ∧ l[c]? = some (a, e.2) ∧ l[d]? = some (b, e.2 + a.sg)
  | orr a b => ∃ c d, ks = [n + c, n + d] ∧ i < c ∧ i < d ∧ l[c]? = some (a, e.2) ∧ l[d]? = some (b, e.2 + a.sg)
  | many a => ∃ c, ks = [n + c] ∧ i < c ∧ l[c]? = some (a, e.2)
  | few a => ∃ c, ks = [n + c] ∧ i < c ∧ l[c]? = some (a, e.2)
  | mark _ a => ∃ c, ks = [n + c] ∧ i < c ∧ l[c]? = some (a, e.2)
  | _ => ks = []
theorem KidsAt.shift {l : List (Pat × Nat)} {n : Nat} {e : Pat × Nat} {ks : List Nat} {i : Nat} (x : List (Pat × Nat)) (y : List (Pat × Nat)) (h : KidsAt l (n + x.length) e ks i) : KidsAt (x ++ l ++ y) n e ks (x.length + i) := by
  have g : ∀ {c : Nat} {z : Pat × Nat}, l[c]? = some z → (x ++ l ++ y)[x.length + c]? = some z := fun {c z} hc => by
    have hlt := (List.getElem?_eq_some_iff.mp hc).1
    rw [List.append_assoc, List.getElem?_append_right (by omega), Nat.add_sub_cancel_left, List.getElem?_append_left hlt]
    exact hc
  unfold KidsAt at h ⊢
  split at h
  · obtain ⟨c, d, e1, h1, h2, h3, h4⟩ := h
    exact ⟨x.length + c, x.length + d, by rw [e1, Nat.add_assoc, Nat.add_assoc], by omega, by omega, g h3, g h4⟩
  · obtain ⟨c, d, e1, h1, h2, h3, h4⟩ := h
    exact ⟨x.length + c, x.length + d, by rw [e1, Nat.add_assoc, Nat.add_assoc], by omega, by omega, g h3, g h4⟩
  · obtain ⟨c, e1, h1, h2⟩ := h
    exact ⟨x.length + c, by rw [e1, Nat.add_assoc], by omega, g h2⟩
  · obtain ⟨c, e1, h1, h2⟩ := h
    exact ⟨x.length + c, by rw [e1, Nat.add_assoc], by omega, g h2⟩
  · obtain ⟨c, e1, h1, h2⟩ := h
    exact ⟨x.length + c, by rw [e1, Nat.add_assoc], by omega, g h2⟩
  · exact h
end Pat
open Pat
theorem rows_nodes : ∀ (p : Pat) (n o i : Nat) (r : Pat × List Nat), (rowsFrom p n)[i]? = some r → ∃ e, (p.nodes o)[i]? = some e ∧ e.1 = r.1 ∧ KidsAt (p.nodes o) n e r.2 i
  | .thn p q, n, o, 0, r, h => by
    simp [rowsFrom] at h
    subst h
    refine ⟨(.thn p q, o), rfl, rfl, 1, 1 + p.size, by simp; omega, by omega, by omega, ?_, ?_⟩
    · show (p.nodes o ++ q.nodes (o + p.sg))[0]? = _
      rw [List.getElem?_append_left (by rw [nodes_len]; exact p.size_pos)]; exact nodes_head p o
    · show ((Pat.thn p q, o) :: (p.nodes o ++ q.nodes (o + p.sg)))[1 + p.size]? = _
      rw [show 1 + p.size = p.size + 1 by omega, List.getElem?_cons_succ, List.getElem?_append_right (by rw [nodes_len]; exact Nat.le_refl _), nodes_len, Nat.sub_self]; exact nodes_head q _
  | .orr p q, n, o, 0, r, h => by
    simp [rowsFrom] at h
    subst h
    refine ⟨(.orr p q, o), rfl, rfl, 1, 1 + p.size, by simp; omega, by omega, by omega, ?_, ?_⟩
    · show (p.nodes o ++ q.nodes (o + p.sg))[0]? = _
      rw [List.getElem?_append_left (by rw [nodes_len]; exact p.size_pos)]; exact nodes_head p o
    · show ((Pat.orr p q, o) :: (p.nodes o ++ q.nodes (o + p.sg)))[1 + p.size]? = _
      rw [show 1 + p.size = p.size + 1 by omega, List.getElem?_cons_succ, List.getElem?_append_right (by rw [nodes_len]; exact Nat.le_refl _), nodes_len, Nat.sub_self]; exact nodes_head q _
  | .many p, n, o, 0, r, h => by
    simp [rowsFrom] at h
    subst h
    exact ⟨(.many p, o), rfl, rfl, 1, rfl, by omega, nodes_head p o⟩
  | .few p, n, o, 0, r, h => by
    simp [rowsFrom] at h
    subst h
    exact ⟨(.few p, o), rfl, rfl, 1, rfl, by omega, nodes_head p o⟩
  | .mark m p, n, o, 0, r, h => by
    simp [rowsFrom] at h
    subst h
    exact ⟨(.mark m p, o), rfl, rfl, 1, rfl, by omega, nodes_head p o⟩
  | .non, n, o, i, r, h => by
    cases i with
    | zero => simp [rowsFrom] at h; subst h; exact ⟨_, rfl, rfl, rfl⟩
    | succ i => simp [rowsFrom] at h
  | .emp, n, o, i, r, h => by
    cases i with
    | zero => simp [rowsFrom] at h; subst h; exact ⟨_, rfl, rfl, rfl⟩
    | succ i => simp [rowsFrom] at h
  | .sign _, n, o, i, r, h => by
    cases i with
    | zero => simp [rowsFrom] at h; subst h; exact ⟨_, rfl, rfl, rfl⟩
    | succ i => simp [rowsFrom] at h
  | .many p, n, o, i + 1, r, h => by
    simp only [rowsFrom, List.getElem?_cons_succ] at h
    obtain ⟨e, h1, h2, h3⟩ := rows_nodes p (n + 1) o i r h
    refine ⟨e, h1, h2, ?_⟩
    have := KidsAt.shift (n := n) [(Pat.many p, o)] [] h3
    rw [List.append_nil] at this
    rw [Nat.add_comm i 1]; exact this
  | .few p, n, o, i + 1, r, h => by
    simp only [rowsFrom, List.getElem?_cons_succ] at h
    obtain ⟨e, h1, h2, h3⟩ := rows_nodes p (n + 1) o i r h
    refine ⟨e, h1, h2, ?_⟩
    have := KidsAt.shift (n := n) [(Pat.few p, o)] [] h3
    rw [List.append_nil] at this
    rw [Nat.add_comm i 1]; exact this
  | .mark m p, n, o, i + 1, r, h => by
    simp only [rowsFrom, List.getElem?_cons_succ] at h
    obtain ⟨e, h1, h2, h3⟩ := rows_nodes p (n + 1) o i r h
    refine ⟨e, h1, h2, ?_⟩
    have := KidsAt.shift (n := n) [(Pat.mark m p, o)] [] h3
    rw [List.append_nil] at this
    rw [Nat.add_comm i 1]; exact this
  | .thn p q, n, o, i + 1, r, h => by
    simp only [rowsFrom, List.getElem?_cons_succ] at h
    by_cases hi : i < (rowsFrom p (n + 1)).length
    · rw [List.getElem?_append_left hi] at h
      obtain ⟨e, h1, h2, h3⟩ := rows_nodes p (n + 1) o i r h
      refine ⟨e, ?_, h2, ?_⟩
      · show (p.nodes o ++ q.nodes (o + p.sg))[i]? = some e
        rw [List.getElem?_append_left (by rw [nodes_len, ← rowsFrom_len p (n + 1)]; exact hi)]; exact h1
      · have := KidsAt.shift (n := n) [(Pat.thn p q, o)] (q.nodes (o + p.sg)) h3
        rw [Nat.add_comm i 1]; exact this
    · rw [List.getElem?_append_right (by omega), rowsFrom_len] at h
      obtain ⟨e, h1, h2, h3⟩ := rows_nodes q (n + 1 + p.size) (o + p.sg) _ r h
      rw [rowsFrom_len] at hi
      refine ⟨e, ?_, h2, ?_⟩
      · show (p.nodes o ++ q.nodes (o + p.sg))[i]? = some e
        rw [List.getElem?_append_right (by rw [nodes_len]; omega), nodes_len]; exact h1
      · have := KidsAt.shift (n := n) ((Pat.thn p q, o) :: p.nodes o) [] (l := q.nodes (o + p.sg)) (e := e) (ks := r.2) (i := i - p.size) (by rw [List.length_cons, nodes_len, show n + (p.size + 1) = n + 1 + p.size by omega]; exact h3)
        rw [List.append_nil, List.length_cons, nodes_len, show p.size + 1 + (i - p.size) = i + 1 by omega] at this
        exact this
  | .orr p q, n, o, i + 1, r, h => by
    simp only [rowsFrom, List.getElem?_cons_succ] at h
    by_cases hi : i < (rowsFrom p (n + 1)).length
    · rw [List.getElem?_append_left hi] at h
      obtain ⟨e, h1, h2, h3⟩ := rows_nodes p (n + 1) o i r h
      refine ⟨e, ?_, h2, ?_⟩
      · show (p.nodes o ++ q.nodes (o + p.sg))[i]? = some e
        rw [List.getElem?_append_left (by rw [nodes_len, ← rowsFrom_len p (n + 1)]; exact hi)]; exact h1
      · have := KidsAt.shift (n := n) [(Pat.orr p q, o)] (q.nodes (o + p.sg)) h3
        rw [Nat.add_comm i 1]; exact this
    · rw [List.getElem?_append_right (by omega), rowsFrom_len] at h
      obtain ⟨e, h1, h2, h3⟩ := rows_nodes q (n + 1 + p.size) (o + p.sg) _ r h
      rw [rowsFrom_len] at hi
      refine ⟨e, ?_, h2, ?_⟩
      · show (p.nodes o ++ q.nodes (o + p.sg))[i]? = some e
        rw [List.getElem?_append_right (by rw [nodes_len]; omega), nodes_len]; exact h1
      · have := KidsAt.shift (n := n) ((Pat.orr p q, o) :: p.nodes o) [] (l := q.nodes (o + p.sg)) (e := e) (ks := r.2) (i := i - p.size) (by rw [List.length_cons, nodes_len, show n + (p.size + 1) = n + 1 + p.size by omega]; exact h3)
        rw [List.append_nil, List.length_cons, nodes_len, show p.size + 1 + (i - p.size) = i + 1 by omega] at this
        exact this

/-! ### dicts of states -/
/-- the keys are the numbers of S, all at most N -/
structure KS (kvs : List (Key × V)) (S : Nat → Prop) (N : Nat) : Prop where
  nd : (kvs.map (·.1)).Nodup
  key : ∀ k ∈ kvs.map (·.1), ∃ n : Nat, k = .inl (n : Int) ∧ n ≤ N
  mem : ∀ n : Nat, (Sum.inl (n : Int) : Key) ∈ kvs.map (·.1) ↔ S n
theorem KS.imp {kvs : List (Key × V)} {S S' : Nat → Prop} {N : Nat} (h : KS kvs S N) (e : ∀ n, S n ↔ S' n) : KS kvs S' N := ⟨h.nd, h.key, fun n => (h.mem n).trans (e n)⟩
theorem KS.nil {N : Nat} : KS [] (fun _ => False) N := ⟨List.nodup_nil, fun _ h => by simp at h, fun n => by simp⟩
theorem putK_keys (kvs : List (Key × V)) (k : Key) (v : V) (j : Key) : j ∈ (putK kvs k v).map (·.1) ↔ j ∈ kvs.map (·.1) ∨ j = k := by
  unfold putK
  split
  · rename_i h
    rw [List.map_map]
    have e : (fun kv : Key × V => (if kv.1 = k then (kv.1, v) else kv).1) = fun kv => kv.1 := by
      funext kv; split <;> rfl
    constructor
    · intro hj
      obtain ⟨kv, h1, h2⟩ := List.mem_map.mp hj
      refine .inl (List.mem_map.mpr ⟨kv, h1, ?_⟩)
      rw [← h2]
      show kv.1 = (if kv.1 = k then (kv.1, v) else kv).1
      split <;> rfl
    · rintro (hj | rfl)
      · obtain ⟨kv, h1, h2⟩ := List.mem_map.mp hj
        refine List.mem_map.mpr ⟨kv, h1, ?_⟩
        rw [← h2]
        show (if kv.1 = k then (kv.1, v) else kv).1 = kv.1
        split <;> rfl
      · obtain ⟨kv, h1, h2⟩ := List.any_eq_true.mp h
        have h2 := of_decide_eq_true h2
        refine List.mem_map.mpr ⟨kv, h1, ?_⟩
        show (if kv.1 = j then (kv.1, v) else kv).1 = j
        rw [if_pos h2]; exact h2
  · rw [List.map_append, List.mem_append]
    simp
theorem nd_put {kvs : List (Key × V)} (k : Key) (v : V) (h : (kvs.map (·.1)).Nodup) : ((putK kvs k v).map (·.1)).Nodup := by
  cases e : valV kvs k with
  | none => exact nd_putK v h e
  | some x =>
    have hh : (kvs.any fun kv => decide (kv.1 = k)) = true := by rw [valV_any, e]; rfl
    unfold putK
    rw [if_pos hh, List.map_map]
    have e2 : ((fun (p : Key × V) => p.1) ∘ fun kv : Key × V => if kv.1 = k then (kv.1, v) else kv) = fun kv => kv.1 := by
      funext kv; show (if kv.1 = k then (kv.1, v) else kv).1 = kv.1; split <;> rfl
    rw [e2]
    exact h
theorem KS.put {kvs : List (Key × V)} {S : Nat → Prop} {N n : Nat} (h : KS kvs S N) (v : V) (hn : n ≤ N) : KS (putK kvs (.inl (n : Int)) v) (fun t => S t ∨ t = n) N :=
  ⟨nd_put _ _ h.nd, fun k hk => by
    rcases (putK_keys _ _ _ _).mp hk with hk | rfl
    · exact h.key k hk
    · exact ⟨n, rfl, hn⟩, fun t => by
    rw [putK_keys, h.mem]
    constructor
    · rintro (h | h)
      · exact .inl h
      · exact .inr (by injection h with h; omega)
    · rintro (h | rfl)
      · exact .inl h
      · exact .inr rfl⟩
theorem KS.merge {S : Nat → Prop} {N : Nat} : ∀ {more kvs : List (Key × V)} {S' : Nat → Prop}, KS kvs S N → KS more S' N → KS (mergeK kvs more) (fun t => S t ∨ S' t) N := by
  intro more
  induction more generalizing S with
  | nil => intro kvs S' h h'; exact h.imp fun n => ⟨.inl, fun z => z.elim id fun z => absurd ((h'.mem n).mpr z) (by simp)⟩
  | cons e r ih =>
    intro kvs S' h h'
    obtain ⟨n, hn, hle⟩ := h'.key e.1 (by simp)
    obtain ⟨k, v⟩ := e
    have hn : k = .inl (n : Int) := hn
    subst hn
    have nd' := h'.nd
    rw [List.map_cons, List.nodup_cons] at nd'
    have hr : KS r (fun t => S' t ∧ t ≠ n) N := ⟨nd'.2, fun k hk => h'.key k (by simp [List.mem_map] at hk ⊢; exact .inr hk), fun t => by
      have hm := h'.mem t
      rw [List.map_cons, List.mem_cons] at hm
      constructor
      · intro ht
        exact ⟨hm.mp (.inr ht), fun e => nd'.1 (by rw [← e]; exact ht)⟩
      · rintro ⟨h1, h2⟩
        rcases hm.mpr h1 with h3 | h3
        · exact absurd (by injection h3 with h3; omega) h2
        · exact h3⟩
    have := ih (h.put v hle) hr
    show KS (mergeK (putK kvs (.inl (n : Int)) v) r) _ N
    refine this.imp fun t => ?_
    have hS : S' n := (h'.mem n).mp (by simp)
    constructor
    · rintro ((h | rfl) | ⟨h, _⟩)
      · exact .inl h
      · exact .inr hS
      · exact .inr h
    · rintro (h | h)
      · exact .inl (.inl h)
      · by_cases e : t = n
        · exact .inl (.inr e)
        · exact .inr ⟨h, e⟩
theorem nodup_le : ∀ {N : Nat} {l : List Nat}, l.Nodup → (∀ n ∈ l, n < N) → l.length ≤ N
  | 0, l, _, h => by
    cases l with
    | nil => simp
    | cons a r => exact absurd (h a (by simp)) (by omega)
  | N + 1, l, nd, h => by
    have h1 := nodup_le (N := N) (l := l.filter fun n => decide (n ≠ N)) (nd.filter _) fun n hn => by
      obtain ⟨h2, h3⟩ := List.mem_filter.mp hn
      have := h n h2
      have h3 := of_decide_eq_true h3
      omega
    have h2 : l.length ≤ (l.filter fun n => decide (n ≠ N)).length + 1 := by
      clear h h1
      induction l with
      | nil => simp
      | cons a r ih =>
        rw [List.nodup_cons] at nd
        rw [List.filter_cons]
        by_cases e : a = N
        · subst e
          rw [if_neg (by simp)]
          have : r.filter (fun n => decide (n ≠ a)) = r := List.filter_eq_self.mpr fun n hn => decide_eq_true fun e => nd.1 (e ▸ hn)
          rw [this]; simp
        · rw [if_pos (decide_eq_true e)]
          have := ih nd.2
          simp only [List.length_cons]; omega
    omega
theorem KS.len {kvs : List (Key × V)} {S : Nat → Prop} {N : Nat} (h : KS kvs S N) : kvs.length ≤ N + 1 := by
  have key : ∀ l : List Key, l.Nodup → (∀ k ∈ l, ∃ n : Nat, k = .inl (n : Int) ∧ n ≤ N) → ∃ m : List Nat, m.Nodup ∧ (∀ n ∈ m, n < N + 1) ∧ l = m.map fun n => .inl (n : Int) := by
    intro l
    induction l with
    | nil => intro _ _; exact ⟨[], List.nodup_nil, fun _ h => by simp at h, rfl⟩
    | cons a r ih =>
      intro nd h
      rw [List.nodup_cons] at nd
      obtain ⟨m, h1, h2, h3⟩ := ih nd.2 fun k hk => h k (List.mem_cons_of_mem _ hk)
      obtain ⟨n, rfl, hn⟩ := h a (List.mem_cons_self ..)
      refine ⟨n :: m, List.nodup_cons.mpr ⟨fun hm => nd.1 ?_, h1⟩, fun k hk => ?_, by rw [h3]; rfl⟩
      · rw [h3]; exact List.mem_map.mpr ⟨n, hm, rfl⟩
      · rcases List.mem_cons.mp hk with rfl | hk
        · omega
        · exact h2 k hk
  obtain ⟨m, h1, h2, h3⟩ := key _ h.nd h.key
  have := nodup_le h1 h2
  have e := congrArg List.length h3
  rw [List.length_map, List.length_map] at e
  omega
theorem KS.at_ {kvs : List (Key × V)} {S : Nat → Prop} {N i : Nat} {k : Key} {v : V} (h : KS kvs S N) (e : kvs[i]? = some (k, v)) : ∃ n : Nat, k = .inl (n : Int) ∧ n ≤ N ∧ S n := by
  have hm : k ∈ kvs.map (·.1) := List.mem_map.mpr ⟨(k, v), List.mem_of_getElem? e, rfl⟩
  obtain ⟨n, rfl, hn⟩ := h.key k hm
  exact ⟨n, rfl, hn, (h.mem n).mp hm⟩
/-- every number of S comes at some turn -/
theorem KS.turn {kvs : List (Key × V)} {S : Nat → Prop} {N n : Nat} (h : KS kvs S N) (hs : S n) : ∃ (i : Nat) (v : V), kvs[i]? = some ((Sum.inl (n : Int) : Key), v) := by
  have hm := (h.mem n).mpr hs
  obtain ⟨⟨k, v⟩, h1, h2⟩ := List.mem_map.mp hm
  obtain ⟨i, hi⟩ := List.mem_iff_getElem?.mp h1
  have h2 : k = _ := h2
  subst h2
  exact ⟨i, v, hi⟩
theorem KS.get {kvs : List (Key × V)} {S : Nat → Prop} {N : Nat} (h : KS kvs S N) (n : Nat) : (valV kvs (.inl (n : Int))).isSome = true ↔ S n := by
  rw [← h.mem n, ← valV_any, List.any_eq_true]
  constructor
  · rintro ⟨kv, h1, h2⟩
    exact List.mem_map.mpr ⟨kv, h1, of_decide_eq_true h2⟩
  · intro h1
    obtain ⟨kv, h2, h3⟩ := List.mem_map.mp h1
    exact ⟨kv, h2, decide_eq_true h3⟩
end Fr

set_option maxHeartbeats 4000000
namespace Fr
open PySem PySem.Spec PyProof.Rows L2
section
variable {P : Program} {w : World} {K : PySem.W.Frag} {mg : Str → Option Value} {base : Heap}

theorem ty_dK {H : Hp} {p : Addr} {kvs : List (Key × V)} (h : H p = some (.dK kvs)) : tyV K "dict" (.ref p) H := .inr (.inr (.inl ⟨rfl, .inl ⟨kvs, h⟩⟩))
theorem ty_dT {H : Hp} {p : Addr} {kvs : List (List Key × V)} (h : H p = some (.dT kvs)) : tyV K "dict" (.ref p) H := .inr (.inr (.inl ⟨rfl, .inr ⟨kvs, h⟩⟩))
theorem ty_lst {H : Hp} {p : Addr} {xs : List V} (h : H p = some (.lst xs)) : tyV K "list" (.ref p) H := .inl ⟨rfl, _, SqL.of h⟩
/-- the dicts of what follows each state -/
structure FolAt (H : Hp) (ds : List Addr) (G : Nat → Nat → Prop) (N : Nat) : Prop where
  nd : ds.Nodup
  len : ds.length = N + 1
  at_ : ∀ (s : Nat) (d : Addr), ds[s]? = some d → ∃ kvs, H d = some (.dK kvs) ∧ KS kvs (G s) N
theorem FolAt.mod {ms : List Addr} {H H' : Hp} {ds : List Addr} {G : Nat → Nat → Prop} {N : Nat} (m : Mod ms H H') (h : FolAt H ds G N) (hd : ∀ d ∈ ds, d ∉ ms) : FolAt H' ds G N :=
  ⟨h.nd, h.len, fun s d e => let ⟨kvs, h1, h2⟩ := h.at_ s d e; ⟨kvs, m.keep _ _ h1 (hd d (List.mem_of_getElem? e)), h2⟩⟩
theorem FolAt.imp {H : Hp} {ds : List Addr} {G G' : Nat → Nat → Prop} {N : Nat} (h : FolAt H ds G N) (e : ∀ s t, G s t ↔ G' s t) : FolAt H ds G' N :=
  ⟨h.nd, h.len, fun s d q => let ⟨kvs, h1, h2⟩ := h.at_ s d q; ⟨kvs, h1, h2.imp (e s)⟩⟩
theorem FolAt.put {H : Hp} {ds : List Addr} {G : Nat → Nat → Prop} {N s : Nat} {d : Addr} {kvs : List (Key × V)} {S : Nat → Prop} (h : FolAt H ds G N) (hd : ds[s]? = some d) (hk : KS kvs S N) :
    FolAt (upd H d (.dK kvs)) ds (fun s' t => if s' = s then S t else G s' t) N :=
  ⟨h.nd, h.len, fun s' d' e => by
    by_cases q : s' = s
    · subst q
      rw [hd] at e
      cases e
      exact ⟨kvs, upd_same, hk.imp fun n => by rw [if_pos rfl]⟩
    · obtain ⟨kvs', h1, h2⟩ := h.at_ s' d' e
      refine ⟨kvs', ?_, h2.imp fun n => by rw [if_neg q]⟩
      rw [upd_ne (fun (z : d' = d) => q (nd_ix h.nd e (by rw [z]; exact hd)))]
      exact h1⟩
theorem not_in_of {H : Hp} {ds : List Addr} {G : Nat → Nat → Prop} {N : Nat} (h : FolAt H ds G N) {a : Addr} {o : HO} (ha : H a = some o) (hn : ∀ kvs, o ≠ .dK kvs) : a ∉ ds := fun z => by
  obtain ⟨i, hi⟩ := List.mem_iff_getElem?.mp z
  obtain ⟨kvs, h1, _⟩ := h.at_ i a hi
  rw [ha] at h1
  cases h1
  exact hn _ rfl
def spJoin (C : Addr) : Sp := fun vs H Q _ => ∃ (a dl df dx fo : Addr) (fs : List (Str × V)) (ds : List Addr) (G : Nat → Nat → Prop) (N : Nat) (kl kf : List (Key × V)) (L F : Nat → Prop),
  vs = [.ref a, .ref dl, .ref df] ∧ H a = some (.ins C dx fs) ∧ fs.lookup ("follows" : Str) = some (.ref fo) ∧ H fo = some (.lst (ds.map V.ref)) ∧ FolAt H ds G N ∧ H dl = some (.dK kl) ∧ KS kl L N ∧ H df = some (.dK kf) ∧ KS kf F N ∧
  dl ∉ ds ∧ df ∉ ds ∧ N ≤ 100 ∧ ∀ H', Mod ds H H' → FolAt H' ds (fun s t => G s t ∨ (L s ∧ F t)) N → Q .non H'
theorem has_Sets_join (T : Tx w K mg) : HasM P w K mg base 1 "Sets" "join" ["self", "lasts", "firsts"] (spJoin (He.ga K "Sets")) := by
  refine (T.has (d := d_Sets_join) 11 rfl rfl rfl rfl b_Sets_join sc_Sets_join (fun vs H Q E h => ?_) fun cdv A outer s H vs Q E hr h => ?_)
  · obtain ⟨_, _, _, _, _, _, _, _, _, _, _, _, _, rfl, _⟩ := h; rfl
  obtain ⟨a, dl, df, dx, fo, fs, ds, G, N, kl, kf, L, F, rfl, ha, hfo, hF, fa, hdl, ksl, hdf, ksf, nl, nf, hN, q⟩ := h
  refine ⟨_, (pss_one (ps_lock (ps_for PassesOwn.never rfl (pi_keys (pv 1)) (pg_name (i := 3) sc_Sets_join.nd rfl (Or.inl rfl)) (pss_one (ps_expr (pe_bm PySem.F.plainAttrs_dict PySem.F.slot_dict_update PySem.F.type_dict_update mt_update (pe_ix ix_list (pe_fldC (c_Sets T) (n_Sets_follows T) (pv 0)) (pv 3) (fun _ _ => rfl)) (pa_cons (pe_callTy call_dictD (by rfl) (z_dict T) (by decide +kernel) (pa_cons (pv 2) pa_nil)) pa_nil))))))), ?_⟩
  refine ⟨dl, .dK kl, hdl, trivial, fun od => ?_⟩
  have alen := ksl.len
  have flen := ksf.len
  have hadl : a ≠ dl := ne_of ha hdl (by intro z; cases z)
  have hfodl : fo ≠ dl := ne_of hF hdl (by intro z; cases z)
  have m0 : Mod (dl :: ds) H (upd H dl (.frz od (.dK kl))) := Mod.refl.put hdl (fun _ z => nomatch z) (List.mem_cons_self ..)
  refine ⟨_, rfl, dl, od, rfl, .inl ⟨kl, upd_same, ?_⟩⟩
  refine for_it walk_keys (fun i σ H1 => ∃ y3, σ = [some (.ref a), some (.ref dl), some (.ref df), y3] ∧ Mod (dl :: ds) H H1 ∧ H1 dl = some (.frz od (.dK kl)) ∧
      FolAt H1 ds (fun s t => G s t ∨ ((∃ j v, j < i ∧ kl[j]? = some ((Sum.inl (s : Int) : Key), v)) ∧ F t)) N) ⟨none, rfl, m0, upd_same, ?_⟩ (fun i σ H1 _ h => by obtain ⟨_, _, _, h, _⟩ := h; exact h) ?_ ?_
  · have m1 : Mod [dl] H (upd H dl (.frz od (.dK kl))) := Mod.refl.put hdl (fun _ z => nomatch z) (List.mem_singleton.mpr rfl)
    exact (fa.mod m1 fun d hd z => nl ((List.mem_singleton.mp z) ▸ hd)).imp fun s t => ⟨.inl, fun z => z.elim id fun z => by obtain ⟨⟨j, v, hj, _⟩, _⟩ := z; exact absurd hj (Nat.not_lt_zero _)⟩
  · rintro i x σ _ H1 hi ⟨y3, rfl, m1, ef, fa1⟩ ⟨rfl, k, v, hkv, rfl⟩
    obtain ⟨n, rfl, hn, hs⟩ := ksl.at_ hkv
    have hnd : n < ds.length := by rw [fa.len]; omega
    obtain ⟨kn, hkn, ksn⟩ := fa1.at_ n ds[n] (List.getElem?_eq_getElem hnd)
    have ndl : ds[n] ≠ dl := fun z => nl (z ▸ List.getElem_mem hnd)
    have ha1 := m1.keep _ _ ha (by simp only [List.mem_cons, not_or]; exact ⟨hadl, not_in_of fa ha (by intro _ z; cases z)⟩)
    have hF1 := m1.keep _ _ hF (by simp only [List.mem_cons, not_or]; exact ⟨hfodl, not_in_of fa hF (by intro _ z; cases z)⟩)
    have hdf1 : Rd H1 df (.dK kf) := by
      by_cases e : df = dl
      · subst e
        rw [hdf] at hdl
        cases hdl
        exact .inr ⟨od, ef⟩
      · exact .inl (m1.keep _ _ hdf (by simp only [List.mem_cons, not_or]; exact ⟨e, nf⟩))
    refine ⟨_, rfl, a, dx, fs, _, rfl, ha1, hfo, _, rfl, fo, _, _, _, rfl, rfl, SqL.of hF1, at_of (j := n) rfl (by rw [List.getElem?_map, List.getElem?_eq_getElem hnd]; rfl), ty_dK hkn, _, rfl, df, kf, rfl, hdf1, fun p hp => ?_⟩
    have hpn : ds[n] ≠ p := ne_of_none hkn hp
    have knl := ksn.len
    refine ⟨ds[n], p, kn, kf, rfl, rfl, by rw [upd_ne hpn]; exact hkn, upd_same, hpn, le_line (by omega), ?_⟩
    have mp : Mod [] H1 (upd H1 p (.dK kf)) := Mod.refl.new hp
    have e1 : upd H1 p (.dK kf) ds[n] = some (.dK kn) := by rw [upd_ne hpn]; exact hkn
    refine ⟨_, rfl, (m1.trans mp.nil).put e1 (fun _ z => nomatch z) (List.mem_cons_of_mem _ (List.getElem_mem hnd)), ?_, ?_⟩
    · rw [upd_ne ndl.symm]
      exact mp.keep _ _ ef (by simp)
    · refine (FolAt.put (fa1.mod mp fun _ _ z => nomatch z) (List.getElem?_eq_getElem hnd) (KS.merge ksn ksf)).imp fun s t => ?_
      by_cases es : s = n
      · subst es
        rw [if_pos rfl]
        constructor
        · rintro ((h | ⟨⟨j, v', hj, h1⟩, h2⟩) | h)
          · exact .inl h
          · exact .inr ⟨⟨j, v', by omega, h1⟩, h2⟩
          · exact .inr ⟨⟨i, v, by omega, hkv⟩, h⟩
        · rintro (h | ⟨⟨j, v', hj, h1⟩, h2⟩)
          · exact .inl (.inl h)
          · exact .inr h2
      · rw [if_neg es]
        constructor
        · rintro (h | ⟨⟨j, v', hj, h1⟩, h2⟩)
          · exact .inl h
          · exact .inr ⟨⟨j, v', by omega, h1⟩, h2⟩
        · rintro (h | ⟨⟨j, v', hj, h1⟩, h2⟩)
          · exact .inl h
          · by_cases ej : j = i
            · subst ej
              rw [hkv] at h1
              exact absurd (by injection h1 with h1; injection h1 with h1 _; injection h1 with h1; omega) es
            · exact .inr ⟨⟨j, v', by omega, h1⟩, h2⟩
  · rintro σ H1 ⟨y3, rfl, m1, ef, fa1⟩
    refine ⟨ef, q _ (m1.unlock hdl fun _ z => nomatch z) ?_⟩
    have m2 : Mod [dl] H1 (upd H1 dl (.dK kl)) := Mod.refl.put ef (fun _ z => nomatch z) (List.mem_singleton.mpr rfl)
    refine (fa1.mod m2 fun d hd z => nl ((List.mem_singleton.mp z) ▸ hd)).imp fun s t => ?_
    constructor
    · rintro (h | ⟨⟨j, v, _, h1⟩, h2⟩)
      · exact .inl h
      · obtain ⟨n, hn, _, hs⟩ := ksl.at_ h1
        injection hn with hn
        have : s = n := by omega
        subst this
        exact .inr ⟨hs, h2⟩
    · rintro (h | ⟨h1, h2⟩)
      · exact .inl h
      · obtain ⟨i, v, hi⟩ := ksl.turn h1
        exact .inr ⟨⟨i, v, (List.getElem?_eq_some_iff.mp hi).1, hi⟩, h2⟩
end
end Fr

set_option maxHeartbeats 4000000
namespace Fr
open PySem PySem.Spec PyProof.Rows L2
section
variable {P : Program} {w : World} {K : PySem.W.Frag} {mg : Str → Option Value} {base : Heap}

/-- what is told of a node, at t: whether it can be empty, the states that come first, last; ms: what may be written -/
def ToldR (H : Hp) (t : Addr) (ms : List Addr) (e : Pat × Nat) (N : Nat) : Prop := ∃ (df dl : Addr) (kf kl : List (Key × V)), H t = some (.tup [.bl e.1.nul, .ref df, .ref dl]) ∧ H df = some (.dK kf) ∧ KS kf (e.1.Fst e.2) N ∧
  H dl = some (.dK kl) ∧ KS kl (e.1.Lst e.2) N ∧ df ∉ ms ∧ dl ∉ ms ∧ df ≠ dl
theorem ToldR.mod {ms ns : List Addr} {H H' : Hp} {t : Addr} {e : Pat × Nat} {N : Nat} (m : Mod ns H H') (h : ToldR H t ms e N) (hn : ∀ a ∈ ns, a ∈ ms) : ToldR H' t ms e N := by
  obtain ⟨df, dl, kf, kl, h1, h2, h3, h4, h5, h6, h7, h8⟩ := h
  exact ⟨df, dl, kf, kl, m.tup _ _ h1, m.keep _ _ h2 fun z => h6 (hn _ z), h3, m.keep _ _ h4 fun z => h7 (hn _ z), h5, h6, h7, h8⟩
/-- .. under changes of other objects that are no tuples, the dicts told named -/
theorem ToldR.modD {ms ns : List Addr} {H H' : Hp} {t : Addr} {e : Pat × Nat} {N : Nat} (m : Mod ns H H') (h : ToldR H t ms e N) (hn : ∀ a ∈ ns, ∀ kvs, H a = some (.dK kvs) → a ∈ ms) : ToldR H' t ms e N := by
  obtain ⟨df, dl, kf, kl, h1, h2, h3, h4, h5, h6, h7, h8⟩ := h
  exact ⟨df, dl, kf, kl, m.tup _ _ h1, m.keep _ _ h2 fun z => h6 (hn _ z _ h2), h3, m.keep _ _ h4 fun z => h7 (hn _ z _ h4), h5, h6, h7, h8⟩
/-- what is told of a node's parts -/
def KidsT (H : Hp) (kt : List (Key × V)) (ms : List Addr) (N : Nat) (e : Pat × Nat) (ks : List Nat) : Prop := match e.1 with
  | .thn a b => ∃ c d ta tb, ks = [c, d] ∧ valV kt (Sum.inl (c : Int)) = some (.ref ta) ∧ ToldR H ta ms (a, e.2) N ∧ valV kt (Sum.inl (d : Int)) = some (.ref tb) ∧ ToldR H tb ms (b, e.2 + a.sg) N
  | .orr a b => ∃ c d ta tb, ks = [c, d] ∧ valV kt (Sum.inl (c : Int)) = some (.ref ta) ∧ ToldR H ta ms (a, e.2) N ∧ valV kt (Sum.inl (d : Int)) = some (.ref tb) ∧ ToldR H tb ms (b, e.2 + a.sg) N
  | .many a => ∃ c ta, ks = [c] ∧ valV kt (Sum.inl (c : Int)) = some (.ref ta) ∧ ToldR H ta ms (a, e.2) N
  | .few a => ∃ c ta, ks = [c] ∧ valV kt (Sum.inl (c : Int)) = some (.ref ta) ∧ ToldR H ta ms (a, e.2) N
  | .mark _ a => ∃ c ta, ks = [c] ∧ valV kt (Sum.inl (c : Int)) = some (.ref ta) ∧ ToldR H ta ms (a, e.2) N
  | _ => True
def setsF (rw_ lo : V) (fo : Addr) (pos : Int) : List (Str × V) := [("rows", rw_), ("lots", lo), ("follows", .ref fo), ("position", .int pos)]
def spTold (C : Addr) : Sp := fun vs H Q _ => ∃ (a r td dx fo c : Addr) (rw_ lo v : V) (pos : Int) (ds ms : List Addr) (G : Nat → Nat → Prop) (N o : Nat) (q : Pat) (ks : List Nat) (kt : List (Key × V)),
  vs = [.ref a, .ref r, .ref td] ∧ H a = some (.ins C dx (setsF rw_ lo fo pos)) ∧ H fo = some (.lst (ds.map V.ref)) ∧ FolAt H ds G N ∧ H r = some (.tup [v, .ref c]) ∧ IsP H v q ∧ H c = some (.lst (intsV ks)) ∧ H td = some (.dK kt) ∧
  KidsT H kt ms N (q, o) ks ∧ (∀ b ∈ ms, H b ≠ none) ∧ (∀ d ∈ ds, d ∈ ms) ∧ (q.isSign = true → pos = o + 1) ∧ o + q.sg ≤ N ∧ N ≤ 100 ∧
  ∀ H' t, Mod (a :: ds) H H' → H' a = some (.ins C dx (setsF rw_ lo fo (if q.isSign then pos - 1 else pos))) → FolAt H' ds (fun s t => G s t ∨ q.Con o s t) N → ToldR H' t ms (q, o) N → Q (.ref t) H'
theorem told_ms {H : Hp} {ds : List Addr} {G : Nat → Nat → Prop} {N : Nat} (fa : FolAt H ds G N) {a p : Addr} {o : HO} (ha : H a = some o) (hp : H p = none) : p ∉ a :: ds := by
  simp only [List.mem_cons, not_or]
  refine ⟨(ne_of_none ha hp).symm, fun z => ?_⟩
  obtain ⟨i, hi⟩ := List.mem_iff_getElem?.mp z
  obtain ⟨kvs, h1, _⟩ := fa.at_ i p hi
  rw [hp] at h1
  cases h1
theorem nomem {ds : List Addr} : ∀ d ∈ ds, d ∉ ([] : List Addr) := fun _ _ z => by cases z
theorem mod_disp {H : Hp} {p : Addr} {m : List (Key × V)} (hp : H p = none) : Mod [] H (upd (upd H p (.dK [])) p (.dK m)) := (Mod.refl.new hp).putNew upd_same hp
theorem ks_one {N n : Nat} {z : Int} (hz : z = (n : Nat)) (hn : n ≤ N) : KS (mergeK [] [(Sum.inl z, V.bl true)]) (fun s => s = n) N := by
  subst hz
  exact (KS.nil.put (V.bl true) hn).imp fun s => ⟨fun h => h.elim (fun z => z.elim) id, .inr⟩
theorem in_ne (q : Pat) : inV (V.str q.word) [V.str "none", V.str "empty"] = (match q with | .non => true | .emp => true | _ => false) := by cases q <;> rfl
theorem in_mf (q : Pat) : inV (V.str q.word) [V.str "many", V.str "few"] = (match q with | .many _ => true | .few _ => true | _ => false) := by cases q <;> rfl
theorem word_or (q : Pat) : decide (V.str q.word = V.str "or") = (match q with | .orr _ _ => true | _ => false) := by cases q <;> rfl
theorem dget_of {H : Hp} {td : Addr} {kt : List (Key × V)} {c : Nat} {v : V} (h : H td = some (.dK kt)) (hv : valV kt (Sum.inl (c : Int)) = some v) : DGet H td (.int (c : Int)) (some v) := by
  have := DGet.k (k := Sum.inl (c : Int)) h
  rw [hv] at this
  exact this
theorem has_Sets_told_of (T : Tx w K mg) : HasM P w K mg base 2 "Sets" "told_of" ["self", "row", "told"] (spTold (He.ga K "Sets")) := by
  have H_Sets_join := has_Sets_join (P := P) (base := base) T
  refine (T.has (d := d_Sets_told_of) 12 rfl rfl rfl rfl b_Sets_told_of sc_Sets_told_of (fun vs H Q E h => ?_) fun cdv A outer s H vs Q E hr h => ?_)
  · obtain ⟨_, _, _, _, _, _, _, _, _, _, _, _, _, _, _, _, _, _, rfl, _⟩ := h; rfl
  obtain ⟨a, r, td, dx, fo, c, rw_, lo, v, pos, ds, ms, G, N, o, q, ks, kt, rfl, ha, hF, fa, hrw, hq, hc, htd, kids, hms, hds, hpos, hoN, hN, k⟩ := h
  obtain ⟨b, xs, rfl, hb, hxl, tl⟩ := hq.tup
  refine ⟨_, (pss_cons (ps_asg (pv 1) (pg_tup rfl (pgs_cons (pg_name (i := 3) sc_Sets_told_of.nd rfl (Or.inl rfl)) (pgs_cons (pg_name (i := 4) sc_Sets_told_of.nd rfl (Or.inl rfl)) pgs_nil))))
      (pss_cons (ps_set (i := 5) sc_Sets_told_of.nd rfl (Or.inl rfl) (pe_ix ix_tup (pv 3) pe_int (fun _ _ => rfl)))
      (pss_cons (ps_if (pt_cmpR op_eq (pv 5) pe_str (nomark _)) (pss_cons (ps_fldaug (pv 0) pe_int in_sub)
      (pss_one (ps_ret (pe_tup (pa_cons pe_bl (pa_cons (pe_disp (pps_cons (pe_op op_add (pe_fldC (c_Sets T) (n_Sets_position T) (pv 0)) pe_int) pe_bl pps_nil) (by rfl) (by rfl) (fun z => by cases z) (by decide)) (pa_cons (pe_disp (pps_cons (pe_op op_add (pe_fldC (c_Sets T) (n_Sets_position T) (pv 0)) pe_int) pe_bl pps_nil) (by rfl) (by rfl) (fun z => by cases z) (by decide)) pa_nil))))))) pss_nil)
      (pss_cons (ps_if (pt_cmpR op_in_seq (pv 5) (pe_tup (pa_cons pe_str (pa_cons pe_str pa_nil))) rfl) (pss_one (ps_ret (pe_tup (pa_cons (pe_cmpR op_eq (pv 5) pe_str (nomark _)) (pa_cons pe_dnewK (pa_cons pe_dnewK pa_nil)))))) pss_nil)
      (pss_cons (ps_set (i := 6) sc_Sets_told_of.nd rfl (Or.inl rfl) (pe_dget (hu_of hr) (pv 2) (pe_ix ix_list (pv 4) pe_int (fun _ _ => rfl)) (fun _ _ => rfl)))
      (pss_cons (ps_if (pt_cmpR op_eq (pv 5) pe_str (nomark _)) (pss_one (ps_ret (pv 6))) pss_nil)
      (pss_cons (ps_if (pt_cmpR op_in_seq (pv 5) (pe_tup (pa_cons pe_str (pa_cons pe_str pa_nil))) rfl) (pss_cons (ps_expr (pe_methH (c_Sets T) (m_Sets_join T) H_Sets_join (hr.mono (by decide)) (pv 0) (pa_cons (pe_ix ix_tup (pv 6) pe_int (fun _ _ => rfl)) (pa_cons (pe_ix ix_tup (pv 6) pe_int (fun _ _ => rfl)) pa_nil))))
      (pss_one (ps_ret (pe_tup (pa_cons pe_bl (pa_cons (pe_ix ix_tup (pv 6) pe_int (fun _ _ => rfl)) (pa_cons (pe_ix ix_tup (pv 6) pe_int (fun _ _ => rfl)) pa_nil))))))) pss_nil)
      (pss_cons (ps_set (i := 7) sc_Sets_told_of.nd rfl (Or.inl rfl) (pe_dget (hu_of hr) (pv 2) (pe_ix ix_list (pv 4) pe_int (fun _ _ => rfl)) (fun _ _ => rfl)))
      (pss_cons (ps_par (i := 8) (j := 9) rfl sc_Sets_told_of.nd rfl rfl (by decide) rfl rfl (pa_cons (pe_callTy call_dictD (by rfl) (z_dict T) (by decide +kernel) (pa_cons (pe_ix ix_tup (pv 6) pe_int (fun _ _ => rfl)) pa_nil)) (pa_cons (pe_callTy call_dictD (by rfl) (z_dict T) (by decide +kernel) (pa_cons (pe_ix ix_tup (pv 7) pe_int (fun _ _ => rfl)) pa_nil)) pa_nil)) (by rfl))
      (C8.pss_cut (ps_if (PW.pt (pw_or (pt_cmpR op_eq (pv 5) pe_str (nomark _)) (pw_or1 (pt_val (pe_ix ix_tup (pv 6) pe_int (fun _ _ => rfl)))))) (pss_one (ps_expr (pe_bm PySem.F.plainAttrs_dict PySem.F.slot_dict_update PySem.F.type_dict_update mt_update (pv 8) (pa_cons (pe_ix ix_tup (pv 7) pe_int (fun _ _ => rfl)) pa_nil)))) pss_nil)
      (C8.pss_cut (ps_if (PW.pt (pw_or (pt_cmpR op_eq (pv 5) pe_str (nomark _)) (pw_or1 (pt_val (pe_ix ix_tup (pv 7) pe_int (fun _ _ => rfl)))))) (pss_one (ps_expr (pe_bm PySem.F.plainAttrs_dict PySem.F.slot_dict_update PySem.F.type_dict_update mt_update (pv 9) (pa_cons (pe_ix ix_tup (pv 6) pe_int (fun _ _ => rfl)) pa_nil)))) pss_nil)
      (pss_cons (ps_if (pt_cmpR op_eq (pv 5) pe_str (nomark _)) (pss_one (ps_ret (pe_tup (pa_cons (pe_or (pe_ix ix_tup (pv 6) pe_int (fun _ _ => rfl)) (pe_one (pe_ix ix_tup (pv 7) pe_int (fun _ _ => rfl)))) (pa_cons (pv 8) (pa_cons (pv 9) pa_nil)))))) pss_nil)
      (pss_cons (ps_expr (pe_methH (c_Sets T) (m_Sets_join T) H_Sets_join (hr.mono (by decide)) (pv 0) (pa_cons (pe_ix ix_tup (pv 6) pe_int (fun _ _ => rfl)) (pa_cons (pe_ix ix_tup (pv 7) pe_int (fun _ _ => rfl)) pa_nil))))
      (pss_one (ps_ret (pe_tup (pa_cons (pe_and (pe_ix ix_tup (pv 6) pe_int (fun _ _ => rfl)) (pe_one (pe_ix ix_tup (pv 7) pe_int (fun _ _ => rfl)))) (pa_cons (pv 8) (pa_cons (pv 9) pa_nil))))))))))))))))))), ?_⟩
  have fresh : ∀ {p : Addr}, H p = none → p ∉ ms := fun hp z => hms _ z hp
  have hads : a ∉ ds := not_in_of fa ha (by intro _ z; cases z)
  have hfods : fo ∉ a :: ds := by
    simp only [List.mem_cons, not_or]
    exact ⟨ne_of hF ha (by intro z; cases z), not_in_of fa hF (by intro _ z; cases z)⟩
  refine ⟨_, rfl, r, _, rfl, SqT.of hrw, rfl, _, _, rfl, _, _, rfl, rfl, ?_⟩
  refine ⟨_, rfl, b, _, 0, _, rfl, rfl, SqT.of hb, at_of (j := 0) rfl rfl, ?_⟩
  refine ⟨_, rfl, rfl, _, rfl, ?_⟩
  rw [word_is q]
  have noCon : ∀ {H' : Hp}, Mod (a :: ds) H H' → (∀ d ∈ ds, ∀ o, H d = some o → H' d = some o) → (∀ s t, ¬ q.Con o s t) → FolAt H' ds (fun s t => G s t ∨ q.Con o s t) N := fun {H'} m hk hn =>
    ⟨fa.nd, fa.len, fun s d e => let ⟨kvs, h1, h2⟩ := fa.at_ s d e; ⟨kvs, hk d (List.mem_of_getElem? e) _ h1, h2.imp fun t => ⟨.inl, fun z => z.elim id fun z => (hn s t z).elim⟩⟩⟩
  cases q with
  | sign l =>
    refine iteT ?_
    have hpos := hpos rfl
    subst hpos
    -- self.position -= 1
    have m1 : Mod [a] H (upd H a (.ins (He.ga K "Sets") dx (setsF rw_ lo fo ((o : Int) + 1 - 1)))) := Mod.refl.put ha (fun _ z => nomatch z) (List.mem_singleton.mpr rfl)
    have e1 : upd H a (.ins (He.ga K "Sets") dx (setsF rw_ lo fo ((o : Int) + 1 - 1))) a = some (.ins (He.ga K "Sets") dx (setsF rw_ lo fo ((o : Int) + 1 - 1))) := upd_same
    refine ⟨_, rfl, a, _, dx, _, _, rfl, ha, c_Sets T, n_Sets_position T, rfl, _, _, rfl, rfl, dx, _, ha, (by show 4 < 1000; decide), ?_⟩
    refine fun p1 hp1 => ⟨_, rfl, a, dx, _, _, rfl, (Mod.refl (ms := []).new hp1).keep _ _ e1 (by simp), rfl, _, _, rfl, rfl, upd_same, [(Sum.inl ((o : Int) + 1 - 1 + 1), .bl true)], rfl, (by show 1 ≤ 15; decide), ?_⟩
    have d1 : Mod [] (upd H a (.ins (He.ga K "Sets") dx (setsF rw_ lo fo ((o : Int) + 1 - 1)))) _ := mod_disp (m := mergeK [] [(Sum.inl ((o : Int) + 1 - 1 + 1), .bl true)]) hp1
    refine fun p2 hp2 => ⟨_, rfl, a, dx, _, _, rfl, (d1.new hp2).keep _ _ e1 (by simp), rfl, _, _, rfl, rfl, upd_same, [(Sum.inl ((o : Int) + 1 - 1 + 1), .bl true)], rfl, (by show 1 ≤ 15; decide), ?_⟩
    have d2 := mod_disp (m := mergeK [] [(Sum.inl ((o : Int) + 1 - 1 + 1), .bl true)]) hp2
    refine ⟨ln3, fun t ht => ?_⟩
    have d3 : Mod [] _ _ := Mod.refl (ms := []).new (o := .tup [.bl false, .ref p1, .ref p2]) ht
    have d13 := (d1.trans d2).trans d3
    have hp1H : H p1 = none := m1.back hp1
    have hp2H : H p2 = none := m1.back (d1.back hp2)
    have n1 := (d2.trans d3).keep p1 _ upd_same (by simp)
    have n2 := d3.keep p2 _ upd_same (by simp)
    have hk := @ks_one N (o + 1) ((o : Int) + 1 - 1 + 1) (by omega) (by simp only [Pat.sg] at hoN; omega)
    refine k _ t ((m1.trans d13.nil).mono fun b hb => by rw [List.mem_singleton.mp hb]; simp) (d13.keep _ _ e1 (by simp)) ?_ ⟨p1, p2, _, _, upd_same, n1, hk, n2, hk, fresh hp1H, fresh hp2H, ?_⟩
    · exact noCon ((m1.trans d13.nil).mono fun b hb => by rw [List.mem_singleton.mp hb]; simp) (fun d hd u hu => (m1.trans d13.nil).keep _ _ hu fun z => hads (by rw [← List.mem_singleton.mp z]; exact hd)) fun s t h => h
    · exact ne_of_none upd_same hp2
  | non =>
    refine iteF ⟨_, rfl, ln2, fun t1 ht1 => ⟨t1, _, rfl, .inr (SqT.of upd_same), rfl, rfl, true, rfl, iteT ?_⟩⟩
    have m1 : Mod [] H _ := Mod.refl (ms := []).new (o := .tup [.str "none", .str "empty"]) ht1
    refine ⟨_, rfl, rfl, fun p1 hp1 => fun p2 hp2 => ⟨ln3, fun t ht => ?_⟩⟩
    have d1 := Mod.refl (ms := []).new (o := .dK []) hp1
    have d2 := Mod.refl (ms := []).new (o := .dK []) hp2
    have d3 := Mod.refl (ms := []).new (o := .tup [.bl false, .ref p1, .ref p2]) ht
    have d13 := ((m1.trans d1).trans d2).trans d3
    have hp1H : H p1 = none := m1.back hp1
    have hp2H : H p2 = none := m1.back (d1.back hp2)
    refine k _ t d13.nil (d13.keep _ _ ha (by simp)) ?_ ⟨p1, p2, [], [], upd_same, (d2.trans d3).keep p1 _ upd_same (by simp), KS.nil, d3.keep p2 _ upd_same (by simp), KS.nil, fresh hp1H, fresh hp2H, ne_of_none upd_same hp2⟩
    exact noCon d13.nil (fun d hd u hu => d13.keep _ _ hu (by simp)) fun s t h => h
  | emp =>
    refine iteF ⟨_, rfl, ln2, fun t1 ht1 => ⟨t1, _, rfl, .inr (SqT.of upd_same), rfl, rfl, true, rfl, iteT ?_⟩⟩
    have m1 : Mod [] H _ := Mod.refl (ms := []).new (o := .tup [.str "none", .str "empty"]) ht1
    refine ⟨_, rfl, rfl, fun p1 hp1 => fun p2 hp2 => ⟨ln3, fun t ht => ?_⟩⟩
    have d1 := Mod.refl (ms := []).new (o := .dK []) hp1
    have d2 := Mod.refl (ms := []).new (o := .dK []) hp2
    have d3 := Mod.refl (ms := []).new (o := .tup [.bl true, .ref p1, .ref p2]) ht
    have d13 := ((m1.trans d1).trans d2).trans d3
    have hp1H : H p1 = none := m1.back hp1
    have hp2H : H p2 = none := m1.back (d1.back hp2)
    refine k _ t d13.nil (d13.keep _ _ ha (by simp)) ?_ ⟨p1, p2, [], [], upd_same, (d2.trans d3).keep p1 _ upd_same (by simp), KS.nil, d3.keep p2 _ upd_same (by simp), KS.nil, fresh hp1H, fresh hp2H, ne_of_none upd_same hp2⟩
    exact noCon d13.nil (fun d hd u hu => d13.keep _ _ hu (by simp)) fun s t h => h
  | mark mk x =>
    obtain ⟨c1, ta, rfl, hva, tda⟩ := kids
    refine iteF ⟨_, rfl, ln2, fun t1 ht1 => ⟨t1, _, rfl, .inr (SqT.of upd_same), rfl, rfl, false, rfl, iteF ?_⟩⟩
    have m1 : Mod [] H _ := Mod.refl (ms := []).new (o := .tup [.str "none", .str "empty"]) ht1
    -- one = told[parts[0]]
    refine ⟨_, rfl, _, rfl, c, _, 0, _, rfl, rfl, SqL.of (m1.keep _ _ hc (by simp)), at_of (j := 0) rfl rfl, td, _, rfl, dget_of (m1.keep _ _ htd (by simp)) hva, ?_⟩
    refine ⟨_, rfl, rfl, true, rfl, iteT ?_⟩
    refine ⟨_, rfl, k _ ta m1.nil (m1.keep _ _ ha (by simp)) ?_ (tda.mod m1 fun _ z => nomatch z)⟩
    exact noCon m1.nil (fun d hd u hu => m1.keep _ _ hu (by simp)) fun s t h => h
  | many x =>
    obtain ⟨c1, ta, rfl, hva, tda⟩ := kids
    refine iteF ⟨_, rfl, ln2, fun t1 ht1 => ⟨t1, _, rfl, .inr (SqT.of upd_same), rfl, rfl, false, rfl, iteF ?_⟩⟩
    have m1 : Mod [] H _ := Mod.refl (ms := []).new (o := .tup [.str "none", .str "empty"]) ht1
    -- one = told[parts[0]]
    refine ⟨_, rfl, _, rfl, c, _, 0, _, rfl, rfl, SqL.of (m1.keep _ _ hc (by simp)), at_of (j := 0) rfl rfl, td, _, rfl, dget_of (m1.keep _ _ htd (by simp)) hva, ?_⟩
    refine ⟨_, rfl, rfl, false, rfl, iteF ?_⟩
    refine ⟨_, rfl, ln2, fun t2 ht2 => ⟨t2, _, rfl, .inr (SqT.of upd_same), rfl, rfl, true, rfl, iteT ?_⟩⟩
    have m2 := m1.new (o := .tup [.str "many", .str "few"]) ht2
    obtain ⟨df, dl, kf, kl, a1, a2, a3, a4, a5, a6, a7, a8⟩ := tda
    have b1 := m2.tup _ _ a1
    have b2 := m2.keep _ _ a2 (by simp)
    have b4 := m2.keep _ _ a4 (by simp)
    have hdl : dl ∉ ds := fun z => a7 (hds _ z)
    have hdf : df ∉ ds := fun z => a6 (hds _ z)
    refine ⟨_, rfl, a, dx, _, rfl, m2.keep _ _ ha (by simp), rfl, _, rfl, ta, _, 2, _, rfl, rfl, SqT.of b1, at_of (j := 2) rfl rfl, _, rfl, ta, _, 1, _, rfl, rfl, SqT.of b1, at_of (j := 1) rfl rfl,
      a, dl, df, dx, fo, _, ds, G, N, kl, kf, _, _, rfl, m2.keep _ _ ha (by simp), rfl, m2.keep _ _ hF (by simp), fa.mod m2 nomem, b4, a5, b2, a3, hdl, hdf, hN, fun H3 m3 fa3 => ?_⟩
    have b1' := m3.tup _ _ b1
    refine ⟨_, rfl, ta, _, 1, _, rfl, rfl, SqT.of b1', at_of (j := 1) rfl rfl, _, rfl, ta, _, 2, _, rfl, rfl, SqT.of b1', at_of (j := 2) rfl rfl, ln3, fun t ht => ?_⟩
    have d3 := Mod.refl (ms := []).new (o := .tup [.bl true, .ref df, .ref dl]) ht
    have mm : Mod ds H _ := (m2.nil.trans m3).trans d3.nil
    refine k _ t (mm.mono fun b hb => List.mem_cons_of_mem _ hb) (mm.keep _ _ ha hads) ?_ ⟨df, dl, kf, kl, upd_same, mm.keep _ _ a2 hdf, a3, mm.keep _ _ a4 hdl, a5, a6, a7, a8⟩
    exact (fa3.mod d3 nomem).imp fun s t => Iff.rfl
  | few x =>
    obtain ⟨c1, ta, rfl, hva, tda⟩ := kids
    refine iteF ⟨_, rfl, ln2, fun t1 ht1 => ⟨t1, _, rfl, .inr (SqT.of upd_same), rfl, rfl, false, rfl, iteF ?_⟩⟩
    have m1 : Mod [] H _ := Mod.refl (ms := []).new (o := .tup [.str "none", .str "empty"]) ht1
    -- one = told[parts[0]]
    refine ⟨_, rfl, _, rfl, c, _, 0, _, rfl, rfl, SqL.of (m1.keep _ _ hc (by simp)), at_of (j := 0) rfl rfl, td, _, rfl, dget_of (m1.keep _ _ htd (by simp)) hva, ?_⟩
    refine ⟨_, rfl, rfl, false, rfl, iteF ?_⟩
    refine ⟨_, rfl, ln2, fun t2 ht2 => ⟨t2, _, rfl, .inr (SqT.of upd_same), rfl, rfl, true, rfl, iteT ?_⟩⟩
    have m2 := m1.new (o := .tup [.str "many", .str "few"]) ht2
    obtain ⟨df, dl, kf, kl, a1, a2, a3, a4, a5, a6, a7, a8⟩ := tda
    have b1 := m2.tup _ _ a1
    have b2 := m2.keep _ _ a2 (by simp)
    have b4 := m2.keep _ _ a4 (by simp)
    have hdl : dl ∉ ds := fun z => a7 (hds _ z)
    have hdf : df ∉ ds := fun z => a6 (hds _ z)
    refine ⟨_, rfl, a, dx, _, rfl, m2.keep _ _ ha (by simp), rfl, _, rfl, ta, _, 2, _, rfl, rfl, SqT.of b1, at_of (j := 2) rfl rfl, _, rfl, ta, _, 1, _, rfl, rfl, SqT.of b1, at_of (j := 1) rfl rfl,
      a, dl, df, dx, fo, _, ds, G, N, kl, kf, _, _, rfl, m2.keep _ _ ha (by simp), rfl, m2.keep _ _ hF (by simp), fa.mod m2 nomem, b4, a5, b2, a3, hdl, hdf, hN, fun H3 m3 fa3 => ?_⟩
    have b1' := m3.tup _ _ b1
    refine ⟨_, rfl, ta, _, 1, _, rfl, rfl, SqT.of b1', at_of (j := 1) rfl rfl, _, rfl, ta, _, 2, _, rfl, rfl, SqT.of b1', at_of (j := 2) rfl rfl, ln3, fun t ht => ?_⟩
    have d3 := Mod.refl (ms := []).new (o := .tup [.bl true, .ref df, .ref dl]) ht
    have mm : Mod ds H _ := (m2.nil.trans m3).trans d3.nil
    refine k _ t (mm.mono fun b hb => List.mem_cons_of_mem _ hb) (mm.keep _ _ ha hads) ?_ ⟨df, dl, kf, kl, upd_same, mm.keep _ _ a2 hdf, a3, mm.keep _ _ a4 hdl, a5, a6, a7, a8⟩
    exact (fa3.mod d3 nomem).imp fun s t => Iff.rfl
  | orr x y =>
    obtain ⟨c1, c2, ta, tb, rfl, hva, tda, hvb, tdb⟩ := kids
    refine iteF ⟨_, rfl, ln2, fun t1 ht1 => ⟨t1, _, rfl, .inr (SqT.of upd_same), rfl, rfl, false, rfl, iteF ?_⟩⟩
    have m1 : Mod [] H _ := Mod.refl (ms := []).new (o := .tup [.str "none", .str "empty"]) ht1
    -- one = told[parts[0]]
    refine ⟨_, rfl, _, rfl, c, _, 0, _, rfl, rfl, SqL.of (m1.keep _ _ hc (by simp)), at_of (j := 0) rfl rfl, td, _, rfl, dget_of (m1.keep _ _ htd (by simp)) hva, ?_⟩
    refine ⟨_, rfl, rfl, false, rfl, iteF ?_⟩
    refine ⟨_, rfl, ln2, fun t2 ht2 => ⟨t2, _, rfl, .inr (SqT.of upd_same), rfl, rfl, false, rfl, iteF ?_⟩⟩
    have m2 := m1.new (o := .tup [.str "many", .str "few"]) ht2
    obtain ⟨df, dl, kf, kl, a1, a2, a3, a4, a5, a6, a7, a8⟩ := tda
    obtain ⟨ef, el, lf, ll, g1, g2, g3, g4, g5, g6, g7, g8⟩ := tdb
    have b1 := m2.tup _ _ a1
    have h1 := m2.tup _ _ g1
    -- other = told[parts[1]]
    refine ⟨_, rfl, _, rfl, c, _, 1, _, rfl, rfl, SqL.of (m2.keep _ _ hc (by simp)), at_of (j := 1) rfl rfl, td, _, rfl, dget_of (m2.keep _ _ htd (by simp)) hvb, ?_⟩
    -- firsts, lasts = dict(one[1]), dict(other[2])
    refine ⟨_, rfl, ta, _, 1, _, rfl, rfl, SqT.of b1, at_of (j := 1) rfl rfl, df, kf, rfl, .inl (m2.keep _ _ a2 (by simp)), fun p1 hp1 => ?_⟩
    have d1 := Mod.refl (ms := []).new (o := .dK kf) hp1
    have m3 := m2.trans d1
    refine ⟨_, rfl, tb, _, 2, _, rfl, rfl, SqT.of (d1.tup _ _ h1), at_of (j := 2) rfl rfl, el, ll, rfl, .inl (m3.keep _ _ g4 (by simp)), fun p2 hp2 => ⟨_, _, rfl, ?_⟩⟩
    have d2 := Mod.refl (ms := []).new (o := .dK ll) hp2
    have m4 := m3.trans d2
    have hp1H : H p1 = none := m2.back hp1
    have hp2H : H p2 = none := m3.back hp2
    have hpp : p1 ≠ p2 := ne_of_none upd_same hp2
    have e1 := d2.keep p1 _ upd_same (by simp)
    have e2 : upd (upd (upd (upd H t1 (.tup [.str "none", .str "empty"])) t2 (.tup [.str "many", .str "few"])) p1 (.dK kf)) p2 (.dK ll) p2 = some (.dK ll) := upd_same
    have kfl := a3.len
    have lll := g5.len
    have lfl := g3.len
    have kll := a5.len
    have efH := ne_of_none g2 hp1H
    have efH2 := ne_of_none g2 hp2H
    have dlH := ne_of_none a4 hp2H
    have dlH1 := ne_of_none a4 hp1H
    refine ⟨fun σ' H5 => σ' = [some (.ref a), some (.ref r), some (.ref td), some (.ref b), some (.ref c), some (.str (Pat.orr x y).word), some (.ref ta), some (.ref tb), some (.ref p1), some (.ref p2)] ∧ Mod [] H H5 ∧ H5 p2 = some (.dK ll) ∧
      ∃ kF, H5 p1 = some (.dK kF) ∧ KS kF ((Pat.orr x y).Fst o) N, ?_, ?_⟩
    · refine ⟨_, rfl, rfl, true, rfl, iteT (iteT ?_)⟩
      · refine ⟨_, rfl, ty_dK e1, _, rfl, tb, _, 1, _, rfl, rfl, SqT.of (m4.tup _ _ g1), at_of (j := 1) rfl rfl, p1, ef, kf, lf, rfl, rfl, e1, m4.keep _ _ g2 (by simp), efH.symm, le_line (by omega), rfl, m4.putNew e1 hp1H, ?_, _, upd_same, (KS.merge a3 g3).imp fun s => ?_⟩
        · rw [upd_ne hpp.symm]; exact e2
        · exact Iff.rfl
    · rintro σ' H5 ⟨rfl, m5, f2, kF, f1, ksF⟩
      refine ⟨fun σ' H6 => σ' = [some (.ref a), some (.ref r), some (.ref td), some (.ref b), some (.ref c), some (.str (Pat.orr x y).word), some (.ref ta), some (.ref tb), some (.ref p1), some (.ref p2)] ∧ Mod [] H H6 ∧ H6 p1 = some (.dK kF) ∧
        ∃ kL, H6 p2 = some (.dK kL) ∧ KS kL ((Pat.orr x y).Lst o) N, ?_, ?_⟩
      · refine ⟨_, rfl, rfl, true, rfl, iteT (iteT ?_)⟩
        · refine ⟨_, rfl, ty_dK f2, _, rfl, ta, _, 2, _, rfl, rfl, SqT.of (m5.tup _ _ a1), at_of (j := 2) rfl rfl, p2, dl, ll, kl, rfl, rfl, f2, m5.keep _ _ a4 (by simp), dlH.symm, le_line (by omega), rfl, m5.putNew f2 hp2H, ?_, _, upd_same, (KS.merge g5 a5).imp fun s => ?_⟩
          · rw [upd_ne hpp]; exact f1
          · exact Iff.rfl
      · rintro σ' H6 ⟨rfl, m6, w1, kL, w2, ksL⟩
        have u1 := m6.tup _ _ a1
        have v1 := m6.tup _ _ g1
        have hdl : dl ∉ ds := fun z => a7 (hds _ z)
        have hef : ef ∉ ds := fun z => g6 (hds _ z)
        refine ⟨_, rfl, rfl, true, rfl, iteT ?_⟩
        refine ⟨_, rfl, ta, _, 0, _, rfl, rfl, SqT.of u1, at_of (j := 0) rfl rfl, _, rfl, ?_⟩
        have fin : ∀ (H7 : Hp) (t : Addr), H6 t = none → H7 = upd H6 t (.tup [.bl (x.nul || y.nul), .ref p1, .ref p2]) → Q (.ref t) H7 := fun H7 t ht e => by
          subst e
          have d3 := Mod.refl (ms := []).new (o := .tup [.bl (x.nul || y.nul), .ref p1, .ref p2]) ht
          have mm := m6.trans d3
          exact k _ t mm.nil (mm.keep _ _ ha (by simp)) (noCon mm.nil (fun d hd u hu => mm.keep _ _ hu (by simp)) fun s t h => h) ⟨p1, p2, kF, kL, upd_same, d3.keep _ _ w1 (by simp), ksF, d3.keep _ _ w2 (by simp), ksL, fresh hp1H, fresh hp2H, hpp⟩
        cases hx : x.nul with
        | true => 
          refine iteT ⟨_, rfl, _, rfl, ln3, fun t ht => fin _ t ht (by rw [hx]; rfl)⟩
        | false => 
          refine iteF ⟨_, rfl, tb, _, 0, _, rfl, rfl, SqT.of v1, at_of (j := 0) rfl rfl, _, rfl, _, rfl, ln3, fun t ht => fin _ t ht (by rw [hx, Bool.false_or])⟩
  | thn x y =>
    obtain ⟨c1, c2, ta, tb, rfl, hva, tda, hvb, tdb⟩ := kids
    refine iteF ⟨_, rfl, ln2, fun t1 ht1 => ⟨t1, _, rfl, .inr (SqT.of upd_same), rfl, rfl, false, rfl, iteF ?_⟩⟩
    have m1 : Mod [] H _ := Mod.refl (ms := []).new (o := .tup [.str "none", .str "empty"]) ht1
    -- one = told[parts[0]]
    refine ⟨_, rfl, _, rfl, c, _, 0, _, rfl, rfl, SqL.of (m1.keep _ _ hc (by simp)), at_of (j := 0) rfl rfl, td, _, rfl, dget_of (m1.keep _ _ htd (by simp)) hva, ?_⟩
    refine ⟨_, rfl, rfl, false, rfl, iteF ?_⟩
    refine ⟨_, rfl, ln2, fun t2 ht2 => ⟨t2, _, rfl, .inr (SqT.of upd_same), rfl, rfl, false, rfl, iteF ?_⟩⟩
    have m2 := m1.new (o := .tup [.str "many", .str "few"]) ht2
    obtain ⟨df, dl, kf, kl, a1, a2, a3, a4, a5, a6, a7, a8⟩ := tda
    obtain ⟨ef, el, lf, ll, g1, g2, g3, g4, g5, g6, g7, g8⟩ := tdb
    have b1 := m2.tup _ _ a1
    have h1 := m2.tup _ _ g1
    -- other = told[parts[1]]
    refine ⟨_, rfl, _, rfl, c, _, 1, _, rfl, rfl, SqL.of (m2.keep _ _ hc (by simp)), at_of (j := 1) rfl rfl, td, _, rfl, dget_of (m2.keep _ _ htd (by simp)) hvb, ?_⟩
    -- firsts, lasts = dict(one[1]), dict(other[2])
    refine ⟨_, rfl, ta, _, 1, _, rfl, rfl, SqT.of b1, at_of (j := 1) rfl rfl, df, kf, rfl, .inl (m2.keep _ _ a2 (by simp)), fun p1 hp1 => ?_⟩
    have d1 := Mod.refl (ms := []).new (o := .dK kf) hp1
    have m3 := m2.trans d1
    refine ⟨_, rfl, tb, _, 2, _, rfl, rfl, SqT.of (d1.tup _ _ h1), at_of (j := 2) rfl rfl, el, ll, rfl, .inl (m3.keep _ _ g4 (by simp)), fun p2 hp2 => ⟨_, _, rfl, ?_⟩⟩
    have d2 := Mod.refl (ms := []).new (o := .dK ll) hp2
    have m4 := m3.trans d2
    have hp1H : H p1 = none := m2.back hp1
    have hp2H : H p2 = none := m3.back hp2
    have hpp : p1 ≠ p2 := ne_of_none upd_same hp2
    have e1 := d2.keep p1 _ upd_same (by simp)
    have e2 : upd (upd (upd (upd H t1 (.tup [.str "none", .str "empty"])) t2 (.tup [.str "many", .str "few"])) p1 (.dK kf)) p2 (.dK ll) p2 = some (.dK ll) := upd_same
    have kfl := a3.len
    have lll := g5.len
    have lfl := g3.len
    have kll := a5.len
    have efH := ne_of_none g2 hp1H
    have efH2 := ne_of_none g2 hp2H
    have dlH := ne_of_none a4 hp2H
    have dlH1 := ne_of_none a4 hp1H
    refine ⟨fun σ' H5 => σ' = [some (.ref a), some (.ref r), some (.ref td), some (.ref b), some (.ref c), some (.str (Pat.thn x y).word), some (.ref ta), some (.ref tb), some (.ref p1), some (.ref p2)] ∧ Mod [] H H5 ∧ H5 p2 = some (.dK ll) ∧
      ∃ kF, H5 p1 = some (.dK kF) ∧ KS kF ((Pat.thn x y).Fst o) N, ?_, ?_⟩
    · refine ⟨_, rfl, rfl, false, rfl, iteF ⟨_, rfl, ta, _, 0, _, rfl, rfl, SqT.of (m4.tup _ _ a1), at_of (j := 0) rfl rfl, _, rfl, ?_⟩⟩
      cases hx : x.nul with
      | true =>
        refine iteT ?_
        refine ⟨_, rfl, ty_dK e1, _, rfl, tb, _, 1, _, rfl, rfl, SqT.of (m4.tup _ _ g1), at_of (j := 1) rfl rfl, p1, ef, kf, lf, rfl, rfl, e1, m4.keep _ _ g2 (by simp), efH.symm, le_line (by omega), rfl, m4.putNew e1 hp1H, ?_, _, upd_same, (KS.merge a3 g3).imp fun s => ?_⟩
        · rw [upd_ne hpp.symm]; exact e2
        · exact ⟨fun h => h.elim .inl fun h => .inr ⟨hx, h⟩, fun h => h.elim .inl fun h => .inr h.2⟩
      | false => exact iteF ⟨rfl, m4, e2, kf, e1, a3.imp fun s => ⟨.inl, fun h => h.elim id fun h => by rw [hx] at h; exact absurd h.1 (by decide)⟩⟩
    · rintro σ' H5 ⟨rfl, m5, f2, kF, f1, ksF⟩
      refine ⟨fun σ' H6 => σ' = [some (.ref a), some (.ref r), some (.ref td), some (.ref b), some (.ref c), some (.str (Pat.thn x y).word), some (.ref ta), some (.ref tb), some (.ref p1), some (.ref p2)] ∧ Mod [] H H6 ∧ H6 p1 = some (.dK kF) ∧
        ∃ kL, H6 p2 = some (.dK kL) ∧ KS kL ((Pat.thn x y).Lst o) N, ?_, ?_⟩
      · refine ⟨_, rfl, rfl, false, rfl, iteF ⟨_, rfl, tb, _, 0, _, rfl, rfl, SqT.of (m5.tup _ _ g1), at_of (j := 0) rfl rfl, _, rfl, ?_⟩⟩
        cases hy : y.nul with
        | true =>
          refine iteT ?_
          refine ⟨_, rfl, ty_dK f2, _, rfl, ta, _, 2, _, rfl, rfl, SqT.of (m5.tup _ _ a1), at_of (j := 2) rfl rfl, p2, dl, ll, kl, rfl, rfl, f2, m5.keep _ _ a4 (by simp), dlH.symm, le_line (by omega), rfl, m5.putNew f2 hp2H, ?_, _, upd_same, (KS.merge g5 a5).imp fun s => ?_⟩
          · rw [upd_ne hpp]; exact f1
          · exact ⟨fun h => h.elim .inl fun h => .inr ⟨hy, h⟩, fun h => h.elim .inl fun h => .inr h.2⟩
        | false => exact iteF ⟨rfl, m5, f1, ll, f2, g5.imp fun s => ⟨.inl, fun h => h.elim id fun h => by rw [hy] at h; exact absurd h.1 (by decide)⟩⟩
      · rintro σ' H6 ⟨rfl, m6, w1, kL, w2, ksL⟩
        have u1 := m6.tup _ _ a1
        have v1 := m6.tup _ _ g1
        have hdl : dl ∉ ds := fun z => a7 (hds _ z)
        have hef : ef ∉ ds := fun z => g6 (hds _ z)
        refine ⟨_, rfl, rfl, false, rfl, iteF ?_⟩
        refine ⟨_, rfl, a, dx, _, rfl, m6.keep _ _ ha (by simp), rfl, _, rfl, ta, _, 2, _, rfl, rfl, SqT.of u1, at_of (j := 2) rfl rfl, _, rfl, tb, _, 1, _, rfl, rfl, SqT.of v1, at_of (j := 1) rfl rfl,
          a, dl, ef, dx, fo, _, ds, G, N, kl, lf, _, _, rfl, m6.keep _ _ ha (by simp), rfl, m6.keep _ _ hF (by simp), fa.mod m6 nomem, m6.keep _ _ a4 (by simp), a5, m6.keep _ _ g2 (by simp), g3, hdl, hef, hN, fun H7 m7 fa7 => ?_⟩
        have np1 : p1 ∉ ds := fun z => fresh hp1H (hds _ z)
        have np2 : p2 ∉ ds := fun z => fresh hp2H (hds _ z)
        refine ⟨_, rfl, ta, _, 0, _, rfl, rfl, SqT.of (m7.tup _ _ u1), at_of (j := 0) rfl rfl, _, rfl, ?_⟩
        have fin : ∀ (H8 : Hp) (t : Addr), H7 t = none → H8 = upd H7 t (.tup [.bl (x.nul && y.nul), .ref p1, .ref p2]) → Q (.ref t) H8 := fun H8 t ht e => by
          subst e
          have d3 := Mod.refl (ms := []).new (o := .tup [.bl (x.nul && y.nul), .ref p1, .ref p2]) ht
          have mm := (m6.nil.trans m7).trans d3.nil
          exact k _ t (mm.mono fun b hb => List.mem_cons_of_mem _ hb) (mm.keep _ _ ha hads) ((fa7.mod d3 nomem).imp fun s t => Iff.rfl) ⟨p1, p2, kF, kL, upd_same, d3.keep _ _ (m7.keep _ _ w1 np1) (by simp), ksF, d3.keep _ _ (m7.keep _ _ w2 np2) (by simp), ksL, fresh hp1H, fresh hp2H, hpp⟩
        cases hx : x.nul with
        | true => 
          refine iteT ⟨_, rfl, tb, _, 0, _, rfl, rfl, SqT.of (m7.tup _ _ v1), at_of (j := 0) rfl rfl, _, rfl, _, rfl, ln3, fun t ht => fin _ t ht (by rw [hx, Bool.true_and])⟩
        | false => 
          refine iteF ⟨_, rfl, _, rfl, ln3, fun t ht => fin _ t ht (by rw [hx]; rfl)⟩
end
end Fr

set_option maxHeartbeats 4000000
namespace Fr
open PySem PySem.Spec PyProof.Rows L2
/-! ### plain: the lots among the rows -/
theorem filt_range {α β γ : Type} (g : α → Option β) (F : β → γ) : ∀ (l : List α) (zs : List γ), Paired (fun (i : Nat) y => ∃ a b, l[i]? = some a ∧ g a = some b ∧ y = F b) ((List.range l.length).filter fun i => ((l[i]?).bind g).isSome) zs → zs = (l.filterMap g).map F
  | [], zs, h => by cases h; rfl
  | a :: l, zs, h => by
    rw [List.length_cons, List.range_succ_eq_map, List.filter_cons, List.filter_map] at h
    have e : ((fun (i : Nat) => (((a :: l)[i]?).bind g).isSome) ∘ Nat.succ) = fun i => ((l[i]?).bind g).isSome := by funext i; simp
    rw [e] at h
    have tail : ∀ {ys : List γ} {is : List Nat}, Paired (fun (i : Nat) y => ∃ a' b, (a :: l)[i]? = some a' ∧ g a' = some b ∧ y = F b) (is.map Nat.succ) ys → Paired (fun (i : Nat) y => ∃ a b, l[i]? = some a ∧ g a = some b ∧ y = F b) is ys := by
      intro ys is
      induction is generalizing ys with
      | nil => intro h; cases h; exact .nil
      | cons i r ih =>
        intro h
        cases h with
        | cons p q =>
          obtain ⟨a', b, h1, h2, h3⟩ := p
          exact .cons ⟨a', b, by simpa using h1, h2, h3⟩ (ih q)
    cases hg : g a with
    | none =>
      rw [List.getElem?_cons_zero, Option.bind_some, hg] at h
      rw [List.filterMap_cons, hg]
      exact filt_range g F l zs (tail h)
    | some b =>
      rw [List.getElem?_cons_zero, Option.bind_some, hg] at h
      rw [List.filterMap_cons, hg]
      cases h with
      | cons p q =>
        obtain ⟨a', b', h1, h2, h3⟩ := p
        have h1 : a = a' := by simpa using h1
        subst h1
        rw [hg] at h2
        cases h2
        rw [h3, filt_range g F l _ (tail q)]
        rfl
def lotOf : Pat × List Nat → Option (List Nat)
  | (.sign l, _) => some l
  | _ => none
theorem rows_lots : ∀ (p : Pat) (n : Nat), (rowsFrom p n).filterMap lotOf = p.lots
  | .non, _ => rfl
  | .emp, _ => rfl
  | .sign _, _ => rfl
  | .thn p q, n => by simp [rowsFrom, List.filterMap_cons, lotOf, rows_lots p, rows_lots q, Pat.lots]
  | .orr p q, n => by simp [rowsFrom, List.filterMap_cons, lotOf, rows_lots p, rows_lots q, Pat.lots]
  | .many p, n => by simp [rowsFrom, List.filterMap_cons, lotOf, rows_lots p, Pat.lots]
  | .few p, n => by simp [rowsFrom, List.filterMap_cons, lotOf, rows_lots p, Pat.lots]
  | .mark _ p, n => by simp [rowsFrom, List.filterMap_cons, lotOf, rows_lots p, Pat.lots]
theorem Pat.nodes_sg : ∀ (p : Pat) (o i : Nat) (e : Pat × Nat), (p.nodes o)[i]? = some e → e.2 + e.1.sg ≤ o + p.sg
  | p, o, 0, e, h => by rw [nodes_head] at h; cases h; exact Nat.le_refl _
  | .thn p q, o, i + 1, e, h => by
    simp only [nodes, List.getElem?_cons_succ] at h
    simp only [sg]
    by_cases hi : i < (p.nodes o).length
    · rw [List.getElem?_append_left hi] at h
      have := nodes_sg p o i e h; omega
    · rw [List.getElem?_append_right (by omega)] at h
      have := nodes_sg q _ _ e h; omega
  | .orr p q, o, i + 1, e, h => by
    simp only [nodes, List.getElem?_cons_succ] at h
    simp only [sg]
    by_cases hi : i < (p.nodes o).length
    · rw [List.getElem?_append_left hi] at h
      have := nodes_sg p o i e h; omega
    · rw [List.getElem?_append_right (by omega)] at h
      have := nodes_sg q _ _ e h; omega
  | .many p, o, i + 1, e, h => nodes_sg p o i e (by simpa [nodes] using h)
  | .few p, o, i + 1, e, h => nodes_sg p o i e (by simpa [nodes] using h)
  | .mark m p, o, i + 1, e, h => nodes_sg p o i e (by simpa [nodes] using h)
  | .non, o, i + 1, e, h => by simp [nodes] at h
  | .emp, o, i + 1, e, h => by simp [nodes] at h
  | .sign _, o, i + 1, e, h => by simp [nodes] at h
/-- what follows a state, 0 the begin; what ends -/
def FolS (p : Pat) (s t : Nat) : Prop := (s = 0 ∧ p.Fst 0 t) ∨ p.Fol 0 s t
def EndS (p : Pat) (s : Nat) : Prop := p.Lst 0 s ∨ (s = 0 ∧ p.nul = true)
section
variable {P : Program} {w : World} {K : PySem.W.Frag} {mg : Str → Option Value} {base : Heap}
def lotV (l : List Nat) : V := .str ⟨l.toArray⟩
/-- the sets of a pattern stand at x -/
def SetsAt (K : PySem.W.Frag) (H : Hp) (x : Addr) (p : Pat) : Prop := ∃ (dx lo fo e : Addr) (rw_ : V) (pos : Int) (ds : List Addr) (ke : List (Key × V)),
  H x = some (.ins (He.ga K "Sets") dx [("rows", rw_), ("lots", .ref lo), ("follows", .ref fo), ("position", .int pos), ("enders", .ref e)]) ∧ H lo = some (.lst (p.lots.map lotV)) ∧ H fo = some (.lst (ds.map V.ref)) ∧ FolAt H ds (FolS p) p.sg ∧ H e = some (.dK ke) ∧ KS ke (EndS p) p.sg
/-- .. and none of its parts is one of N -/
def SetsAtW (K : PySem.W.Frag) (H : Hp) (x : Addr) (p : Pat) (N : Addr → Prop) : Prop := ∃ (dx lo fo e : Addr) (rw_ : V) (pos : Int) (ds : List Addr) (ke : List (Key × V)),
  H x = some (.ins (He.ga K "Sets") dx [("rows", rw_), ("lots", .ref lo), ("follows", .ref fo), ("position", .int pos), ("enders", .ref e)]) ∧ H lo = some (.lst (p.lots.map lotV)) ∧ H fo = some (.lst (ds.map V.ref)) ∧ FolAt H ds (FolS p) p.sg ∧ H e = some (.dK ke) ∧ KS ke (EndS p) p.sg ∧
  ¬ N lo ∧ ¬ N fo ∧ ¬ N e ∧ ∀ d ∈ ds, ¬ N d
theorem SetsAtW.at_ {K : PySem.W.Frag} {H : Hp} {x : Addr} {p : Pat} {N : Addr → Prop} (h : SetsAtW K H x p N) : SetsAt K H x p := by
  obtain ⟨dx, lo, fo, e, rw_, pos, ds, ke, h1, h2, h3, h4, h5, h6, _⟩ := h
  exact ⟨dx, lo, fo, e, rw_, pos, ds, ke, h1, h2, h3, h4, h5, h6⟩
def spSetsInit (K : PySem.W.Frag) : Sp := fun vs H Q _ => ∃ (x dx : Addr) (v : V) (p : Pat), vs = [.ref x, v] ∧ H x = some (.ins (He.ga K "Sets") dx []) ∧ IsP H v p ∧ p.size ≤ 60 ∧ ∀ H', Mod [x] H H' → SetsAtW K H' x p (fun a => H a ≠ none) → Q .non H'
theorem has_Sets_init (T : Tx w K mg) : HasM P w K mg base 3 "Sets" "__init__" ["self", "pattern"] (spSetsInit K) := by
  have H_Sets_told_of := has_Sets_told_of (P := P) (base := base) T
  have H_node_rows := has_node_rows (P := P) (base := base) T
  refine (T.has (d := d_Sets_init) 10 rfl rfl rfl rfl b_Sets_init sc_Sets_init (fun vs H Q E h => ?_) fun cdv A outer s H vs Q E hr h => ?_)
  · obtain ⟨_, _, _, _, rfl, _⟩ := h; rfl
  obtain ⟨x, dx, v, p, rfl, hx, hp, hs, q⟩ := h
  refine ⟨_, (pss_cons (ps_fldC (c_Sets T) (n_Sets_rows T) (pv 0) (pe_callH H_node_rows (hr.mono (by decide)) (by rfl) (g_node_rows T) (pa_cons (pv 1) pa_nil)) rfl)
      (pss_cons (ps_fldC (c_Sets T) (n_Sets_lots T) (pv 0) (pe_lc (own := [("node", 7), ("parts", 8)]) (g := (gTup K 2 (gCons (gName 7) (gCons (gName 8) gNil)))) rfl sc_Sets_init.nd (pi_list (pe_fldC (c_Sets T) (n_Sets_rows T) (pv 0))) (blkOk_by (own := [("node", 7), ("parts", 8)]) (N := ["self", "pattern", "number", "told", "is_empty", "firsts", "lasts", "node", "parts"]) (sc := defScope s_Sets_init) (by decide +kernel)) (fun _ _ _ _ _ => (pg_tup rfl (pgs_cons (pg_name (i := 7) sc_Sets_init.nd rfl (Or.inl rfl)) (pgs_cons (pg_name (i := 8) sc_Sets_init.nd rfl (Or.inl rfl)) pgs_nil)))) (fun _ _ _ _ _ => (pts_one (pt_cmpR op_eq (pe_ix (ix_tupK K) (pv 7) pe_int (fun _ _ => rfl)) pe_str (nomark _)))) (fun _ _ _ _ _ => (pe_ix (ix_tupK K) (pv 7) pe_int (fun _ _ => rfl)))) rfl)
      (pss_cons (ps_fldC (c_Sets T) (n_Sets_follows T) (pv 0) (pe_lc (own := [("number", 2)]) (g := (gName 2)) (tt := tYes) rfl sc_Sets_init.nd (pi_range1 (by rfl) (z_range T) (pa_cons (pe_op op_add (pe_callB call_len_seq (by rfl) (z_len T) (by decide +kernel) (pa_cons (pe_fldC (c_Sets T) (n_Sets_lots T) (pv 0)) pa_nil)) pe_int) pa_nil)) (blkOk_by (own := [("number", 2)]) (N := ["self", "pattern", "number", "told", "is_empty", "firsts", "lasts", "node", "parts"]) (sc := defScope s_Sets_init) (by decide +kernel)) (fun _ _ _ _ _ => (pg_name (i := 2) sc_Sets_init.nd rfl (Or.inl rfl))) (fun _ _ _ _ _ => pts_nil) (fun _ _ _ _ _ => pe_dnewK)) rfl)
      (pss_cons (ps_fldC (c_Sets T) (n_Sets_position T) (pv 0) (pe_callB call_len_seq (by rfl) (z_len T) (by decide +kernel) (pa_cons (pe_fldC (c_Sets T) (n_Sets_lots T) (pv 0)) pa_nil)) rfl)
      (pss_cons (ps_set (i := 3) sc_Sets_init.nd rfl (Or.inl rfl) pe_dnewK)
      (pss_cons (ps_for PassesOwn.never rfl (pi_range3 (by rfl) (z_range T) (pa_cons (pe_op op_sub (pe_callB call_len_seq (by rfl) (z_len T) (by decide +kernel) (pa_cons (pe_fldC (c_Sets T) (n_Sets_rows T) (pv 0)) pa_nil)) pe_int) (pa_cons (pe_un un_neg pe_int) (pa_cons (pe_un un_neg pe_int) pa_nil)))) (pg_name (i := 2) sc_Sets_init.nd rfl (Or.inl rfl)) (pss_one (ps_dput (hu_of hr) (pv 3) (pv 2) (pe_methH (c_Sets T) (m_Sets_told_of T) H_Sets_told_of (hr.mono (by decide)) (pv 0) (pa_cons (pe_ix ix_list (pe_fldC (c_Sets T) (n_Sets_rows T) (pv 0)) (pv 2) (fun _ _ => rfl)) (pa_cons (pv 3) pa_nil))) rfl)))
      (pss_cons (ps_asg (pe_dget (hu_of hr) (pv 3) pe_int (fun _ _ => rfl)) (pg_tup rfl (pgs_cons (pg_name (i := 4) sc_Sets_init.nd rfl (Or.inl rfl)) (pgs_cons (pg_name (i := 5) sc_Sets_init.nd rfl (Or.inl rfl)) (pgs_cons (pg_name (i := 6) sc_Sets_init.nd rfl (Or.inl rfl)) pgs_nil)))))
      (pss_cons (ps_expr (pe_bm PySem.F.plainAttrs_dict PySem.F.slot_dict_update PySem.F.type_dict_update mt_update (pe_ix ix_list (pe_fldC (c_Sets T) (n_Sets_follows T) (pv 0)) pe_int (fun _ _ => rfl)) (pa_cons (pe_callTy call_dictD (by rfl) (z_dict T) (by decide +kernel) (pa_cons (pv 5) pa_nil)) pa_nil)))
      (pss_cons (ps_fldC (c_Sets T) (n_Sets_enders T) (pv 0) (pe_callTy call_dictD (by rfl) (z_dict T) (by decide +kernel) (pa_cons (pv 6) pa_nil)) rfl)
      (pss_one (ps_if (pt_val (pv 4)) (pss_one (ps_dput (hu_of hr) (pe_fldC (c_Sets T) (n_Sets_enders T) (pv 0)) pe_int pe_bl rfl)) pss_nil))))))))))), ?_⟩
  have hsg := p.sg_le
  -- self.rows = node_rows(pattern)
  refine ⟨_, rfl, p, v, rfl, hp, hs, fun H1 rw_ rs cs m1 hrw hcs erw rr => ?_⟩
  have ex1 := m1.keep _ _ hx (by simp)
  refine ⟨_, rfl, x, dx, _, rfl, ex1, by show 0 < 1000; decide, ?_⟩
  have m2 : Mod [x] H (upd H1 x (.ins (He.ga K "Sets") dx [("rows", .ref rw_)])) := m1.nil.put ex1 (fun _ z => nomatch z) (List.mem_singleton.mpr rfl)
  have m12 : Mod [x] H1 (upd H1 x (.ins (He.ga K "Sets") dx [("rows", .ref rw_)])) := Mod.refl.put ex1 (fun _ z => nomatch z) (List.mem_singleton.mpr rfl)
  have xrw : rw_ ≠ x := (ne_of_none hx hrw).symm
  have xcs : ∀ c ∈ cs, c ∉ [x] := fun c hc z => ne_of_none hx (hcs c hc) (List.mem_singleton.mp z).symm
  have erw2 := m12.keep _ _ erw (by simp [xrw])
  have rr2 := rr.mod m12 xcs
  have ex2 : upd H1 x (.ins (He.ga K "Sets") dx [("rows", .ref rw_)]) x = some (.ins (He.ga K "Sets") dx [("rows", .ref rw_)]) := upd_same
  have hrl : rs.length = p.size := by rw [← rr.l1, rowsFrom_len]
  -- self.lots
  refine ⟨_, rfl, x, dx, _, _, rfl, ex2, rfl, rw_, rfl, ⟨_, SqL.of erw2⟩, ?_⟩
  refine lc_rel walk_list [] (fun i => (((rowsFrom p 0)[i]?).bind lotOf).isSome) (fun i y _ => ∃ a b, (rowsFrom p 0)[i]? = some a ∧ lotOf a = some b ∧ y = lotV b) (lt_line (by omega)) (fun _ _ _ _ _ _ h => h) (fun H3 m3 => SqL.of (m3.keep _ _ erw2 (by simp))) ?_ (fun _ _ h => nomatch h) fun lo H3 zs hlo m3 e3 r3 => ?_
  · rintro i y H3 _ R S hi m3 ⟨rfl, hy⟩ k1 k2
    have hi2 : i < (rowsFrom p 0).length := by rw [rr.l1]; exact hi
    have hrow := List.getElem?_eq_getElem hi2
    obtain ⟨t, v', c, h1, h2, h3, h4, h5⟩ := rr2.row i _ hrow
    rw [hy] at h1
    cases h1
    have h3' := m3.tup _ _ h3
    have h4' := h4.mod m3
    obtain ⟨b, xs, rfl, hb, hxl, tl⟩ := h4'.tup
    refine ⟨t, _, rfl, SqT.of h3', rfl, _, _, rfl, _, _, rfl, rfl, rfl, ?_⟩
    refine ⟨_, rfl, b, _, 0, _, rfl, rfl, SqT.of hb, at_of (j := 0) rfl rfl, rfl, _, rfl, ?_⟩
    rw [word_is]
    generalize hr' : (rowsFrom p 0)[i] = r at *
    obtain ⟨pr, ks⟩ := r
    cases pr with
    | sign l =>
      have exs : xs = [.str ⟨l.toArray⟩] := tl
      subst exs
      refine iteT ⟨_, rfl, b, _, 1, _, rfl, rfl, SqT.of hb, at_of (j := 1) rfl rfl, k1 _ _ Mod.refl (by show ((rowsFrom p 0)[i]?.bind lotOf).isSome = true; rw [hrow]; rfl) ⟨_, l, hrow, rfl, rfl⟩⟩
    | _ => exact iteF (k2 _ Mod.refl (by show ((rowsFrom p 0)[i]?.bind lotOf).isSome = false; rw [hrow]; rfl))
  have ezs : zs = p.lots.map lotV := by
    rw [← rows_lots p 0]
    refine filt_range lotOf lotV _ _ ?_
    rw [rr.l1]
    exact r3
  subst ezs
  have hloH : H lo = none := m2.back hlo
  have ex3 := m3.keep _ _ ex2 (by simp)
  refine ⟨_, rfl, x, dx, _, rfl, ex3, by show 1 < 1000; decide, ?_⟩
  have m23 := m2.trans m3.nil
  have m4 : Mod [x] H (upd H3 x (.ins (He.ga K "Sets") dx [("rows", .ref rw_), ("lots", .ref lo)])) := m23.put ex3 (fun _ z => nomatch z) (List.mem_singleton.mpr rfl)
  have m34 : Mod [x] H3 (upd H3 x (.ins (He.ga K "Sets") dx [("rows", .ref rw_), ("lots", .ref lo)])) := Mod.refl.put ex3 (fun _ z => nomatch z) (List.mem_singleton.mpr rfl)
  have ex4 : upd H3 x (.ins (He.ga K "Sets") dx [("rows", .ref rw_), ("lots", .ref lo)]) x = some (.ins (He.ga K "Sets") dx [("rows", .ref rw_), ("lots", .ref lo)]) := upd_same
  have xlo : lo ∉ [x] := fun z => ne_of_none hx hloH (List.mem_singleton.mp z).symm
  have erw4 := m34.keep _ _ (m3.keep _ _ erw2 (by simp)) (by simp [xrw])
  have rr4 := (rr2.mod m3 nomem).mod m34 xcs
  have elo4 := m34.keep _ _ e3 xlo
  -- self.follows
  refine ⟨_, rfl, x, dx, _, _, rfl, ex4, rfl, lo, _, rfl, .inl (SqL.of elo4), _, _, rfl, rfl, _, rfl, ?_, ?_, ?_⟩
  · rw [List.length_map, Pat.lots_len]; omega
  · rw [List.length_map, Pat.lots_len]; omega
  have en : ((((p.lots.map lotV).length : Nat) : Int) + 1).toNat = p.sg + 1 := by rw [List.length_map, Pat.lots_len]; omega
  rw [en]
  intro fo hfo
  refine lc_it walk_range (fun i H' => ∃ ds : List Addr, ds.length = i ∧ ds.Nodup ∧ Mod [] _ H' ∧ H' fo = some (.lst (ds.map V.ref)) ∧ ∀ d ∈ ds, H' d = some (.dK []) ∧ H d = none ∧ d ≠ fo)
    ⟨[], rfl, List.nodup_nil, Mod.refl.new hfo, upd_same, fun d h => by cases h⟩ (fun _ _ _ _ => trivial) ?_ ?_
  · rintro i _ _ H5 hi ⟨ds, hl, nd, m5, e5, hds⟩ ⟨rfl, rfl⟩
    refine ⟨rfl, fun d hd => ?_⟩
    refine ⟨_, by rw [upd_ne (ne_of_none e5 hd)]; exact e5, lt_line (by rw [List.length_map]; omega), ds ++ [d], by simp [hl], ?_, ?_, ?_, ?_⟩
    · exact nd_snoc nd fun z => by have := (hds d z).1; rw [hd] at this; cases this
    · exact (m5.new hd).putNew (by rw [upd_ne (ne_of_none e5 hd)]; exact e5) hfo
    · rw [upd_same, List.map_append]; rfl
    · intro d' hd'
      rcases List.mem_append.mp hd' with hd' | hd'
      · obtain ⟨g1, g2, g3⟩ := hds d' hd'
        exact ⟨by rw [upd_ne g3, upd_ne (ne_of_none g1 hd)]; exact g1, g2, g3⟩
      · rw [List.mem_singleton.mp hd']
        exact ⟨by rw [upd_ne (ne_of_none e5 hd).symm, upd_same], m4.back (m5.back hd), (ne_of_none e5 hd).symm⟩
  rintro H5 ⟨ds, hl, nd, m5, e5, hds⟩
  have hfoH : H fo = none := m4.back hfo
  have ex5 := m5.keep _ _ ex4 (by simp)
  refine ⟨_, rfl, x, dx, _, rfl, ex5, by show 2 < 1000; decide, ?_⟩
  have m45 := m4.trans m5.nil
  have m6 : Mod [x] H (upd H5 x (.ins (He.ga K "Sets") dx [("rows", .ref rw_), ("lots", .ref lo), ("follows", .ref fo)])) := m45.put ex5 (fun _ z => nomatch z) (List.mem_singleton.mpr rfl)
  have m56 : Mod [x] H5 (upd H5 x (.ins (He.ga K "Sets") dx [("rows", .ref rw_), ("lots", .ref lo), ("follows", .ref fo)])) := Mod.refl.put ex5 (fun _ z => nomatch z) (List.mem_singleton.mpr rfl)
  have ex6 : upd H5 x (.ins (He.ga K "Sets") dx [("rows", .ref rw_), ("lots", .ref lo), ("follows", .ref fo)]) x = some (.ins (He.ga K "Sets") dx [("rows", .ref rw_), ("lots", .ref lo), ("follows", .ref fo)]) := upd_same
  have xfo : fo ∉ [x] := fun z => ne_of_none hx hfoH (List.mem_singleton.mp z).symm
  have xds : ∀ d ∈ ds, d ∉ [x] := fun d hd z => ne_of_none hx (hds d hd).2.1 (List.mem_singleton.mp z).symm
  have erw6 := m56.keep _ _ (m5.keep _ _ erw4 (by simp)) (by simp [xrw])
  have elo6 := m56.keep _ _ (m5.keep _ _ elo4 (by simp)) xlo
  have efo6 := m56.keep _ _ e5 xfo
  have rr6 := (rr4.mod m5 nomem).mod m56 xcs
  -- self.position
  refine ⟨_, rfl, x, dx, _, _, rfl, ex6, rfl, lo, _, rfl, .inl (SqL.of elo6), _, rfl, x, dx, _, rfl, ex6, by show 3 < 1000; decide, ?_⟩
  have elen : ((p.lots.map lotV).length : Nat) = p.sg := by rw [List.length_map, Pat.lots_len]
  rw [elen]
  have m7 : Mod [x] H (upd (upd H5 x (.ins (He.ga K "Sets") dx [("rows", .ref rw_), ("lots", .ref lo), ("follows", .ref fo)])) x (.ins (He.ga K "Sets") dx (setsF (.ref rw_) (.ref lo) fo (p.sg : Nat)))) := m6.put ex6 (fun _ z => nomatch z) (List.mem_singleton.mpr rfl)
  have m67 : Mod [x] _ (upd (upd H5 x (.ins (He.ga K "Sets") dx [("rows", .ref rw_), ("lots", .ref lo), ("follows", .ref fo)])) x (.ins (He.ga K "Sets") dx (setsF (.ref rw_) (.ref lo) fo (p.sg : Nat)))) := Mod.refl.put ex6 (fun _ z => nomatch z) (List.mem_singleton.mpr rfl)
  have ex7 : (upd (upd H5 x (.ins (He.ga K "Sets") dx [("rows", .ref rw_), ("lots", .ref lo), ("follows", .ref fo)])) x (.ins (He.ga K "Sets") dx (setsF (.ref rw_) (.ref lo) fo (p.sg : Nat)))) x = some (.ins (He.ga K "Sets") dx (setsF (.ref rw_) (.ref lo) fo (p.sg : Nat))) := upd_same
  have erw7 := m67.keep _ _ erw6 (by simp [xrw])
  have elo7 := m67.keep _ _ elo6 xlo
  have efo7 := m67.keep _ _ efo6 xfo
  have rr7 := rr6.mod m67 xcs
  have hd7 : ∀ d ∈ ds, (upd (upd H5 x (.ins (He.ga K "Sets") dx [("rows", .ref rw_), ("lots", .ref lo), ("follows", .ref fo)])) x (.ins (He.ga K "Sets") dx (setsF (.ref rw_) (.ref lo) fo (p.sg : Nat)))) d = some (.dK []) := fun d hd =>
    m67.keep _ _ (m56.keep _ _ (hds d hd).1 (xds d hd)) (xds d hd)
  -- told = {}
  intro td htd
  have htdH : H td = none := m7.back htd
  have m8 : Mod [x] H _ := m7.new (o := .dK []) htd
  have m78 : Mod [] _ _ := Mod.refl (ms := []).new (o := .dK []) htd
  have ex8 := m78.keep _ _ ex7 (by simp)
  have erw8 := m78.keep _ _ erw7 (by simp)
  have elo8 := m78.keep _ _ elo7 (by simp)
  have efo8 := m78.keep _ _ efo7 (by simp)
  have rr8 := rr7.mod m78 nomem
  have hd8 := fun d hd => m78.keep _ _ (hd7 d hd) (by simp)
  have tdx : td ≠ x := (ne_of_none ex7 htd).symm
  have tdds : td ∉ ds := fun z => by have := (hd7 td z).symm.trans htd; cases this
  have etd8 : upd (upd (upd H5 x (.ins (He.ga K "Sets") dx [("rows", .ref rw_), ("lots", .ref lo), ("follows", .ref fo)])) x (.ins (He.ga K "Sets") dx (setsF (.ref rw_) (.ref lo) fo (p.sg : Nat)))) td (.dK []) td = some (.dK []) := upd_same
  have xdsn : x ∉ ds := fun z => xds x z (List.mem_singleton.mpr rfl)
  clear ex7 erw7 elo7 efo7 rr7 hd7 m67 m78 ex6 erw6 elo6 efo6 rr6 m56 ex4 erw4 elo4 rr4 m34 m12 ex1 ex2 ex3 ex5 erw2 rr2
  have hrg : RgC ((rs.length : Nat) - 1) (-1) (-1) p.size := by
    have h := RgC.neg (i := ((rs.length : Nat) : Int) - 1) (j := -1) (by rw [hrl]; omega) (by rw [hrl]; omega) (by decide) (by decide)
    rw [show (((rs.length : Nat) : Int) - 1 - -1).toNat = p.size by rw [hrl]; omega] at h
    exact h
  have hnl := p.nodes_len 0
  -- the loop
  refine ⟨_, rfl, x, dx, _, _, rfl, ex8, rfl, rw_, _, rfl, .inl (SqL.of erw8), _, _, rfl, rfl, _, rfl, _, rfl, _, _, _, p.size, rfl, hrg, ?_⟩
  refine for_rangeC (fun i σ H3 => ∃ (y2 : Option V) (kt : List (Key × V)), σ = [some (.ref x), some v, y2, some (.ref td), none, none, none, none, none] ∧ Mod [x] H H3 ∧ H3 x = some (.ins (He.ga K "Sets") dx (setsF (.ref rw_) (.ref lo) fo (Pat.cnt ((p.nodes 0).take (p.size - i)) : Nat))) ∧
      H3 rw_ = some (.lst rs) ∧ H3 lo = some (.lst (p.lots.map lotV)) ∧ H3 fo = some (.lst (ds.map V.ref)) ∧ RowsR H3 (rowsFrom p 0) rs cs ∧ H3 td = some (.dK kt) ∧ kt.length ≤ i ∧
      FolAt H3 ds (fun s t => ∃ (j : Nat) (e : Pat × Nat), p.size - i ≤ j ∧ (p.nodes 0)[j]? = some e ∧ e.1.Con e.2 s t) p.sg ∧
      ∀ (j : Nat) (e : Pat × Nat), p.size - i ≤ j → (p.nodes 0)[j]? = some e → ∃ t, valV kt (Sum.inl (j : Int)) = some (.ref t) ∧ ToldR H3 t (x :: td :: ds) e p.sg)
    ⟨none, [], rfl, m8, ?_, erw8, elo8, efo8, rr8, etd8, Nat.le_refl _, ⟨nd, by rw [hl], fun s d e => ⟨[], hd8 d (List.mem_of_getElem? e), KS.nil.imp fun t => ⟨fun z => z.elim, ?_⟩⟩⟩, ?_⟩ ?_ ?_
  · rw [Nat.sub_zero, List.take_of_length_le (by rw [hnl]; exact Nat.le_refl _), Pat.cnt_nodes]; exact ex8
  · rintro ⟨j, e', hj, he', _⟩
    have := (List.getElem?_eq_some_iff.mp he').1
    omega
  · intro j e hj he
    have := (List.getElem?_eq_some_iff.mp he).1
    omega
  · rintro i σ H3 hi ⟨y2, kt, rfl, m3', ex, erw', elo', efo', rr', etd, hkl, fa, htold⟩
    obtain ⟨j, hj⟩ : ∃ j, j = p.size - 1 - i := ⟨_, rfl⟩
    have hjlt : j < p.size := by omega
    have hnum : (((rs.length : Nat) : Int) - 1 + ((i : Nat) : Int) * -1) = ((j : Nat) : Int) := by rw [hrl]; omega
    have hjr : j < (rowsFrom p 0).length := by rw [rowsFrom_len]; exact hjlt
    obtain ⟨t, v', c, h1, h2, h3, h4, h5⟩ := rr'.row j _ (List.getElem?_eq_getElem hjr)
    obtain ⟨e, he, heq, hkids⟩ := rows_nodes p 0 0 j _ (List.getElem?_eq_getElem hjr)
    generalize (rowsFrom p 0)[j] = r at *
    obtain ⟨q', ks⟩ := r
    obtain ⟨q1, o⟩ := e
    have heq : q1 = q' := heq
    subst heq
    have hoff := Pat.nodes_off p 0 j _ he
    rw [Nat.zero_add] at hoff
    have hoff : o = Pat.cnt ((p.nodes 0).take j) := hoff
    have hsucc : p.size - i = j + 1 := by omega
    have htk : (p.nodes 0).take (p.size - i) = (p.nodes 0).take j ++ [(q1, o)] := by
      rw [hsucc, List.take_add_one, he]; rfl
    have hcnt : Pat.cnt ((p.nodes 0).take (p.size - i)) = o + (if q1.isSign then 1 else 0) := by
      rw [htk, Pat.cnt_append, ← hoff, Pat.cnt_cons]; rfl
    have hsgle : o + q1.sg ≤ p.sg := by
      have := Pat.nodes_sg p 0 j _ he
      simpa using this
    have kt_kids : KidsT H3 kt (x :: td :: ds) p.sg (q1, o) ks := by
      have getk : ∀ (c : Nat) (e' : Pat × Nat), j < c → (p.nodes 0)[c]? = some e' → ∃ t, valV kt (Sum.inl ((0 + c : Nat) : Int)) = some (.ref t) ∧ ToldR H3 t (x :: td :: ds) e' p.sg := fun c e' hc he' => by
        rw [Nat.zero_add]
        exact htold c e' (by omega) he'
      unfold KidsT
      unfold Pat.KidsAt at hkids
      cases q1 with
      | thn a b => obtain ⟨c, d, e1, c1, c2, c3, c4⟩ := hkids; obtain ⟨ta, t1, t2⟩ := getk c _ c1 c3; obtain ⟨tb, t3, t4⟩ := getk d _ c2 c4; exact ⟨_, _, ta, tb, e1, t1, t2, t3, t4⟩
      | orr a b => obtain ⟨c, d, e1, c1, c2, c3, c4⟩ := hkids; obtain ⟨ta, t1, t2⟩ := getk c _ c1 c3; obtain ⟨tb, t3, t4⟩ := getk d _ c2 c4; exact ⟨_, _, ta, tb, e1, t1, t2, t3, t4⟩
      | many a => obtain ⟨c, e1, c1, c2⟩ := hkids; obtain ⟨ta, t1, t2⟩ := getk c _ c1 c2; exact ⟨_, ta, e1, t1, t2⟩
      | few a => obtain ⟨c, e1, c1, c2⟩ := hkids; obtain ⟨ta, t1, t2⟩ := getk c _ c1 c2; exact ⟨_, ta, e1, t1, t2⟩
      | mark m a => obtain ⟨c, e1, c1, c2⟩ := hkids; obtain ⟨ta, t1, t2⟩ := getk c _ c1 c2; exact ⟨_, ta, e1, t1, t2⟩
      | _ => trivial
    rw [hcnt] at ex
    refine ⟨_, rfl, x, dx, _, rfl, ex, rfl, _, rfl, x, dx, _, _, rfl, ex, rfl, _, rfl, rw_, rs, _, _, rfl, rfl, SqL.of erw', at_of (j := j) hnum h1, _, rfl, ?_⟩
    refine ⟨x, t, td, dx, fo, c, .ref rw_, .ref lo, v', _, ds, x :: td :: ds, _, p.sg, o, q1, ks, kt, rfl, ex, efo', fa, h3, h4, h5, etd, kt_kids, ?_, fun d hd => List.mem_cons_of_mem _ (List.mem_cons_of_mem _ hd), ?_, hsgle, by omega, fun H4 t4 m4 ex4 fa4 told4 => ?_⟩
    · intro b hb hn
      rcases List.mem_cons.mp hb with rfl | hb
      · rw [ex] at hn; cases hn
      · rcases List.mem_cons.mp hb with rfl | hb
        · rw [etd] at hn; cases hn
        · obtain ⟨s, hs'⟩ := List.mem_iff_getElem?.mp hb
          obtain ⟨kvs, g, _⟩ := fa.at_ s b hs'
          rw [g] at hn; cases hn
    · intro hsign
      rw [hsign]; simp
    have nin : ∀ {b : Addr} {xs : List V}, H3 b = some (.lst xs) → b ∉ x :: ds := fun {b xs} hb => by
      simp only [List.mem_cons, not_or]
      exact ⟨ne_of hb ex (by intro z; cases z), not_in_of fa hb (by intro _ z; cases z)⟩
    have tdn : td ∉ x :: ds := by simp only [List.mem_cons, not_or]; exact ⟨tdx, tdds⟩
    have etd4 := m4.keep _ _ etd tdn
    have m5 : Mod [td] H4 (upd H4 td (.dK (putK kt (Sum.inl (((rs.length : Nat) : Int) - 1 + ((i : Nat) : Int) * -1)) (.ref t4)))) := Mod.refl.put etd4 (fun _ z => nomatch z) (List.mem_singleton.mpr rfl)
    have xtd : ∀ {b : Addr}, b ≠ td → b ∉ [td] := fun h z => h (List.mem_singleton.mp z)
    refine ⟨_, rfl, _, rfl, td, _, rfl, DPut.k (k := Sum.inl (((rs.length : Nat) : Int) - 1 + ((i : Nat) : Int) * -1)) etd4 (lt_line (by omega)), _, putK kt (Sum.inl (((rs.length : Nat) : Int) - 1 + ((i : Nat) : Int) * -1)) (.ref t4), rfl, ?_, ?_, ?_, ?_, ?_, ?_, upd_same, ?_, ?_, ?_⟩
    · exact (m3'.step m4 fun b hb => by
        rcases List.mem_cons.mp hb with rfl | hb
        · exact .inl (List.mem_singleton.mpr rfl)
        · exact .inr (hds b hb).2.1).putNew etd4 htdH
    · have e1 := m5.keep _ _ ex4 (xtd tdx.symm)
      rw [e1]
      have e2 : (if q1.isSign = true then (((o + (if q1.isSign = true then 1 else 0) : Nat)) : Int) - 1 else ((o + (if q1.isSign = true then 1 else 0) : Nat) : Int)) = ((Pat.cnt ((p.nodes 0).take (p.size - (i + 1))) : Nat) : Int) := by
        rw [show p.size - (i + 1) = j by omega, ← hoff]
        split <;> simp
      rw [e2]
    · exact m5.keep _ _ (m4.keep _ _ erw' (nin erw')) (xtd (ne_of erw' etd (by intro z; cases z)))
    · exact m5.keep _ _ (m4.keep _ _ elo' (nin elo')) (xtd (ne_of elo' etd (by intro z; cases z)))
    · exact m5.keep _ _ (m4.keep _ _ efo' (nin efo')) (xtd (ne_of efo' etd (by intro z; cases z)))
    · have cl : ∀ c ∈ cs, ∃ xs, H3 c = some (.lst xs) := fun c hc => by
        obtain ⟨s, hs'⟩ := List.mem_iff_getElem?.mp hc
        have hs2 : s < (rowsFrom p 0).length := by rw [rr'.l2]; exact (List.getElem?_eq_some_iff.mp hs').1
        obtain ⟨_, _, c', _, g2, _, _, g5⟩ := rr'.row s _ (List.getElem?_eq_getElem hs2)
        rw [hs'] at g2
        cases g2
        exact ⟨_, g5⟩
      exact (rr'.mod m4 fun c hc => let ⟨_, h⟩ := cl c hc; nin h).mod m5 fun c hc => let ⟨_, h⟩ := cl c hc; xtd (ne_of h etd (by intro z; cases z))
    · exact Nat.le_trans (length_putK _ _ _) (by omega)
    · refine (fa4.mod m5 fun d hd => xtd fun z => tdds (z ▸ hd)).imp fun s t => ?_
      constructor
      · rintro (⟨j', e', g1, g2, g3⟩ | h)
        · exact ⟨j', e', by omega, g2, g3⟩
        · exact ⟨j, (q1, o), by omega, he, h⟩
      · rintro ⟨j', e', g1, g2, g3⟩
        by_cases e : j' = j
        · subst e
          rw [he] at g2
          cases g2
          exact .inr g3
        · exact .inl ⟨j', e', by omega, g2, g3⟩
    · intro j' e' hj' he'
      by_cases e : j' = j
      · subst e
        rw [he] at he'
        cases he'
        exact ⟨t4, by rw [valV_put, hnum, if_pos rfl], told4.mod (ns := [td]) m5 fun a ha => by rw [List.mem_singleton.mp ha]; simp⟩
      · obtain ⟨t', g1, g2⟩ := htold j' e' (by omega) he'
        exact ⟨t', by rw [valV_put, hnum, if_neg (fun z => e (by injection z with z; omega))]; exact g1, (g2.mod m4 fun a ha => by
          rcases List.mem_cons.mp ha with rfl | ha
          · simp
          · simp [ha]).mod (ns := [td]) m5 fun a ha => by rw [List.mem_singleton.mp ha]; simp⟩
  · rintro σ H3 ⟨y2, kt, rfl, m3', ex, erw', elo', efo', rr', etd, hkl, fa, htold⟩
    rw [Nat.sub_self, List.take_zero] at ex
    obtain ⟨t0, ht0, told0⟩ := htold 0 (p, 0) (by omega) (Pat.nodes_head p 0)
    obtain ⟨df, dl, kf, kl, a1, a2, a3, a4, a5, a6, a7, a8⟩ := told0
    have fa' : FolAt H3 ds (fun s t => p.Fol 0 s t) p.sg := fa.imp fun s t => by
      rw [Pat.Fol_nodes]
      constructor
      · rintro ⟨j, e, _, h2, h3⟩; exact ⟨e, List.mem_of_getElem? h2, h3⟩
      · rintro ⟨e, h2, h3⟩
        obtain ⟨j, hj⟩ := List.mem_iff_getElem?.mp h2
        exact ⟨j, e, by omega, hj, h3⟩
    have h0l : 0 < ds.length := by rw [hl]; omega
    obtain ⟨k0, hk0, ks0⟩ := fa'.at_ 0 ds[0] (List.getElem?_eq_getElem h0l)
    -- is_empty, firsts, lasts = told[0]
    refine ⟨_, rfl, td, _, rfl, dget_of (c := 0) etd ht0, t0, _, rfl, SqT.of a1, rfl, _, _, rfl, _, _, rfl, _, _, rfl, rfl, ?_⟩
    -- self.follows[0].update(dict(firsts))
    refine ⟨_, rfl, x, dx, _, _, rfl, ex, rfl, fo, _, 0, _, rfl, rfl, SqL.of efo', at_of (j := 0) rfl (by rw [List.getElem?_map, List.getElem?_eq_getElem h0l]; rfl), ty_dK hk0, _, rfl, df, kf, rfl, .inl a2, fun g hg => ?_⟩
    have mg0 : Mod [] H3 _ := Mod.refl (ms := []).new (o := .dK kf) hg
    have hgd : ds[0] ≠ g := ne_of_none hk0 hg
    have e0 := mg0.keep _ _ hk0 (by simp)
    have k0l := ks0.len
    have kfl := a3.len
    refine ⟨ds[0], g, k0, kf, rfl, rfl, e0, upd_same, hgd, le_line (by omega), ?_⟩
    have d0x : ds[0] ≠ x := fun z => xdsn (z ▸ List.getElem_mem h0l)
    have m9 : Mod [ds[0]] _ _ := Mod.refl.put (o := .dK (mergeK k0 kf)) e0 (fun _ z => nomatch z) (List.mem_singleton.mpr rfl)
    have m39 := mg0.nil.trans m9
    have d0ds : ds[0] ∈ ds := List.getElem_mem h0l
    have m9H : Mod [x] H _ := m3'.step m39 fun b hb => .inr (by rw [List.mem_singleton.mp hb]; exact (hds _ d0ds).2.1)
    have ex9 := m39.keep _ _ ex (by simp only [List.mem_singleton]; exact d0x.symm)
    have elo9 := m39.keep _ _ elo' (by simp only [List.mem_singleton]; exact ne_of elo' hk0 (by intro z; cases z))
    have efo9 := m39.keep _ _ efo' (by simp only [List.mem_singleton]; exact ne_of efo' hk0 (by intro z; cases z))
    have dl9 := m39.keep _ _ a4 (by simp only [List.mem_singleton]; exact fun z => a7 (by rw [z]; simp [d0ds]))
    have fa9 := ((fa'.mod mg0 nomem).put (List.getElem?_eq_getElem h0l) (KS.merge ks0 a3)).imp (G' := FolS p) fun s t => by
      unfold FolS
      by_cases e : s = 0
      · subst e
        rw [if_pos rfl]
        constructor
        · rintro (h | h)
          · exact .inr h
          · exact .inl ⟨rfl, h⟩
        · rintro (⟨_, h⟩ | h)
          · exact .inr h
          · exact .inl h
      · rw [if_neg e]
        exact ⟨.inr, fun h => h.elim (fun z => absurd z.1 e) id⟩
    -- self.enders = dict(lasts)
    refine ⟨_, rfl, dl, kl, rfl, .inl dl9, fun g2 hg2 => ⟨_, rfl, x, dx, _, rfl, (Mod.refl (ms := []).new hg2).keep _ _ ex9 (by simp), by show 4 < 1000; decide, ?_⟩⟩
    have mA := Mod.refl (ms := []).new (o := .dK kl) hg2
    have exA := mA.keep _ _ ex9 (by simp)
    have g2x : g2 ≠ x := (ne_of_none ex9 hg2).symm
    have mB : Mod [x] _ _ := Mod.refl.put (o := .ins (He.ga K "Sets") dx [("rows", .ref rw_), ("lots", .ref lo), ("follows", .ref fo), ("position", .int (Pat.cnt [] : Nat)), ("enders", .ref g2)]) exA (fun _ z => nomatch z) (List.mem_singleton.mpr rfl)
    have mAB : Mod [x] _ _ := mA.nil.trans mB
    have mBH := m9H.trans mAB
    have g2e := mB.keep g2 _ upd_same (by simp only [List.mem_singleton]; exact g2x)
    have eloB := mAB.keep _ _ elo9 xlo
    have efoB := mAB.keep _ _ efo9 xfo
    have faB := fa9.mod mAB xds
    have kll := a5.len
    have hg2H : H g2 = none := m9H.back hg2
    have fresh : ¬ (H lo ≠ none) ∧ ¬ (H fo ≠ none) ∧ ¬ (H g2 ≠ none) ∧ ∀ d ∈ ds, ¬ (H d ≠ none) := ⟨fun h => h hloH, fun h => h hfoH, fun h => h hg2H, fun d hd h => h (hds d hd).2.1⟩
    cases hn : p.nul with
    | false =>
      refine ⟨_, rfl, false, rfl, iteF ?_⟩
      refine q _ mBH ⟨dx, lo, fo, g2, .ref rw_, _, ds, kl, upd_same, eloB, efoB, faB, g2e, a5.imp fun s => ?_, fresh⟩
      unfold EndS
      rw [hn]
      exact ⟨.inl, fun h => h.elim id fun h => absurd h.2 (by decide)⟩
    | true =>
      refine ⟨_, rfl, true, rfl, iteT ?_⟩
      refine ⟨_, rfl, x, dx, _, _, rfl, upd_same, rfl, g2, _, rfl, DPut.k (k := Sum.inl ((0 : Nat) : Int)) g2e (lt_line (by omega)), ?_⟩
      have mC : Mod [g2] _ _ := Mod.refl.put (o := .dK (putK kl (Sum.inl ((0 : Nat) : Int)) (.bl true))) g2e (fun _ z => nomatch z) (List.mem_singleton.mpr rfl)
      have ng2 : ∀ {b : Addr} {u : HO}, _ → b ∉ [g2] := fun {b u} (h : _ = some u) z => ne_of_none h hg2 (List.mem_singleton.mp z)
      refine q _ (mBH.putNew g2e hg2H) ⟨dx, lo, fo, g2, .ref rw_, ((Pat.cnt [] : Nat) : Int), ds, putK kl (Sum.inl ((0 : Nat) : Int)) (.bl true), ?_, ?_, ?_, faB.mod mC fun d hd => ?_, upd_same, (a5.put (.bl true) (Nat.zero_le _)).imp fun s => ?_, fresh⟩
      · rw [upd_ne g2x.symm]; exact upd_same
      · exact mC.keep _ _ eloB (ng2 elo9)
      · exact mC.keep _ _ efoB (ng2 efo9)
      · obtain ⟨s, hs'⟩ := List.mem_iff_getElem?.mp hd
        obtain ⟨kvs, g, _⟩ := fa9.at_ s d hs'
        exact ng2 g
      · unfold EndS
        rw [hn]
        exact ⟨fun h => h.elim .inl fun h => .inr ⟨h, rfl⟩, fun h => h.elim .inl fun h => .inr h.1⟩
end
end Fr

set_option maxHeartbeats 2000000
/-! The table of least prices, plain: ways from a place and a state to the end. -/
namespace Fr
abbrev Bt := Nat → Nat → Option (Nat × Nat)
def le2 (a b : Nat × Nat) : Prop := a.1 < b.1 ∨ (a.1 = b.1 ∧ a.2 ≤ b.2)
instance (a b : Nat × Nat) : Decidable (le2 a b) := inferInstanceAs (Decidable (_ ∨ _))
theorem le2.refl (a : Nat × Nat) : le2 a a := .inr ⟨rfl, Nat.le_refl _⟩
theorem le2.trans {a b c : Nat × Nat} (h : le2 a b) (k : le2 b c) : le2 a c := by
  unfold le2 at *; omega
theorem le2.total (a b : Nat × Nat) : le2 a b ∨ le2 b a := by unfold le2; omega
theorem le2.anti {a b : Nat × Nat} (h : le2 a b) (k : le2 b a) : a = b := by
  unfold le2 at *
  exact Prod.ext (by omega) (by omega)
theorem le2.add {a b : Nat × Nat} (h : le2 a b) (c q : Nat) : le2 (a.1 + c, a.2 + q) (b.1 + c, b.2 + q) := by unfold le2 at *; simp only; omega
/-- at most v: there is an entry, and it is no more -/
def AtMost (o : Option (Nat × Nat)) (v : Nat × Nat) : Prop := ∃ u, o = some u ∧ le2 u v
theorem AtMost.trans {o : Option (Nat × Nat)} {v w : Nat × Nat} (h : AtMost o v) (k : le2 v w) : AtMost o w := let ⟨u, h1, h2⟩ := h; ⟨u, h1, h2.trans k⟩
/-- the table with one entry lessened -/
def lessB (B : Bt) (pl st : Nat) (v : Nat × Nat) : Bt := fun p s => if p = pl ∧ s = st then (match B pl st with | some u => if le2 u v then some u else some v | none => some v) else B p s
def isLess (B : Bt) (pl st : Nat) (v : Nat × Nat) : Bool := match B pl st with | some u => !decide (le2 u v) | none => true
theorem lessB_other {B : Bt} {pl st p s : Nat} {v : Nat × Nat} (h : ¬ (p = pl ∧ s = st)) : lessB B pl st v p s = B p s := by unfold lessB; rw [if_neg h]
theorem lessB_no {B : Bt} {pl st : Nat} {v : Nat × Nat} (h : isLess B pl st v = false) : lessB B pl st v = B := by
  funext p s
  unfold lessB
  split
  · rename_i e
    obtain ⟨rfl, rfl⟩ := e
    unfold isLess at h
    cases hB : B p s with
    | none => rw [hB] at h; cases h
    | some u =>
      rw [hB] at h
      have : le2 u v := by simpa using h
      show (if le2 u v then some u else some v) = some u
      rw [if_pos this]
  · rfl
theorem lessB_no_le {B : Bt} {pl st : Nat} {v : Nat × Nat} (h : isLess B pl st v = false) : AtMost (B pl st) v := by
  unfold isLess at h
  cases hB : B pl st with
  | none => rw [hB] at h; cases h
  | some u => rw [hB] at h; exact ⟨u, rfl, by simpa using h⟩
theorem lessB_yes {B : Bt} {pl st : Nat} {v : Nat × Nat} (h : isLess B pl st v = true) : lessB B pl st v pl st = some v := by
  unfold lessB
  rw [if_pos ⟨rfl, rfl⟩]
  unfold isLess at h
  cases hB : B pl st with
  | none => rfl
  | some u =>
    rw [hB] at h
    have : ¬ le2 u v := by simpa using h
    show (if le2 u v then some u else some v) = some v
    rw [if_neg this]
/-- behind it the entry is at most v, and no other is more than it was -/
theorem lessB_at (B : Bt) (pl st : Nat) (v : Nat × Nat) : AtMost (lessB B pl st v pl st) v := by
  cases h : isLess B pl st v with
  | true => exact ⟨v, lessB_yes h, le2.refl v⟩
  | false => rw [lessB_no h]; exact lessB_no_le h
theorem lessB_mono {B : Bt} {pl st p s : Nat} {v u : Nat × Nat} (h : AtMost (B p s) u) : AtMost (lessB B pl st v p s) u := by
  by_cases e : p = pl ∧ s = st
  · obtain ⟨rfl, rfl⟩ := e
    obtain ⟨x, hx, hl⟩ := h
    unfold lessB
    rw [if_pos ⟨rfl, rfl⟩, hx]
    show AtMost (if le2 x v then some x else some v) u
    split
    · exact ⟨x, rfl, hl⟩
    · rename_i hn
      exact ⟨v, rfl, ((le2.total x v).resolve_left hn).trans hl⟩
  · rw [lessB_other e]; exact h
theorem lessB_sound {B : Bt} {pl st : Nat} {v : Nat × Nat} {S : Nat → Nat → Nat × Nat → Prop} (h : ∀ p s u, B p s = some u → S p s u) (hv : S pl st v) : ∀ p s u, lessB B pl st v p s = some u → S p s u := by
  intro p s u e
  by_cases q : p = pl ∧ s = st
  · obtain ⟨rfl, rfl⟩ := q
    cases hl : isLess B p s v with
    | true => rw [lessB_yes hl] at e; cases e; exact hv
    | false => rw [lessB_no hl] at e; exact h p s u e
  · rw [lessB_other q] at e; exact h p s u e

/-! ### a number that falls -/
section
variable (pl N L C : Nat)
/-- how many states have an entry at the place -/
def somes (B : Bt) : Nat := ((List.range (N + 1)).filter fun s => (B pl s).isSome).length
def phi : Option (Nat × Nat) → Nat
  | none => (C + N + 2) * (C + N + L + 3) + (C + N + L + 3)
  | some (c, q) => c * (C + N + L + 3) + q
def Phi (B : Bt) : Nat := ((List.range (N + 1)).map fun s => phi N L C (B pl s)).sum
end
theorem somes_le (pl N : Nat) (B : Bt) : somes pl N B ≤ N + 1 := by
  unfold somes
  exact Nat.le_trans (List.length_filter_le _ _) (by simp)
theorem sum_lt_of {f g : Nat → Nat} : ∀ {l : List Nat} {a : Nat}, l.Nodup → a ∈ l → (∀ x ∈ l, x ≠ a → f x = g x) → f a < g a → (l.map f).sum < (l.map g).sum
  | [], _, _, h, _, _ => by simp at h
  | b :: r, a, nd, h, he, hlt => by
    rw [List.nodup_cons] at nd
    rw [List.map_cons, List.map_cons, List.sum_cons, List.sum_cons]
    rcases List.mem_cons.mp h with rfl | h
    · have : r.map f = r.map g := List.map_congr_left fun x hx => he x (List.mem_cons_of_mem _ hx) fun e => nd.1 (e ▸ hx)
      rw [this]; omega
    · have e1 : f b = g b := he b (List.mem_cons_self ..) fun e => nd.1 (e ▸ h)
      have := sum_lt_of nd.2 h (fun x hx => he x (List.mem_cons_of_mem _ hx)) hlt
      omega
theorem filter_len_mono {p q : Nat → Bool} : ∀ {l : List Nat}, (∀ x ∈ l, p x = true → q x = true) → (l.filter p).length ≤ (l.filter q).length
  | [], _ => Nat.le_refl _
  | a :: r, h => by
    have ih := filter_len_mono (l := r) fun x hx => h x (List.mem_cons_of_mem _ hx)
    have h1 := h a (List.mem_cons_self ..)
    rw [List.filter_cons, List.filter_cons]
    cases hp : p a with
    | true =>
      rw [h1 hp, if_pos rfl, if_pos rfl, List.length_cons, List.length_cons]
      omega
    | false =>
      rw [if_neg (by simp)]
      split
      · rw [List.length_cons]; omega
      · exact ih
theorem filter_len_lt {p q : Nat → Bool} : ∀ {l : List Nat} {a : Nat}, a ∈ l → (∀ x ∈ l, p x = true → q x = true) → p a = false → q a = true → (l.filter p).length < (l.filter q).length
  | [], _, h, _, _, _ => by simp at h
  | b :: r, a, h, hm, h1, h2 => by
    rw [List.filter_cons, List.filter_cons]
    rcases List.mem_cons.mp h with rfl | h
    · rw [h1, h2, if_neg (by simp), if_pos rfl, List.length_cons]
      have := filter_len_mono (l := r) fun x hx => hm x (List.mem_cons_of_mem _ hx)
      omega
    · have ih := filter_len_lt h (fun x hx => hm x (List.mem_cons_of_mem _ hx)) h1 h2
      have h3 := hm b (List.mem_cons_self ..)
      cases hp : p b with
      | true => rw [h3 hp, if_pos rfl, if_pos rfl, List.length_cons, List.length_cons]; omega
      | false =>
        rw [if_neg (by simp)]
        split
        · rw [List.length_cons]; omega
        · exact ih
/-- the bounds that stand through a spread -/
structure Bnd (pl N L C : Nat) (B : Bt) : Prop where
  c : ∀ s u, s ≤ N → B pl s = some u → u.1 ≤ C + somes pl N B
  q : ∀ s u, s ≤ N → B pl s = some u → u.2 ≤ u.1 + L
theorem Bnd.less {pl N L C : Nat} {B : Bt} (h : Bnd pl N L C B) {s t : Nat} {u : Nat × Nat} (hs : s ≤ N) (ht : t ≤ N) (hu : B pl t = some u) (hl : isLess B pl s (u.1 + 1, u.2 + 1) = true) :
    Bnd pl N L C (lessB B pl s (u.1 + 1, u.2 + 1)) ∧ Phi pl N L C (lessB B pl s (u.1 + 1, u.2 + 1)) < Phi pl N L C B := by
  have hc := h.c t u ht hu
  have hq := h.q t u ht hu
  have hy := lessB_yes hl
  have ho : ∀ x, x ≠ s → lessB B pl s (u.1 + 1, u.2 + 1) pl x = B pl x := fun x hx => lessB_other fun z => hx z.2
  have hsm : somes pl N B ≤ somes pl N (lessB B pl s (u.1 + 1, u.2 + 1)) := filter_len_mono fun x _ hx => by
    by_cases e : x = s
    · rw [e, hy]; rfl
    · rw [ho x e]; exact hx
  have hN := somes_le pl N B
  have hs1 : s ∈ List.range (N + 1) := List.mem_range.mpr (by omega)
  cases hB : B pl s with
  | none =>
    have hlt : somes pl N B < somes pl N (lessB B pl s (u.1 + 1, u.2 + 1)) := filter_len_lt hs1 (fun x _ hx => by
      by_cases e : x = s
      · rw [e, hy]; rfl
      · rw [ho x e]; exact hx) (by rw [hB]; rfl) (by rw [hy]; rfl)
    refine ⟨⟨fun x v hx hv => ?_, fun x v hx hv => ?_⟩, ?_⟩
    · by_cases e : x = s
      · rw [e, hy] at hv; cases hv; show u.1 + 1 ≤ _; omega
      · rw [ho x e] at hv; have := h.c x v hx hv; omega
    · by_cases e : x = s
      · rw [e, hy] at hv; cases hv; show u.2 + 1 ≤ u.1 + 1 + L; omega
      · rw [ho x e] at hv; exact h.q x v hx hv
    · refine sum_lt_of List.nodup_range hs1 (fun x _ hx => by rw [ho x hx]) ?_
      rw [hy, hB]
      show (u.1 + 1) * (C + N + L + 3) + (u.2 + 1) < (C + N + 2) * (C + N + L + 3) + (C + N + L + 3)
      have e1 : (u.1 + 1) * (C + N + L + 3) ≤ (C + N + 2) * (C + N + L + 3) := Nat.mul_le_mul_right _ (by omega)
      omega
  | some w =>
    have hcw := h.c s w hs hB
    have hlw : ¬ le2 w (u.1 + 1, u.2 + 1) := by
      unfold isLess at hl
      rw [hB] at hl
      simpa using hl
    have hle : u.1 + 1 < w.1 ∨ (u.1 + 1 = w.1 ∧ u.2 + 1 < w.2) := by unfold le2 at hlw; simp only at hlw; omega
    refine ⟨⟨fun x v hx hv => ?_, fun x v hx hv => ?_⟩, ?_⟩
    · by_cases e : x = s
      · rw [e, hy] at hv; cases hv; show u.1 + 1 ≤ _; omega
      · rw [ho x e] at hv; have := h.c x v hx hv; omega
    · by_cases e : x = s
      · rw [e, hy] at hv; cases hv; show u.2 + 1 ≤ u.1 + 1 + L; omega
      · rw [ho x e] at hv; exact h.q x v hx hv
    · refine sum_lt_of List.nodup_range hs1 (fun x _ hx => by rw [ho x hx]) ?_
      rw [hy, hB]
      show (u.1 + 1) * (C + N + L + 3) + (u.2 + 1) < w.1 * (C + N + L + 3) + w.2
      rcases hle with hle | ⟨he, hle⟩
      · have e1 : (u.1 + 1 + 1) * (C + N + L + 3) ≤ w.1 * (C + N + L + 3) := Nat.mul_le_mul_right _ (by omega)
        have e2 : (u.1 + 1 + 1) * (C + N + L + 3) = (u.1 + 1) * (C + N + L + 3) + (C + N + L + 3) := Nat.succ_mul _ _
        omega
      · rw [he]; omega

/-! ### what is told of a table -/
/-- an entry for each put -/
def Closed (F : Nat → Nat → Prop) (N pl : Nat) (B : Bt) : Prop := ∀ s t u, s ≤ N → F s t → B pl t = some u → AtMost (B pl s) (u.1 + 1, u.2 + 1)
/-- B' is B with some entries at the place lessened, none that is not led to by puts -/
structure Spr (F : Nat → Nat → Prop) (pl : Nat) (B B' : Bt) : Prop where
  other : ∀ p s, p ≠ pl → B' p s = B p s
  mono : ∀ s u, AtMost (B pl s) u → AtMost (B' pl s) u
  sound : ∀ S : Nat → Nat × Nat → Prop, (∀ s t u, F s t → S t u → S s (u.1 + 1, u.2 + 1)) → (∀ s u, B pl s = some u → S s u) → ∀ s u, B' pl s = some u → S s u
theorem Spr.refl {F : Nat → Nat → Prop} {pl : Nat} {B : Bt} : Spr F pl B B := ⟨fun _ _ _ => rfl, fun _ _ h => h, fun _ _ h => h⟩
theorem Spr.less {F : Nat → Nat → Prop} {pl s t : Nat} {B B' : Bt} {u : Nat × Nat} (h : Spr F pl B B') (hf : F s t) (hu : B' pl t = some u) : Spr F pl B (lessB B' pl s (u.1 + 1, u.2 + 1)) :=
  ⟨fun p x hp => by rw [lessB_other (fun z => hp z.1)]; exact h.other p x hp, fun x w hw => lessB_mono (h.mono x w hw), fun S hS h0 x w hw => by
    by_cases e : x = s
    · subst e
      cases hl : isLess B' pl x (u.1 + 1, u.2 + 1) with
      | true => rw [lessB_yes hl] at hw; cases hw; exact hS x t u hf (h.sound S hS h0 t u hu)
      | false => rw [lessB_no hl] at hw; exact h.sound S hS h0 x w hw
    · rw [lessB_other (fun z => e z.2)] at hw; exact h.sound S hS h0 x w hw⟩

/-- the ways from a place and a state to the end: price, signs -/
inductive Way (z : List Nat) (F : Nat → Nat → Prop) (E : Nat → Prop) (lot : Nat → List Nat) : Nat → Nat → Nat → Nat → Prop where
  | stop {s : Nat} (h : E s) : Way z F E lot z.length s 0 0
  | put {p s t c q : Nat} (h : F s t) (k : Way z F E lot p t c q) : Way z F E lot p s (c + 1) (q + 1)
  | take {p s c q : Nat} (h : p < z.length) (k : Way z F E lot (p + 1) s c q) : Way z F E lot p s (c + 1) q
  | step {p s t c q : Nat} {x : Nat} (h : z[p]? = some x) (f : F s t) (k : Way z F E lot (p + 1) t c q) : Way z F E lot p s (c + (if x ∈ lot t then 0 else 1)) (q + 1)
/-- the table tells the least ways at and behind a place -/
structure Least (z : List Nat) (F : Nat → Nat → Prop) (E : Nat → Prop) (lot : Nat → List Nat) (N pl : Nat) (B : Bt) : Prop where
  sound : ∀ p s u, pl ≤ p → B p s = some u → Way z F E lot p s u.1 u.2
  least : ∀ p s c q, pl ≤ p → s ≤ N → Way z F E lot p s c q → AtMost (B p s) (c, q)
theorem Way.le {z : List Nat} {F : Nat → Nat → Prop} {E : Nat → Prop} {lot : Nat → List Nat} {p s c q : Nat} (h : Way z F E lot p s c q) : p ≤ z.length := by
  induction h with
  | stop _ => exact Nat.le_refl _
  | put _ _ ih => exact ih
  | take h _ _ => exact Nat.le_of_lt h
  | step h _ _ _ => exact Nat.le_of_lt (List.getElem?_eq_some_iff.mp h).1

/-! ### a spread under way -/
theorem Bnd.ex (pl N : Nat) (B : Bt) : ∃ L C, Bnd pl N L C B := by
  have key : ∀ n, ∃ L C, ∀ s u, s < n → B pl s = some u → u.1 ≤ C ∧ u.2 ≤ L := by
    intro n
    induction n with
    | zero => exact ⟨0, 0, fun s u h => absurd h (Nat.not_lt_zero _)⟩
    | succ n ih =>
      obtain ⟨L, C, h⟩ := ih
      cases e : B pl n with
      | none => exact ⟨L, C, fun s u hs hu => by
          by_cases q : s = n
          · subst q; rw [e] at hu; cases hu
          · exact h s u (by omega) hu⟩
      | some v => exact ⟨L + v.2, C + v.1, fun s u hs hu => by
          by_cases q : s = n
          · subst q; rw [e] at hu; cases hu; omega
          · have := h s u (by omega) hu; omega⟩
  obtain ⟨L, C, h⟩ := key (N + 1)
  exact ⟨L, C, fun s u hs hu => by have := h s u (by omega) hu; omega, fun s u hs hu => by have := h s u (by omega) hu; omega⟩
structure SpI (F : Nat → Nat → Prop) (pl N L C : Nat) (B0 B1 B2 : Bt) (more : Bool) (done : Nat → Nat → Prop) : Prop where
  spr : Spr F pl B0 B2
  bnd : Bnd pl N L C B2
  le : Phi pl N L C B2 ≤ Phi pl N L C B1
  lt : more = true → Phi pl N L C B2 < Phi pl N L C B1
  cl : more = false → ∀ s t u, done s t → F s t → B2 pl t = some u → AtMost (B2 pl s) (u.1 + 1, u.2 + 1)
section
variable {F : Nat → Nat → Prop} {pl N L C : Nat} {B0 B1 B2 : Bt} {more : Bool} {done done' : Nat → Nat → Prop}
theorem SpI.imp (h : SpI F pl N L C B0 B1 B2 more done) (e : ∀ s t, F s t → done' s t → done s t) : SpI F pl N L C B0 B1 B2 more done' :=
  ⟨h.spr, h.bnd, h.le, h.lt, fun m s t u d f => h.cl m s t u (e s t f d) f⟩
theorem SpI.skip (h : SpI F pl N L C B0 B1 B2 more done) {s t : Nat} (ht : B2 pl t = none) (e : ∀ s' t', done' s' t' → done s' t' ∨ (s' = s ∧ t' = t)) : SpI F pl N L C B0 B1 B2 more done' :=
  ⟨h.spr, h.bnd, h.le, h.lt, fun m s' t' u d f hu => (e s' t' d).elim (fun d => h.cl m s' t' u d f hu) fun z => by rw [z.2, ht] at hu; cases hu⟩
theorem SpI.less (h : SpI F pl N L C B0 B1 B2 more done) {s t : Nat} {u : Nat × Nat} (hf : F s t) (hs : s ≤ N) (htN : t ≤ N) (ht : B2 pl t = some u) (hl : isLess B2 pl s (u.1 + 1, u.2 + 1) = true) :
    SpI F pl N L C B0 B1 (lessB B2 pl s (u.1 + 1, u.2 + 1)) true done' := by
  obtain ⟨h1, h2⟩ := h.bnd.less hs htN ht hl
  exact ⟨h.spr.less hf ht, h1, Nat.le_of_lt (Nat.lt_of_lt_of_le h2 h.le), fun _ => Nat.lt_of_lt_of_le h2 h.le, fun z => by cases z⟩
theorem SpI.no (h : SpI F pl N L C B0 B1 B2 more done) {s t : Nat} {u : Nat × Nat} (ht : B2 pl t = some u) (hl : isLess B2 pl s (u.1 + 1, u.2 + 1) = false) (e : ∀ s' t', done' s' t' → done s' t' ∨ (s' = s ∧ t' = t)) :
    SpI F pl N L C B0 B1 (lessB B2 pl s (u.1 + 1, u.2 + 1)) more done' := by
  rw [lessB_no hl]
  refine ⟨h.spr, h.bnd, h.le, h.lt, fun m s' t' u' d f hu => (e s' t' d).elim (fun d => h.cl m s' t' u' d f hu) fun z => ?_⟩
  obtain ⟨rfl, rfl⟩ := z
  rw [ht] at hu
  cases hu
  exact lessB_no_le hl
end

/-! ### a fill under way -/
structure FlI (F : Nat → Nat → Prop) (pr : Nat → Nat) (pl : Nat) (B0 B2 : Bt) (dT : Nat → Prop) (dS : Nat → Nat → Prop) : Prop where
  other : ∀ p s, p ≠ pl → B2 p s = B0 p s
  snd : ∀ s u, B2 pl s = some u → (∃ v, B0 (pl + 1) s = some v ∧ u = (v.1 + 1, v.2)) ∨ ∃ t v, F s t ∧ B0 (pl + 1) t = some v ∧ u = (v.1 + pr t, v.2 + 1)
  clT : ∀ s v, dT s → B0 (pl + 1) s = some v → AtMost (B2 pl s) (v.1 + 1, v.2)
  clS : ∀ s t v, dS s t → F s t → B0 (pl + 1) t = some v → AtMost (B2 pl s) (v.1 + pr t, v.2 + 1)
section
variable {F : Nat → Nat → Prop} {pr : Nat → Nat} {pl : Nat} {B0 B2 : Bt} {dT dT' : Nat → Prop} {dS dS' : Nat → Nat → Prop}
theorem FlI.less (h : FlI F pr pl B0 B2 dT dS) {s : Nat} {x : Nat × Nat} (hx : (∃ v, B0 (pl + 1) s = some v ∧ x = (v.1 + 1, v.2)) ∨ ∃ t v, F s t ∧ B0 (pl + 1) t = some v ∧ x = (v.1 + pr t, v.2 + 1)) : FlI F pr pl B0 (lessB B2 pl s x) dT dS := by
  refine ⟨fun p' s' hp => by rw [lessB_other (fun z => hp z.1)]; exact h.other p' s' hp, fun s' u hu => ?_, fun s' v d hv => lessB_mono (h.clT s' v d hv), fun s' t v d f hv => lessB_mono (h.clS s' t v d f hv)⟩
  exact lessB_sound (B := fun p s => if p = pl then B2 p s else none) (S := fun _ s u => (∃ v, B0 (pl + 1) s = some v ∧ u = (v.1 + 1, v.2)) ∨ ∃ t v, F s t ∧ B0 (pl + 1) t = some v ∧ u = (v.1 + pr t, v.2 + 1)) (pl := pl) (st := s) (v := x) (fun p s u e => by
    by_cases q : p = pl
    · subst q; simp only [if_pos] at e; exact h.snd s u e
    · simp only [if_neg q] at e; cases e) hx pl s' u (by
    rw [← hu]
    unfold lessB
    simp)
theorem FlI.done (h : FlI F pr pl B0 B2 dT dS) (eT : ∀ s v, dT' s → B0 (pl + 1) s = some v → dT s ∨ AtMost (B2 pl s) (v.1 + 1, v.2)) (eS : ∀ s t v, dS' s t → F s t → B0 (pl + 1) t = some v → dS s t ∨ AtMost (B2 pl s) (v.1 + pr t, v.2 + 1)) : FlI F pr pl B0 B2 dT' dS' :=
  ⟨h.other, h.snd, fun s v d hv => (eT s v d hv).elim (fun d => h.clT s v d hv) id, fun s t v d f hv => (eS s t v d f hv).elim (fun d => h.clS s t v d f hv) id⟩
end
/-- a place filled, then spread -/
theorem Least.fill {z : List Nat} {F : Nat → Nat → Prop} {E : Nat → Prop} {lot : Nat → List Nat} {N pl x : Nat} {B0 B2 B3 : Bt} (h : Least z F E lot N (pl + 1) B0) (hx : z[pl]? = some x) (hN : ∀ s t, F s t → t ≤ N)
    (f : FlI F (fun t => if x ∈ lot t then 0 else 1) pl B0 B2 (fun s => s ≤ N) (fun s _ => s ≤ N)) (sp : Spr F pl B2 B3) (cl : Closed F N pl B3) : Least z F E lot N pl B3 := by
  have hlt := (List.getElem?_eq_some_iff.mp hx).1
  refine ⟨fun p s u hp hu => ?_, ?_⟩
  · by_cases e : p = pl
    · subst e
      refine sp.sound (fun s u => Way z F E lot p s u.1 u.2) (fun s t u hf hw => Way.put hf hw) (fun s u hu => ?_) s u hu
      rcases f.snd s u hu with ⟨v, h1, rfl⟩ | ⟨t, v, h0, h1, rfl⟩
      · exact Way.take hlt (h.sound _ _ _ (Nat.le_refl _) h1)
      · exact Way.step hx h0 (h.sound _ _ _ (Nat.le_refl _) h1)
    · rw [sp.other p s e, f.other p s e] at hu
      exact h.sound p s u (by omega) hu
  · intro p s c q hp hs w
    by_cases e : p = pl
    · subst e
      have key : ∀ {p' s c q}, Way z F E lot p' s c q → p' = p → s ≤ N → AtMost (B3 p s) (c, q) := by
        intro p' s c q w
        induction w with
        | stop _ => intro e; omega
        | @put p1 s t c q hf k ih =>
          intro e hs
          obtain ⟨u, h1, h2⟩ := ih e (hN _ _ hf)
          exact (cl s t u hs hf h1).trans (by unfold le2 at *; simp only at *; omega)
        | @take p1 s c q hlt' k ih =>
          intro e hs
          subst e
          obtain ⟨u, h1, h2⟩ := h.least _ _ _ _ (Nat.le_refl _) hs k
          exact sp.mono s _ ((f.clT s u hs h1).trans (by unfold le2 at *; simp only at *; omega))
        | @step p1 s t c q y hy hf k ih =>
          intro e hs
          subst e
          rw [hx] at hy
          cases hy
          obtain ⟨u, h1, h2⟩ := h.least _ _ _ _ (Nat.le_refl _) (hN _ _ hf) k
          exact sp.mono s _ ((f.clS s t u hs hf h1).trans (by unfold le2 at *; simp only at *; omega))
      exact key w rfl hs
    · rw [sp.other p s e, f.other p s e]
      exact h.least p s c q (by omega) hs w
/-- the last place -/
theorem Least.last {z : List Nat} {F : Nat → Nat → Prop} {E : Nat → Prop} {lot : Nat → List Nat} {N : Nat} {B2 B3 : Bt} (hN : ∀ s t, F s t → t ≤ N) (hE : ∀ s, E s → s ≤ N) (hz : ∀ p s, z.length < p → B2 p s = none)
    (h0 : ∀ s, E s → B2 z.length s = some (0, 0)) (h1 : ∀ s u, B2 z.length s = some u → E s ∧ u = (0, 0)) (sp : Spr F z.length B2 B3) (cl : Closed F N z.length B3) : Least z F E lot N z.length B3 := by
  refine ⟨fun p s u hp hu => ?_, fun p s c q hp hs w => ?_⟩
  · by_cases e : p = z.length
    · subst e
      refine sp.sound (fun s u => Way z F E lot z.length s u.1 u.2) (fun s t u hf hw => Way.put hf hw) (fun s u hu => ?_) s u hu
      obtain ⟨h2, rfl⟩ := h1 s u hu
      exact Way.stop h2
    · rw [sp.other p s e, hz p s (by omega)] at hu
      cases hu
  · have ep := w.le
    have e : p = z.length := by omega
    have key : ∀ {p' s c q}, Way z F E lot p' s c q → p' = z.length → s ≤ N → AtMost (B3 z.length s) (c, q) := by
      intro p' s c q w
      induction w with
      | @stop s hs => intro _ _; exact sp.mono s _ ⟨_, h0 s hs, le2.refl _⟩
      | @put p1 s t c q hf k ih =>
        intro e hs
        obtain ⟨u, h1, h2⟩ := ih e (hN _ _ hf)
        exact (cl s t u hs hf h1).trans (by unfold le2 at *; simp only at *; omega)
      | @take p1 s c q hlt' k ih => intro e; omega
      | @step p1 s t c q y hy hf k ih => intro e; have := (List.getElem?_eq_some_iff.mp hy).1; omega
    have := key w e hs
    rw [← e] at this
    exact this
end Fr

set_option maxHeartbeats 2000000
/-! What it may cost to mend a text, by the pattern; the sets of states tell the same. -/
namespace Fr
/-- a way through states: from s, signs used up, to t, price -/
inductive Run (F : Nat → Nat → Prop) (lot : Nat → List Nat) : Nat → List Nat → Nat → Nat → Prop where
  | nil {s : Nat} : Run F lot s [] s 0
  | put {s t u n : Nat} {z : List Nat} (h : F s t) (k : Run F lot t z u n) : Run F lot s z u (n + 1)
  | take {s u n x : Nat} {z : List Nat} (k : Run F lot s z u n) : Run F lot s (x :: z) u (n + 1)
  | step {s t u n x : Nat} {z : List Nat} (h : F s t) (k : Run F lot t z u n) : Run F lot s (x :: z) u (n + (if x ∈ lot t then 0 else 1))
theorem Way.run {z : List Nat} {F : Nat → Nat → Prop} {E : Nat → Prop} {lot : Nat → List Nat} {p s c q : Nat} (h : Way z F E lot p s c q) : ∃ t, E t ∧ Run F lot s (z.drop p) t c := by
  induction h with
  | @stop s h => exact ⟨s, h, by rw [List.drop_length]; exact .nil⟩
  | put h _ ih => obtain ⟨t, h1, h2⟩ := ih; exact ⟨t, h1, .put h h2⟩
  | @take p s c q h _ ih => obtain ⟨t, h1, h2⟩ := ih; exact ⟨t, h1, by rw [List.drop_eq_getElem_cons h]; exact .take h2⟩
  | @step p s t c q x h f _ ih =>
    obtain ⟨t, h1, h2⟩ := ih
    obtain ⟨hl, hx⟩ := List.getElem?_eq_some_iff.mp h
    exact ⟨t, h1, by rw [List.drop_eq_getElem_cons hl, hx]; exact .step f h2⟩
theorem Run.way {z : List Nat} {F : Nat → Nat → Prop} {E : Nat → Prop} {lot : Nat → List Nat} {s t c : Nat} {y : List Nat} (h : Run F lot s y t c) (ht : E t) : ∀ p, y = z.drop p → p ≤ z.length → ∃ q, Way z F E lot p s c q := by
  induction h with
  | nil =>
    intro p hy hp
    have : z.length ≤ p := List.drop_eq_nil_iff.mp hy.symm
    have e : p = z.length := by omega
    subst e
    exact ⟨0, .stop ht⟩
  | put h _ ih => intro p hy hp; obtain ⟨q, w⟩ := ih ht p hy hp; exact ⟨q + 1, .put h w⟩
  | @take s u n x y _ ih =>
    intro p hy hp
    have hlt : p < z.length := by
      rcases Nat.lt_or_ge p z.length with h | h
      · exact h
      · rw [List.drop_eq_nil_iff.mpr h] at hy; cases hy
    rw [List.drop_eq_getElem_cons hlt] at hy
    injection hy with h1 h2
    obtain ⟨q, w⟩ := ih ht (p + 1) h2 hlt
    exact ⟨q, .take hlt w⟩
  | @step s t u n x y f _ ih =>
    intro p hy hp
    have hlt : p < z.length := by
      rcases Nat.lt_or_ge p z.length with h | h
      · exact h
      · rw [List.drop_eq_nil_iff.mpr h] at hy; cases hy
    rw [List.drop_eq_getElem_cons hlt] at hy
    injection hy with h1 h2
    obtain ⟨q, w⟩ := ih ht (p + 1) h2 hlt
    exact ⟨q + 1, .step (by rw [List.getElem?_eq_getElem hlt, h1]) f w⟩
/-- the sets of a pattern behind o signs -/
def FolO (p : Pat) (o s t : Nat) : Prop := (s = 0 ∧ p.Fst o t) ∨ p.Fol o s t
def EndO (p : Pat) (o s : Nat) : Prop := p.Lst o s ∨ (s = 0 ∧ p.nul = true)
def Acc (lot : Nat → List Nat) (p : Pat) (o s : Nat) (z : List Nat) (n : Nat) : Prop := ∃ t, EndO p o t ∧ Run (FolO p o) lot s z t n
section
variable {lot : Nat → List Nat} {p q : Pat} {o s t n x : Nat} {z : List Nat}
theorem Acc.put (h : FolO p o s t) (k : Acc lot p o t z n) : Acc lot p o s z (n + 1) := let ⟨u, h1, h2⟩ := k; ⟨u, h1, .put h h2⟩
theorem Acc.take (k : Acc lot p o s z n) : Acc lot p o s (x :: z) (n + 1) := let ⟨u, h1, h2⟩ := k; ⟨u, h1, .take h2⟩
theorem Acc.step (h : FolO p o s t) (k : Acc lot p o t z n) : Acc lot p o s (x :: z) (n + (if x ∈ lot t then 0 else 1)) := let ⟨u, h1, h2⟩ := k; ⟨u, h1, .step h h2⟩
theorem Acc.nil (h : EndO p o s) : Acc lot p o s [] 0 := ⟨s, h, .nil⟩
/-- by the way -/
theorem Acc.rec_ {C : Nat → List Nat → Nat → Prop} (hn : ∀ s, EndO p o s → C s [] 0) (hp : ∀ s t z n, FolO p o s t → Acc lot p o t z n → C t z n → C s z (n + 1)) (ht : ∀ s x z n, Acc lot p o s z n → C s z n → C s (x :: z) (n + 1))
    (hs : ∀ s t x z n, FolO p o s t → Acc lot p o t z n → C t z n → C s (x :: z) (n + (if x ∈ lot t then 0 else 1))) {s : Nat} {z : List Nat} {n : Nat} (h : Acc lot p o s z n) : C s z n := by
  obtain ⟨u, hu, r⟩ := h
  induction r with
  | nil => exact hn _ hu
  | put f k ih => exact hp _ _ _ _ f ⟨_, hu, k⟩ (ih hu)
  | take k ih => exact ht _ _ _ _ ⟨_, hu, k⟩ (ih hu)
  | step f k ih => exact hs _ _ _ _ _ f ⟨_, hu, k⟩ (ih hu)
end
/-- none or more laps; between them signs are taken out -/
inductive Star (M : List Nat → Nat → Prop) : List Nat → Nat → Prop where
  | nil : Star M [] 0
  | take {x n : Nat} {z : List Nat} (k : Star M z n) : Star M (x :: z) (n + 1)
  | lap {z1 z2 : List Nat} {n1 n2 : Nat} (h : M z1 n1) (k : Star M z2 n2) : Star M (z1 ++ z2) (n1 + n2)
theorem Star.imp {M M' : List Nat → Nat → Prop} (e : ∀ z n, M z n → M' z n) {z : List Nat} {n : Nat} (h : Star M z n) : Star M' z n := by
  induction h with
  | nil => exact .nil
  | take _ ih => exact .take ih
  | lap h _ ih => exact .lap (e _ _ h) ih
theorem Star.all {M : List Nat → Nat → Prop} : ∀ z : List Nat, Star M z z.length
  | [] => .nil
  | _ :: z => .take (Star.all z)
theorem Star.one {M : List Nat → Nat → Prop} {z : List Nat} {n : Nat} (h : M z n) : Star M z n := by
  have := Star.lap h (.nil (M := M))
  rwa [List.append_nil] at this
/-- what it may cost to make a text one that the pattern reads -/
def Mend : Pat → List Nat → Nat → Prop
  | .non, _, _ => False
  | .emp, z, n => n = z.length
  | .sign l, z, n => ∃ a b : List Nat, (z = a ++ b ∧ n = a.length + 1 + b.length) ∨ ∃ x, z = a ++ x :: b ∧ n = a.length + b.length + (if x ∈ l then 0 else 1)
  | .thn p q, z, n => ∃ z1 z2 n1 n2, z = z1 ++ z2 ∧ n = n1 + n2 ∧ Mend p z1 n1 ∧ Mend q z2 n2
  | .orr p q, z, n => Mend p z n ∨ Mend q z n
  | .many p, z, n => Star (Mend p) z n
  | .few p, z, n => Star (Mend p) z n
  | .mark _ p, z, n => Mend p z n
def LotsAt (lot : Nat → List Nat) : Pat → Nat → Prop
  | .sign l, o => lot (o + 1) = l
  | .thn p q, o => LotsAt lot p o ∧ LotsAt lot q (o + p.sg)
  | .orr p q, o => LotsAt lot p o ∧ LotsAt lot q (o + p.sg)
  | .many p, o => LotsAt lot p o
  | .few p, o => LotsAt lot p o
  | .mark _ p, o => LotsAt lot p o
  | _, _ => True
theorem Pat.Fol_in : ∀ {p : Pat} {o s t : Nat}, p.Fol o s t → (o < s ∧ s ≤ o + p.sg) ∧ o < t ∧ t ≤ o + p.sg
  | .thn p q, o, s, t, h => by
    simp only [Pat.Fol] at h; simp only [Pat.sg]
    rcases h with ⟨h, h'⟩ | h | h
    · have := Pat.Lst_in h; have := Pat.Fst_in h'; omega
    · have := Pat.Fol_in h; omega
    · have := Pat.Fol_in h; omega
  | .orr p q, o, s, t, h => by
    simp only [Pat.Fol] at h; simp only [Pat.sg]
    rcases h with h | h <;> have := Pat.Fol_in h <;> omega
  | .many p, o, s, t, h => by
    simp only [Pat.Fol] at h; simp only [Pat.sg]
    rcases h with ⟨h, h'⟩ | h
    · have := Pat.Lst_in h; have := Pat.Fst_in h'; omega
    · exact Pat.Fol_in h
  | .few p, o, s, t, h => by
    simp only [Pat.Fol] at h; simp only [Pat.sg]
    rcases h with ⟨h, h'⟩ | h
    · have := Pat.Lst_in h; have := Pat.Fst_in h'; omega
    · exact Pat.Fol_in h
  | .mark _ p, o, s, t, h => Pat.Fol_in (p := p) h
theorem lots_at_of {lot : Nat → List Nat} : ∀ (p : Pat) (o : Nat), (∀ i, i < p.sg → p.lots[i]? = some (lot (o + 1 + i))) → LotsAt lot p o
  | .non, _, _ => trivial
  | .emp, _, _ => trivial
  | .sign l, o, h => by have := h 0 (by simp [Pat.sg]); simp [Pat.lots] at this; exact this.symm
  | .thn p q, o, h => by
    have h' : ∀ i, i < p.sg + q.sg → (p.lots ++ q.lots)[i]? = some (lot (o + 1 + i)) := h
    refine ⟨lots_at_of p o fun i hi => ?_, lots_at_of q _ fun i hi => ?_⟩
    · rw [← h' i (by omega), List.getElem?_append_left (by rw [Pat.lots_len]; exact hi)]
    · have := h' (p.sg + i) (by omega)
      rw [List.getElem?_append_right (by rw [Pat.lots_len]; omega), Pat.lots_len, show p.sg + i - p.sg = i by omega, show o + 1 + (p.sg + i) = o + p.sg + 1 + i by omega] at this
      exact this
  | .orr p q, o, h => by
    have h' : ∀ i, i < p.sg + q.sg → (p.lots ++ q.lots)[i]? = some (lot (o + 1 + i)) := h
    refine ⟨lots_at_of p o fun i hi => ?_, lots_at_of q _ fun i hi => ?_⟩
    · rw [← h' i (by omega), List.getElem?_append_left (by rw [Pat.lots_len]; exact hi)]
    · have := h' (p.sg + i) (by omega)
      rw [List.getElem?_append_right (by rw [Pat.lots_len]; omega), Pat.lots_len, show p.sg + i - p.sg = i by omega, show o + 1 + (p.sg + i) = o + p.sg + 1 + i by omega] at this
      exact this
  | .many p, o, h => lots_at_of p o h
  | .few p, o, h => lots_at_of p o h
  | .mark _ p, o, h => lots_at_of p o h
section
variable {lot : Nat → List Nat} {p q : Pat} {o : Nat}
/-! ### or -/
theorem acc_orr_l {s : Nat} {z : List Nat} {n : Nat} (h : Acc lot (.orr p q) o s z n) : o < s ∧ s ≤ o + p.sg → Acc lot p o s z n := by
  refine Acc.rec_ (C := fun s z n => o < s ∧ s ≤ o + p.sg → Acc lot p o s z n) (fun s h r => ?_) (fun s t z n f _ ih r => ?_) (fun s x z n _ ih r => (ih r).take) (fun s t x z n f _ ih r => ?_) h
  · rcases h with h | ⟨rfl, _⟩
    · rcases h with h | h
      · have := Pat.Lst_in h; omega
      · exact .nil (.inl h)
    · omega
  all_goals
    have g : p.Fol o s t := by
      rcases f with ⟨rfl, _⟩ | f
      · omega
      · rcases f with f | f
        · exact f
        · have := Pat.Fol_in f; omega
    have := Pat.Fol_in g
  · exact (ih (by omega)).put (.inr g)
  · exact (ih (by omega)).step (.inr g)
theorem acc_orr_r {s : Nat} {z : List Nat} {n : Nat} (h : Acc lot (.orr p q) o s z n) : o + p.sg < s ∧ s ≤ o + p.sg + q.sg → Acc lot q (o + p.sg) s z n := by
  refine Acc.rec_ (C := fun s z n => o + p.sg < s ∧ s ≤ o + p.sg + q.sg → Acc lot q (o + p.sg) s z n) (fun s h r => ?_) (fun s t z n f _ ih r => ?_) (fun s x z n _ ih r => (ih r).take) (fun s t x z n f _ ih r => ?_) h
  · rcases h with h | ⟨rfl, _⟩
    · rcases h with h | h
      · exact .nil (.inl h)
      · have := Pat.Lst_in h; omega
    · omega
  all_goals
    have g : q.Fol (o + p.sg) s t := by
      rcases f with ⟨rfl, _⟩ | f
      · omega
      · rcases f with f | f
        · have := Pat.Fol_in f; omega
        · exact f
    have := Pat.Fol_in g
  · exact (ih (by omega)).put (.inr g)
  · exact (ih (by omega)).step (.inr g)
theorem acc_orr {z : List Nat} {n : Nat} (h : Acc lot (.orr p q) o 0 z n) : Acc lot p o 0 z n ∨ Acc lot q (o + p.sg) 0 z n := by
  refine Acc.rec_ (C := fun s z n => s = 0 → Acc lot p o 0 z n ∨ Acc lot q (o + p.sg) 0 z n) (fun s h r => ?_) (fun s t z n f a ih r => ?_) (fun s x z n _ ih r => (ih r).imp .take .take) (fun s t x z n f a ih r => ?_) h rfl
  · subst r
    rcases h with h | ⟨_, h⟩
    · rcases h with h | h <;> have := Pat.Lst_in h <;> omega
    · simp only [Pat.nul, Bool.or_eq_true] at h
      exact h.imp (fun h => .nil (.inr ⟨rfl, h⟩)) (fun h => .nil (.inr ⟨rfl, h⟩))
  all_goals
    subst r
    have g : p.Fst o t ∨ q.Fst (o + p.sg) t := by
      rcases f with ⟨_, f⟩ | f
      · exact f
      · have := Pat.Fol_in f; omega
    rcases g with g | g
    · have i := Pat.Fst_in g
      have a' := acc_orr_l a (by omega)
      first | exact .inl (a'.put (.inl ⟨rfl, g⟩)) | exact .inl (a'.step (.inl ⟨rfl, g⟩))
    · have i := Pat.Fst_in g
      have a' := acc_orr_r a (by omega)
      first | exact .inr (a'.put (.inl ⟨rfl, g⟩)) | exact .inr (a'.step (.inl ⟨rfl, g⟩))
theorem Acc.map {p' : Pat} {o' : Nat} (hE : ∀ s, EndO p o s → EndO p' o' s) (hF : ∀ s t, FolO p o s t → FolO p' o' s t) {s : Nat} {z : List Nat} {n : Nat} (h : Acc lot p o s z n) : Acc lot p' o' s z n :=
  Acc.rec_ (C := fun s z n => Acc lot p' o' s z n) (fun s h => .nil (hE s h)) (fun s t z n f _ ih => ih.put (hF s t f)) (fun s x z n _ ih => ih.take) (fun s t x z n f _ ih => ih.step (hF s t f)) h
theorem acc_orr_iff {z : List Nat} {n : Nat} : Acc lot (.orr p q) o 0 z n ↔ Acc lot p o 0 z n ∨ Acc lot q (o + p.sg) 0 z n := by
  refine ⟨acc_orr, fun h => h.elim (Acc.map (fun s h => ?_) fun s t h => ?_) (Acc.map (fun s h => ?_) fun s t h => ?_)⟩
  · exact h.imp (fun h => .inr h) fun h => ⟨h.1, by simp [Pat.nul, h.2]⟩
  · exact h.imp (fun h => ⟨h.1, .inl h.2⟩) fun h => .inl h
  · exact h.imp (fun h => .inl h) fun h => ⟨h.1, by simp [Pat.nul, h.2]⟩
  · exact h.imp (fun h => ⟨h.1, .inr h.2⟩) fun h => .inr h
/-! ### then -/
theorem acc_thn_r {s : Nat} {z : List Nat} {n : Nat} (h : Acc lot (.thn p q) o s z n) : o + p.sg < s ∧ s ≤ o + p.sg + q.sg → Acc lot q (o + p.sg) s z n := by
  refine Acc.rec_ (C := fun s z n => o + p.sg < s ∧ s ≤ o + p.sg + q.sg → Acc lot q (o + p.sg) s z n) (fun s h r => ?_) (fun s t z n f _ ih r => ?_) (fun s x z n _ ih r => (ih r).take) (fun s t x z n f _ ih r => ?_) h
  · rcases h with h | ⟨rfl, _⟩
    · rcases h with h | ⟨_, h⟩
      · exact .nil (.inl h)
      · have := Pat.Lst_in h; omega
    · omega
  all_goals
    have g : q.Fol (o + p.sg) s t := by
      rcases f with ⟨rfl, _⟩ | f
      · omega
      · rcases f with ⟨f, _⟩ | f | f
        · have := Pat.Lst_in f; omega
        · have := Pat.Fol_in f; omega
        · exact f
    have := Pat.Fol_in g
  · exact (ih (by omega)).put (.inr g)
  · exact (ih (by omega)).step (.inr g)
theorem acc_thn {s : Nat} {z : List Nat} {n : Nat} (h : Acc lot (.thn p q) o s z n) : (s = 0 ∨ (o < s ∧ s ≤ o + p.sg)) → ∃ z1 z2 n1 n2, z = z1 ++ z2 ∧ n = n1 + n2 ∧ Acc lot p o s z1 n1 ∧ Acc lot q (o + p.sg) 0 z2 n2 := by
  refine Acc.rec_ (C := fun s z n => (s = 0 ∨ (o < s ∧ s ≤ o + p.sg)) → ∃ z1 z2 n1 n2, z = z1 ++ z2 ∧ n = n1 + n2 ∧ Acc lot p o s z1 n1 ∧ Acc lot q (o + p.sg) 0 z2 n2) (fun s h r => ?_) (fun s t z n f a ih r => ?_) (fun s x z n _ ih r => ?_) (fun s t x z n f a ih r => ?_) h
  · rcases h with h | ⟨rfl, h⟩
    · rcases h with h | ⟨h1, h⟩
      · have := Pat.Lst_in h; omega
      · exact ⟨[], [], 0, 0, rfl, rfl, .nil (.inl h), .nil (.inr ⟨rfl, h1⟩)⟩
    · simp only [Pat.nul, Bool.and_eq_true] at h
      exact ⟨[], [], 0, 0, rfl, rfl, .nil (.inr ⟨rfl, h.1⟩), .nil (.inr ⟨rfl, h.2⟩)⟩
  rotate_left
  · obtain ⟨z1, z2, n1, n2, rfl, rfl, h1, h2⟩ := ih r
    exact ⟨x :: z1, z2, n1 + 1, n2, rfl, by omega, h1.take, h2⟩
  all_goals
    have g : FolO p o s t ∨ (EndO p o s ∧ q.Fst (o + p.sg) t) := by
      rcases f with ⟨rfl, f⟩ | f
      · rcases f with f | ⟨f1, f⟩
        · exact .inl (.inl ⟨rfl, f⟩)
        · exact .inr ⟨.inr ⟨rfl, f1⟩, f⟩
      · rcases f with ⟨f1, f⟩ | f | f
        · exact .inr ⟨.inl f1, f⟩
        · exact .inl (.inr f)
        · have := Pat.Fol_in f; omega
    rcases g with g | ⟨g1, g⟩
    · have hin : o < t ∧ t ≤ o + p.sg := by
        rcases g with ⟨_, g⟩ | g
        · exact Pat.Fst_in g
        · exact (Pat.Fol_in g).2
      obtain ⟨z1, z2, n1, n2, rfl, rfl, h1, h2⟩ := ih (.inr hin)
      first
      | exact ⟨z1, z2, n1 + 1, n2, rfl, by omega, h1.put g, h2⟩
      | exact ⟨x :: z1, z2, _, n2, rfl, by omega, h1.step (x := x) g, h2⟩
    · have i := Pat.Fst_in g
      have a' := acc_thn_r a (by omega)
      first
      | exact ⟨[], z, 0, n + 1, rfl, by omega, .nil g1, a'.put (.inl ⟨rfl, g⟩)⟩
      | exact ⟨[], x :: z, 0, _, rfl, (Nat.zero_add _).symm, .nil g1, a'.step (x := x) (.inl ⟨rfl, g⟩)⟩
theorem acc_thn_of {z2 : List Nat} {n2 : Nat} (k : Acc lot q (o + p.sg) 0 z2 n2) {s : Nat} {z : List Nat} {n : Nat} (h : Acc lot p o s z n) : Acc lot (.thn p q) o s (z ++ z2) (n + n2) := by
  have kq : ∀ {s z n}, Acc lot q (o + p.sg) s z n → o + p.sg < s → Acc lot (.thn p q) o s z n := fun {s z n} h => by
    refine Acc.rec_ (C := fun s z n => o + p.sg < s → Acc lot (.thn p q) o s z n) (fun s h r => ?_) (fun s t z n f a ih r => ?_) (fun s x z n _ ih r => (ih r).take) (fun s t x z n f a ih r => ?_) h
    · exact .nil (.inl (.inl (h.elim id fun z => by omega)))
    all_goals
      have g : q.Fol (o + p.sg) s t := f.elim (fun z => by omega) id
      have := Pat.Fol_in g
    · exact (ih (by omega)).put (.inr (.inr (.inr g)))
    · exact (ih (by omega)).step (.inr (.inr (.inr g)))
  refine Acc.rec_ (C := fun s z n => Acc lot (.thn p q) o s (z ++ z2) (n + n2)) (fun s h => ?_) (fun s t z n f a ih => ?_) (fun s x z n _ ih => ?_) (fun s t x z n f a ih => ?_) h
  · rw [List.nil_append, Nat.zero_add]
    refine Acc.rec_ (C := fun s' z n => s' = 0 → Acc lot (.thn p q) o s z n) (fun s' h' r => ?_) (fun s' t z n f a ih r => ?_) (fun s' x z n _ ih r => (ih r).take) (fun s' t x z n f a ih r => ?_) k rfl
    · subst r
      have hq : q.nul = true := h'.elim (fun z => by have := Pat.Lst_in z; omega) fun z => z.2
      rcases h with h | ⟨rfl, h⟩
      · exact .nil (.inl (.inr ⟨hq, h⟩))
      · exact .nil (.inr ⟨rfl, by simp [Pat.nul, h, hq]⟩)
    all_goals
      subst r
      have g : q.Fst (o + p.sg) t := f.elim (fun z => z.2) fun z => by have := Pat.Fol_in z; omega
      have i := Pat.Fst_in g
      have e : FolO (.thn p q) o s t := by
        rcases h with h | ⟨rfl, h⟩
        · exact .inr (.inl ⟨h, g⟩)
        · exact .inl ⟨rfl, .inr ⟨h, g⟩⟩
    · exact (kq a i.1).put e
    · exact (kq a i.1).step e
  rotate_left
  · have := ih.take (x := x)
    rwa [show n + n2 + 1 = n + 1 + n2 by omega] at this
  all_goals
    have e : FolO (.thn p q) o s t := f.imp (fun z => ⟨z.1, .inl z.2⟩) fun z => .inr (.inl z)
  · have := ih.step (x := x) e
    rwa [show n + n2 + (if x ∈ lot t then 0 else 1) = n + (if x ∈ lot t then 0 else 1) + n2 by omega] at this
  · have := ih.put e
    rwa [show n + n2 + 1 = n + 1 + n2 by omega] at this
/-! ### many -/
theorem acc_many {s : Nat} {z : List Nat} {n : Nat} (h : Acc lot (.many p) o s z n) : (s = 0 → Star (Acc lot p o 0) z n) ∧ (o < s ∧ s ≤ o + p.sg → ∃ z1 z2 n1 n2, z = z1 ++ z2 ∧ n = n1 + n2 ∧ Acc lot p o s z1 n1 ∧ Star (Acc lot p o 0) z2 n2) := by
  refine Acc.rec_ (C := fun s z n => (s = 0 → Star (Acc lot p o 0) z n) ∧ (o < s ∧ s ≤ o + p.sg → ∃ z1 z2 n1 n2, z = z1 ++ z2 ∧ n = n1 + n2 ∧ Acc lot p o s z1 n1 ∧ Star (Acc lot p o 0) z2 n2)) (fun s h => ⟨fun _ => .nil, fun r => ?_⟩) (fun s t z n f a ih => ?_) (fun s x z n _ ih => ⟨fun r => .take (ih.1 r), fun r => ?_⟩) (fun s t x z n f a ih => ?_) h
  · rcases h with h | ⟨rfl, _⟩
    · exact ⟨[], [], 0, 0, rfl, rfl, .nil (.inl h), .nil⟩
    · omega
  rotate_left
  · obtain ⟨z1, z2, n1, n2, rfl, rfl, h1, h2⟩ := ih.2 r
    exact ⟨x :: z1, z2, n1 + 1, n2, rfl, by omega, h1.take, h2⟩
  all_goals
    have g : (p.Fst o t ∧ EndO (.many p) o s) ∨ p.Fol o s t := by
      rcases f with ⟨rfl, f⟩ | f
      · exact .inl ⟨f, .inr ⟨rfl, rfl⟩⟩
      · rcases f with ⟨f1, f⟩ | f
        · exact .inl ⟨f, .inl f1⟩
        · exact .inr f
    rcases g with ⟨g, ge⟩ | g
    · obtain ⟨z1, z2, n1, n2, rfl, rfl, h1, h2⟩ := ih.2 (Pat.Fst_in g)
      first
      | exact
          have st := Star.lap (h1.put (.inl ⟨rfl, g⟩)) h2
          ⟨fun _ => by rw [show n1 + n2 + 1 = n1 + 1 + n2 by omega]; exact st, fun r => ⟨[], z1 ++ z2, 0, n1 + 1 + n2, rfl, by omega, .nil (.inl (ge.elim id fun z => by omega)), st⟩⟩
      | exact
          have st := Star.lap (h1.step (x := x) (.inl ⟨rfl, g⟩)) h2
          ⟨fun _ => by rw [show n1 + n2 + (if x ∈ lot t then 0 else 1) = n1 + (if x ∈ lot t then 0 else 1) + n2 by omega]; exact st, fun r => ⟨[], x :: z1 ++ z2, 0, n1 + (if x ∈ lot t then 0 else 1) + n2, rfl, by omega, .nil (.inl (ge.elim id fun z => by omega)), st⟩⟩
    · have i := Pat.Fol_in g
      obtain ⟨z1, z2, n1, n2, rfl, rfl, h1, h2⟩ := ih.2 i.2
      first
      | exact ⟨fun r => by omega, fun _ => ⟨z1, z2, n1 + 1, n2, rfl, by omega, h1.put (.inr g), h2⟩⟩
      | exact ⟨fun r => by omega, fun _ => ⟨x :: z1, z2, _, n2, rfl, by omega, h1.step (x := x) (.inr g), h2⟩⟩
theorem acc_many_of {z : List Nat} {n : Nat} (h : Star (Acc lot p o 0) z n) : ∀ s, EndO (.many p) o s → Acc lot (.many p) o s z n := by
  induction h with
  | nil => intro s hs; exact .nil hs
  | take _ ih => intro s hs; exact (ih s hs).take
  | @lap z1 z2 n1 n2 h _ ih =>
    intro s hs
    have inn : ∀ {s' z n}, Acc lot p o s' z n → o < s' → Acc lot (.many p) o s' (z ++ z2) (n + n2) := fun {s' z n} h => by
      refine Acc.rec_ (C := fun s' z n => o < s' → Acc lot (.many p) o s' (z ++ z2) (n + n2)) (fun s' h r => ?_) (fun s' t z n f a ih r => ?_) (fun s' x z n _ ih r => ?_) (fun s' t x z n f a ih r => ?_) h
      · rw [List.nil_append, Nat.zero_add]; exact ih s' (h.imp id fun z => ⟨z.1, rfl⟩)
      rotate_left
      · have := (ih r).take (x := x)
        rwa [show n + n2 + 1 = n + 1 + n2 by omega] at this
      all_goals
        have g : p.Fol o s' t := f.elim (fun z => by omega) id
        have i := Pat.Fol_in g
        have e : FolO (.many p) o s' t := .inr (.inr g)
      · have := (ih i.2.1).step (x := x) e
        rwa [show n + n2 + (if x ∈ lot t then 0 else 1) = n + (if x ∈ lot t then 0 else 1) + n2 by omega] at this
      · have := (ih i.2.1).put e
        rwa [show n + n2 + 1 = n + 1 + n2 by omega] at this
    refine Acc.rec_ (C := fun s' z n => s' = 0 → Acc lot (.many p) o s (z ++ z2) (n + n2)) (fun s' h r => ?_) (fun s' t z n f a _ r => ?_) (fun s' x z n _ ih r => ?_) (fun s' t x z n f a _ r => ?_) h rfl
    · rw [List.nil_append, Nat.zero_add]; exact ih s hs
    rotate_left
    · have := (ih r).take (x := x)
      rwa [show n + n2 + 1 = n + 1 + n2 by omega] at this
    all_goals
      subst r
      have g : p.Fst o t := f.elim (fun z => z.2) fun z => by have := Pat.Fol_in z; omega
      have i := Pat.Fst_in g
      have e : FolO (.many p) o s t := by
        rcases hs with h | ⟨rfl, h⟩
        · exact .inr (.inl ⟨h, g⟩)
        · exact .inl ⟨rfl, g⟩
    · have := (inn a i.1).step (x := x) e
      rwa [show n + n2 + (if x ∈ lot t then 0 else 1) = n + (if x ∈ lot t then 0 else 1) + n2 by omega] at this
    · have := (inn a i.1).put e
      rwa [show n + n2 + 1 = n + 1 + n2 by omega] at this
end

theorem acc_emp {lot : Nat → List Nat} {o : Nat} {z : List Nat} {n : Nat} : Acc lot .emp o 0 z n ↔ n = z.length := by
  constructor
  · intro h
    refine Acc.rec_ (C := fun s z n => n = z.length) (fun s h => rfl) (fun s t z n f _ _ => ?_) (fun s x z n _ ih => by rw [ih]; rfl) (fun s t x z n f _ _ => ?_) h
    all_goals rcases f with ⟨_, f⟩ | f <;> exact f.elim
  · intro h
    subst h
    induction z with
    | nil => exact .nil (.inr ⟨rfl, rfl⟩)
    | cons x z ih => exact ih.take
theorem acc_sign {lot : Nat → List Nat} {o : Nat} {l : List Nat} (hl : lot (o + 1) = l) {z : List Nat} {n : Nat} : Acc lot (.sign l) o 0 z n ↔ Mend (.sign l) z n := by
  have tk : ∀ (b : List Nat) (z : List Nat) (n s : Nat), Acc lot (.sign l) o s z n → Acc lot (.sign l) o s (b ++ z) (b.length + n) := fun b z n s h => by
    induction b with
    | nil => rw [List.nil_append, List.length_nil, Nat.zero_add]; exact h
    | cons x b ih => have := ih.take (x := x); rwa [show b.length + n + 1 = (x :: b).length + n by rw [List.length_cons]; omega] at this
  constructor
  · intro h
    have key := Acc.rec_ (lot := lot) (p := .sign l) (o := o) (C := fun s z n => (s = o + 1 → n = z.length) ∧ (s = 0 → Mend (.sign l) z n)) (fun s h => ⟨fun _ => rfl, fun r => ?_⟩) (fun s t z n f _ ih => ?_) (fun s x z n _ ih => ⟨fun r => by rw [ih.1 r]; rfl, fun r => ?_⟩) (fun s t x z n f _ ih => ?_) h
    · exact key.2 rfl
    · rcases h with h | ⟨_, h⟩
      · have h : s = o + 1 := h; omega
      · cases h
    · obtain ⟨rfl, f'⟩ : s = 0 ∧ t = o + 1 := f.elim id fun z => z.elim
      refine ⟨fun r => by omega, fun _ => ⟨[], z, .inl ⟨rfl, ?_⟩⟩⟩
      rw [ih.1 f', List.length_nil]; omega
    · obtain ⟨a, b, h⟩ := ih.2 r
      refine ⟨x :: a, b, ?_⟩
      rcases h with ⟨rfl, rfl⟩ | ⟨y, rfl, rfl⟩
      · exact .inl ⟨rfl, by rw [List.length_cons]; omega⟩
      · exact .inr ⟨y, rfl, by rw [List.length_cons]; omega⟩
    · obtain ⟨rfl, f'⟩ : s = 0 ∧ t = o + 1 := f.elim id fun z => z.elim
      refine ⟨fun r => by omega, fun _ => ⟨[], z, .inr ⟨x, rfl, ?_⟩⟩⟩
      rw [ih.1 f', f', hl, List.length_nil]; omega
  · rintro ⟨a, b, h⟩
    have e : FolO (.sign l) o 0 (o + 1) := .inl ⟨rfl, rfl⟩
    have e0 : Acc lot (.sign l) o (o + 1) b b.length := by
      have := tk b [] 0 (o + 1) (.nil (.inl rfl))
      rwa [List.append_nil, Nat.add_zero] at this
    rcases h with ⟨rfl, rfl⟩ | ⟨x, rfl, rfl⟩
    · have := tk a _ _ 0 (e0.put e)
      rwa [show a.length + (b.length + 1) = a.length + 1 + b.length by omega] at this
    · have := tk a _ _ 0 (e0.step (x := x) e)
      rwa [hl, show a.length + (b.length + (if x ∈ l then 0 else 1)) = a.length + b.length + (if x ∈ l then 0 else 1) by omega] at this
theorem acc_iff {lot : Nat → List Nat} : ∀ (p : Pat) (o : Nat) (z : List Nat) (n : Nat), LotsAt lot p o → (Acc lot p o 0 z n ↔ Mend p z n)
  | .non, o, z, n, _ => ⟨fun ⟨t, h, _⟩ => h.elim (fun h => h) (fun h => by cases h.2), fun h => h.elim⟩
  | .emp, o, z, n, _ => acc_emp
  | .sign l, o, z, n, h => acc_sign h
  | .thn p q, o, z, n, h => by
    constructor
    · intro a
      obtain ⟨z1, z2, n1, n2, e1, e2, h1, h2⟩ := acc_thn a (.inl rfl)
      exact ⟨z1, z2, n1, n2, e1, e2, (acc_iff p o _ _ h.1).mp h1, (acc_iff q _ _ _ h.2).mp h2⟩
    · rintro ⟨z1, z2, n1, n2, rfl, rfl, h1, h2⟩
      exact acc_thn_of ((acc_iff q _ _ _ h.2).mpr h2) ((acc_iff p o _ _ h.1).mpr h1)
  | .orr p q, o, z, n, h => acc_orr_iff.trans (or_congr (acc_iff p o z n h.1) (acc_iff q _ z n h.2))
  | .many p, o, z, n, h => ⟨fun a => ((acc_many a).1 rfl).imp fun z n => (acc_iff p o z n h).mp, fun a => acc_many_of (a.imp fun z n => (acc_iff p o z n h).mpr) 0 (.inr ⟨rfl, rfl⟩)⟩
  | .few p, o, z, n, h => ⟨fun a => ((acc_many (show Acc lot (.many p) o 0 z n from a)).1 rfl).imp fun z n => (acc_iff p o z n h).mp, fun a => show Acc lot (.many p) o 0 z n from acc_many_of (a.imp fun z n => (acc_iff p o z n h).mpr) 0 (.inr ⟨rfl, rfl⟩)⟩
  | .mark _ p, o, z, n, h => acc_iff p o z n h
end Fr

set_option maxHeartbeats 2000000
/-! Ways with their edits; the least ones; what they tell. -/
namespace Fr
inductive Edit where
  | keep (c : Nat) | put (c : Nat) | take (x : Nat) | chg (x c : Nat)
  deriving DecidableEq
namespace Edit
/-- the sign it tells, the sign it uses up, its price -/
def told : Edit → Option Nat
  | keep c => some c | put c => some c | take _ => none | chg _ c => some c
def src : Edit → Option Nat
  | keep c => some c | put _ => none | take x => some x | chg x _ => some x
def price : Edit → Nat
  | keep _ => 0 | _ => 1
end Edit
def tolds (es : List Edit) : List Nat := es.filterMap Edit.told
def srcs (es : List Edit) : List Nat := es.filterMap Edit.src
def prices (es : List Edit) : Nat := (es.map Edit.price).sum
def oN (o : Option Nat) : Nat := if o.isSome then 1 else 0
theorem tolds_cons (e : Edit) (es : List Edit) : tolds (e :: es) = e.told.toList ++ tolds es := by cases e <;> rfl
theorem srcs_cons (e : Edit) (es : List Edit) : srcs (e :: es) = e.src.toList ++ srcs es := by cases e <;> rfl
theorem prices_cons (e : Edit) (es : List Edit) : prices (e :: es) = e.price + prices es := by unfold prices; rw [List.map_cons, List.sum_cons]
theorem tolds_append (a b : List Edit) : tolds (a ++ b) = tolds a ++ tolds b := List.filterMap_append ..
theorem srcs_append (a b : List Edit) : srcs (a ++ b) = srcs a ++ srcs b := List.filterMap_append ..
theorem prices_append (a b : List Edit) : prices (a ++ b) = prices a + prices b := by unfold prices; rw [List.map_append, List.sum_append]
theorem tolds_len (e : Edit) (es : List Edit) : (tolds (e :: es)).length = (tolds es).length + oN e.told := by
  rw [tolds_cons, List.length_append]; cases e <;> simp [Edit.told, oN] <;> omega
/-- one edit from a place and a state -/
inductive St1 (z : List Nat) (F : Nat → Nat → Prop) (lot : Nat → List Nat) : Nat → Nat → Edit → Nat → Nat → Prop where
  | take {p s x : Nat} (h : z[p]? = some x) : St1 z F lot p s (.take x) (p + 1) s
  | put {p s t c : Nat} (f : F s t) (m : c ∈ lot t) : St1 z F lot p s (.put c) p t
  | keep {p s t c : Nat} (f : F s t) (m : c ∈ lot t) (h : z[p]? = some c) : St1 z F lot p s (.keep c) (p + 1) t
  | chg {p s t c x : Nat} (f : F s t) (m : c ∈ lot t) (h : z[p]? = some x) (n : x ≠ c) : St1 z F lot p s (.chg x c) (p + 1) t
inductive PathE (R : Nat → Nat → Edit → Nat → Nat → Prop) : Nat → Nat → List Edit → Nat → Nat → Prop where
  | nil {p s : Nat} : PathE R p s [] p s
  | cons {p s p1 s1 p2 s2 : Nat} {e : Edit} {es : List Edit} (h : R p s e p1 s1) (k : PathE R p1 s1 es p2 s2) : PathE R p s (e :: es) p2 s2
theorem PathE.append {R : Nat → Nat → Edit → Nat → Nat → Prop} {p s p1 s1 p2 s2 : Nat} {es es' : List Edit} (h : PathE R p s es p1 s1) (k : PathE R p1 s1 es' p2 s2) : PathE R p s (es ++ es') p2 s2 := by
  induction h with
  | nil => exact k
  | cons h _ ih => exact .cons h (ih k)
theorem PathE.one {R : Nat → Nat → Edit → Nat → Nat → Prop} {p s p1 s1 : Nat} {e : Edit} (h : R p s e p1 s1) : PathE R p s [e] p1 s1 := .cons h .nil
theorem PathE.split {R : Nat → Nat → Edit → Nat → Nat → Prop} : ∀ {es es' : List Edit} {p s p2 s2 : Nat}, PathE R p s (es ++ es') p2 s2 → ∃ p1 s1, PathE R p s es p1 s1 ∧ PathE R p1 s1 es' p2 s2
  | [], _, _, _, _, _, h => ⟨_, _, .nil, h⟩
  | _ :: _, _, _, _, _, _, .cons h k => let ⟨p1, s1, h1, h2⟩ := PathE.split k; ⟨p1, s1, .cons h h1, h2⟩
theorem PathE.imp {R R' : Nat → Nat → Edit → Nat → Nat → Prop} (i : ∀ p s e p1 s1, R p s e p1 s1 → R' p s e p1 s1) {p s p2 s2 : Nat} {es : List Edit} (h : PathE R p s es p2 s2) : PathE R' p s es p2 s2 := by
  induction h with
  | nil => exact .nil
  | cons h _ ih => exact .cons (i _ _ _ _ _ h) ih
section
variable {z : List Nat} {F : Nat → Nat → Prop} {E : Nat → Prop} {lot : Nat → List Nat} {N : Nat} {B : Bt}
abbrev Path (z : List Nat) (F : Nat → Nat → Prop) (lot : Nat → List Nat) : Nat → Nat → List Edit → Nat → Nat → Prop := PathE (St1 z F lot)
/-- to the end -/
def WayE (z : List Nat) (F : Nat → Nat → Prop) (E : Nat → Prop) (lot : Nat → List Nat) (p s : Nat) (es : List Edit) : Prop := ∃ t, E t ∧ Path z F lot p s es z.length t
theorem WayE.cons {p s p1 s1 : Nat} {e : Edit} {es : List Edit} (h : St1 z F lot p s e p1 s1) (k : WayE z F E lot p1 s1 es) : WayE z F E lot p s (e :: es) := let ⟨t, ht, w⟩ := k; ⟨t, ht, .cons h w⟩
theorem WayE.pre {p s p1 s1 : Nat} {es es' : List Edit} (h : Path z F lot p s es p1 s1) (k : WayE z F E lot p1 s1 es') : WayE z F E lot p s (es ++ es') := let ⟨t, ht, w⟩ := k; ⟨t, ht, h.append w⟩
/-- each way is one with its edits -/
theorem Way.edits (hl : ∀ s t, F s t → lot t ≠ []) {p s c q : Nat} (h : Way z F E lot p s c q) : ∃ es, WayE z F E lot p s es ∧ prices es = c ∧ (tolds es).length = q := by
  induction h with
  | stop h => exact ⟨[], ⟨_, h, .nil⟩, rfl, rfl⟩
  | @put p s t c q f k ih =>
    obtain ⟨es, w, h1, h2⟩ := ih
    obtain ⟨x, hx⟩ := List.exists_mem_of_ne_nil _ (hl s t f)
    exact ⟨_, w.cons (.put f hx), by rw [prices_cons, h1]; show 1 + c = c + 1; omega, by rw [tolds_len, h2]; rfl⟩
  | @take p s c q h k ih =>
    obtain ⟨es, w, h1, h2⟩ := ih
    exact ⟨_, w.cons (.take (List.getElem?_eq_getElem h)), by rw [prices_cons, h1]; show 1 + c = c + 1; omega, by rw [tolds_len, h2]; rfl⟩
  | @step p s t c q x h f k ih =>
    obtain ⟨es, w, h1, h2⟩ := ih
    by_cases hx : x ∈ lot t
    · exact ⟨_, w.cons (.keep f hx h), by rw [prices_cons, h1, if_pos hx]; show 0 + c = c + 0; omega, by rw [tolds_len, h2]; rfl⟩
    · obtain ⟨y, hy⟩ := List.exists_mem_of_ne_nil _ (hl s t f)
      exact ⟨_, w.cons (.chg f hy h (fun e => hx (e ▸ hy))), by rw [prices_cons, h1, if_neg hx]; show 1 + c = c + 1; omega, by rw [tolds_len, h2]; rfl⟩
theorem Path.way {p s : Nat} {es : List Edit} {p2 s2 : Nat} (h : Path z F lot p s es p2 s2) : p2 = z.length → E s2 → ∃ c, c ≤ prices es ∧ Way z F E lot p s c (tolds es).length := by
  induction h with
  | nil => intro e ht; subst e; exact ⟨0, Nat.le_refl _, .stop ht⟩
  | @cons p s p1 s1 p2 s2 e es h k ih =>
    intro e' ht
    obtain ⟨c, hc, w⟩ := ih e' ht
    rw [tolds_len, prices_cons]
    cases h with
    | take h => exact ⟨c + 1, by show c + 1 ≤ 1 + prices es; omega, .take (List.getElem?_eq_some_iff.mp h).1 w⟩
    | put f m => exact ⟨c + 1, by show c + 1 ≤ 1 + prices es; omega, .put f w⟩
    | keep f m h => exact ⟨_, by rw [if_pos m]; show c + 0 ≤ 0 + prices es; omega, .step h f w⟩
    | chg f m h n => exact ⟨_, by show c + (if _ then 0 else 1) ≤ 1 + prices es; split <;> omega, .step h f w⟩
theorem WayE.way {p s : Nat} {es : List Edit} (h : WayE z F E lot p s es) : ∃ c, c ≤ prices es ∧ Way z F E lot p s c (tolds es).length := let ⟨_, ht, w⟩ := h; Path.way w rfl ht
/-! ### the least ones -/
/-- an edit on a least way -/
structure Tight (z : List Nat) (F : Nat → Nat → Prop) (lot : Nat → List Nat) (B : Bt) (p s : Nat) (e : Edit) (p1 s1 : Nat) : Prop where
  st : St1 z F lot p s e p1 s1
  at_ : ∃ c q, B p1 s1 = some (c, q) ∧ B p s = some (c + e.price, q + oN e.told)
abbrev TPath (z : List Nat) (F : Nat → Nat → Prop) (lot : Nat → List Nat) (B : Bt) : Nat → Nat → List Edit → Nat → Nat → Prop := PathE (Tight z F lot B)
theorem TPath.path {p s : Nat} {es : List Edit} {p2 s2 : Nat} (h : TPath z F lot B p s es p2 s2) : Path z F lot p s es p2 s2 := PathE.imp (fun _ _ _ _ _ t => t.st) h
theorem TPath.at_ {p s : Nat} {es : List Edit} {p2 s2 : Nat} (h : TPath z F lot B p s es p2 s2) : ∀ {c q}, B p2 s2 = some (c, q) → B p s = some (c + prices es, q + (tolds es).length) := by
  induction h with
  | nil => intro c q h; rw [h]; rfl
  | @cons p s p1 s1 p2 s2 e es h k ih =>
    intro c q hb
    obtain ⟨c1, q1, h1, h2⟩ := h.at_
    have := ih hb
    rw [h1] at this
    cases this
    rw [h2, prices_cons, tolds_len, Nat.add_assoc, Nat.add_assoc, Nat.add_comm e.price]
theorem St1.le (hN : ∀ s t, F s t → t ≤ N) {p s p1 s1 : Nat} {e : Edit} (h : St1 z F lot p s e p1 s1) (hs : s ≤ N) : s1 ≤ N := by
  cases h with
  | take _ => exact hs
  | put f _ => exact hN _ _ f
  | keep f _ _ => exact hN _ _ f
  | chg f _ _ _ => exact hN _ _ f
theorem Path.le (hN : ∀ s t, F s t → t ≤ N) {p s p1 s1 : Nat} {es : List Edit} (h : Path z F lot p s es p1 s1) : s ≤ N → s1 ≤ N := by
  induction h with
  | nil => exact id
  | cons h _ ih => exact fun hs => ih (h.le hN hs)
theorem St1.pl {p s p1 s1 : Nat} {e : Edit} (h : St1 z F lot p s e p1 s1) : p ≤ p1 ∧ (p ≤ z.length → p1 ≤ z.length) := by
  cases h with
  | take h => have := (List.getElem?_eq_some_iff.mp h).1; omega
  | put f _ => omega
  | keep f _ h => have := (List.getElem?_eq_some_iff.mp h).1; omega
  | chg f _ h _ => have := (List.getElem?_eq_some_iff.mp h).1; omega
/-- a way as little as what is told is tight all along -/
theorem Least.tight (hL : Least z F E lot N 0 B) (hN : ∀ s t, F s t → t ≤ N) (hl : ∀ s t, F s t → lot t ≠ []) {p s : Nat} {es : List Edit} {p2 s2 : Nat} (h : Path z F lot p s es p2 s2) :
    p2 = z.length → E s2 → s ≤ N → B p s = some (prices es, (tolds es).length) → TPath z F lot B p s es p2 s2 := by
  induction h with
  | nil => intro _ _ _ _; exact .nil
  | @cons p s p1 s1 p2 s2 e es h k ih =>
    intro e2 ht hs hb
    have hs1 := h.le hN hs
    obtain ⟨c, hc, w⟩ := Path.way k e2 ht
    obtain ⟨u, h1, h2⟩ := hL.least p1 s1 _ _ (Nat.zero_le _) hs1 w
    obtain ⟨es', w', h3, h4⟩ := (hL.sound p1 s1 u (Nat.zero_le _) h1).edits hl
    obtain ⟨c', hc', w''⟩ := (w'.cons h).way
    obtain ⟨u', h5, h6⟩ := hL.least p s _ _ (Nat.zero_le _) hs w''
    rw [tolds_len, prices_cons] at hb
    rw [hb] at h5
    cases h5
    rw [tolds_len] at h6
    rw [prices_cons] at hc'
    have eu : u = (prices es, (tolds es).length) := by
      unfold le2 at h2 h6
      simp only at h2 h6
      exact Prod.ext (by omega) (by omega)
    rw [eu] at h1
    exact .cons ⟨h, _, _, h1, by rw [hb, Nat.add_comm e.price]⟩ (ih e2 ht hs1 h1)
theorem Least.way_at (hL : Least z F E lot N 0 B) (hN : ∀ s t, F s t → t ≤ N) (hl : ∀ s t, F s t → lot t ≠ []) {p s : Nat} {u : Nat × Nat} (hs : s ≤ N) (hb : B p s = some u) : ∃ es t, E t ∧ TPath z F lot B p s es z.length t ∧ prices es = u.1 ∧ (tolds es).length = u.2 := by
  obtain ⟨es, ⟨t, ht, w⟩, h1, h2⟩ := (hL.sound p s u (Nat.zero_le _) hb).edits hl
  exact ⟨es, t, ht, hL.tight hN hl w rfl ht hs (by rw [hb, h1, h2]), h1, h2⟩
/-- where the least ways that told u can be -/
def Lay (z : List Nat) (F : Nat → Nat → Prop) (lot : Nat → List Nat) (B : Bt) (u : List Nat) (k : Nat × Nat) : Prop := ∃ es, TPath z F lot B 0 0 es k.1 k.2 ∧ tolds es = u
/-- by takes alone; by one sign -/
def Tk (z : List Nat) (F : Nat → Nat → Prop) (lot : Nat → List Nat) (B : Bt) (k k' : Nat × Nat) : Prop := ∃ x, Tight z F lot B k.1 k.2 (.take x) k'.1 k'.2
def Sg (z : List Nat) (F : Nat → Nat → Prop) (lot : Nat → List Nat) (B : Bt) (c : Nat) (k k' : Nat × Nat) : Prop := ∃ e : Edit, e.told = some c ∧ Tight z F lot B k.1 k.2 e k'.1 k'.2
inductive Tks (z : List Nat) (F : Nat → Nat → Prop) (lot : Nat → List Nat) (B : Bt) : Nat × Nat → Nat × Nat → Prop where
  | nil {k : Nat × Nat} : Tks z F lot B k k
  | snoc {k k1 k2 : Nat × Nat} (h : Tks z F lot B k k1) (t : Tk z F lot B k1 k2) : Tks z F lot B k k2
theorem tks_of {p s : Nat} {es : List Edit} {p2 s2 : Nat} (h : TPath z F lot B p s es p2 s2) : tolds es = [] → ∀ {k : Nat × Nat}, Tks z F lot B k (p, s) → Tks z F lot B k (p2, s2) := by
  induction h with
  | nil => intro _ k w; exact w
  | @cons p s p1 s1 p2 s2 e es h k ih =>
    intro he k' w
    rw [tolds_cons] at he
    obtain ⟨h1, h2⟩ := List.append_eq_nil_iff.mp he
    cases e with
    | take x => exact ih h2 (w.snoc ⟨x, h⟩)
    | keep c => cases h1
    | put c => cases h1
    | chg x c => cases h1
theorem Tks.path {k k' : Nat × Nat} (h : Tks z F lot B k k') : ∃ es, TPath z F lot B k.1 k.2 es k'.1 k'.2 ∧ tolds es = [] := by
  induction h with
  | nil => exact ⟨[], .nil, rfl⟩
  | snoc _ t ih =>
    obtain ⟨es, h1, h2⟩ := ih
    obtain ⟨x, t⟩ := t
    exact ⟨es ++ [.take x], h1.append (.one t), by rw [tolds_append, h2]; rfl⟩
theorem lay_nil {k : Nat × Nat} : Lay z F lot B [] k ↔ Tks z F lot B (0, 0) k := by
  constructor
  · rintro ⟨es, h, e⟩; exact tks_of h e .nil
  · intro h; exact h.path
theorem lay_snoc {u : List Nat} {c : Nat} {k : Nat × Nat} : Lay z F lot B (u ++ [c]) k ↔ ∃ k1 k2, Lay z F lot B u k1 ∧ Sg z F lot B c k1 k2 ∧ Tks z F lot B k2 k := by
  constructor
  · rintro ⟨es, h, e⟩
    have key : ∀ {es : List Edit} {p s p2 s2 : Nat} {u : List Nat}, TPath z F lot B p s es p2 s2 → tolds es = u ++ [c] → ∃ es1 e p1 s1 p3 s3, TPath z F lot B p s es1 p1 s1 ∧ tolds es1 = u ∧ Tight z F lot B p1 s1 e p3 s3 ∧ e.told = some c ∧ Tks z F lot B (p3, s3) (p2, s2) := by
      intro es
      induction es with
      | nil => intro p s p2 s2 u _ e; exact absurd e (by simp [tolds])
      | cons e es ih =>
        intro p s p2 s2 u h ht
        cases h with
        | @cons _ _ p1 s1 _ _ _ _ h k =>
          rw [tolds_cons] at ht
          cases hto : e.told with
          | none =>
            rw [hto] at ht
            obtain ⟨es1, e1, a, b, a', b', h1, h2, h3, h4, h5⟩ := ih k ht
            exact ⟨e :: es1, e1, a, b, a', b', .cons h h1, by rw [tolds_cons, hto]; exact h2, h3, h4, h5⟩
          | some d =>
            rw [hto] at ht
            cases u with
            | nil =>
              have hd : d = c := by injection ht
              have hn : tolds es = [] := by injection ht
              exact ⟨[], e, p, s, p1, s1, .nil, rfl, h, by rw [hto, hd], tks_of k hn .nil⟩
            | cons d' u =>
              have hd : d = d' := by injection ht
              have hn : tolds es = u ++ [c] := by injection ht
              obtain ⟨es1, e1, a, b, a', b', h1, h2, h3, h4, h5⟩ := ih k hn
              exact ⟨e :: es1, e1, a, b, a', b', .cons h h1, by rw [tolds_cons, hto, h2, hd]; rfl, h3, h4, h5⟩
    obtain ⟨es1, e1, a, b, a', b', h1, h2, h3, h4, h5⟩ := key h e
    exact ⟨(a, b), (a', b'), ⟨es1, h1, h2⟩, ⟨e1, h4, h3⟩, h5⟩
  · rintro ⟨k1, k2, ⟨es, h1, h2⟩, ⟨e, he, ht⟩, hk⟩
    obtain ⟨es', h3, h4⟩ := hk.path
    exact ⟨es ++ (e :: es'), h1.append (.cons ht h3), by rw [tolds_append, h2, tolds_cons, he, h4]; rfl⟩
/-- what the table tells there -/
theorem Lay.at_ {u : List Nat} {k : Nat × Nat} {c q : Nat} (h : Lay z F lot B u k) (h0 : B 0 0 = some (c, q)) (hs : u = [] → True) : ∃ c' q', B k.1 k.2 = some (c', q') ∧ q = q' + u.length := by
  obtain ⟨es, h, e⟩ := h
  have key : ∀ {es : List Edit} {p s p2 s2 : Nat}, TPath z F lot B p s es p2 s2 → ∀ {c q}, B p s = some (c, q) → ∃ c' q', B p2 s2 = some (c', q') := by
    intro es p s p2 s2 h
    induction h with
    | nil => intro c q h; exact ⟨_, _, h⟩
    | cons h _ ih => intro _ _ _; obtain ⟨c1, q1, h1, _⟩ := h.at_; exact ih h1
  obtain ⟨c', q', h1⟩ := key h h0
  have := TPath.at_ h h1
  rw [h0] at this
  cases this
  exact ⟨c', q', h1, by rw [e]⟩
theorem Lay.le (hN : ∀ s t, F s t → t ≤ N) {u : List Nat} {k : Nat × Nat} (h : Lay z F lot B u k) : k.1 ≤ z.length ∧ k.2 ≤ N := by
  obtain ⟨es, h, _⟩ := h
  have key : ∀ {es : List Edit} {p s p2 s2 : Nat}, Path z F lot p s es p2 s2 → p ≤ z.length → p2 ≤ z.length := by
    intro es p s p2 s2 h
    induction h with
    | nil => exact id
    | cons h _ ih => exact fun hp => ih (h.pl.2 hp)
  exact ⟨key h.path (Nat.zero_le _), Path.le hN h.path (Nat.zero_le _)⟩
/-- while signs are left, some sign leads on -/
theorem Lay.next (hL : Least z F E lot N 0 B) (hN : ∀ s t, F s t → t ≤ N) (hl : ∀ s t, F s t → lot t ≠ []) {u : List Nat} {k : Nat × Nat} {c q : Nat} (h : Lay z F lot B u k) (h0 : B 0 0 = some (c, q)) (hq : u.length < q) :
    ∃ d k1 k2, Lay z F lot B u k1 ∧ Sg z F lot B d k1 k2 ∧ ∃ t, d ∈ lot t ∧ ∃ s, F s t := by
  obtain ⟨c', q', h1, h2⟩ := h.at_ h0 fun _ => trivial
  obtain ⟨es, t, ht, w, h3, h4⟩ := hL.way_at hN hl (h.le hN).2 h1
  have h4 : (tolds es).length = q' := h4
  have key : ∀ {es : List Edit} {p s p2 s2 : Nat}, TPath z F lot B p s es p2 s2 → 0 < (tolds es).length → Lay z F lot B u (p, s) → ∃ d k1 k2, Lay z F lot B u k1 ∧ Sg z F lot B d k1 k2 ∧ ∃ t, d ∈ lot t ∧ ∃ s, F s t := by
    intro es p s p2 s2 h
    induction h with
    | nil => intro hc _; exact absurd hc (by simp [tolds])
    | @cons p s p1 s1 p2 s2 e es h k ih =>
      intro hc hlay
      have hst := h.st
      cases e with
      | take x =>
        refine ih ?_ ?_
        · rw [tolds_len] at hc; exact hc
        · obtain ⟨es', w', e'⟩ := hlay
          exact ⟨es' ++ [.take x], w'.append (.one h), by rw [tolds_append, e']; simp [tolds, Edit.told]⟩
      | put c => cases hst with
        | put f m => exact ⟨c, (_, _), (_, _), hlay, ⟨.put c, rfl, h⟩, _, m, _, f⟩
      | keep c => cases hst with
        | keep f m _ => exact ⟨c, (_, _), (_, _), hlay, ⟨.keep c, rfl, h⟩, _, m, _, f⟩
      | chg x c => cases hst with
        | chg f m _ _ => exact ⟨c, (_, _), (_, _), hlay, ⟨.chg x c, rfl, h⟩, _, m, _, f⟩
  exact key w (by omega) h
/-- all signs told: a least way tells them -/
theorem Lay.done (hL : Least z F E lot N 0 B) (hN : ∀ s t, F s t → t ≤ N) (hl : ∀ s t, F s t → lot t ≠ []) {u : List Nat} {k : Nat × Nat} {c q : Nat} (h : Lay z F lot B u k) (h0 : B 0 0 = some (c, q)) (hq : u.length = q) :
    ∃ es t, E t ∧ TPath z F lot B 0 0 es z.length t ∧ prices es = c ∧ tolds es = u := by
  obtain ⟨c', q', h1, h2⟩ := h.at_ h0 fun _ => trivial
  obtain ⟨es, t, ht, w, h3, h4⟩ := hL.way_at hN hl (h.le hN).2 h1
  obtain ⟨es0, w0, e0⟩ := h
  have h4 : (tolds es).length = q' := h4
  have hn : tolds es = [] := List.eq_nil_of_length_eq_zero (by omega)
  have ea := TPath.at_ w0 h1
  rw [h0] at ea
  cases ea
  exact ⟨es0 ++ es, t, ht, w0.append w, by rw [prices_append, h3]; simp only; omega, by rw [tolds_append, e0, hn, List.append_nil]⟩
end
end Fr

set_option maxHeartbeats 4000000
/-! Dicts with tuple keys: items, copies, sorted. -/
namespace Fr
open PySem PySem.Spec PyProof.Rows L2

/-! ### the hashes of pairs of small numbers -/
def pairH (i : Nat) : Int := reduceHash (Builtin.Tuple.tupleHashOf [hashInt ((i / 16 : Nat) : Int), hashInt ((i % 16 : Nat) : Int)])
/-- no two of the first n give one number modulo 1281: marks in acc -/
def apartGo (f : Nat → Nat) : Nat → Nat → Bool
  | 0, _ => true
  | n + 1, acc => !(Nat.testBit acc (f n)) && apartGo f n (acc ||| 1 <<< f n)
theorem apartGo_ok {f : Nat → Nat} : ∀ {n acc : Nat}, apartGo f n acc = true → (∀ i, i < n → Nat.testBit acc (f i) = false) ∧ ∀ i j, i < n → j < n → f i = f j → i = j
  | 0, _, _ => ⟨fun i h => absurd h (Nat.not_lt_zero _), fun i _ h => absurd h (Nat.not_lt_zero _)⟩
  | n + 1, acc, h => by
    unfold apartGo at h
    rw [Bool.and_eq_true] at h
    obtain ⟨h1, h2⟩ := h
    obtain ⟨h3, h4⟩ := apartGo_ok h2
    have h5 : ∀ i, i < n → f i ≠ f n := fun i hi e => by
      have := h3 i hi
      rw [Nat.testBit_or, e, Nat.one_shiftLeft, Nat.testBit_two_pow_self, Bool.or_true] at this
      cases this
    refine ⟨fun i hi => ?_, fun i j hi hj e => ?_⟩
    · by_cases e : i = n
      · subst e; simpa using h1
      · have := h3 i (by omega)
        rw [Nat.testBit_or] at this
        exact (Bool.or_eq_false_iff.mp this).1
    · by_cases ei : i = n
      · by_cases ej : j = n
        · omega
        · subst ei; exact absurd e.symm (h5 j (by omega))
      · by_cases ej : j = n
        · subst ej; exact absurd e (h5 i (by omega))
        · exact h4 i j (by omega) (by omega) e
theorem pairH_apart : apartGo (fun i => (pairH i % 1281).toNat) 256 0 = true := by decide +kernel
theorem pairH_inj {i j : Nat} (hi : i < 256) (hj : j < 256) (e : pairH i = pairH j) : i = j := (apartGo_ok pairH_apart).2 i j hi hj (by simp only [e])
/-- keys that are pairs of small numbers -/
def SmallKeys (ks : List (List Key)) : Prop := ∀ k ∈ ks, ∃ p s : Nat, p < 16 ∧ s < 16 ∧ k = [Sum.inl (p : Int), Sum.inl (s : Int)]
theorem hash_small {P : Program} {w : World} {p s : Nat} (hs : s < 16) : (tupleKind (mixKind P w)).hash [Sum.inl (p : Int), Sum.inl (s : Int)] = pairH (p * 16 + s) := by
  unfold pairH
  rw [show (p * 16 + s) / 16 = p by omega, show (p * 16 + s) % 16 = s by omega]
  rfl
theorem hash_apart {P : Program} {w : World} : ∀ {ks : List (List Key)}, SmallKeys ks → ks.Nodup → (ks.map (tupleKind (mixKind P w)).hash).Nodup
  | [], _, _ => List.nodup_nil
  | k :: r, h, hn => by
    rw [List.nodup_cons] at hn
    rw [List.map_cons, List.nodup_cons]
    refine ⟨fun hm => ?_, hash_apart (fun x hx => h x (List.mem_cons_of_mem _ hx)) hn.2⟩
    obtain ⟨k', hk', e⟩ := List.mem_map.mp hm
    obtain ⟨p, s, hp, hs, rfl⟩ := h k (List.mem_cons_self ..)
    obtain ⟨p', s', hp', hs', rfl⟩ := h k' (List.mem_cons_of_mem _ hk')
    rw [hash_small hs, hash_small hs'] at e
    have := pairH_inj (by omega) (by omega) e
    have e1 : p = p' := by omega
    have e2 : s = s' := by omega
    subst e1 e2
    exact hn.1 hk'
/-! ### dict(d): a copy -/
section
variable {prog : Program} {w : World} {K : Type} [DecidableEq K] {knd : HeapKind prog w K} {A : Around} {E : Value → Shared → Prop} {s : Shared}
theorem call_dictH {o : Addr} {more : List (K × Addr × Value)} {Q : Value → Shared → Prop} (hu : knd.room A.in1.in1) (hoS : (o == sysModules) = false) (ho : s.heap.DictOfH knd o more) (hsz : more.length ≤ sizeLine)
    (hty : ∀ x ∈ more, s.TypeIs (.ref x.2.1) "tuple") (hap : (more.map fun x => knd.hash x.1).Nodup) (hn : (more.map (·.1)).Nodup) (hst : ∀ h', (∀ b o, s.heap.get? b = some o → h'.get? b = some o) → ∀ x ∈ more, knd.is h' x.1 x.2.1)
    (h : ∀ h', h'.DictOfH knd s.heap.objs.size more → Heap.SameBut s.heap.objs.size (s.heap.push { cls := .type "dict", data := .dict #[] }) h' → Q (.ref s.heap.objs.size) { s with heap := h' }) :
    wpAny (model prog w) A (call (.type "dict") [.ref o]) Q E s := by
  refine callType_codes (Q₁ := fun obj s₁ => obj = .ref s.heap.objs.size ∧ s₁ = { s with heap := s.heap.push { cls := .type "dict", data := .dict #[] } }) F.kt_called_dict (F.kt_typeCall_dict_1 _) F.entry_dict_init (kt_code_dict_new _ ⟨rfl, rfl⟩) ?_
  rintro obj s₁ ⟨rfl, rfl⟩
  have hnew : (s.heap.push { cls := .type "dict", data := .dict #[] }).DictOfH knd s.heap.objs.size [] := Heap.DictOfH.new s.heap
  have ho' : (s.heap.push { cls := .type "dict", data := .dict #[] }).DictOfH knd o more := by
    obtain ⟨ob, es, ep, h1, h2, h3, h4, _, h6⟩ := id ho
    exact ⟨ob, es, ep, Heap.get?_push_of_some _ h1, h2, h3, h4, hst _ fun b o e => Heap.get?_push_of_some _ e, h6⟩
  have hdo : s.heap.objs.size ≠ o := by
    obtain ⟨_, _, _, hg, _⟩ := ho
    exact fun e => absurd (Heap.lt_size hg) (by rw [e]; exact Nat.lt_irrefl _)
  have hty' : ∀ x ∈ more, ({ s with heap := s.heap.push { cls := .type "dict", data := .dict #[] } } : Shared).TypeIs (.ref x.2.1) "tuple" := fun x hx => let ⟨ob, e, c⟩ := hty x hx; ⟨ob, Heap.get?_push_of_some _ e, c⟩
  refine ⟨hnew.typeIs, F.args_dict_init_2 _ _, ?_⟩
  unfold Builtin.«dict.__init__»
  refine wpAny_bind ?_
  unfold Builtin.Dict.selfAndRest
  refine wpAny_bind (wpAny_notOrdered_dict hnew.typeIs ?_)
  show wpAny _ _ (pure (s.heap.objs.size, [Value.ref o])) _ _ _
  refine wpAny_pure ?_
  show wpAny _ _ (Builtin.Dict.updateFrom "dict.__init__" s.heap.objs.size (.ref o) [] .none) _ _ _
  unfold Builtin.Dict.updateFrom
  refine wpAny_bind (wpAny_typeOf ho'.typeIs ?_)
  rw [if_neg (by decide)]
  refine wpAny_bind ?_
  unfold Builtin.Dict.merge
  refine wpAny_bind ?_
  unfold Builtin.Dict.readDirectly
  refine wpAny_bind (wpAny_isInstance ho'.typeIs isSubtype_dict_dict ?_)
  simp only [Bool.not_true, Bool.false_eq_true, if_false]
  refine wpAny_bind (wpAny_specialOf ho'.typeIs F.slot_dict_iter.lookup (wpAny_pure ?_))
  simp only [beq_self_eq_true, if_true]
  refine wpAny_bind (wpAny_pure ?_)
  refine wpAny_mergeDict_heap (hsz := by simpa using hsz) hu hdo hoS hnew ho' (.inr ⟨hty', hap⟩) fun h' hd' _ hs' => ?_
  show wpAny _ _ (Builtin.Dict.addKeywords s.heap.objs.size [] >>= _) _ _ _
  rw [storedAllH_nil_of_nodup more hn] at hd'
  exact wpAny_bind (wpAny_pure (wpAny_pure ⟨rfl, h h' hd' hs'⟩))
end
theorem kt_keys {H : Hp} {kvs : List (List Key × V)} {xs : List (List Key × Addr × Value)} (r : KT H kvs xs) : xs.map (·.1) = kvs.map (·.1) := by
  induction r with
  | nil => rfl
  | cons h _ ih => rw [List.map_cons, List.map_cons, ih, h.1]
theorem kt_tup {H : Hp} {kvs : List (List Key × V)} {xs : List (List Key × Addr × Value)} (r : KT H kvs xs) : ∀ x ∈ xs, ∃ ys, H x.2.1 = some (.tup ys) := by
  induction r with
  | nil => exact fun x h => nomatch h
  | cons h _ ih =>
    intro x hx
    rcases List.mem_cons.mp hx with rfl | hx
    · exact ⟨_, h.2.1⟩
    · exact ih x hx
section
variable {X : Cx}
theorem call_dictT (hu : X.A.units + 64 < cLine) : CallR X (.type "dict") (fun xs H Q => ∃ (a : Addr) (kvs : List (List Key × V)), xs = [.ref a] ∧ Rd H a (.dT kvs) ∧ SmallKeys (kvs.map (·.1)) ∧ ∀ p, H p = none → Q (.ref p) (upd H p (.dT kvs))) := by
  intro pins s σ H xs us Q I r q
  obtain ⟨a, kvs, ex, hd, hk, q⟩ := q
  subst ex
  obtain ⟨u, eu, rx⟩ := vals1 r
  subst eu
  cases rx
  obtain ⟨z, lo, vs, rel, dd⟩ := dt_rd I.hok hd
  have hn : (vs.map (·.1)).Nodup := by
    obtain ⟨_, _, _, _, _, _, _, _, hn⟩ := id dd
    exact hn
  have hl : kvs.length = vs.length := Paired.length rel
  have hap : (vs.map fun x => (tupleKind (mixKind X.prog X.w)).hash x.1).Nodup := by
    have := hash_apart (P := X.prog) (w := X.w) (ks := vs.map (·.1)) (by rw [kt_keys rel]; exact hk) hn
    rw [List.map_map] at this
    exact this
  have hu2 : (tupleKind (mixKind X.prog X.w)).room X.A.in1.in1 := by
    show X.A.units + 1 + 1 < cLine
    omega
  have his : ∀ x ∈ vs, (tupleKind (mixKind X.prog X.w)).is s.heap x.1 x.2.1 := let ⟨_, _, _, _, _, _, _, h, _⟩ := dd; h
  refine call_dictH hu2 lo dd (by omega) (fun x hx => ?_) hap hn (fun h' k x hx => let ⟨o, its, n, h1, h2, h3, h4⟩ := his x hx; ⟨o, its, n, k _ _ h1, h2, h3, h4⟩) fun h' d' hs => ?_
  · obtain ⟨ys, e⟩ := kt_tup rel x hx
    obtain ⟨_, _, _, o, h1, h2, _⟩ := (show ObjOk X.prog X.w H s.heap x.2.1 (.tup ys) from I.hok _ _ e)
    exact ⟨o, h1, h2⟩
  have hm : (s.heap.objs.size == sysModules) = false := beq_eq_false_iff_ne.mpr (Nat.ne_of_gt I.big)
  have hf : H s.heap.objs.size = none := I.hok.fresh (Nat.le_refl _)
  obtain ⟨o, es, ep, h1, h2, h3, h4, _, h5⟩ := d'
  refine ⟨.ref s.heap.objs.size, upd H s.heap.objs.size (.dT kvs), I.laid (t' := s.toks) (fun b u e => (hs.2 b (Nat.ne_of_lt (Heap.lt_size e))).trans (Heap.get?_push_of_some _ e)) (Nat.le_refl _)
    (show ObjOk X.prog X.w _ _ _ (.dT kvs) from ⟨z, hm, vs, rel.keeps fun b ys e => by rw [upd_ne (ne_of_none e hf)]; exact e, o, es, ep, h1, h2, h3, h4, h5⟩), rfl, q _ hf⟩
end
/-! ### for a, b in E.items(), E a dict of tuple keys that nobody else holds: locked as it is made -/
section
variable {X : Cx} {pins : List (Addr × Obj)} {σ : L2.St} {H : Hp} {s : Shared} {d : Addr} {o : Obj}
theorem frzTV {kvs : List (List Key × V)} (I : Inv X pins σ H s) (h : H d = some (.frz o (.dT kvs))) :
    (d == sysModules) = false ∧ s.heap.get? d = some o ∧ o.ExactDict ∧ ∃ (es : Array DictEntry) (ep : Nat), o.data = .dict es ep ∧ es.size = kvs.length ∧
      ∀ (i : Nat) (k : List Key) (v : V), kvs[i]? = some (k, v) → ∃ (en : DictEntry) (q : Addr), es[i]? = some en ∧ en.key = .ref q ∧ H q = some (.tup (k.map kV)) ∧ RelV v en.val := by
  obtain ⟨hd, z, hs, xs, pr, o', es, ep, ho, hx, hdt, he, _⟩ := I.hok d _ h
  rw [hd] at ho
  cases ho
  refine ⟨hs, hd, hx, es, ep, hdt, ?_, fun i k v e => ?_⟩
  · have l1 : es.size = xs.length := size_of_entries he
    have l2 : kvs.length = xs.length := Paired.length pr
    omega
  · obtain ⟨b, hb, e1, e2, e3⟩ := paired_get pr e
    have q := entry_at he i
    rw [hb] at q
    exact ⟨_, b.2.1, q, rfl, e2, e3⟩
end
def Itit (d : Addr) (o : Obj) (kvs : List (List Key × V)) : It :=
  ⟨fun i H => H d = some (.frz o (.dT kvs)) ∧ i < kvs.length, fun i H x H' => ∃ T k v q, kvs[i]? = some (k, v) ∧ x = .ref T ∧ H T = none ∧ H q = some (.tup (k.map kV)) ∧ H' = upd H T (.tup [.ref q, v]), fun i H => H d = some (.frz o (.dT kvs)) ∧ kvs.length ≤ i⟩
section
variable {P : Program} {w : World} {K : PySem.W.Frag} {d : Addr} {o : Obj} {es : Array DictEntry} {ep : Nat}
theorem turn_itemsT {kvs : List (List Key × V)} {elts : List Expr} {kk : Nat} {tpos : Pos} (it : Addr) (hod : o.data = .dict es ep) :
    Turn P w K (.Tuple elts kk tpos) (Itit d o kvs) [it] it (fun i h => ∃ ok ov, IsItemIter h it d i kvs.length ep ok ov) where
  mem := by simp
  obj := fun i h st b hb => by
    have e : b = it := by simpa using hb
    subst e
    obtain ⟨ok, ov, e⟩ := st
    exact ⟨_, e, fun v z => nomatch z⟩
  keep := fun i h h' st k => let ⟨ok, ov, e⟩ := st; ⟨ok, ov, k it (by simp) _ e⟩
  item := by
    intro X hP hw hK hc i pins s σ H E I hf st hg
    subst hP hw hK
    obtain ⟨hd, hi⟩ := hg
    obtain ⟨hs, hgd, hx, es', ep', hdt, hsz, ent⟩ := frzTV I hd
    obtain ⟨rfl, rfl⟩ := dict_ep hod hdt
    obtain ⟨⟨k, v⟩, hkv⟩ : ∃ p, kvs[i]? = some p := ⟨kvs[i], List.getElem?_eq_getElem hi⟩
    obtain ⟨en, q, hen, hkey, hq, hv⟩ := ent i k v hkv
    obtain ⟨ok, ov, he⟩ := st
    rw [← hsz] at he
    have hi2 : i < es'.size := by omega
    have een : es'[i] = en := by rw [Array.getElem?_eq_getElem hi2] at hen; exact Option.some.inj hen
    have hlt : it < s.heap.objs.size := Heap.lt_size he
    refine DT.nextI he ⟨o, hgd, hx, hdt⟩ hi2 fun h' ho hT hz hk => ?_
    rw [een, hkey] at ho hT
    refine ⟨_, rfl, wpAny_letOwnedTupleGo_items (s := { s with heap := h' }) ho fun h'' he' sb => ?_⟩
    have hT2 : h''.get? s.heap.objs.size = some { cls := .type "tuple", data := .seq #[.ref q, en.val] } := (sb.2 _ (Nat.ne_of_gt hlt)).trans hT
    have new : ObjOk X.prog X.w (upd H s.heap.objs.size (.tup [.ref q, v])) h'' s.heap.objs.size (.tup [.ref q, v]) :=
      ⟨by show 2 ≤ sizeLine; decide, [.ref q, en.val], .cons rfl (.cons hv .nil), ⟨_, hT2, rfl, _, rfl⟩⟩
    have I1 : Inv X pins σ (upd H s.heap.objs.size (.tup [.ref q, v])) { s with heap := h'' } :=
      I.turnedNew (t' := s.toks) (ch := [it]) (fun b ob hb e => (sb.2 b (by simpa using hb)).trans (hk b ob (by simpa using hb) e)) hf (Nat.le_refl _) new
    refine ⟨.ref s.heap.objs.size, _, I1, rfl, ⟨_, k, v, q, hkv, rfl, I.hok.fresh (Nat.le_refl _), hq, rfl⟩, ⟨.ref q, en.val, ?_⟩, fun b hb => ?_⟩
    · rw [← hsz]; exact he'
    · have e : b = it := by simpa using hb
      rw [e, upd_ne (Nat.ne_of_lt hlt)]
      exact (hf it (by simp)).1
  done := by
    intro X hP hw hK hc i pins s σ H E I hf st hg
    subst hP hw hK
    obtain ⟨hd, hi⟩ := hg
    obtain ⟨f0, f1, f2, f3, f4, f5⟩ := hf it (by simp)
    obtain ⟨hs, hgd, hx, es', ep', hdt, hsz, ent⟩ := frzTV I hd
    obtain ⟨rfl, rfl⟩ := dict_ep hod hdt
    obtain ⟨ok, ov, he⟩ := st
    rw [← hsz] at he
    exact DT.endI (I.ok.hd hc) he ⟨o, hgd, hx, hdt⟩ (by omega) fun h' eb => ⟨rfl, I.turned (t' := s.toks) (fun b ob hb e => eb b ob hb e) f0 f1 f3 f4 f5⟩
  self := fun A i s Q E st h => let ⟨_, _, e⟩ := st; PySem.W.kcp_self e h
theorem walk_itemsT {kvs : List (List Key × V)} : Walk (Itit d o kvs) kvs.length (fun H => H d = some (.frz o (.dT kvs)))
    (fun i H x H' => ∃ T k v q, kvs[i]? = some (k, v) ∧ x = .ref T ∧ H T = none ∧ H q = some (.tup (k.map kV)) ∧ H' = upd H T (.tup [.ref q, v])) :=
  ⟨fun _ _ hi q => ⟨q, hi⟩, fun _ q => ⟨q, Nat.le_refl _⟩, fun _ _ _ _ _ _ y => y⟩
end
def iItemsT (td : TE) : TI := fun σ H R => td σ H fun x H1 => ∃ d kvs, x = .ref d ∧ H1 d = some (.dT kvs) ∧ ∀ od, R (Itit d od kvs) (upd H1 d (.frz od (.dT kvs)))
section
variable {X : Cx} {e : Expr} {td : TE} {apos cpos : Pos}
theorem pi_itemsT {elts : List Expr} {kk : Nat} {tpos : Pos} (he : PE X e td) (hbase : attributeBase e "items" X.env (eval e X.env) = eval e X.env := by rfl) (hline : (apos.endLine == cpos.line) = true := by rfl) :
    PI X (.Tuple elts kk tpos) (.Call (.Attribute e "items" apos) [] [] cpos) (iItemsT td) := by
  refine ⟨fun pins s σ H R I h => ?_⟩
  refine wpAny_Call_method (T := "dict") (id := "dict.items") hbase rfl hline F.plainAttrs_dict F.slot_dict_items F.type_dict_items (thn (he.run pins s σ H _ I h) fun u s1 ⟨x, H1, I1, rx, d, kvs, ex, hd, q⟩ => ?_)
  subst ex
  obtain rfl : u = Value.ref d := rx
  obtain ⟨od, I1'⟩ := I1.lock hd trivial
  have q := q od
  obtain ⟨hs, hgd, hx, es, ep, hdt, hsz, ent⟩ := frzTV I1' upd_same
  have hm : DT.Raw s1.heap d es ep := ⟨od, hgd, hx, hdt⟩
  refine ⟨hm.typeIs, (fun b z => by cases z; exact ⟨od, hgd, hx.2.1⟩), ?_⟩
  have I2 : Inv X pins σ (upd H1 d (.frz od (.dT kvs))) { s1 with heap := s1.heap.push { cls := .type "dict_items", data := .fields #[.ref d] } } := I1'.kept (t' := s1.toks) fun b ob q => Heap.get?_push_of_some _ q
  have fin : wpAny (model X.prog X.w) X.A (pyIter (.ref s1.heap.objs.size)) (PIE X pins σ (.Tuple elts kk tpos) R) X.xe { s1 with heap := s1.heap.push { cls := .type "dict_items", data := .fields #[.ref d] } } := by
    refine DT.iterI (es := es) (ep := ep) ⟨_, Heap.get?_push_size _ rfl, rfl, rfl⟩ (hm.push _) (pi_one (tk := s1.toks) I2 _ (turn_itemsT _ hdt) ⟨.none, .none, ?_⟩ q)
    rw [← hsz]
    exact Heap.get?_push_size _ rfl
  show wpAny _ _ (callWith cpos (.builtin "dict.items") [.ref d] [] []) _ X.xe s1
  exact method_meetsIn F.slot_dict_items F.entry_dict_items rfl (PySem.evalArgs_none ⟨rfl, hm.typeIs, F.args_dict_items_1 _, _, DT.meetsItems (es := es) (ep := ep) hs, ⟨hm, fin⟩⟩)
end
/-! ### sorted(d), d a dict of pairs of small numbers -/
def addrOf : Value → Addr
  | .ref a => a
  | _ => 0
theorem refs_of : ∀ {us : List Value}, (∀ u ∈ us, ∃ a, u = Value.ref a) → us = (us.map addrOf).map Value.ref
  | [], _ => rfl
  | u :: r, h => by
    obtain ⟨a, rfl⟩ := h u (List.mem_cons_self ..)
    rw [List.map_cons, List.map_cons, ← refs_of fun x hx => h x (List.mem_cons_of_mem _ hx)]
    rfl
section
variable {X : Cx}
theorem cr_sortedDT (hc : X.calm = true) : CallR X (.builtin "sorted") (fun xs H Q => ∃ (d : Addr) (kvs : List (List Key × V)), xs = [.ref d] ∧ Rd H d (.dT kvs) ∧ kvs.length < 64 ∧ SmallKeys (kvs.map (·.1)) ∧
    ∀ (bs : List Addr) (p : Addr), bs.length = kvs.length → (∀ b ∈ bs, ∃ k ∈ kvs.map (·.1), H b = some (.tup (k.map kV))) → (∀ k ∈ kvs.map (·.1), ∃ b ∈ bs, H b = some (.tup (k.map kV))) → H p = none → Q (.ref p) (upd H p (.lst (bs.map V.ref)))) := by
  intro pins s σ H xs us Q I r q
  obtain ⟨d, kvs, rfl, hd, h64, hsm, q⟩ := q
  obtain ⟨u, rfl, rx⟩ := r.one
  cases rx
  obtain ⟨z, hs, ks, pr, o, es, ep, ho, hx, hdt, he, hn⟩ := (show ObjOk X.prog X.w H s.heap d (.dT kvs) from hd.ok I.hok)
  have l1 : es.size = ks.length := size_of_entries he
  have l2 : kvs.length = ks.length := Paired.length pr
  refine Calls.call_function_entry PyProof.Rows.kind_sorted PyProof.Rows.plain_sorted PyProof.Rows.entry_sorted (PyProof.Rows.args_sorted1 _) ?_
  unfold Builtin.«sorted»
  refine wpAny_bind (m := checkCount "sorted" 1 1 _) (wpAny_pure ?_)
  refine wpAny_bind (PySem.W.kdu_collect (A := X.A.in1) (kdl_raw hs hx hdt) (I.ok.hd hc) ho (by omega) fun h' tk acc kp it => ?_)
  have ea : acc.toList = (ks.map fun x => x.2.1).map Value.ref := by
    have hl : acc.toList.length = ks.length := by rw [Array.length_toList, it.1]; exact l1
    rw [List.map_map]
    apply List.ext_getElem?
    intro j
    rw [List.getElem?_map]
    cases hj : acc.toList[j]? with
    | none =>
      have h1 := List.getElem?_eq_none_iff.mp hj
      rw [List.getElem?_eq_none (by omega)]
      all_goals rfl
    | some v =>
      obtain ⟨en, hen, hv⟩ := it.2 j v (by rw [← Array.getElem?_toList]; exact hj)
      have qe := entry_at he j
      rw [hen] at qe
      cases hb : ks[j]? with
      | none =>
        rw [hb] at qe
        exact nomatch (show some en = none from qe)
      | some b =>
        rw [hb] at qe
        have e2 : en = entryOfKey (tupleKind (mixKind X.prog X.w)) b := Option.some.inj qe
        rw [hv, e2]
        all_goals rfl
  have hal : acc.toList.length = kvs.length := by rw [ea, List.length_map, List.length_map]; omega
  have I1 : Inv X pins σ H { s with heap := h', toks := tk } := I.kept kp
  -- each is a pair of small numbers
  have hmem : ∀ a, a ∈ ks.map (fun x => x.2.1) ↔ ∃ k ∈ kvs.map (·.1), a ∈ ks.map (fun x => x.2.1) ∧ H a = some (.tup (k.map kV)) := by
    have key : ∀ {kvs : List (List Key × V)} {ks : List (List Key × Addr × Value)}, KT H kvs ks → ∀ a ∈ ks.map (fun x => x.2.1), ∃ k ∈ kvs.map (·.1), H a = some (.tup (k.map kV)) := by
      intro kvs ks pr
      induction pr with
      | nil => exact fun a h => nomatch h
      | cons h _ ih =>
        intro a ha
        rw [List.map_cons] at ha
        rcases List.mem_cons.mp ha with rfl | ha
        · exact ⟨_, List.mem_cons_self .., h.2.1⟩
        · obtain ⟨k, h1, h2⟩ := ih a ha
          exact ⟨k, List.mem_cons_of_mem _ h1, h2⟩
    exact fun a => ⟨fun h => let ⟨k, h1, h2⟩ := key pr a h; ⟨k, h1, h, h2⟩, fun ⟨_, _, h, _⟩ => h⟩
  have hback : ∀ k ∈ kvs.map (·.1), ∃ a ∈ ks.map (fun x => x.2.1), H a = some (.tup (k.map kV)) := by
    have key : ∀ {kvs : List (List Key × V)} {ks : List (List Key × Addr × Value)}, KT H kvs ks → ∀ k ∈ kvs.map (·.1), ∃ a ∈ ks.map (fun x => x.2.1), H a = some (.tup (k.map kV)) := by
      intro kvs ks pr
      induction pr with
      | nil => exact fun a h => nomatch h
      | cons h _ ih =>
        intro k hk
        rw [List.map_cons] at hk
        rcases List.mem_cons.mp hk with rfl | hk
        · exact ⟨_, List.mem_cons_self .., h.2.1⟩
        · obtain ⟨a, h1, h2⟩ := ih k hk
          exact ⟨a, List.mem_cons_of_mem _ h1, h2⟩
    exact key pr
  have hT : TS.TupsOk h' 2 16 acc.toList := fun v hv => by
    rw [ea] at hv
    obtain ⟨a, ha, rfl⟩ := List.mem_map.mp hv
    obtain ⟨k, hk, _, hak⟩ := (hmem a).mp ha
    obtain ⟨p, s', hp, hs', rfl⟩ := hsm k hk
    obtain ⟨_, its, r2, o2, g1, g2, n2, g3⟩ := (show ObjOk X.prog X.w H h' a _ from I1.hok a _ hak)
    obtain ⟨u1, u2, rfl, ri, rj⟩ := vals2 r2
    obtain ⟨t1, rfl⟩ := ri
    obtain ⟨t2, rfl⟩ := rj
    refine ⟨[(p : Int), (s' : Int)], ⟨a, _, rfl, ⟨o2, g1, g2, n2, g3⟩, ?_⟩, rfl, fun m hm => ?_⟩
    · exact .cons _ _ (.cons _ _ .nil)
    · simp only [List.mem_cons, List.not_mem_nil, or_false] at hm
      rcases hm with rfl | rfl <;> omega
  refine wpAny_bind (wpAny_newList ?_ (by rw [hal, sizeLine_eq]; omega))
  have hoL : (h'.push (seqObj "list" acc.toList.toArray 0)).get? h'.objs.size = some (seqObj "list" acc.toList.toArray 0) := Heap.get?_push_size _ rfl
  show wpAny _ _ _ _ _ { s with heap := h'.push (seqObj "list" acc.toList.toArray 0), toks := tk }
  refine wpAny_bind (wpAny_holding (wpAny_call_entry PyProof.Rows.slot_list_sort ⟨_, hoL, rfl⟩ PyProof.Rows.entry_list_sort
    (TS.sort_tups (s := { s with heap := h'.push (seqObj "list" acc.toList.toArray 0), toks := tk }) hoL (by rw [hal]; exact h64) (d := 2) (B := 16) (by decide) (hT.keeps fun b o e _ => Heap.get?_push_of_some _ e) (fun v => TS.code 16 (TS.intsOf h' v)) (fun v hv ns t => ?_) fun out g2 g3 => ⟨_, rfl, ?_⟩) (PyProof.Rows.args_list_sort _)))
  · obtain ⟨ns0, t0, _⟩ := hT v hv
    have e : ns = ns0 := t.ints.symm.trans (t0.keeps fun b o e _ => Heap.get?_push_of_some _ e).ints
    rw [e]
    show TS.code 16 (TS.intsOf h' v) = TS.code 16 ns0
    rw [t0.ints]
  obtain ⟨e', he'⟩ := PyProof.Rows.sortedHeap_at (vs := acc.toList) (out := out) hoL
  have hrefs : ∀ u ∈ out.toList, ∃ a, u = Value.ref a := fun u hu => by
    have := g2.mem_iff.mp hu
    rw [ea] at this
    obtain ⟨a, _, e⟩ := List.mem_map.mp this
    exact ⟨a, e.symm⟩
  have eo := refs_of hrefs
  have hbm : ∀ a, a ∈ out.toList.map addrOf ↔ a ∈ ks.map (fun x => x.2.1) := fun a => by
    have h1 : a ∈ out.toList.map addrOf ↔ Value.ref a ∈ out.toList := by
      rw [eo, List.map_map]
      constructor
      · intro h
        obtain ⟨b, hb, e⟩ := List.mem_map.mp h
        have e : b = a := e
        subst e
        exact List.mem_map.mpr ⟨_, hb, rfl⟩
      · intro h
        obtain ⟨b, hb, e⟩ := List.mem_map.mp h
        cases e
        exact List.mem_map.mpr ⟨_, hb, rfl⟩
    rw [h1, g2.mem_iff, ea]
    exact ⟨fun h => let ⟨b, hb, e⟩ := List.mem_map.mp h; by cases e; exact hb, fun h => List.mem_map.mpr ⟨_, h, rfl⟩⟩
  have hol : (out.toList.map addrOf).length = kvs.length := by rw [List.length_map, g2.length_eq, hal]
  have hlen : ((out.toList.map addrOf).map V.ref).length ≤ sizeLine := by
    rw [List.length_map, hol]
    exact Nat.le_trans (Nat.le_of_lt h64) (by decide)
  refine wpAny_pure ⟨_, rfl, .ref h'.objs.size, upd H h'.objs.size (.lst ((out.toList.map addrOf).map V.ref)), I1.laid (t' := tk) (fun b u e => ?_) (Nat.le_refl _)
    (show ObjOk X.prog X.w _ _ _ (.lst ((out.toList.map addrOf).map V.ref)) from ⟨hlen, out.toList, e', by have hv := vals_refs (out.toList.map addrOf); rw [← eo] at hv; exact hv, by rw [Array.toArray_toList]; exact he'⟩), rfl, q _ _ hol (fun b hb => ?_) (fun k hk => ?_) (I1.hok.fresh (Nat.le_refl _))⟩
  · have hb : b < h'.objs.size := Heap.lt_size e
    rw [PyProof.Rows.sortedHeap_old (Nat.ne_of_lt hb) (by rw [size_push']; exact Nat.lt_succ_of_lt hb)]
    exact Heap.get?_push_of_some _ e
  · obtain ⟨k, h1, _, h2⟩ := (hmem b).mp ((hbm b).mp hb)
    exact ⟨k, h1, h2⟩
  · obtain ⟨a, h1, h2⟩ := hback k hk
    exact ⟨a, (hbm a).mpr h1, h2⟩
end
/-! ### {k: v}, k a tuple -/
def tDispT1 (tk tv : TE) : TE := fun σ H Q => ∀ p, H p = none → tk σ (upd H p (.dT [])) fun x H1 => tv σ H1 fun y H2 => ∃ (k : List Key) (b : Addr), x = .ref b ∧ H2 b = some (.tup (k.map kV)) ∧ H2 p = some (.dT []) ∧ Q (.ref p) (upd H2 p (.dT [(k, y)]))
theorem pe_dispT1 {X : Cx} {pos : Pos} {k v : Expr} {tk tv : TE} (hu : X.A.units + 64 < cLine) (hk : PE X k tk) (hv : PE X v tv) : PE X (.Dict [some k] [v] pos) (tDispT1 tk tv) := by
  refine ⟨fun pins s σ H Q I q => ?_⟩
  have hn := I.hok.fresh (Nat.le_refl s.heap.objs.size)
  have I1 := I.laid (a := s.heap.objs.size) (o := .dT []) (h' := s.heap.push { cls := .type "dict", data := .dict #[] }) (t' := s.toks) (fun _ _ q => Heap.get?_push_of_some _ q) (Nat.le_refl _) (dt_empty s.heap I.big)
  have hpl := pairTrees_length [some k] [v] X.env pos rfl rfl
  have hu' : (tupleKind (mixKind X.prog X.w)).room X.A := by
    show X.A.units < cLine
    omega
  rw [arm_eval_Dict, zip_pairTrees [some k] [v] X.env pos rfl rfl, dictDisplay_pairs (pairTrees [some k] [v] X.env pos) (fun e => by rw [e] at hpl; cases hpl) (by rw [hpl]; show 1 < 17; decide)]
  refine wpAny_bind (wpAny_standAt (wpAny_bind (wpAny_subDictH (knd := tupleKind (mixKind X.prog X.w)) (Q := fun d s' => wpAny (model X.prog X.w) X.A (pure (Value.ref d)) _ X.xe s') hu' (by rw [hpl]; show 1 ≤ 15; decide) ?_)))
  refine pairTrees_cons_walk (thn (hk.run pins _ σ _ _ I1 (q _ hn)) fun u s1 ⟨x, H1, I2, rx, q1⟩ => thn (hv.run pins s1 σ H1 _ I2 q1) fun w2 s2 ⟨y, H2, I3, ry, kk, b, ex, hb, hp, q2⟩ => pairTrees_nil_walk ?_)
  subst ex
  obtain rfl : u = Value.ref b := rx
  obtain ⟨z, hd, xs0, r0, dd⟩ := dt_of I3.hok hp
  cases r0
  refine ⟨[(kk, b, w2)], ⟨rfl, rfl, key_of I3.hok hb, trivial⟩, dd, fun h' tk hd' hs => wpAny_pure ⟨.ref s.heap.objs.size, _, ?_, rfl, q2⟩⟩
  obtain ⟨o, es, ep, h1, h2, h3, h4, _, h5⟩ := hd'
  have hbp : b ≠ s.heap.objs.size := fun z => by rw [z, hp] at hb; cases hb
  exact d_write (t' := tk) I3 (by rw [hp]; trivial) hs ⟨o, h1⟩ (show ObjOk X.prog X.w _ _ _ (.dT [(kk, y)]) from ⟨by show 1 ≤ sizeLine; decide, hd, [(kk, b, w2)], .cons ⟨rfl, by rw [upd_ne hbp]; exact hb, ry⟩ .nil, o, es, ep, h1, h2, h3, h4, h5⟩)
end Fr

set_option maxHeartbeats 4000000
/-! text[::-1] -/
namespace Fr
open PySem PySem.Spec PyProof.Rows L2
theorem rev_ix (n : Nat) : Builtin.Str.strSliceIndices none none (-1) n = (List.range n).map fun k => n - 1 - k := by
  have e : Builtin.Str.strSliceIndices none none (-1) n = sliceRange ((n : Int) - 1) (-1) (-1) := by rfl
  rw [e, PySem.W.krv_sliceRange]
theorem rev_str (z : Str) : (Builtin.Str.strSliceIndices none none (-1) z.length).filterMap (z.cps[·]?) = z.cps.toList.reverse := by
  rw [rev_ix, PySem.W.krv_range, List.filterMap_reverse]
  have := PySem.W.krv_all z.cps
  exact congrArg List.reverse this
def tRevS (te : TE) : TE := fun σ H Q => te σ H fun x H1 => ∃ z, x = .str z ∧ z.length ≤ sizeLine ∧ Q (.str ⟨z.cps.toList.reverse.toArray⟩) H1
theorem pe_revS {X : Cx} {e : Expr} {te : TE} {k : Nat} {p1 p2 p3 pos : Pos} (he : PE X e te) : PE X (.Subscript e (.Slice none none (some (.UnaryOp .USub (.Constant (.int 1) k p1) p2)) p3) pos) (tRevS te) := by
  refine ⟨fun pins s σ H Q I h => ?_⟩
  refine Subscript_ (thn (he.run pins s σ H _ I h) fun v s1 ⟨x, H1, I1, r1, z, ex, hz, q⟩ => ?_)
  subst ex
  obtain ⟨t, rfl⟩ := r1
  have hst : PO X (some (.UnaryOp .USub (.Constant (.int 1) k p1) p2)) (tPart (tUn (rU fun i => .int (-i)) (tC (.int 1)))) := po_some (pe_un un_neg pe_int)
  refine wpAny_Slice (thn (po_none.run pins s1 σ H1 (fun o H2 => o = none ∧ H2 = H1) I1 ⟨rfl, rfl⟩) fun vl s2 ⟨l, H2, I2, pl, el, e2⟩ => ?_)
  subst el e2
  refine thn (po_none.run pins s2 σ H2 (fun o H3 => o = none ∧ H3 = H2) I2 ⟨rfl, rfl⟩) fun vu s3 ⟨u, H3, I3, pu, eu, e3⟩ => ?_
  subst eu e3
  refine thn (hst.run pins s3 σ H3 (fun o H4 => o = some (-1) ∧ H4 = H3) I3 ⟨1, rfl, -1, rfl, rfl, rfl⟩) fun vs s4 ⟨o, H4, I4, ps, eo, e4⟩ => ?_
  subst eo e4
  have I5 : Inv X pins σ H4 { s4 with heap := s4.heap.push { cls := .type "slice", data := .fields #[vl, vu, vs] } } := I4.kept (t' := s4.toks) fun b ob q => Heap.get?_push_of_some _ q
  obtain ⟨l, rfl, hl⟩ := IsPart.raw pl
  obtain ⟨u, rfl, hu⟩ := IsPart.raw pu
  obtain ⟨st, rfl, hs⟩ := IsPart.raw ps
  obtain rfl : l = none := by cases l with | none => rfl | some _ => cases hl
  obtain rfl : u = none := by cases u with | none => rfl | some _ => cases hu
  obtain ⟨tk, rfl⟩ : ∃ tk, st = some (-1, tk) := by
    cases st with
    | none => cases hs
    | some p => obtain ⟨i, tk⟩ := p; exact ⟨tk, by injection hs with hs; rw [show i = -1 from hs]⟩
  show wpAny (model X.prog X.w) X.A (subscriptTail e (.Slice none none (some (.UnaryOp .USub (.Constant (.int 1) k p1) p2)) p3) (.str z t) (.ref s4.heap.objs.size)) (EP X pins σ Q) X.xe { s4 with heap := s4.heap.push { cls := .type "slice", data := .fields #[partValue none, partValue none, partValue (some (-1, tk))] } }
  refine tail_any (ops := [.ref s4.heap.objs.size, .str z t]) (typeIs_str _ _ _) F.slot_str_getitem.lookup ?_ (by with_unfolding_all rfl)
  refine wpAny_getItem_str_slice (l := none) (u := none) (st := some (-1, tk)) ⟨_, Heap.get?_push_size _ rfl, rfl, rfl⟩ rfl ?_
  show Made.post (if ((-1 : Int) == 1 && (Builtin.Str.strSliceIndices none none (-1) z.length).length == z.length) = true then Made.val (.str z t)
    else Made.str ⟨((Builtin.Str.strSliceIndices none none (-1) z.length).filterMap (z.cps[·]?)).toArray⟩) (EP X pins σ Q) _
  rw [if_neg (by rw [show ((-1 : Int) == 1) = false from rfl, Bool.false_and]; exact Bool.false_ne_true), rev_str]
  exact ⟨by show z.cps.toList.reverse.toArray.size ≤ sizeLine; rw [List.size_toArray, List.length_reverse, Array.length_toList]; exact hz, .str _, H4, I5.tok _, ⟨_, rfl⟩, q⟩
end Fr

set_option maxHeartbeats 4000000
namespace Fr
open PySem PySem.Spec PyProof.Rows L2
section
variable {P : Program} {w : World} {K : PySem.W.Frag} {mg : Str → Option Value} {base : Heap}

/-- a key of the table -/
def bk (p s : Nat) : List Key := [Sum.inl (p : Int), Sum.inl (s : Int)]
theorem bk_inj {p s p' s' : Nat} (h : bk p s = bk p' s') : p = p' ∧ s = s' := by
  unfold bk at h
  injection h with h1 h2
  injection h2 with h2 _
  injection h1 with h1
  injection h2 with h2
  omega
/-- the table stands at b: keys to place L and state N -/
structure BestR (H : Hp) (b : Addr) (B : Bt) (L N : Nat) (kvs : List (List Key × V)) : Prop where
  at_ : H b = some (.dT kvs)
  nd : (kvs.map (·.1)).Nodup
  key : ∀ k ∈ kvs.map (·.1), ∃ p s, k = bk p s ∧ p ≤ L ∧ s ≤ N
  val : ∀ p s, match B p s with
    | none => valV kvs (bk p s) = none
    | some u => ∃ t, valV kvs (bk p s) = some (.ref t) ∧ H t = some (.tup [.int (u.1 : Nat), .int (u.2 : Nat)])
theorem BestR.mod {ms : List Addr} {H H' : Hp} {b : Addr} {B : Bt} {L N : Nat} {kvs : List (List Key × V)} (m : Mod ms H H') (h : BestR H b B L N kvs) (hb : b ∉ ms) : BestR H' b B L N kvs :=
  ⟨m.keep _ _ h.at_ hb, h.nd, h.key, fun p s => by
    have := h.val p s
    cases e : B p s with
    | none => rw [e] at this; exact this
    | some u => rw [e] at this; obtain ⟨t, h1, h2⟩ := this; exact ⟨t, h1, m.tup _ _ h2⟩⟩
theorem BestR.none {H : Hp} {b : Addr} {B : Bt} {L N : Nat} {kvs : List (List Key × V)} (h : BestR H b B L N kvs) {p s : Nat} (e : B p s = .none) : valV kvs (bk p s) = .none := by
  have := h.val p s
  rw [e] at this
  exact this
theorem BestR.some {H : Hp} {b : Addr} {B : Bt} {L N : Nat} {kvs : List (List Key × V)} (h : BestR H b B L N kvs) {p s : Nat} {u : Nat × Nat} (e : B p s = .some u) : ∃ t, valV kvs (bk p s) = .some (.ref t) ∧ H t = .some (.tup [.int (u.1 : Nat), .int (u.2 : Nat)]) := by
  have := h.val p s
  rw [e] at this
  exact this
theorem keysT_len {L N : Nat} {kvs : List (List Key × V)} (hn : (kvs.map (·.1)).Nodup) (hk : ∀ k ∈ kvs.map (·.1), ∃ p s, k = bk p s ∧ p ≤ L ∧ s ≤ N) : kvs.length ≤ (L + 1) * (N + 1) := by
  have key : ∀ l : List (List Key), l.Nodup → (∀ k ∈ l, ∃ p s, k = bk p s ∧ p ≤ L ∧ s ≤ N) → ∃ m : List Nat, m.Nodup ∧ (∀ n ∈ m, n < (L + 1) * (N + 1)) ∧ l.length = m.length ∧ ∀ n ∈ m, ∃ p s, bk p s ∈ l ∧ p ≤ L ∧ s ≤ N ∧ n = p * (N + 1) + s := by
    intro l
    induction l with
    | nil => intro _ _; exact ⟨[], List.nodup_nil, fun _ h => by simp at h, rfl, fun _ h => by simp at h⟩
    | cons a r ih =>
      intro nd hk
      rw [List.nodup_cons] at nd
      obtain ⟨m, h1, h2, h3, h4⟩ := ih nd.2 fun k hk' => hk k (List.mem_cons_of_mem _ hk')
      obtain ⟨p, s, rfl, hp, hs⟩ := hk a (List.mem_cons_self ..)
      have hlt : p * (N + 1) + s < (L + 1) * (N + 1) := by
        have e1 : p * (N + 1) ≤ L * (N + 1) := Nat.mul_le_mul_right _ hp
        have e2 : (L + 1) * (N + 1) = L * (N + 1) + (N + 1) := Nat.succ_mul _ _
        omega
      refine ⟨(p * (N + 1) + s) :: m, List.nodup_cons.mpr ⟨fun hm => nd.1 ?_, h1⟩, fun n hn => ?_, by simp [h3], fun n hn => ?_⟩
      · obtain ⟨p', s', g1, g2, g3, g4⟩ := h4 _ hm
        have e1 : p = p' := by
          have a1 : (p * (N + 1) + s) / (N + 1) = p := by rw [Nat.mul_comm, Nat.mul_add_div (by omega), Nat.div_eq_of_lt (by omega)]; omega
          have a2 : (p' * (N + 1) + s') / (N + 1) = p' := by rw [Nat.mul_comm, Nat.mul_add_div (by omega), Nat.div_eq_of_lt (by omega)]; omega
          rw [← a1, g4, a2]
        subst e1
        have e2 : s = s' := by omega
        subst e2
        exact g1
      · rcases List.mem_cons.mp hn with rfl | hn
        · exact hlt
        · exact h2 n hn
      · rcases List.mem_cons.mp hn with rfl | hn
        · exact ⟨p, s, List.mem_cons_self .., hp, hs, rfl⟩
        · obtain ⟨p', s', g1, g2⟩ := h4 n hn
          exact ⟨p', s', List.mem_cons_of_mem _ g1, g2⟩
  obtain ⟨m, h1, h2, h3, _⟩ := key _ hn hk
  have := nodup_le h1 h2
  rw [List.length_map] at h3
  omega
theorem BestR.len {H : Hp} {b : Addr} {B : Bt} {L N : Nat} {kvs : List (List Key × V)} (h : BestR H b B L N kvs) : kvs.length ≤ (L + 1) * (N + 1) := keysT_len h.nd h.key
theorem putT_keys (kvs : List (List Key × V)) (k : List Key) (v : V) (j : List Key) : j ∈ (putK kvs k v).map (·.1) → j ∈ kvs.map (·.1) ∨ j = k := by
  unfold putK
  split
  · intro hj
    obtain ⟨kv, h1, h2⟩ := List.mem_map.mp hj
    obtain ⟨kv', h3, h4⟩ := List.mem_map.mp h1
    refine .inl (List.mem_map.mpr ⟨kv', h3, ?_⟩)
    rw [← h2, ← h4]
    split <;> rfl
  · intro hj
    rw [List.map_append, List.mem_append] at hj
    simpa using hj
theorem nd_putT {kvs : List (List Key × V)} (k : List Key) (v : V) (h : (kvs.map (·.1)).Nodup) : ((putK kvs k v).map (·.1)).Nodup := by
  cases e : valV kvs k with
  | none => exact nd_putK v h e
  | some x =>
    have hh : (kvs.any fun kv => decide (kv.1 = k)) = true := by rw [valV_any, e]; rfl
    unfold putK
    rw [if_pos hh, List.map_map]
    have e2 : ((fun (p : List Key × V) => p.1) ∘ fun kv : List Key × V => if kv.1 = k then (kv.1, v) else kv) = fun kv => kv.1 := by
      funext kv; show (if kv.1 = k then (kv.1, v) else kv).1 = kv.1; split <;> rfl
    rw [e2]
    exact h
/-- an entry stored -/
theorem BestR.put {H : Hp} {b : Addr} {B B' : Bt} {L N : Nat} {kvs : List (List Key × V)} (h : BestR H b B L N kvs) {p s t : Nat} {u : Nat × Nat} (hp : p ≤ L) (hs : s ≤ N) (ht : H t = .some (.tup [.int (u.1 : Nat), .int (u.2 : Nat)]))
    (e : B' p s = .some u) (ho : ∀ p' s', ¬ (p' = p ∧ s' = s) → B' p' s' = B p' s') : BestR (upd H b (.dT (putK kvs (bk p s) (.ref t)))) b B' L N (putK kvs (bk p s) (.ref t)) := by
  have m : Mod [b] H (upd H b (.dT (putK kvs (bk p s) (.ref t)))) := Mod.refl.put h.at_ (fun _ z => nomatch z) (List.mem_singleton.mpr rfl)
  refine ⟨upd_same, nd_putT _ _ h.nd, fun k hk => ?_, fun p' s' => ?_⟩
  · rcases putT_keys _ _ _ _ hk with hk | rfl
    · exact h.key k hk
    · exact ⟨p, s, rfl, hp, hs⟩
  · rw [valV_put]
    by_cases q : p' = p ∧ s' = s
    · obtain ⟨rfl, rfl⟩ := q
      rw [e, if_pos rfl]
      exact ⟨t, rfl, m.tup _ _ ht⟩
    · rw [ho p' s' q, if_neg (fun z => q (bk_inj z))]
      cases hB : B p' s' with
      | none => exact h.none hB
      | some v => obtain ⟨t', h1, h2⟩ := h.some hB; exact ⟨t', h1, m.tup _ _ h2⟩
/-- the addresses of a mender and its sets -/
structure MA where
  (m dm s dx lo fo e st b : Addr) (rw_ : V) (pos : Int) (ds : List Addr) (ke : List (Key × V))
def setsO (K : PySem.W.Frag) (a : MA) : HO := .ins (He.ga K "Sets") a.dx [("rows", a.rw_), ("lots", .ref a.lo), ("follows", .ref a.fo), ("position", .int a.pos), ("enders", .ref a.e)]
def mendF (a : MA) (z : Str) : List (Str × V) := [("sets", .ref a.s), ("begun_text", .str z), ("states", .ref a.st), ("best", .ref a.b)]
/-- what of a mender never changes and is no dict -/
structure MenC (K : PySem.W.Frag) (H : Hp) (a : MA) (p : Pat) (z : Str) : Prop where
  m : H a.m = some (.ins (He.ga K "Mender") a.dm (mendF a z))
  s : H a.s = some (setsO K a)
  lo : H a.lo = some (.lst (p.lots.map lotV))
  fo : H a.fo = some (.lst (a.ds.map V.ref))
  st : H a.st = some (.lst (intsV (List.range (p.sg + 1))))
def isDict : HO → Prop
  | .dK _ => True
  | .dT _ => True
  | .frz _ (.dK _) => True
  | _ => False
theorem MenC.mod {ms : List Addr} {H H' : Hp} {a : MA} {p : Pat} {z : Str} (m : Mod ms H H') (h : MenC K H a p z) (hd : ∀ x ∈ ms, ∃ o, H x = some o ∧ isDict o) : MenC K H' a p z := by
  have key : ∀ {x : Addr} {o : HO}, H x = some o → ¬ isDict o → H' x = some o := fun {x o} hx hn => m.keep _ _ hx fun z => by
    obtain ⟨o', h1, h2⟩ := hd x z
    rw [hx] at h1
    cases h1
    exact hn h2
  exact ⟨key h.m id, key h.s id, key h.lo id, key h.fo id, key h.st id⟩
def spLessened (C : Addr) : Sp := fun vs H Q _ => ∃ (m dm b t : Addr) (fs : List (Str × V)) (pl st c q L N : Nat) (B : Bt) (kvs : List (List Key × V)), vs = [.ref m, .int (pl : Nat), .int (st : Nat), .ref t] ∧ H m = some (.ins C dm fs) ∧ fs.lookup ("best" : Str) = some (.ref b) ∧
  H t = some (.tup [.int (c : Nat), .int (q : Nat)]) ∧ BestR H b B L N kvs ∧ pl ≤ L ∧ st ≤ N ∧ L ≤ 300 ∧ N ≤ 60 ∧ ∀ H' kvs', Mod [b] H H' → BestR H' b (lessB B pl st (c, q)) L N kvs' → Q (.bl (isLess B pl st (c, q))) H'
theorem le_lex (c q c' q' : Nat) : (Ob.lexAt (fun j => decide (([(c : Int), (q : Int)] : List Int).getD j 0 = ([(c' : Int), (q' : Int)] : List Int).getD j 0)) (fun j => decide (([(c : Int), (q : Int)] : List Int).getD j 0 ≤ ([(c' : Int), (q' : Int)] : List Int).getD j 0))
    (decide (([(c : Int), (q : Int)] : List Int).length ≤ ([(c' : Int), (q' : Int)] : List Int).length)) 0 (min ([(c : Int), (q : Int)] : List Int).length ([(c' : Int), (q' : Int)] : List Int).length)) = decide (le2 (c, q) (c', q')) := by
  show (if decide ((c : Int) = (c' : Int)) = true then (if decide ((q : Int) = (q' : Int)) = true then decide (2 ≤ 2) else decide ((q : Int) ≤ (q' : Int))) else decide ((c : Int) ≤ (c' : Int))) = _
  have e : le2 (c, q) (c', q') ↔ (c < c' ∨ (c = c' ∧ q ≤ q')) := Iff.rfl
  rw [decide_eq_decide.mpr e]
  by_cases h1 : (c : Int) = (c' : Int)
  · rw [if_pos (decide_eq_true h1)]
    by_cases h2 : (q : Int) = (q' : Int)
    · rw [if_pos (decide_eq_true h2)]
      exact (decide_eq_true (show c < c' ∨ (c = c' ∧ q ≤ q') by omega)).symm
    · rw [if_neg (by simpa using h2)]
      exact decide_eq_decide.mpr (by omega)
  · rw [if_neg (by simpa using h1)]
    exact decide_eq_decide.mpr (by omega)
theorem iteFe {b : Bool} {A B : Prop} (h : b = false) (q : B) : if b = true then A else B := by rw [if_neg (by rw [h]; simp)]; exact q
theorem iteTe {b : Bool} {A B : Prop} (h : b = true) (q : A) : if b = true then A else B := by rw [if_pos h]; exact q
theorem nnN : (!decide (V.non = V.non)) = false := by simp
theorem nnR {a : Addr} : (!decide (V.ref a = V.non)) = true := by simp
theorem has_Mender_lessened (T : Tx w K mg) : HasM P w K mg base 1 "Mender" "lessened" ["self", "place", "state", "told"] (spLessened (He.ga K "Mender")) := by
  refine (T.has (d := d_Mender_lessened) 16 rfl rfl rfl rfl b_Mender_lessened sc_Mender_lessened (fun vs H Q E h => ?_) fun cdv A outer s H vs Q E hr h => ?_)
  · obtain ⟨_, _, _, _, _, _, _, _, _, _, _, _, _, rfl, _⟩ := h; rfl
  obtain ⟨m, dm, b, t, fs, pl, st, c, q, L, N, B, kvs, rfl, hm, hbs, ht, br, hpl, hst, hL, hN, k⟩ := h
  refine ⟨_, (pss_cons (ps_set (i := 4) sc_Mender_lessened.nd rfl (Or.inl rfl) (pe_dget2 (hu_of hr) (pe_fldC (c_Mender T) (n_Mender_best T) (pv 0)) (pe_tup (pa_cons (pv 1) (pa_cons (pv 2) pa_nil))) pe_non ⟨rfl, rfl, rfl, rfl⟩))
      (pss_cons (ps_if (PW.pt (pw_and (pt_cmpR op_notN (pv 4) pe_non (nomark _)) (pw_and1 (pt_cmpR (op_leT (Nat.lt_of_succ_lt (hu_of hr))) (pv 4) (pv 3) (nomark _))))) (pss_one (ps_ret pe_bl)) pss_nil)
      (pss_cons (ps_dput (hu_of hr) (pe_fldC (c_Mender T) (n_Mender_best T) (pv 0)) (pe_tup (pa_cons (pv 1) (pa_cons (pv 2) pa_nil))) (pv 3) rfl)
      (pss_one (ps_ret pe_bl))))), ?_⟩
  have hlen := br.len
  have hlen2 : (L + 1) * (N + 1) ≤ 301 * 61 := Nat.mul_le_mul (by omega) (by omega)
  -- there = self.best.get((place, state), None)
  refine ⟨_, rfl, m, dm, _, _, rfl, hm, hbs, b, rfl, .inr ⟨kvs, .inl br.at_⟩, _, rfl, _, rfl, ln2, fun t1 ht1 => ⟨_, DGet.t (k := bk pl st) ((Mod.refl (ms := []).new ht1).keep _ _ br.at_ (by simp)) upd_same, ?_⟩⟩
  have m1 : Mod [] H _ := Mod.refl (ms := []).new (o := .tup [.int (pl : Nat), .int (st : Nat)]) ht1
  have br1 := br.mod m1 (by simp)
  have ht1' := m1.tup _ _ ht
  have hm1 := m1.keep _ _ hm (by simp)
  have fin : ∀ t2, t2 ≠ b → isLess B pl st (c, q) = true → upd H t1 (.tup [.int (pl : Nat), .int (st : Nat)]) t2 = none → Q (.bl true) (upd (upd (upd H t1 (.tup [.int (pl : Nat), .int (st : Nat)])) t2 (.tup [.int (pl : Nat), .int (st : Nat)])) b (.dT (putK kvs (bk pl st) (.ref t)))) := fun t2 _ hl h2 => by
    have m2 := m1.new (o := .tup [.int (pl : Nat), .int (st : Nat)]) h2
    have br2 := br.mod m2 (by simp)
    have e := k _ _ (m2.nil.put br2.at_ (fun _ z => nomatch z) (List.mem_singleton.mpr rfl)) (br2.put hpl hst (m2.tup _ _ ht) (lessB_yes hl) fun p' s' n => lessB_other n)
    rw [hl] at e
    exact e
  cases hB : B pl st with
  | none =>
    have hl : isLess B pl st (c, q) = true := by unfold isLess; rw [hB]
    rw [br1.none hB]
    refine ⟨_, rfl, rfl, _, rfl, iteFe nnN (iteF ?_)⟩
    refine ⟨_, rfl, _, rfl, m, dm, _, _, rfl, hm1, hbs, _, rfl, _, rfl, ln2, fun t2 ht2 => ⟨b, _, rfl, DPut.t (k := bk pl st) ((m1.new ht2).keep _ _ br.at_ (by simp)) upd_same (lt_line (by omega)), fin t2 (fun z => ?_) hl ht2⟩⟩
    rw [z, m1.keep _ _ br.at_ (by simp)] at ht2
    cases ht2
  | some u =>
    obtain ⟨tu, h1, h2⟩ := br1.some hB
    rw [h1]
    refine ⟨_, rfl, rfl, _, rfl, iteTe nnR ⟨_, rfl, _, rfl, tu, t, [u.1, u.2], [c, q], rfl, rfl, SqT.of h2, SqT.of ht1', _, rfl, ?_⟩⟩
    rw [le_lex]
    by_cases hle : le2 u (c, q)
    · have hl : isLess B pl st (c, q) = false := by unfold isLess; rw [hB]; simpa using hle
      refine iteY hle ?_
      have e := k _ _ m1.nil (by rw [lessB_no hl]; exact br1)
      rw [hl] at e
      exact e
    · have hl : isLess B pl st (c, q) = true := by unfold isLess; rw [hB]; simpa using hle
      refine iteN hle ?_
      refine ⟨_, rfl, _, rfl, m, dm, _, _, rfl, hm1, hbs, _, rfl, _, rfl, ln2, fun t2 ht2 => ⟨b, _, rfl, DPut.t (k := bk pl st) ((m1.new ht2).keep _ _ br.at_ (by simp)) upd_same (lt_line (by omega)), fin t2 (fun z => ?_) hl ht2⟩⟩
      rw [z, m1.keep _ _ br.at_ (by simp)] at ht2
      cases ht2
end
end Fr

set_option maxHeartbeats 4000000
namespace Fr
open PySem PySem.Spec PyProof.Rows L2
section
variable {P : Program} {w : World} {K : PySem.W.Frag} {mg : Str → Option Value} {base : Heap}
theorem states_at {n s : Nat} (h : s ≤ n) : (intsV (List.range (n + 1)))[s]? = some (.int (s : Nat)) := by
  unfold intsV
  rw [List.getElem?_map, List.getElem?_range (by omega)]
  rfl
theorem states_len {n : Nat} : (intsV (List.range (n + 1))).length = n + 1 := by unfold intsV; rw [List.length_map, List.length_range]
theorem states_of {n i : Nat} {x : V} (h : (intsV (List.range (n + 1)))[i]? = some x) : x = .int (i : Nat) ∧ i ≤ n := by
  have hi := (List.getElem?_eq_some_iff.mp h).1
  rw [states_len] at hi
  rw [states_at (by omega)] at h
  exact ⟨(by injection h with h; exact h.symm), by omega⟩
def spSpread (K : PySem.W.Frag) : Sp := fun vs H Q _ => ∃ (a : MA) (p : Pat) (z : Str) (F : Nat → Nat → Prop) (pl L : Nat) (B : Bt) (kvs : List (List Key × V)), vs = [.ref a.m, .int (pl : Nat)] ∧ MenC K H a p z ∧ FolAt H a.ds F p.sg ∧
  BestR H a.b B L p.sg kvs ∧ pl ≤ L ∧ L ≤ 300 ∧ p.sg ≤ 60 ∧ ∀ H' kvs' B', Mod [a.b] H H' → BestR H' a.b B' L p.sg kvs' → Spr F pl B B' → Closed F p.sg pl B' → Q .non H'
theorem has_Mender_spread (T : Tx w K mg) : HasM P w K mg base 2 "Mender" "spread" ["self", "place"] (spSpread K) := by
  have H_Mender_lessened := has_Mender_lessened (P := P) (base := base) T
  refine (T.has (d := d_Mender_spread) 15 rfl rfl rfl rfl b_Mender_spread sc_Mender_spread (fun vs H Q E h => ?_) fun cdv A outer s H vs Q E hr h => ?_)
  · obtain ⟨_, _, _, _, _, _, _, _, rfl, _⟩ := h; rfl
  obtain ⟨a, p, z, F, pl, L, B, kvs, rfl, mc, fa, br, hpl, hL, hN, q⟩ := h
  refine ⟨_, (pss_cons (ps_set (i := 2) sc_Mender_spread.nd rfl (Or.inl rfl) pe_bl)
      (pss_one (ps_while PassesOwn.never (pt_val (pv 2)) (pss_cons (ps_set (i := 2) sc_Mender_spread.nd rfl (Or.inl rfl) pe_bl)
      (pss_one (ps_for PassesOwn.never rfl (pi_list (pe_fldC (c_Mender T) (n_Mender_states T) (pv 0))) (pg_name (i := 3) sc_Mender_spread.nd rfl (Or.inl rfl)) (pss_one (ps_lock (ps_for PassesOwn.never rfl (pi_keys (pe_ix ix_list (pe_fldC (c_Sets T) (n_Sets_follows T) (pe_fldC (c_Mender T) (n_Mender_sets T) (pv 0))) (pv 3) (fun _ _ => rfl))) (pg_name (i := 4) sc_Mender_spread.nd rfl (Or.inl rfl)) (pss_cons (ps_set (i := 5) sc_Mender_spread.nd rfl (Or.inl rfl) (pe_dget2 (hu_of hr) (pe_fldC (c_Mender T) (n_Mender_best T) (pv 0)) (pe_tup (pa_cons (pv 1) (pa_cons (pv 4) pa_nil))) pe_non ⟨rfl, rfl, rfl, rfl⟩))
      (pss_one (ps_if (PW.pt (pw_and (pt_cmpR op_notN (pv 5) pe_non (nomark _)) (pw_and1 (pt_val (pe_methH (c_Mender T) (m_Mender_lessened T) H_Mender_lessened (hr.mono (by decide)) (pv 0) (pa_cons (pv 1) (pa_cons (pv 3) (pa_cons (pe_tup (pa_cons (pe_op op_add (pe_ix ix_tup (pv 5) pe_int (fun _ _ => rfl)) pe_int) (pa_cons (pe_op op_add (pe_ix ix_tup (pv 5) pe_int (fun _ _ => rfl)) pe_int) pa_nil))) pa_nil)))))))) (pss_one (ps_set (i := 2) sc_Mender_spread.nd rfl (Or.inl rfl) pe_bl)) pss_nil)))))))))))), ?_⟩
  obtain ⟨M, C, bnd⟩ := Bnd.ex pl p.sg B
  have hb0 := br.at_
  refine ⟨fun m σ H1 => ∃ (B1 : Bt) (kvs1 : List (List Key × V)) (more : Bool) (y3 y4 y5 : Option V), σ = [some (.ref a.m), some (.int (pl : Nat)), some (.bl more), y3, y4, y5] ∧ Mod [a.b] H H1 ∧ BestR H1 a.b B1 L p.sg kvs1 ∧ Spr F pl B B1 ∧ Bnd pl p.sg M C B1 ∧
      m = 2 * Phi pl p.sg M C B1 + (if more = true then 1 else 0) ∧ (more = false → Closed F p.sg pl B1), ⟨_, B, kvs, true, none, none, none, rfl, Mod.refl, br, Spr.refl, bnd, rfl, fun z => by cases z⟩, ?_⟩
  rintro m σ H1 ⟨B1, kvs1, more, y3, y4, y5, rfl, m1, br1, spr1, bnd1, rfl, hcl⟩
  cases more with
  | false => exact ⟨_, rfl, false, rfl, iteF (q _ _ _ m1 br1 spr1 (hcl rfl))⟩
  | true =>
    refine ⟨_, rfl, true, rfl, iteT ?_⟩
    refine ⟨fun σ' H' => ∃ m', m' < _ ∧ _, fun _ _ h => h, ?_⟩
    have mdb : ∀ {ms : List Addr} {x : Addr}, x ∈ [a.b] → ∃ o, H x = some o ∧ isDict o := fun hx => by
      rw [List.mem_singleton.mp hx]; exact ⟨_, hb0, trivial⟩
    have mc1 := mc.mod m1 fun x hx => mdb (ms := []) hx
    refine ⟨_, rfl, a.m, a.dm, _, _, rfl, mc1.m, rfl, a.st, rfl, ⟨_, SqL.of mc1.st⟩, ?_⟩
    refine for_it (walk_list (xs := intsV (List.range (p.sg + 1)))) (fun i σ H2 => ∃ (B2 : Bt) (kvs2 : List (List Key × V)) (more : Bool) (y3 y4 y5 : Option V), σ = [some (.ref a.m), some (.int (pl : Nat)), some (.bl more), y3, y4, y5] ∧ Mod [a.b] H H2 ∧ BestR H2 a.b B2 L p.sg kvs2 ∧
        SpI F pl p.sg M C B B1 B2 more fun s _ => s < i) ⟨B1, kvs1, false, y3, y4, y5, rfl, m1, br1, spr1, bnd1, Nat.le_refl _, (fun z => by cases z), fun _ s t u hs => absurd hs (Nat.not_lt_zero _)⟩ (fun i σ H2 _ h => ?_) ?_ ?_
    · obtain ⟨_, _, _, _, _, _, _, m2, _⟩ := h
      exact SqL.of (mc.mod m2 fun x hx => mdb (ms := []) hx).st
    · rintro i x σ _ H2 hi ⟨B2, kvs2, more, y3, y4, y5, rfl, m2, br2, sp2⟩ ⟨rfl, hx⟩
      obtain ⟨rfl, hiN⟩ := states_of hx
      have hid : i < a.ds.length := by rw [fa.len]; omega
      obtain ⟨kl, hkl, ksl⟩ := fa.at_ i a.ds[i] (List.getElem?_eq_getElem hid)
      have bds : ∀ d ∈ a.ds, d ∉ [a.b] := fun d hd z => by
        rw [List.mem_singleton.mp z] at hd
        exact not_in_of fa hb0 (fun _ z => by cases z) hd
      have hkl2 := m2.keep _ _ hkl (bds _ (List.getElem_mem hid))
      refine ⟨a.ds[i], .dK kl, hkl2, trivial, fun od => ?_⟩
      have mL : Mod [a.ds[i]] H2 (upd H2 a.ds[i] (.frz od (.dK kl))) := Mod.refl.put hkl2 (fun _ z => nomatch z) (List.mem_singleton.mpr rfl)
      have mLH : Mod [a.ds[i], a.b] H (upd H2 a.ds[i] (.frz od (.dK kl))) := (m2.mono fun _ h => List.mem_cons_of_mem _ h).trans (mL.mono fun x h => by rw [List.mem_singleton.mp h]; exact List.mem_cons_self ..)
      have mdd : ∀ x ∈ [a.ds[i], a.b], ∃ o, H x = some o ∧ isDict o := fun x hx => by
        rcases List.mem_cons.mp hx with rfl | hx
        · exact ⟨_, hkl, trivial⟩
        · exact mdb (ms := []) hx
      have bne : a.b ∉ [a.ds[i]] := fun z => bds _ (List.getElem_mem hid) (List.mem_singleton.mpr (List.mem_singleton.mp z).symm)
      have mcL := mc.mod mLH mdd
      refine ⟨_, rfl, a.m, a.dm, _, _, rfl, mcL.m, rfl, a.s, a.dx, _, _, rfl, mcL.s, rfl, _, rfl, a.fo, _, _, _, rfl, rfl, SqL.of mcL.fo, at_of (j := i) rfl (by rw [List.getElem?_map, List.getElem?_eq_getElem hid]; rfl), a.ds[i], od, rfl, .inl ⟨kl, upd_same, ?_⟩⟩
      refine for_it walk_keys (fun j σ H3 => ∃ (B3 : Bt) (kvs3 : List (List Key × V)) (more : Bool) (y4 y5 : Option V), σ = [some (.ref a.m), some (.int (pl : Nat)), some (.bl more), some (.int (i : Nat)), y4, y5] ∧ Mod [a.ds[i], a.b] H H3 ∧ H3 a.ds[i] = some (.frz od (.dK kl)) ∧ BestR H3 a.b B3 L p.sg kvs3 ∧
          SpI F pl p.sg M C B B1 B3 more fun s t => s < i ∨ (s = i ∧ ∃ j' v, j' < j ∧ kl[j']? = some ((Sum.inl (t : Int) : Key), v))) ⟨B2, kvs2, more, y4, y5, rfl, mLH, upd_same, br2.mod mL bne, sp2.imp fun s t _ d => d.elim id fun z => by obtain ⟨_, _, _, hj, _⟩ := z; exact absurd hj (Nat.not_lt_zero _)⟩
          (fun j σ H3 _ h => by obtain ⟨_, _, _, _, _, _, _, h, _⟩ := h; exact h) ?_ ?_
      · rintro j x σ _ H3 hj ⟨B3, kvs3, more, y4, y5, rfl, m3, ef, br3, sp3⟩ ⟨rfl, k, v, hkv, rfl⟩
        obtain ⟨t, rfl, htN, hft⟩ := ksl.at_ hkv
        have mc3 := mc.mod m3 mdd
        refine ⟨_, rfl, a.m, a.dm, _, _, rfl, mc3.m, rfl, a.b, rfl, .inr ⟨kvs3, .inl br3.at_⟩, _, rfl, _, rfl, ln2, fun t1 ht1 => ⟨_, DGet.t (k := bk pl t) ((Mod.refl (ms := []).new ht1).keep _ _ br3.at_ (by simp)) upd_same, ?_⟩⟩
        have mt1 : Mod [] H3 _ := Mod.refl (ms := []).new (o := .tup [.int (pl : Nat), .int (t : Nat)]) ht1
        have br4 := br3.mod mt1 (by simp)
        have ef4 := mt1.keep _ _ ef (by simp)
        have dn : ∀ s' t' : Nat, (s' < i ∨ (s' = i ∧ ∃ j' v', j' < j + 1 ∧ kl[j']? = some ((Sum.inl (t' : Int) : Key), v'))) → (s' < i ∨ (s' = i ∧ ∃ j' v', j' < j ∧ kl[j']? = some ((Sum.inl (t' : Int) : Key), v'))) ∨ (s' = i ∧ t' = t) := fun s' t' h => by
          rcases h with h | ⟨rfl, j', v', h1, h2⟩
          · exact .inl (.inl h)
          · by_cases e : j' = j
            · subst e
              rw [hkv] at h2
              exact .inr ⟨rfl, by injection h2 with h2; injection h2 with h2 _; injection h2 with h2; omega⟩
            · exact .inl (.inr ⟨rfl, j', v', by omega, h2⟩)
        cases hB : B3 pl t with
        | none =>
          rw [br4.none hB]
          refine ⟨_, rfl, rfl, _, rfl, iteFe nnN (iteF ?_)⟩
          exact ⟨B3, kvs3, more, _, _, rfl, m3.trans mt1.nil, ef4, br4, sp3.skip hB dn⟩
        | some u =>
          obtain ⟨tu, h1, h2⟩ := br4.some hB
          rw [h1]
          refine ⟨_, rfl, rfl, _, rfl, iteTe nnR ?_⟩
          have mc4 := mc3.mod mt1 (fun _ h => nomatch h)
          refine ⟨_, rfl, a.m, a.dm, _, rfl, mc4.m, rfl, _, rfl, _, rfl, _, rfl, tu, _, _, _, rfl, rfl, SqT.of h2, rfl, _, _, rfl, rfl, _, rfl, tu, _, _, _, rfl, rfl, SqT.of h2, rfl, _, _, rfl, rfl, ln2, fun t2 ht2 => ?_⟩
          have mt2 : Mod [] _ _ := Mod.refl (ms := []).new (o := .tup [.int ((u.1 : Nat) + 1), .int ((u.2 : Nat) + 1)]) ht2
          have br5 := br4.mod mt2 (by simp)
          have mc5 := mc4.mod mt2 (fun _ h => nomatch h)
          have ef5 := mt2.keep _ _ ef4 (by simp)
          refine ⟨a.m, a.dm, a.b, t2, _, pl, i, u.1 + 1, u.2 + 1, L, p.sg, B3, kvs3, rfl, mc5.m, rfl, upd_same, br5, hpl, hiN, hL, hN, fun H6 kvs6 m6 br6 => ?_⟩
          have mm : Mod [a.ds[i], a.b] H H6 := ((m3.trans mt1.nil).trans mt2.nil).trans (m6.mono fun _ h => List.mem_cons_of_mem _ h)
          have ef6 := m6.keep _ _ ef5 (fun z => bne (List.mem_singleton.mpr (List.mem_singleton.mp z).symm))
          cases hl : isLess B3 pl i (u.1 + 1, u.2 + 1) with
          | true => exact ⟨_, rfl, iteT ⟨_, kvs6, true, _, _, rfl, mm, ef6, br6, sp3.less hft hiN htN hB hl⟩⟩
          | false => exact ⟨_, rfl, iteF ⟨_, kvs6, more, _, _, rfl, mm, ef6, br6, sp3.no hB hl dn⟩⟩
      · rintro σ H3 ⟨B3, kvs3, more, y4, y5, rfl, m3, ef, br3, sp3⟩
        have m4 : Mod [a.ds[i]] H3 (upd H3 a.ds[i] (.dK kl)) := Mod.refl.put ef (fun _ z => nomatch z) (List.mem_singleton.mpr rfl)
        refine ⟨ef, B3, kvs3, more, _, y4, y5, rfl, m3.unlock hkl (fun _ z => nomatch z), br3.mod m4 bne, sp3.imp fun s t hf d => ?_⟩
        by_cases e : s = i
        · subst e
          obtain ⟨j, v, hj⟩ := ksl.turn hf
          exact .inr ⟨rfl, j, v, (List.getElem?_eq_some_iff.mp hj).1, hj⟩
        · exact .inl (by omega)
    · rintro σ H2 ⟨B2, kvs2, more, y3, y4, y5, rfl, m2, br2, sp2⟩
      refine ⟨2 * Phi pl p.sg M C B2 + (if more = true then 1 else 0), ?_, B2, kvs2, more, y3, y4, y5, rfl, m2, br2, sp2.spr, sp2.bnd, rfl, fun hm s t u hs hf hu => ?_⟩
      · have h1 := sp2.le
        rw [if_pos rfl]
        cases more with
        | true => have h2 := sp2.lt rfl; rw [if_pos rfl]; omega
        | false => rw [if_neg (by simp)]; omega
      · rw [states_len] at sp2
        exact sp2.cl hm s t u (by omega) hf hu
end
end Fr

set_option maxHeartbeats 4000000
namespace Fr
open PySem PySem.Spec PyProof.Rows L2
section
variable {P : Program} {w : World} {K : PySem.W.Frag} {mg : Str → Option Value} {base : Heap}
/-- a state's lot -/
def Pat.lotN (p : Pat) (t : Nat) : List Nat := p.lots.getD (t - 1) []
def spFill (K : PySem.W.Frag) : Sp := fun vs H Q _ => ∃ (a : MA) (p : Pat) (z : Str) (F : Nat → Nat → Prop) (pl L : Nat) (B : Bt) (kvs : List (List Key × V)), vs = [.ref a.m, .int (pl : Nat)] ∧ MenC K H a p z ∧ FolAt H a.ds F p.sg ∧
  BestR H a.b B L p.sg kvs ∧ (∀ s, B pl s = none) ∧ pl + 1 ≤ L ∧ L ≤ 300 ∧ p.sg ≤ 60 ∧ pl < z.length ∧ z.length ≤ 300 ∧ (∀ s t, F s t → 1 ≤ t ∧ t ≤ p.sg) ∧
  ∀ H' kvs' B', Mod [a.b] H H' → BestR H' a.b B' L p.sg kvs' → (∀ E, Least z.cps.toList F E p.lotN p.sg (pl + 1) B → Least z.cps.toList F E p.lotN p.sg pl B') → (∀ p s, p ≠ pl → B' p s = B p s) → Q .non H'
theorem has_Mender_fill (T : Tx w K mg) : HasM P w K mg base 3 "Mender" "fill" ["self", "place"] (spFill K) := by
  have H_Mender_lessened := has_Mender_lessened (P := P) (base := base) T
  have H_Mender_spread := has_Mender_spread (P := P) (base := base) T
  refine (T.has (d := d_Mender_fill) 17 rfl rfl rfl rfl b_Mender_fill sc_Mender_fill (fun vs H Q E h => ?_) fun cdv A outer s H vs Q E hr h => ?_)
  · obtain ⟨_, _, _, _, _, _, _, _, rfl, _⟩ := h; rfl
  obtain ⟨a, p, z, F, pl, L, B, kvs, rfl, mc, fa, br, hnone, hpl, hL, hN, hlt, hz, hF, q⟩ := h
  refine ⟨_, (pss_cons (ps_set (i := 2) sc_Mender_fill.nd rfl (Or.inl rfl) (pe_ix ix_str (pe_fldC (c_Mender T) (n_Mender_begun_text T) (pv 0)) (pv 1) (fun _ _ => rfl)))
      (pss_cons (ps_for PassesOwn.never rfl (pi_list (pe_fldC (c_Mender T) (n_Mender_states T) (pv 0))) (pg_name (i := 3) sc_Mender_fill.nd rfl (Or.inl rfl)) (pss_cons (ps_set (i := 4) sc_Mender_fill.nd rfl (Or.inl rfl) (pe_dget2 (hu_of hr) (pe_fldC (c_Mender T) (n_Mender_best T) (pv 0)) (pe_tup (pa_cons (pe_op op_add (pv 1) pe_int) (pa_cons (pv 3) pa_nil))) pe_non ⟨rfl, rfl, rfl, rfl⟩))
      (C8.pss_cut (ps_if (pt_cmpR op_notN (pv 4) pe_non (nomark _)) (pss_one (ps_expr (pe_methH (c_Mender T) (m_Mender_lessened T) H_Mender_lessened (hr.mono (by decide)) (pv 0) (pa_cons (pv 1) (pa_cons (pv 3) (pa_cons (pe_tup (pa_cons (pe_op op_add (pe_ix ix_tup (pv 4) pe_int (fun _ _ => rfl)) pe_int) (pa_cons (pe_ix ix_tup (pv 4) pe_int (fun _ _ => rfl)) pa_nil))) pa_nil)))))) pss_nil)
      (pss_one (ps_lock (ps_for PassesOwn.never rfl (pi_keys (pe_ix ix_list (pe_fldC (c_Sets T) (n_Sets_follows T) (pe_fldC (c_Mender T) (n_Mender_sets T) (pv 0))) (pv 3) (fun _ _ => rfl))) (pg_name (i := 5) sc_Mender_fill.nd rfl (Or.inl rfl)) (pss_cons (ps_set (i := 4) sc_Mender_fill.nd rfl (Or.inl rfl) (pe_dget2 (hu_of hr) (pe_fldC (c_Mender T) (n_Mender_best T) (pv 0)) (pe_tup (pa_cons (pe_op op_add (pv 1) pe_int) (pa_cons (pv 5) pa_nil))) pe_non ⟨rfl, rfl, rfl, rfl⟩))
      (pss_one (ps_if (pt_cmpR op_notN (pv 4) pe_non (nomark _)) (pss_cons (ps_set (i := 6) sc_Mender_fill.nd rfl (Or.inl rfl) (pe_callTy call_int1 (by rfl) (z_int T) (by decide +kernel) (pa_cons (pe_cmpR op_notIn_sign (pv 2) (pe_ix ix_list (pe_fldC (c_Sets T) (n_Sets_lots T) (pe_fldC (c_Mender T) (n_Mender_sets T) (pv 0))) (pe_op op_sub (pv 5) pe_int) (fun _ _ => rfl)) rfl) pa_nil)))
      (pss_one (ps_expr (pe_methH (c_Mender T) (m_Mender_lessened T) H_Mender_lessened (hr.mono (by decide)) (pv 0) (pa_cons (pv 1) (pa_cons (pv 3) (pa_cons (pe_tup (pa_cons (pe_op op_add (pe_ix ix_tup (pv 4) pe_int (fun _ _ => rfl)) (pv 6)) (pa_cons (pe_op op_add (pe_ix ix_tup (pv 4) pe_int (fun _ _ => rfl)) pe_int) pa_nil))) pa_nil))))))) pss_nil)))))))))
      (pss_one (ps_expr (pe_methH (c_Mender T) (m_Mender_spread T) H_Mender_spread (hr.mono (by decide)) (pv 0) (pa_cons (pv 1) pa_nil)))))), ?_⟩
  have hb0 := br.at_
  have hlt' : pl < z.cps.toList.length := by rw [Array.length_toList]; exact hlt
  obtain ⟨c, hc⟩ : ∃ c, z.cps.toList[pl]? = some c := ⟨_, List.getElem?_eq_getElem hlt'⟩
  have mdb : ∀ {x : Addr}, x ∈ [a.b] → ∃ o, H x = some o ∧ isDict o := fun hx => by
    rw [List.mem_singleton.mp hx]; exact ⟨_, hb0, trivial⟩
  refine ⟨_, rfl, a.m, a.dm, _, _, rfl, mc.m, rfl, _, rfl, z, _, c, rfl, rfl, le_line (by omega), atI_nat hc, ?_⟩
  refine ⟨_, rfl, a.m, a.dm, _, _, rfl, mc.m, rfl, a.st, rfl, ⟨_, SqL.of mc.st⟩, ?_⟩
  refine for_it (walk_list (xs := intsV (List.range (p.sg + 1)))) (fun i σ H2 => ∃ (B2 : Bt) (kvs2 : List (List Key × V)) (y3 y4 y5 y6 : Option V), σ = [some (.ref a.m), some (.int (pl : Nat)), some (.str ⟨#[c]⟩), y3, y4, y5, y6] ∧ Mod [a.b] H H2 ∧ BestR H2 a.b B2 L p.sg kvs2 ∧
      FlI F (fun t => if c ∈ p.lotN t then 0 else 1) pl B B2 (fun s => s < i) (fun s _ => s < i)) ⟨B, kvs, _, _, _, _, rfl, Mod.refl, br, fun _ _ _ => rfl, (fun s u e => by rw [hnone] at e; cases e), (fun s v d => absurd d (Nat.not_lt_zero _)), (fun s t v d => absurd d (Nat.not_lt_zero _))⟩ (fun i σ H2 _ h => ?_) ?_ ?_
  · obtain ⟨_, _, _, _, _, _, _, m2, _⟩ := h
    exact SqL.of (mc.mod m2 fun x hx => mdb hx).st
  · rintro i x σ _ H2 hi ⟨B2, kvs2, y3, y4, y5, y6, rfl, m2, br2, fl2⟩ ⟨rfl, hx⟩
    obtain ⟨rfl, hiN⟩ := states_of hx
    have mc2 := mc.mod m2 fun x hx => mdb hx
    refine ⟨_, rfl, a.m, a.dm, _, _, rfl, mc2.m, rfl, a.b, rfl, .inr ⟨kvs2, .inl br2.at_⟩, _, rfl, _, _, rfl, rfl, _, rfl, ln2, fun t1 ht1 => ⟨_, DGet.t (k := bk (pl + 1) i) ((Mod.refl (ms := []).new ht1).keep _ _ br2.at_ (by simp)) upd_same, ?_⟩⟩
    have mt1 : Mod [] H2 _ := Mod.refl (ms := []).new (o := .tup [.int ((pl : Nat) + 1), .int (i : Nat)]) ht1
    have br3 := br2.mod mt1 (by simp)
    have mc3 := mc2.mod mt1 (fun _ h => nomatch h)
    have m3 := m2.trans mt1.nil
    have eB2 : ∀ s, B2 (pl + 1) s = B (pl + 1) s := fun s => fl2.other _ _ (by omega)
    refine ⟨fun σ H3 => ∃ (B3 : Bt) (kvs3 : List (List Key × V)) (y4 : Option V), σ = [some (.ref a.m), some (.int (pl : Nat)), some (.str ⟨#[c]⟩), some (.int (i : Nat)), y4, y5, y6] ∧ Mod [a.b] H H3 ∧ BestR H3 a.b B3 L p.sg kvs3 ∧
      FlI F (fun t => if c ∈ p.lotN t then 0 else 1) pl B B3 (fun s => s < i + 1) (fun s _ => s < i), ?_, ?_⟩
    · cases hB : B (pl + 1) i with
      | none =>
        rw [br3.none (by rw [eB2]; exact hB)]
        refine ⟨_, rfl, rfl, _, rfl, iteFe nnN ?_⟩
        refine ⟨B2, kvs2, _, rfl, m3, br3, fl2.done (fun s v d hv => ?_) fun _ _ _ d _ _ => .inl d⟩
        by_cases e : s = i
        · subst e; rw [hB] at hv; cases hv
        · exact .inl (by omega)
      | some u =>
        obtain ⟨tu, h1, h2⟩ := br3.some (by rw [eB2]; exact hB)
        rw [h1]
        refine ⟨_, rfl, rfl, _, rfl, iteTe nnR ?_⟩
        refine ⟨_, rfl, a.m, a.dm, _, rfl, mc3.m, rfl, _, rfl, _, rfl, _, rfl, tu, _, _, _, rfl, rfl, SqT.of h2, rfl, _, _, rfl, rfl, _, rfl, tu, _, _, _, rfl, rfl, SqT.of h2, rfl, ln2, fun t2 ht2 => ?_⟩
        have mt2 : Mod [] _ _ := Mod.refl (ms := []).new (o := .tup [.int ((u.1 : Nat) + 1), .int (u.2 : Nat)]) ht2
        have br4 := br3.mod mt2 (by simp)
        have mc4 := mc3.mod mt2 (fun _ h => nomatch h)
        refine ⟨a.m, a.dm, a.b, t2, _, pl, i, u.1 + 1, u.2, L, p.sg, B2, kvs2, rfl, mc4.m, rfl, upd_same, br4, by omega, hiN, hL, hN, fun H6 kvs6 m6 br6 => ?_⟩
        refine ⟨_, kvs6, _, rfl, (m3.trans mt2.nil).trans m6, br6, (fl2.less (.inl ⟨u, hB, rfl⟩)).done (fun s v d hv => ?_) fun _ _ _ d _ _ => .inl d⟩
        by_cases e : s = i
        · subst e; rw [hB] at hv; cases hv; exact .inr (lessB_at _ _ _ _)
        · exact .inl (by omega)
    clear br3 mc3 m3 br2 eB2 fl2 mc2 mt1 ht1 m2
    rintro σ H2 ⟨B2, kvs2, y4, rfl, m2, br2, fl2⟩
    have mc2 := mc.mod m2 fun x hx => mdb hx
    have hid : i < a.ds.length := by rw [fa.len]; omega
    obtain ⟨kl, hkl, ksl⟩ := fa.at_ i a.ds[i] (List.getElem?_eq_getElem hid)
    have bds : ∀ d ∈ a.ds, d ∉ [a.b] := fun d hd z => by
      rw [List.mem_singleton.mp z] at hd
      exact not_in_of fa hb0 (fun _ z => by cases z) hd
    have hkl2 := m2.keep _ _ hkl (bds _ (List.getElem_mem hid))
    refine ⟨a.ds[i], .dK kl, hkl2, trivial, fun od => ?_⟩
    have mL : Mod [a.ds[i]] H2 (upd H2 a.ds[i] (.frz od (.dK kl))) := Mod.refl.put hkl2 (fun _ z => nomatch z) (List.mem_singleton.mpr rfl)
    have mLH : Mod [a.ds[i], a.b] H (upd H2 a.ds[i] (.frz od (.dK kl))) := (m2.mono fun _ h => List.mem_cons_of_mem _ h).trans (mL.mono fun x h => by rw [List.mem_singleton.mp h]; exact List.mem_cons_self ..)
    have mdd : ∀ x ∈ [a.ds[i], a.b], ∃ o, H x = some o ∧ isDict o := fun x hx => by
      rcases List.mem_cons.mp hx with rfl | hx
      · exact ⟨_, hkl, trivial⟩
      · exact mdb hx
    have bne : a.b ∉ [a.ds[i]] := fun z => bds _ (List.getElem_mem hid) (List.mem_singleton.mpr (List.mem_singleton.mp z).symm)
    have mcL := mc.mod mLH mdd
    refine ⟨_, rfl, a.m, a.dm, _, _, rfl, mcL.m, rfl, a.s, a.dx, _, _, rfl, mcL.s, rfl, _, rfl, a.fo, _, _, _, rfl, rfl, SqL.of mcL.fo, at_of (j := i) rfl (by rw [List.getElem?_map, List.getElem?_eq_getElem hid]; rfl), a.ds[i], od, rfl, .inl ⟨kl, upd_same, ?_⟩⟩
    refine for_it walk_keys (fun j σ H3 => ∃ (B3 : Bt) (kvs3 : List (List Key × V)) (y4 y5 y6 : Option V), σ = [some (.ref a.m), some (.int (pl : Nat)), some (.str ⟨#[c]⟩), some (.int (i : Nat)), y4, y5, y6] ∧ Mod [a.ds[i], a.b] H H3 ∧ H3 a.ds[i] = some (.frz od (.dK kl)) ∧ BestR H3 a.b B3 L p.sg kvs3 ∧
        FlI F (fun t => if c ∈ p.lotN t then 0 else 1) pl B B3 (fun s => s < i + 1) fun s t => s < i ∨ (s = i ∧ ∃ j' v, j' < j ∧ kl[j']? = some ((Sum.inl (t : Int) : Key), v)))
      ⟨B2, kvs2, y4, y5, y6, rfl, mLH, upd_same, br2.mod mL bne, fl2.done (fun _ _ d _ => .inl d) fun s t v d _ _ => .inl (d.elim id fun z => by obtain ⟨_, _, _, hj, _⟩ := z; exact absurd hj (Nat.not_lt_zero _))⟩
      (fun j σ H3 _ h => by obtain ⟨_, _, _, _, _, _, _, h, _⟩ := h; exact h) ?_ ?_
    · rintro j x σ _ H3 hj ⟨B3, kvs3, y4, y5, y6, rfl, m3, ef, br3, fl3⟩ ⟨rfl, k, v, hkv, rfl⟩
      obtain ⟨t, rfl, htN, hft⟩ := ksl.at_ hkv
      obtain ⟨ht1', _⟩ := hF _ _ hft
      have mc3 := mc.mod m3 mdd
      refine ⟨_, rfl, a.m, a.dm, _, _, rfl, mc3.m, rfl, a.b, rfl, .inr ⟨kvs3, .inl br3.at_⟩, _, rfl, _, _, rfl, rfl, _, rfl, ln2, fun t1 ht1 => ⟨_, DGet.t (k := bk (pl + 1) t) ((Mod.refl (ms := []).new ht1).keep _ _ br3.at_ (by simp)) upd_same, ?_⟩⟩
      have mt1 : Mod [] H3 _ := Mod.refl (ms := []).new (o := .tup [.int ((pl : Nat) + 1), .int (t : Nat)]) ht1
      have br4 := br3.mod mt1 (by simp)
      have ef4 := mt1.keep _ _ ef (by simp)
      have m4 := m3.trans mt1.nil
      have mc4 := mc.mod m4 mdd
      have eB3 : ∀ s, B3 (pl + 1) s = B (pl + 1) s := fun s => fl3.other _ _ (by omega)
      have dn : ∀ s' t' : Nat, (s' < i ∨ (s' = i ∧ ∃ j' v', j' < j + 1 ∧ kl[j']? = some ((Sum.inl (t' : Int) : Key), v'))) → (s' < i ∨ (s' = i ∧ ∃ j' v', j' < j ∧ kl[j']? = some ((Sum.inl (t' : Int) : Key), v'))) ∨ (s' = i ∧ t' = t) := fun s' t' h => by
        rcases h with h | ⟨rfl, j', v', h1, h2⟩
        · exact .inl (.inl h)
        · by_cases e : j' = j
          · subst e
            rw [hkv] at h2
            exact .inr ⟨rfl, by injection h2 with h2; injection h2 with h2 _; injection h2 with h2; omega⟩
          · exact .inl (.inr ⟨rfl, j', v', by omega, h2⟩)
      cases hB : B (pl + 1) t with
      | none =>
        rw [br4.none (by rw [eB3]; exact hB)]
        refine ⟨_, rfl, rfl, _, rfl, iteFe nnN ?_⟩
        refine ⟨B3, kvs3, _, _, _, rfl, m4, ef4, br4, fl3.done (fun _ _ d _ => .inl d) fun s' t' v' d _ hv => (dn s' t' d).elim .inl fun z => ?_⟩
        rw [z.2, hB] at hv
        cases hv
      | some u =>
        obtain ⟨tu, h1, h2⟩ := br4.some (by rw [eB3]; exact hB)
        rw [h1]
        refine ⟨_, rfl, rfl, _, rfl, iteTe nnR ?_⟩
        have hlot : t - 1 < p.lots.length := by rw [Pat.lots_len]; omega
        have elot : p.lots[t - 1]? = some (p.lotN t) := by unfold Pat.lotN; rw [List.getD_eq_getElem?_getD, List.getElem?_eq_getElem hlot]; rfl
        refine ⟨_, rfl, _, rfl, a.m, a.dm, _, _, rfl, mc4.m, rfl, a.s, a.dx, _, _, rfl, mc4.s, rfl, _, rfl, _, _, rfl, rfl, a.lo, _, (t : Int) - 1, _, rfl, rfl, SqL.of mc4.lo, at_of (j := t - 1) (by omega) (by rw [List.getElem?_map, elot]; rfl), c, _, rfl, rfl, .inr ⟨_, rfl, ?_⟩⟩
        have epr : (if (!decide (c ∈ (⟨(p.lotN t).toArray⟩ : Str).cps.toList)) = true then (1 : Int) else 0) = ((if c ∈ p.lotN t then 0 else 1 : Nat) : Int) := by
          by_cases h : c ∈ p.lotN t <;> simp [h]
        rw [epr]
        refine ⟨_, rfl, a.m, a.dm, _, rfl, mc4.m, rfl, _, rfl, _, rfl, _, rfl, tu, _, _, _, rfl, rfl, SqT.of h2, rfl, _, rfl, _, _, rfl, rfl, _, rfl, tu, _, _, _, rfl, rfl, SqT.of h2, rfl, _, _, rfl, rfl, ln2, fun t2 ht2 => ?_⟩
        generalize hpr : (if c ∈ p.lotN t then 0 else 1 : Nat) = pr at *
        have mt2 : Mod [] _ _ := Mod.refl (ms := []).new (o := .tup [.int ((u.1 : Nat) + (pr : Nat)), .int ((u.2 : Nat) + 1)]) ht2
        have br5 := br4.mod mt2 (by simp)
        have mc5 := mc4.mod mt2 (fun _ h => nomatch h)
        have ef5 := mt2.keep _ _ ef4 (by simp)
        refine ⟨a.m, a.dm, a.b, t2, _, pl, i, u.1 + pr, u.2 + 1, L, p.sg, B3, kvs3, rfl, mc5.m, rfl, upd_same, br5, by omega, hiN, hL, hN, fun H6 kvs6 m6 br6 => ?_⟩
        have mm : Mod [a.ds[i], a.b] H H6 := (m4.trans mt2.nil).trans (m6.mono fun _ h => List.mem_cons_of_mem _ h)
        have ef6 := m6.keep _ _ ef5 (fun z => bne (List.mem_singleton.mpr (List.mem_singleton.mp z).symm))
        refine ⟨_, kvs6, _, _, _, rfl, mm, ef6, br6, (fl3.less (.inr ⟨t, u, hft, hB, by rw [hpr]⟩)).done (fun _ _ d _ => .inl d) fun s' t' v' d _ hv => (dn s' t' d).elim .inl fun z => .inr ?_⟩
        obtain ⟨rfl, rfl⟩ := z
        rw [hB] at hv
        cases hv
        simp only [hpr]
        exact lessB_at _ _ _ _
    · rintro σ H3 ⟨B3, kvs3, y4, y5, y6, rfl, m3, ef, br3, fl3⟩
      have m4 : Mod [a.ds[i]] H3 (upd H3 a.ds[i] (.dK kl)) := Mod.refl.put ef (fun _ z => nomatch z) (List.mem_singleton.mpr rfl)
      refine ⟨ef, B3, kvs3, _, y4, y5, y6, rfl, m3.unlock hkl (fun _ z => nomatch z), br3.mod m4 bne, fl3.done (fun _ _ d _ => .inl d) fun s t v d hf _ => .inl ?_⟩
      by_cases e : s = i
      · subst e
        obtain ⟨j, v, hj⟩ := ksl.turn hf
        exact .inr ⟨rfl, j, v, (List.getElem?_eq_some_iff.mp hj).1, hj⟩
      · exact .inl (by omega)
  · rintro σ H2 ⟨B2, kvs2, y3, y4, y5, y6, rfl, m2, br2, fl2⟩
    rw [states_len] at fl2
    have mc2 := mc.mod m2 fun x hx => mdb hx
    have fa2 := fa.mod m2 fun d hd z => by
      rw [List.mem_singleton.mp z] at hd
      exact not_in_of fa hb0 (fun _ z => by cases z) hd
    refine ⟨_, rfl, a.m, a.dm, _, rfl, mc2.m, rfl, _, rfl, ?_⟩
    refine ⟨a, p, z, F, pl, L, B2, kvs2, rfl, mc2, fa2, br2, by omega, hL, hN, fun H3 kvs3 B3 m3 br3 sp cl => ?_⟩
    refine q H3 kvs3 B3 (m2.trans m3) br3 (fun E h => h.fill hc (fun s t f => (hF s t f).2) (fl2.done (fun s v d _ => .inl (by omega)) fun s t v d _ _ => .inl (by omega)) sp cl) fun p' s hp => ?_
    rw [sp.other p' s hp, fl2.other p' s hp]
end
end Fr

set_option maxHeartbeats 4000000
namespace Fr
open PySem PySem.Spec PyProof.Rows L2
section
variable {P : Program} {w : World} {K : PySem.W.Frag} {mg : Str → Option Value} {base : Heap}
/-- the states of which p holds, in order -/
def spFillLast (K : PySem.W.Frag) : Sp := fun vs H Q _ => ∃ (a : MA) (p : Pat) (z : Str) (F : Nat → Nat → Prop) (E : Nat → Prop), vs = [.ref a.m] ∧ MenC K H a p z ∧ FolAt H a.ds F p.sg ∧ H a.e = some (.dK a.ke) ∧ KS a.ke E p.sg ∧
  H a.b = some (.dT []) ∧ p.sg ≤ 60 ∧ z.length ≤ 300 ∧ (∀ s t, F s t → 1 ≤ t ∧ t ≤ p.sg) ∧
  ∀ H' kvs' B', Mod [a.b] H H' → BestR H' a.b B' z.length p.sg kvs' → Least z.cps.toList F E p.lotN p.sg z.length B' → (∀ q s, q < z.length → B' q s = none) → Q .non H'
theorem has_Mender_fill_last (T : Tx w K mg) : HasM P w K mg base 3 "Mender" "fill_last" ["self"] (spFillLast K) := by
  have H_Mender_spread := has_Mender_spread (P := P) (base := base) T
  refine (T.has (d := d_Mender_fill_last) 14 rfl rfl rfl rfl b_Mender_fill_last sc_Mender_fill_last (fun vs H Q E h => ?_) fun cdv A outer s H vs Q E hr h => ?_)
  · obtain ⟨_, _, _, _, _, rfl, _⟩ := h; rfl
  obtain ⟨a, p, z, F, E', rfl, mc, fa, he, kse, hb, hN, hz, hF, q⟩ := h
  refine ⟨_, (pss_cons (ps_set (i := 1) sc_Mender_fill_last.nd rfl (Or.inl rfl) (pe_callB call_len_str (by rfl) (z_len T) (by decide +kernel) (pa_cons (pe_fldC (c_Mender T) (n_Mender_begun_text T) (pv 0)) pa_nil)))
      (pss_cons (ps_setLc (i := 3) (own := [("state", 2)]) (g := (gName 2)) rfl sc_Mender_fill_last.nd rfl rfl (sw_true rfl rfl rfl (by decide +kernel)) (pi_list (pe_fldC (c_Mender T) (n_Mender_states T) (pv 0))) (blkOk_by (own := [("state", 2)]) (N := ["self", "end", "state", "waiting"]) (sc := defScope s_Mender_fill_last) (by decide +kernel)) (fun _ _ _ _ _ => (pg_name (i := 2) sc_Mender_fill_last.nd rfl (Or.inl rfl))) (fun _ _ _ _ _ => (pts_one (pt_cmp (pc_din (hu_of hr) (pv 2) (pe_fldC (c_Sets T) (n_Sets_enders T) (pe_fldC (c_Mender T) (n_Mender_sets T) (pv 0)))) rfl))) (fun _ _ _ _ _ => (pv 2)))
      (pss_cons (ps_for PassesOwn.never rfl (pi_list (pv 3)) (pg_name (i := 2) sc_Mender_fill_last.nd rfl (Or.inl rfl)) (pss_one (ps_dput (hu_of hr) (pe_fldC (c_Mender T) (n_Mender_best T) (pv 0)) (pe_tup (pa_cons (pv 1) (pa_cons (pv 2) pa_nil))) (pe_tup (pa_cons pe_int (pa_cons pe_int pa_nil))) rfl)))
      (pss_one (ps_expr (pe_methH (c_Mender T) (m_Mender_spread T) H_Mender_spread (hr.mono (by decide)) (pv 0) (pa_cons (pv 1) pa_nil))))))), ?_⟩
  refine ⟨_, rfl, a.m, a.dm, _, _, rfl, mc.m, rfl, z, rfl, le_line (by omega), ?_⟩
  refine ⟨_, rfl, a.m, a.dm, _, _, rfl, mc.m, rfl, a.st, rfl, ⟨_, SqL.of mc.st⟩, ?_⟩
  have hkey : ∀ {s : Nat}, (valV a.ke (Sum.inl (s : Int))).isSome = true → s ≤ p.sg := fun {s} h => by
    have h2 := (kse.mem s).mpr ((kse.get s).mp h)
    obtain ⟨n, e, hn⟩ := kse.key _ h2
    injection e with e
    omega
  refine lc_rel (walk_list (xs := intsV (List.range (p.sg + 1)))) [] (fun i => (valV a.ke (Sum.inl (i : Int))).isSome) (fun i y _ => y = .int (i : Nat)) (lt_line (by rw [states_len]; omega)) (fun _ _ _ _ _ _ h => h) (fun H3 m3 => SqL.of (m3.keep _ _ mc.st (by simp))) ?_ (fun _ _ h => nomatch h) fun lo H3 zs hlo m3 e3 r3 => ?_
  · rintro i y H3 _ R S hi m3 ⟨rfl, hy⟩ k1 k2
    obtain ⟨rfl, hiN⟩ := states_of hy
    have mc3 := mc.mod m3 (fun _ h => nomatch h)
    have he3 := m3.keep _ _ he (by simp)
    refine ⟨rfl, _, rfl, _, rfl, a.m, a.dm, _, _, rfl, mc3.m, rfl, a.s, a.dx, _, _, rfl, mc3.s, rfl, a.e, _, rfl, DGet.k (k := Sum.inl (i : Int)) he3, _, rfl, ?_⟩
    cases hv : (valV a.ke (Sum.inl (i : Int))).isSome with
    | true => exact iteT ⟨_, rfl, k1 _ _ Mod.refl hv rfl⟩
    | false => exact iteF (k2 _ Mod.refl hv)
  rw [states_len] at r3
  have ezs := pd_map r3
  generalize hss : (List.range (p.sg + 1)).filter (fun (i : Nat) => (valV a.ke (Sum.inl (i : Int))).isSome) = ss at ezs
  subst ezs
  have hmem : ∀ s : Nat, s ∈ ss ↔ E' s := fun s => by
    rw [← hss, List.mem_filter, List.mem_range, ← kse.get s]
    exact ⟨fun h => h.2, fun h => ⟨by have := hkey h; omega, h⟩⟩
  have hssl : ss.length ≤ 61 := by
    rw [← hss]
    exact Nat.le_trans (List.length_filter_le _ _) (by rw [List.length_range]; omega)
  have loH : H lo = none := hlo
  have lob : lo ≠ a.b := (ne_of_none hb loH).symm
  have hb3 := m3.keep _ _ hb (by simp)
  have fab : ∀ d ∈ a.ds, d ∉ [a.b] := fun d hd z => by
    rw [List.mem_singleton.mp z] at hd
    exact not_in_of fa hb (fun _ z => by cases z) hd
  refine ⟨_, rfl, lo, rfl, ⟨_, SqL.of e3⟩, ?_⟩
  refine for_it (walk_list (xs := ss.map fun (i : Nat) => V.int (i : Nat))) (fun i σ H2 => ∃ (kvs2 : List (List Key × V)) (y2 : Option V), σ = [some (.ref a.m), some (.int (z.length : Nat)), y2, some (.ref lo)] ∧ Mod [a.b] H H2 ∧ H2 lo = some (.lst (ss.map fun (i : Nat) => V.int (i : Nat))) ∧ BestR H2 a.b (fun p' s => if p' = z.length ∧ s ∈ ss.take i then some (0, 0) else none) z.length p.sg kvs2)
    ⟨[], _, rfl, m3.nil, e3, hb3, List.nodup_nil, (fun k h => by simp at h), fun p' s => by rw [if_neg (by simp)]; rfl⟩ (fun i σ H2 _ h => ?_) ?_ ?_
  · obtain ⟨_, _, _, _, h, _⟩ := h
    exact SqL.of h
  · rintro i x σ _ H2 hi ⟨kvs2, y2, rfl, m2, el, br2⟩ ⟨rfl, hx⟩
    obtain ⟨s, hs, rfl⟩ : ∃ s, ss[i]? = some s ∧ x = V.int (s : Nat) := by
      rw [List.getElem?_map] at hx
      cases h : ss[i]? with
      | none => rw [h] at hx; cases hx
      | some s => rw [h] at hx; exact ⟨s, rfl, by injection hx with hx; exact hx.symm⟩
    have hsN : s ≤ p.sg := hkey ((kse.get s).mpr ((hmem s).mp (List.mem_of_getElem? hs)))
    have mc2 := mc.mod m2 fun x hx => by rw [List.mem_singleton.mp hx]; exact ⟨_, hb, trivial⟩
    refine ⟨ln2, fun t ht => ?_⟩
    have mt : Mod [] H2 _ := Mod.refl (ms := []).new (o := .tup [.int (0 : Nat), .int (0 : Nat)]) ht
    have mct := mc2.mod mt (fun _ h => nomatch h)
    refine ⟨_, rfl, a.m, a.dm, _, _, rfl, mct.m, rfl, _, rfl, _, rfl, ln2, fun t2 ht2 => ?_⟩
    have mt2 : Mod [] _ _ := Mod.refl (ms := []).new (o := .tup [.int (z.length : Nat), .int (s : Nat)]) ht2
    have br3 := (br2.mod mt (by simp)).mod mt2 (by simp)
    have hl := br3.len
    have hl2 : (z.length + 1) * (p.sg + 1) ≤ 301 * 61 := Nat.mul_le_mul (by omega) (by omega)
    refine ⟨a.b, _, rfl, DPut.t (k := bk z.length s) br3.at_ upd_same (lt_line (by omega)), ?_⟩
    have mb : Mod [a.b] _ (upd _ a.b (.dT (putK kvs2 (bk z.length s) (.ref t)))) := Mod.refl.put br3.at_ (fun _ z => nomatch z) (List.mem_singleton.mpr rfl)
    refine ⟨_, _, rfl, ((m2.trans mt.nil).trans mt2.nil).trans mb, mb.keep _ _ (mt2.keep _ _ (mt.keep _ _ el (by simp)) (by simp)) (by simp [lob]), br3.put (Nat.le_refl _) hsN (u := (0, 0)) (mt2.tup _ _ upd_same) ?_ ?_⟩
    · rw [if_pos ⟨rfl, by rw [List.take_add_one, hs]; simp⟩]
    · intro p' s' hn
      have e : (p' = z.length ∧ s' ∈ ss.take (i + 1)) ↔ (p' = z.length ∧ s' ∈ ss.take i) := by
        rw [List.take_add_one, hs]
        simp only [Option.toList, List.mem_append, List.mem_singleton]
        constructor
        · rintro ⟨h1, h2 | h2⟩
          · exact ⟨h1, h2⟩
          · exact absurd ⟨h1, h2⟩ hn
        · rintro ⟨h1, h2⟩; exact ⟨h1, .inl h2⟩
      simp only [e]
  · rintro σ H2 ⟨kvs2, y2, rfl, m2, el, br2⟩
    rw [List.length_map, List.take_length] at br2
    have mc2 := mc.mod m2 fun x hx => by rw [List.mem_singleton.mp hx]; exact ⟨_, hb, trivial⟩
    have fa2 := fa.mod m2 fab
    refine ⟨_, rfl, a.m, a.dm, _, rfl, mc2.m, rfl, _, rfl, ?_⟩
    refine ⟨a, p, z, F, z.length, z.length, _, kvs2, rfl, mc2, fa2, br2, Nat.le_refl _, hz, hN, fun H3 kvs3 B3 m3 br3 sp cl => ?_⟩
    have ez : z.cps.toList.length = z.length := Array.length_toList
    refine q H3 kvs3 B3 (m2.trans m3) br3 ?_ fun q' s hq => ?_
    · have h := Least.last (z := z.cps.toList) (F := F) (E := E') (lot := p.lotN) (N := p.sg) (B2 := fun p' s => if p' = z.length ∧ s ∈ ss then some (0, 0) else none) (B3 := B3) (fun s t f => (hF s t f).2) (fun s h => hkey ((kse.get s).mpr h)) (fun p' s hp => by rw [if_neg (by rw [ez] at hp; omega)])
        (fun s hs => by rw [ez, if_pos ⟨rfl, (hmem s).mpr hs⟩]) (fun s u hu => by
          rw [ez] at hu
          split at hu
          · rename_i h; cases hu; exact ⟨(hmem s).mp h.2, rfl⟩
          · cases hu) (by rw [ez]; exact sp) (by rw [ez]; exact cl)
      rw [ez] at h
      exact h
    · rw [sp.other q' s (by omega), if_neg (by omega)]
end
end Fr

set_option maxHeartbeats 4000000
namespace Fr
open PySem PySem.Spec PyProof.Rows L2
theorem FolS_in {p : Pat} {s t : Nat} (h : FolS p s t) : 1 ≤ t ∧ t ≤ p.sg := by
  rcases h with ⟨_, h⟩ | h
  · have := Pat.Fst_in h; omega
  · have := (Pat.Fol_in h).2; omega
theorem rgV_states (n : Nat) : rgV 0 (((n + 1 : Nat) : Int)) = intsV (List.range (n + 1)) := by
  unfold rgV intsV
  rw [show ((((n + 1 : Nat) : Int)) - 0).toNat = n + 1 by omega]
  exact List.map_congr_left fun i _ => by rw [Int.zero_add]
section
variable {P : Program} {w : World} {K : PySem.W.Frag} {mg : Str → Option Value} {base : Heap}
/-- a mender stands at a.m -/
structure MenAt (K : PySem.W.Frag) (H : Hp) (a : MA) (p : Pat) (z : Str) (B : Bt) (kvs : List (List Key × V)) : Prop where
  c : MenC K H a p z
  fa : FolAt H a.ds (FolS p) p.sg
  e : H a.e = some (.dK a.ke)
  ks : KS a.ke (EndS p) p.sg
  br : BestR H a.b B z.length p.sg kvs
  le : Least z.cps.toList (FolS p) (EndS p) p.lotN p.sg 0 B
def spMenderInit (K : PySem.W.Frag) : Sp := fun vs H Q _ => ∃ (m dm : Addr) (v : V) (p : Pat) (z : Str), vs = [.ref m, v, .str z] ∧ H m = some (.ins (He.ga K "Mender") dm []) ∧ IsP H v p ∧ p.size ≤ 60 ∧ z.length ≤ 300 ∧
  ∀ H' a B kvs, Mod [m] H H' → a.m = m → MenAt K H' a p z B kvs → Q .non H'
theorem has_Mender_init (T : Tx w K mg) : HasM P w K mg base 5 "Mender" "__init__" ["self", "pattern", "text"] (spMenderInit K) := by
  have H_Sets_init := has_Sets_init (P := P) (base := base) T
  have H_Mender_fill_last := has_Mender_fill_last (P := P) (base := base) T
  have H_Mender_fill := has_Mender_fill (P := P) (base := base) T
  refine (T.has (d := d_Mender_init) 13 rfl rfl rfl rfl b_Mender_init sc_Mender_init (fun vs H Q E h => ?_) fun cdv A outer s H vs Q E hr h => ?_)
  · obtain ⟨_, _, _, _, _, rfl, _⟩ := h; rfl
  obtain ⟨m, dm, v, p, z, rfl, hm, hp, hs, hz, q⟩ := h
  refine ⟨_, (pss_cons (ps_fldC (c_Mender T) (n_Mender_sets T) (pv 0) (pe_makeH (mk_Sets T) H_Sets_init (hr.mono (by decide)) (by rfl) (g_Sets T) (pa_cons (pv 1) pa_nil)) rfl)
      (pss_cons (ps_fldC (c_Mender T) (n_Mender_begun_text T) (pv 0) (pv 2) rfl)
      (pss_cons (ps_fldC (c_Mender T) (n_Mender_states T) (pv 0) (pe_listRg rfl (by rfl) (z_list T) (prg_1 (by rfl) (z_range T) (pe_callB call_len_seq (by rfl) (z_len T) (by decide +kernel) (pa_cons (pe_fldC (c_Sets T) (n_Sets_follows T) (pe_fldC (c_Mender T) (n_Mender_sets T) (pv 0))) pa_nil)))) rfl)
      (pss_cons (ps_fldC (c_Mender T) (n_Mender_best T) (pv 0) pe_dnewT rfl)
      (pss_cons (ps_expr (pe_methH0 (c_Mender T) (m_Mender_fill_last T) H_Mender_fill_last (hr.mono (by decide)) (pv 0)))
      (pss_one (ps_for PassesOwn.never rfl (pi_range3 (by rfl) (z_range T) (pa_cons (pe_op op_sub (pe_callB call_len_str (by rfl) (z_len T) (by decide +kernel) (pa_cons (pv 2) pa_nil)) pe_int) (pa_cons (pe_un un_neg pe_int) (pa_cons (pe_un un_neg pe_int) pa_nil)))) (pg_name (i := 3) sc_Mender_init.nd rfl (Or.inl rfl)) (pss_one (ps_expr (pe_methH (c_Mender T) (m_Mender_fill T) H_Mender_fill (hr.mono (by decide)) (pv 0) (pa_cons (pv 3) pa_nil))))))))))), ?_⟩
  refine ⟨_, rfl, fun x dx0 hx hdx hne => ⟨x, dx0, v, p, rfl, upd_same, (hp.mod ((Mod.refl (ms := []).new (o := .own x) hdx).new (by rw [upd_ne hne.symm]; exact hx))), hs, fun H1 m1 sa => ⟨rfl, ?_⟩⟩⟩
  have m0 : Mod [] H (upd (upd H dx0 (.own x)) x (.ins (He.ga K "Sets") dx0 [])) := (Mod.refl (ms := []).new hdx).new (by rw [upd_ne hne.symm]; exact hx)
  have m1 : Mod [] H H1 := m0.step m1 fun b hb => .inr (by rw [List.mem_singleton.mp hb]; exact hx)
  have hsg := p.sg_le
  obtain ⟨dx, lo, fo, e, rw_, pos, ds, ke, ex, elo, efo, fa, ee, kse, _⟩ := sa
  have em := m1.keep _ _ hm (by simp)
  have nm : ∀ {b : Addr} {o : HO}, H1 b = some o → (∀ d fs, o ≠ .ins (He.ga K "Mender") d fs) → b ∉ [m] := fun h n z => by
    rw [List.mem_singleton.mp z, em] at h
    cases h
    exact n _ _ rfl
  have hxm : x ≠ m := (ne_of_none hm hx).symm
  -- self.sets
  refine ⟨_, rfl, m, dm, _, rfl, em, by show 0 < 1000; decide, ?_⟩
  have e2 : upd H1 m (.ins (He.ga K "Mender") dm [("sets", .ref x)]) m = some (.ins (He.ga K "Mender") dm [("sets", .ref x)]) := upd_same
  have m2 : Mod [m] H1 (upd H1 m (.ins (He.ga K "Mender") dm [("sets", .ref x)])) := Mod.refl.put em (fun _ z => nomatch z) (List.mem_singleton.mpr rfl)
  -- self.begun_text
  refine ⟨_, rfl, _, rfl, m, dm, _, rfl, e2, by show 1 < 1000; decide, ?_⟩
  have e3 : upd (upd H1 m (.ins (He.ga K "Mender") dm [("sets", .ref x)])) m (.ins (He.ga K "Mender") dm [("sets", .ref x), ("begun_text", .str z)]) m = some (.ins (He.ga K "Mender") dm [("sets", .ref x), ("begun_text", .str z)]) := upd_same
  have m3 : Mod [m] H1 (upd (upd H1 m (.ins (He.ga K "Mender") dm [("sets", .ref x)])) m (.ins (He.ga K "Mender") dm [("sets", .ref x), ("begun_text", .str z)])) := m2.put e2 (fun _ z => nomatch z) (List.mem_singleton.mpr rfl)
  have ex3 := m3.keep _ _ ex (by simp [hxm])
  have efo3 := m3.keep _ _ efo (nm efo (fun _ _ z => by cases z))
  -- self.states
  refine ⟨_, rfl, m, dm, _, _, rfl, e3, rfl, x, dx, _, _, rfl, ex3, rfl, fo, _, rfl, .inl (SqL.of efo3), _, rfl, ?_⟩
  have eln : (((ds.map V.ref).length : Nat) : Int) = ((p.sg + 1 : Nat) : Int) := by rw [List.length_map, fa.len]
  rw [eln]
  refine ⟨RgOk.of_le (by omega) (by omega) (by omega) (by omega), fun st hst => ?_⟩
  rw [rgV_states]
  have mst : Mod [] _ _ := Mod.refl (ms := []).new (o := .lst (intsV (List.range (p.sg + 1)))) hst
  have e4 := mst.keep _ _ e3 (by simp)
  refine ⟨_, rfl, m, dm, _, rfl, e4, by show 2 < 1000; decide, ?_⟩
  have m5 : Mod [m] H1 (upd _ m (.ins (He.ga K "Mender") dm [("sets", .ref x), ("begun_text", .str z), ("states", .ref st)])) := (m3.trans mst.nil).put e4 (fun _ z => nomatch z) (List.mem_singleton.mpr rfl)
  have nst : st ≠ m := (ne_of_none e3 hst).symm
  have m5s : Mod [m] _ (upd _ m (.ins (He.ga K "Mender") dm [("sets", .ref x), ("begun_text", .str z), ("states", .ref st)])) := Mod.refl.put e4 (fun _ z => nomatch z) (List.mem_singleton.mpr rfl)
  have est := m5s.keep st _ upd_same (by simp [nst])
  -- self.best
  intro b hb
  have mb : Mod [] _ _ := Mod.refl (ms := []).new (o := .dT []) hb
  have e6 := mb.keep m _ upd_same (by simp)
  refine ⟨_, rfl, m, dm, _, rfl, e6, by show 3 < 1000; decide, ?_⟩
  have hbm : b ≠ m := fun z => by rw [z, upd_same] at hb; cases hb
  have m7 : Mod [m] H1 (upd _ m (.ins (He.ga K "Mender") dm [("sets", .ref x), ("begun_text", .str z), ("states", .ref st), ("best", .ref b)])) := (m5.trans mb.nil).put e6 (fun _ z => nomatch z) (List.mem_singleton.mpr rfl)
  have m7s : Mod [m] _ (upd _ m (.ins (He.ga K "Mender") dm [("sets", .ref x), ("begun_text", .str z), ("states", .ref st), ("best", .ref b)])) := Mod.refl.put e6 (fun _ z => nomatch z) (List.mem_singleton.mpr rfl)
  have est7 := m7s.keep st _ (mb.keep _ _ est (by simp)) (by simp [nst])
  have eb7 := m7s.keep b _ upd_same (by simp [hbm])
  have ex7 := m7.keep _ _ ex (by simp [hxm])
  have elo7 := m7.keep _ _ elo (nm elo (fun _ _ z => by cases z))
  have efo7 := m7.keep _ _ efo (nm efo (fun _ _ z => by cases z))
  have ee7 := m7.keep _ _ ee (nm ee (fun _ _ z => by cases z))
  have fa7 := fa.mod m7 fun d hd => by
    obtain ⟨s, hs'⟩ := List.mem_iff_getElem?.mp hd
    obtain ⟨kvs, g, _⟩ := fa.at_ s d hs'
    exact nm g (fun _ _ z => by cases z)
  obtain ⟨a, ea⟩ : ∃ a : MA, a = ⟨m, dm, x, dx, lo, fo, e, st, b, rw_, pos, ds, ke⟩ := ⟨_, rfl⟩
  have mc7 := MenC.mk (K := K) (a := ⟨m, dm, x, dx, lo, fo, e, st, b, rw_, pos, ds, ke⟩) (p := p) (z := z) (by exact upd_same) ex7 elo7 efo7 est7
  rw [← ea] at mc7
  have m7H : Mod [m] H _ := m1.nil.trans m7
  refine ⟨_, rfl, m, dm, _, rfl, upd_same, rfl, ?_⟩
  refine ⟨a, p, z, FolS p, EndS p, by subst ea; rfl, mc7, by subst ea; exact fa7, by subst ea; exact ee7, by subst ea; exact kse, by subst ea; exact eb7, by omega, hz, fun s t => FolS_in, fun H8 kvs8 B8 m8 br8 le8 no8 => ?_⟩
  have eam : a.m = m := by subst ea; rfl
  have eab : a.b = b := by subst ea; rfl
  have hbH : H b = none := (m1.nil.trans m5).back hb
  have hbd : ∀ {H' : Hp} {b' : Addr} {kvs : List (List Key × V)} {x : Addr}, H' b' = some (.dT kvs) → x ∈ [b'] → ∃ o, H' x = some o ∧ isDict o := fun h hx => by
    rw [List.mem_singleton.mp hx]; exact ⟨_, h, trivial⟩
  have m8H : Mod [m] H H8 := m7H.step m8 fun x hx => .inr (by rw [List.mem_singleton.mp hx, eab]; exact hbH)
  have mc8 := mc7.mod m8 fun x hx => by rw [List.mem_singleton.mp hx, eab]; exact ⟨_, eb7, trivial⟩
  have fa8 : FolAt H8 a.ds (FolS p) p.sg := by
    have h : FolAt H8 ds (FolS p) p.sg := fa7.mod m8 fun d hd => by
      obtain ⟨s, hs'⟩ := List.mem_iff_getElem?.mp hd
      obtain ⟨kvs, g, _⟩ := fa7.at_ s d hs'
      rw [eab]
      simp only [List.mem_singleton]
      exact ne_of g eb7 (by intro z; cases z)
    subst ea; exact h
  have ee8 : H8 a.e = some (.dK a.ke) := by
    have h := m8.keep _ _ ee7 (by rw [eab]; simp only [List.mem_singleton]; exact ne_of ee7 eb7 (by intro z; cases z))
    subst ea; exact h
  have ks8 : KS a.ke (EndS p) p.sg := by subst ea; exact kse
  have hb8 : H8 a.b = some (.dT kvs8) := br8.at_
  clear mc7 fa7 ee7 eb7 elo7 efo7 ex7 est7 m7s m7
  have hrg : RgC ((z.length : Nat) - 1) (-1) (-1) z.length := by
    have h := RgC.neg (i := ((z.length : Nat) : Int) - 1) (j := -1) (by omega) (by omega) (by decide) (by decide)
    rw [show (((z.length : Nat) : Int) - 1 - -1).toNat = z.length by omega] at h
    exact h
  refine ⟨_, rfl, z, rfl, le_line (by omega), _, _, rfl, rfl, _, rfl, _, rfl, _, _, _, z.length, rfl, hrg, ?_⟩
  refine for_rangeC (fun i σ H3 => ∃ (y3 : Option V) (B3 : Bt) (kvs3 : List (List Key × V)), σ = [some (.ref m), some v, some (.str z), y3] ∧ Mod [a.b] H8 H3 ∧ BestR H3 a.b B3 z.length p.sg kvs3 ∧ Least z.cps.toList (FolS p) (EndS p) p.lotN p.sg (z.length - i) B3 ∧ ∀ q s, q < z.length - i → B3 q s = none)
    ⟨none, B8, kvs8, rfl, Mod.refl, br8, le8, no8⟩ ?_ ?_
  · rintro i σ H3 hi ⟨y3, B3, kvs3, rfl, m3', br3, le3, no3⟩
    have mc3 := mc8.mod m3' fun x hx => by rw [List.mem_singleton.mp hx]; exact ⟨_, hb8, trivial⟩
    have fa3 := fa8.mod m3' fun d hd z => by
      rw [List.mem_singleton.mp z] at hd
      exact not_in_of fa8 hb8 (fun _ z => by cases z) hd
    obtain ⟨j, hj⟩ : ∃ j, j = z.length - 1 - i := ⟨_, rfl⟩
    have hnum : ((z.length : Nat) : Int) - 1 + ((i : Nat) : Int) * -1 = ((j : Nat) : Int) := by omega
    have emm : H3 m = some (.ins (He.ga K "Mender") a.dm (mendF a z)) := by have := mc3.m; rw [eam] at this; exact this
    refine ⟨_, rfl, m, a.dm, _, rfl, emm, rfl, _, rfl, ?_⟩
    rw [show z.length - i = j + 1 by omega] at le3 no3
    refine ⟨a, p, z, FolS p, j, z.length, B3, kvs3, by rw [eam, ← hnum]; rfl, mc3, fa3, br3, fun s => no3 _ s (by omega), by omega, hz, by omega, by omega, hz, fun s t => FolS_in, fun H4 kvs4 B4 m4 br4 le4 ot4 => ?_⟩
    refine ⟨_, B4, kvs4, rfl, m3'.trans m4, br4, ?_, fun q s hq => ?_⟩
    · rw [show z.length - (i + 1) = j by omega]; exact le4 _ le3
    · rw [ot4 q s (by omega)]; exact no3 q s (by omega)
  · rintro σ H3 ⟨y3, B3, kvs3, rfl, m3', br3, le3, no3⟩
    rw [Nat.sub_self] at le3
    have mc3 := mc8.mod m3' fun x hx => by rw [List.mem_singleton.mp hx]; exact ⟨_, hb8, trivial⟩
    have fa3 := fa8.mod m3' fun d hd z => by
      rw [List.mem_singleton.mp z] at hd
      exact not_in_of fa8 hb8 (fun _ z => by cases z) hd
    refine q H3 a B3 kvs3 (m8H.step m3' fun x hx => .inr (by rw [List.mem_singleton.mp hx, eab]; exact hbH)) eam ⟨mc3, fa3, m3'.keep _ _ ee8 (fun z => ?_), ks8, br3, le3⟩
    rw [List.mem_singleton.mp z, hb8] at ee8
    cases ee8
end
end Fr

set_option maxHeartbeats 4000000
namespace Fr
open PySem PySem.Spec PyProof.Rows L2
theorem hu64 {A : Around} {k : Nat} (hr : Room k A) : A.units + 64 < cLine := by have := hr.un; omega
/-- the least number that C holds of, if any -/
def IsMin (C : Nat → Prop) : Option Nat → Prop
  | none => ∀ n, ¬ C n
  | some n => C n ∧ ∀ m, C m → n ≤ m
theorem IsMin.uniq {C : Nat → Prop} : ∀ {o o' : Option Nat}, IsMin C o → IsMin C o' → o = o'
  | none, none, _, _ => rfl
  | none, some n, h, h' => absurd h'.1 (h n)
  | some n, none, h, h' => absurd h.1 (h' n)
  | some n, some m, h, h' => by rw [Nat.le_antisymm (h.2 m h'.1) (h'.2 n h.1)]
theorem IsMin.imp {C D : Nat → Prop} (e : ∀ n, C n ↔ D n) : ∀ {o : Option Nat}, IsMin C o → IsMin D o
  | none, h => fun n d => h n ((e n).mpr d)
  | some n, h => ⟨(e n).mp h.1, fun m d => h.2 m ((e m).mpr d)⟩
/-- what it may cost to make a text one that is read -/
def Cost (p : Pat) (z : List Nat) (n : Nat) : Prop := ∃ q, Way z (FolS p) (EndS p) p.lotN 0 0 n q
theorem Least.min {p : Pat} {z : List Nat} {N : Nat} {B : Bt} (h : Least z (FolS p) (EndS p) p.lotN N 0 B) : IsMin (Cost p z) ((B 0 0).map (·.1)) := by
  cases e : B 0 0 with
  | none => intro n ⟨q, w⟩; obtain ⟨u, h1, _⟩ := h.least 0 0 n q (Nat.le_refl _) (Nat.zero_le _) w; rw [e] at h1; cases h1
  | some u =>
    refine ⟨⟨u.2, h.sound 0 0 u (Nat.le_refl _) e⟩, fun m ⟨q, w⟩ => ?_⟩
    obtain ⟨u', h1, h2⟩ := h.least 0 0 m q (Nat.le_refl _) (Nat.zero_le _) w
    rw [e] at h1
    cases h1
    unfold le2 at h2
    simp only at h2
    show u.1 ≤ m
    omega
theorem cost_iff {p : Pat} {z : List Nat} {n : Nat} : Cost p z n ↔ Mend p z n := by
  have hl : LotsAt p.lotN p 0 := lots_at_of p 0 fun i hi => by
    have h1 : i < p.lots.length := by rw [Pat.lots_len]; exact hi
    unfold Pat.lotN
    rw [show 0 + 1 + i - 1 = i by omega, List.getD_eq_getElem?_getD, List.getElem?_eq_getElem h1]
    rfl
  rw [← acc_iff p 0 z n hl]
  constructor
  · rintro ⟨q, w⟩
    obtain ⟨t, h1, h2⟩ := w.run
    rw [List.drop_zero] at h2
    exact ⟨t, h1, h2⟩
  · rintro ⟨t, h1, h2⟩
    exact h2.way h1 0 (by rw [List.drop_zero]) (Nat.zero_le _)
section
variable {P : Program} {w : World} {K : PySem.W.Frag} {mg : Str → Option Value} {base : Heap}
/-- a pair told, or none -/
def OptT (H : Hp) (v : V) : Option (Nat × Nat) → Prop
  | none => v = .non
  | some u => ∃ t, v = .ref t ∧ H t = some (.tup [.int (u.1 : Nat), .int (u.2 : Nat)])
def optV : Option Nat → V
  | none => .non
  | some n => .int (n : Nat)
def spLeast (K : PySem.W.Frag) : Sp := fun vs H Q _ => ∃ (a : MA) (z : Str) (B : Bt) (L N : Nat) (kvs : List (List Key × V)), vs = [.ref a.m] ∧ H a.m = some (.ins (He.ga K "Mender") a.dm (mendF a z)) ∧ BestR H a.b B L N kvs ∧
  ∀ H' v, Mod [] H H' → OptT H' v (B 0 0) → Q v H'
theorem has_Mender_least (T : Tx w K mg) : HasM P w K mg base 1 "Mender" "least" ["self"] (spLeast K) := by
  refine (T.has (d := d_Mender_least) 18 rfl rfl rfl rfl b_Mender_least sc_Mender_least (fun vs H Q E h => ?_) fun cdv A outer s H vs Q E hr h => ?_)
  · obtain ⟨_, _, _, _, _, _, rfl, _⟩ := h; rfl
  obtain ⟨a, z, B, L, N, kvs, rfl, hm, br, q⟩ := h
  refine ⟨_, (pss_one (ps_ret (pe_dget2 (hu_of hr) (pe_fldC (c_Mender T) (n_Mender_best T) (pv 0)) (pe_tup (pa_cons pe_int (pa_cons pe_int pa_nil))) pe_non ⟨rfl, rfl, rfl, rfl⟩))), ?_⟩
  refine ⟨_, rfl, a.m, a.dm, _, _, rfl, hm, rfl, a.b, rfl, .inr ⟨kvs, .inl br.at_⟩, ln2, fun t1 ht1 => ⟨_, DGet.t (k := bk 0 0) ((Mod.refl (ms := []).new ht1).keep _ _ br.at_ (by simp)) upd_same, ?_⟩⟩
  have mt : Mod [] H _ := Mod.refl (ms := []).new (o := .tup [.int (0 : Nat), .int (0 : Nat)]) ht1
  have br1 := br.mod mt (by simp)
  refine q _ _ mt ?_
  cases hB : B 0 0 with
  | none => rw [br1.none hB]; rfl
  | some u => obtain ⟨t, h1, h2⟩ := br1.some hB; rw [h1]; exact ⟨t, rfl, h2⟩
def spMendPrice : Sp := fun vs H Q _ => ∃ (v : V) (p : Pat) (z : Str), vs = [v, .str z] ∧ IsP H v p ∧ p.Ok ∧ p.size ≤ 60 ∧ p.deep ≤ 15 ∧ IsText z ∧ ∀ H' o, Mod [] H H' → IsMin (Mend p z.cps.toList) o → Q (optV o) H'
theorem has_mend_price (T : Tx w K mg) : Has P w K mg base 7 "mend_price" ["pattern", "text"] spMendPrice := by
  have H_check_pattern := has_check_pattern (P := P) (base := base) T
  have H_check_text := has_check_text (P := P) (base := base) T
  have H_Mender_init := has_Mender_init (P := P) (base := base) T
  have H_Mender_least := has_Mender_least (P := P) (base := base) T
  refine (T.has (d := d_mend_price) 23 rfl rfl rfl rfl b_mend_price sc_mend_price (fun vs H Q E h => ?_) fun cdv A outer s H vs Q E hr h => ?_)
  · obtain ⟨_, _, _, rfl, _⟩ := h; rfl
  obtain ⟨v, p, z, rfl, hp, ok, hs, hd, hz, q⟩ := h
  refine ⟨_, (pss_cons (ps_expr (pe_callH H_check_pattern (hr.mono (by decide)) (by rfl) (g_check_pattern T) (pa_cons (pv 0) pa_nil)))
      (pss_cons (ps_expr (pe_callH H_check_text (hr.mono (by decide)) (by rfl) (g_check_text T) (pa_cons (pv 1) pa_nil)))
      (pss_cons (ps_set (i := 2) sc_mend_price.nd rfl (Or.inl rfl) (pe_methH0 (c_Mender T) (m_Mender_least T) H_Mender_least (hr.mono (by decide)) (pe_makeH (mk_Mender T) H_Mender_init (hr.mono (by decide)) (by rfl) (g_Mender T) (pa_cons (pv 0) (pa_cons (pv 1) pa_nil)))))
      (pss_one (ps_ret (pe_ifExp (pt_cmpR op_isN (pv 2) pe_non (nomark _)) pe_non (pe_ix ix_tup (pv 2) pe_int (fun _ _ => rfl)))))))), ?_⟩
  refine ⟨_, rfl, p, v, rfl, hp, ok, hs, hd, fun H1 m1 => ?_⟩
  refine ⟨_, rfl, z, rfl, hz, fun H2 m2 => ?_⟩
  have m02 := m1.trans m2
  refine ⟨_, rfl, _, rfl, fun x dx hx hdx hne => ?_⟩
  have m3 : Mod [] H2 (upd (upd H2 dx (.own x)) x (.ins (He.ga K "Mender") dx [])) := (Mod.refl (ms := []).new hdx).new (by rw [upd_ne hne.symm]; exact hx)
  refine ⟨x, dx, v, p, z, rfl, upd_same, hp.mod (m02.trans m3), hs, hz.1, fun H4 a B kvs m4 eam ma => ⟨rfl, x, a.dm, _, rfl, by have := ma.c.m; rw [eam] at this; exact this, rfl, ?_⟩⟩
  refine ⟨a, z, B, _, _, kvs, by rw [eam]; rfl, ma.c.m, ma.br, fun H5 v5 m5 ot => ?_⟩
  have m04 : Mod [] H H4 := (m02.trans m3).step m4 fun b hb => .inr (by rw [List.mem_singleton.mp hb]; exact m02.back hx)
  have mn := ma.le.min.imp fun n => cost_iff
  have fin := q H5 _ (m04.trans m5) mn
  cases hB : B 0 0 with
  | none =>
    rw [hB] at ot fin
    obtain rfl : v5 = .non := ot
    exact ⟨_, rfl, rfl, _, rfl, iteTe (by simp) fin⟩
  | some u =>
    rw [hB] at ot fin
    obtain ⟨t, rfl, ht⟩ := ot
    exact ⟨_, rfl, rfl, _, rfl, iteFe (by simp) ⟨_, rfl, t, _, 0, _, rfl, rfl, SqT.of ht, rfl, fin⟩⟩
end
end Fr

set_option maxHeartbeats 2000000
/-! Rows of prices between two texts. -/
namespace Fr
open PySem PySem.Spec PyProof.Rows L2
/-- the next row of prices between -/
def edNext (c : Nat) (y : List Nat) (i : Nat) (r : Nat → Nat) : Nat → Nat
  | 0 => i + 1
  | j + 1 => min (min (r (j + 1) + 1) (edNext c y i r j + 1)) (r j + (if c = y.getD j 0 then 0 else 1))
/-- the price between the first i of x and the first j of y -/
def ed (x y : List Nat) : Nat → Nat → Nat
  | 0 => fun j => j
  | i + 1 => edNext (x.getD i 0) y i (ed x y i)
def rowV (n : Nat) (r : Nat → Nat) : List V := (List.range n).map fun j => V.int (r j : Nat)
theorem rowV_at {n : Nat} {r : Nat → Nat} {j : Nat} (h : j < n) : (rowV n r)[j]? = some (.int (r j : Nat)) := by
  unfold rowV; rw [List.getElem?_map, List.getElem?_range h]; rfl
theorem rowV_succ {n : Nat} {r : Nat → Nat} : rowV (n + 1) r = rowV n r ++ [.int (r n : Nat)] := by
  unfold rowV; rw [List.range_succ, List.map_append]; rfl
theorem rowV_len {n : Nat} {r : Nat → Nat} : (rowV n r).length = n := by unfold rowV; rw [List.length_map, List.length_range]
theorem min2i {a b : Nat} : (if ((b : Nat) : Int) < ((a : Nat) : Int) then ((b : Nat) : Int) else ((a : Nat) : Int)) = ((min a b : Nat) : Int) := by
  split <;> omega
end Fr

set_option maxHeartbeats 2000000
/-! Lists of numbers as data. -/
namespace Fr
open PySem PySem.Spec PyProof.Rows L2
theorem ints_dp {K : PySem.W.Frag} {H : Hp} : ∀ ns : List Nat, DpAll K H (intsV ns) (ns.map fun (n : Nat) => PyData.int (n : Int))
  | [] => .nil
  | n :: ns => .cons (.int _) (ints_dp ns)
theorem ints_lay : ∀ ns : List Nat, PyData.canLayAll0 (ns.map fun (n : Nat) => PyData.int (n : Int)) = true
  | [] => by simp [PyData.canLayAll0]
  | n :: ns => by simp only [List.map_cons, PyData.canLayAll0, PyData.canLay0, ints_lay ns, Bool.and_self]
theorem ints_depth : ∀ ns : List Nat, PyData.depthAll (ns.map fun (n : Nat) => PyData.int (n : Int)) ≤ 2
  | [] => by simp [PyData.depthAll]
  | n :: ns => by
    have h1 := ints_depth ns
    have h2 : PyData.depth (.int (n : Int)) ≤ 1 := by simp [PyData.depth]
    simp only [List.map_cons, PyData.depthAll]
    omega
theorem ints_shaped (ns : List Nat) : SeqAt.shaped (.list (ns.map fun (n : Nat) => PyData.int (n : Int))) = true := by
  have h1 := ints_depth ns
  have h2 : PyData.depth (.list (ns.map fun (n : Nat) => PyData.int (n : Int))) ≤ 64 := by
    simp only [PyData.depth]
    omega
  show (PyData.canLay0 (.list (ns.map fun (n : Nat) => PyData.int (n : Int))) && decide (PyData.depth (.list (ns.map fun (n : Nat) => PyData.int (n : Int))) ≤ 64)) = true
  rw [Bool.and_eq_true]
  exact ⟨by simp only [PyData.canLay0]; exact ints_lay ns, decide_eq_true h2⟩
end Fr

set_option maxHeartbeats 2000000
/-! Alignments of two texts, the least of them; texts that are read. -/
namespace Fr
inductive Al : List Nat → List Nat → Nat → Prop where
  | nil : Al [] [] 0
  | put {x y : List Nat} {c n : Nat} (h : Al x y n) : Al x (c :: y) (n + 1)
  | take {x y : List Nat} {a n : Nat} (h : Al x y n) : Al (a :: x) y (n + 1)
  | chg {x y : List Nat} {a c n : Nat} (h : Al x y n) : Al (a :: x) (c :: y) (n + (if a = c then 0 else 1))
theorem Al.of {x y : List Nat} {n m : Nat} (h : Al x y n) (e : n = m) : Al x y m := e ▸ h
theorem Al.append {x y x' y' : List Nat} {n m : Nat} (h : Al x y n) (k : Al x' y' m) : Al (x ++ x') (y ++ y') (n + m) := by
  induction h with
  | nil => exact k.of (by omega)
  | put _ ih => exact ih.put.of (by omega)
  | take _ ih => exact ih.take.of (by omega)
  | chg _ ih => exact ih.chg.of (by omega)
theorem Al.reverse {x y : List Nat} {n : Nat} (h : Al x y n) : Al x.reverse y.reverse n := by
  induction h with
  | nil => exact .nil
  | @put x y c n _ ih =>
    rw [List.reverse_cons]
    have := ih.append (Al.put (c := c) .nil)
    rw [List.append_nil] at this
    exact this
  | @take x y a n _ ih =>
    rw [List.reverse_cons]
    have := ih.append (Al.take (a := a) .nil)
    rw [List.append_nil] at this
    exact this
  | @chg x y a c n _ ih =>
    rw [List.reverse_cons, List.reverse_cons]
    exact (ih.append (Al.chg (a := a) (c := c) .nil)).of (by omega)
theorem Al.symm {x y : List Nat} {n : Nat} (h : Al x y n) : Al y x n := by
  induction h with
  | nil => exact .nil
  | put _ ih => exact ih.take
  | take _ ih => exact ih.put
  | @chg x y a c n _ ih => exact (ih.chg (a := c) (c := a)).of (by
    by_cases q : a = c
    · subst q; rfl
    · rw [if_neg q, if_neg (Ne.symm q)])
theorem Al.refl : ∀ x : List Nat, Al x x 0
  | [] => .nil
  | a :: x => (Al.chg (a := a) (c := a) (Al.refl x)).of (by rw [if_pos rfl])
theorem Al.nil_left {y : List Nat} {n : Nat} (h : Al [] y n) : n = y.length := by
  generalize e : ([] : List Nat) = x at h
  induction h with
  | nil => rfl
  | put _ ih => rw [ih e]; rfl
  | take _ _ => cases e
  | chg _ _ => cases e
theorem Al.zero {x y : List Nat} {n : Nat} (h : Al x y n) : n = 0 → x = y := by
  induction h with
  | nil => intro _; rfl
  | put _ _ => intro e; omega
  | take _ _ => intro e; omega
  | @chg x y a c n _ ih =>
    intro e
    by_cases q : a = c
    · rw [if_pos q] at e; rw [ih (by omega), q]
    · rw [if_neg q] at e; omega
/-- from the end -/
theorem Al.snoc_cases {x y : List Nat} {a c n : Nat} (h : Al (x ++ [a]) (y ++ [c]) n) : (∃ m, n = m + 1 ∧ Al (x ++ [a]) y m) ∨ (∃ m, n = m + 1 ∧ Al x (y ++ [c]) m) ∨ ∃ m, n = m + (if a = c then 0 else 1) ∧ Al x y m := by
  have h := h.reverse
  rw [List.reverse_append, List.reverse_append] at h
  have h2 : Al (a :: x.reverse) (c :: y.reverse) n := h
  clear h
  have r : ∀ {l : List Nat} {b : Nat}, (b :: l.reverse).reverse = l ++ [b] := by intro l b; rw [List.reverse_cons, List.reverse_reverse]
  cases h2 with
  | @put _ _ _ m h3 =>
    refine .inl ⟨m, rfl, ?_⟩
    have := h3.reverse
    rw [r, List.reverse_reverse] at this
    exact this
  | @take _ _ _ m h3 =>
    refine .inr (.inl ⟨m, rfl, ?_⟩)
    have := h3.reverse
    rw [r, List.reverse_reverse] at this
    exact this
  | @chg _ _ _ _ m h3 =>
    refine .inr (.inr ⟨m, rfl, ?_⟩)
    have := h3.reverse
    rw [List.reverse_reverse, List.reverse_reverse] at this
    exact this
theorem take_snoc {l : List Nat} {i : Nat} (h : i < l.length) : l.take (i + 1) = l.take i ++ [l.getD i 0] := by
  rw [List.take_add_one, List.getD_eq_getElem?_getD, List.getElem?_eq_getElem h]; rfl
/-- the price between is one of an alignment, and no other is less -/
theorem ed_al {x y : List Nat} : ∀ i j, i ≤ x.length → j ≤ y.length → Al (x.take i) (y.take j) (ed x y i j)
  | 0, j, _, hj => by
    rw [List.take_zero]
    show Al [] (y.take j) j
    have key : ∀ l : List Nat, Al [] l l.length := fun l => by induction l with | nil => exact .nil | cons _ _ ih => exact ih.put
    exact (key (y.take j)).of (by rw [List.length_take]; omega)
  | i + 1, 0, hi, _ => by
    rw [List.take_zero]
    show Al (x.take (i + 1)) [] (i + 1)
    have key : ∀ l : List Nat, Al l [] l.length := fun l => by induction l with | nil => exact .nil | cons _ _ ih => exact ih.take
    exact (key _).of (by rw [List.length_take]; omega)
  | i + 1, j + 1, hi, hj => by
    show Al _ _ (min (min (ed x y i (j + 1) + 1) (ed x y (i + 1) j + 1)) (ed x y i j + (if x.getD i 0 = y.getD j 0 then 0 else 1)))
    have e1 := take_snoc (l := x) (i := i) (by omega)
    have e2 := take_snoc (l := y) (i := j) (by omega)
    have h1 := (ed_al (x := x) (y := y) i (j + 1) (by omega) hj).append (Al.take (a := x.getD i 0) .nil)
    have h2 := (ed_al (x := x) (y := y) (i + 1) j hi (by omega)).append (Al.put (c := y.getD j 0) .nil)
    have h3 := (ed_al (x := x) (y := y) i j (by omega) (by omega)).append (Al.chg (a := x.getD i 0) (c := y.getD j 0) .nil)
    rw [← e1, List.append_nil] at h1
    rw [← e2, List.append_nil] at h2
    rw [← e1, ← e2] at h3
    have key : ∀ a b c : Nat, min (min a b) c = a ∨ min (min a b) c = b ∨ min (min a b) c = c := by intro a b c; omega
    rcases key (ed x y i (j + 1) + 1) (ed x y (i + 1) j + 1) (ed x y i j + (if x.getD i 0 = y.getD j 0 then 0 else 1)) with q | q | q
    · rw [q]; exact h1.of (by omega)
    · rw [q]; exact h2.of (by omega)
    · rw [q]; exact h3.of (by omega)
theorem ed_le {x y : List Nat} : ∀ i j n, i ≤ x.length → j ≤ y.length → Al (x.take i) (y.take j) n → ed x y i j ≤ n
  | 0, j, n, _, hj, h => by
    rw [List.take_zero] at h
    have := h.nil_left
    rw [List.length_take] at this
    show j ≤ n
    omega
  | i + 1, 0, n, hi, _, h => by
    rw [List.take_zero] at h
    have := h.symm.nil_left
    rw [List.length_take] at this
    show i + 1 ≤ n
    omega
  | i + 1, j + 1, n, hi, hj, h => by
    have e1 := take_snoc (l := x) (i := i) (by omega)
    have e2 := take_snoc (l := y) (i := j) (by omega)
    show (min (min (ed x y i (j + 1) + 1) (ed x y (i + 1) j + 1)) (ed x y i j + (if x.getD i 0 = y.getD j 0 then 0 else 1))) ≤ n
    rw [e1, e2] at h
    rcases h.snoc_cases with ⟨m, e, k⟩ | ⟨m, e, k⟩ | ⟨m, e, k⟩
    · rw [← e1] at k
      have := ed_le (i + 1) j m hi (by omega) k
      omega
    · rw [← e2] at k
      have := ed_le i (j + 1) m (by omega) hj k
      omega
    · have := ed_le i j m (by omega) (by omega) k
      omega
/-- the price between two texts -/
def edT (x y : List Nat) : Nat := ed x y x.length y.length
theorem edT_al (x y : List Nat) : Al x y (edT x y) := by
  have := ed_al (x := x) (y := y) x.length y.length (Nat.le_refl _) (Nat.le_refl _)
  rw [List.take_length, List.take_length] at this
  exact this
theorem edT_le {x y : List Nat} {n : Nat} (h : Al x y n) : edT x y ≤ n := ed_le x.length y.length n (Nat.le_refl _) (Nat.le_refl _) (by rw [List.take_length, List.take_length]; exact h)
theorem edT_symm (x y : List Nat) : edT x y = edT y x := Nat.le_antisymm (edT_le (edT_al y x).symm) (edT_le (edT_al x y).symm)
theorem edT_self (x : List Nat) : edT x x = 0 := Nat.le_zero.mp (edT_le (.refl x))
theorem edT_zero {x y : List Nat} (h : edT x y = 0) : x = y := (edT_al x y).zero h
theorem Al.trans {x y : List Nat} {n : Nat} (h : Al x y n) : ∀ {z : List Nat} {m : Nat}, Al y z m → ∃ k, k ≤ n + m ∧ Al x z k := by
  induction h with
  | nil => intro z m k; exact ⟨m, by omega, k⟩
  | @put x y c n h ih =>
    intro z m k
    have key : ∀ {y' z m}, Al y' z m → y' = c :: y → ∃ k, k ≤ n + 1 + m ∧ Al x z k := by
      intro y' z m k
      induction k with
      | nil => intro e; cases e
      | put _ ih2 => intro e; obtain ⟨k, h1, h2⟩ := ih2 e; exact ⟨k + 1, by omega, h2.put⟩
      | take k _ => intro e; cases e; obtain ⟨k, h1, h2⟩ := ih k; exact ⟨k, by omega, h2⟩
      | chg k _ => intro e; cases e; obtain ⟨k, h1, h2⟩ := ih k; exact ⟨k + 1, by omega, h2.put⟩
    exact key k rfl
  | take _ ih => intro z m k; obtain ⟨k, h1, h2⟩ := ih k; exact ⟨k + 1, by omega, h2.take⟩
  | @chg x y a c n h ih =>
    intro z m k
    have key : ∀ {y' z m}, Al y' z m → y' = c :: y → ∃ k, k ≤ n + (if a = c then 0 else 1) + m ∧ Al (a :: x) z k := by
      intro y' z m k
      induction k with
      | nil => intro e; cases e
      | put _ ih2 => intro e; obtain ⟨k, h1, h2⟩ := ih2 e; exact ⟨k + 1, by omega, h2.put⟩
      | take k _ => intro e; cases e; obtain ⟨k, h1, h2⟩ := ih k; exact ⟨k + 1, by omega, h2.take⟩
      | @chg _ _ b d m' k _ =>
        intro e; cases e
        obtain ⟨k, h1, h2⟩ := ih k
        refine ⟨k + (if a = d then 0 else 1), ?_, h2.chg⟩
        by_cases q1 : a = c
        · by_cases q2 : c = d
          · rw [if_pos q1, if_pos q2, if_pos (q1.trans q2)]; omega
          · rw [if_pos q1, if_neg q2]; split <;> omega
        · rw [if_neg q1]; split <;> omega
    exact key k rfl
theorem edT_tri (x y z : List Nat) : edT x z ≤ edT x y + edT y z := by
  obtain ⟨k, h1, h2⟩ := (edT_al x y).trans (edT_al y z)
  exact Nat.le_trans (edT_le h2) h1
/-! ### ways and texts that are read -/
/-- the pattern reads the text -/
def Reads (p : Pat) (u : List Nat) : Prop := Mend p u 0
section
variable {z : List Nat} {F : Nat → Nat → Prop} {E : Nat → Prop} {lot : Nat → List Nat}
theorem Path.al {p s : Nat} {es : List Edit} {p2 s2 : Nat} (h : Path z F lot p s es p2 s2) : ∀ n, Al (z.drop p2) [] n → Al (z.drop p) (tolds es) (prices es + n) := by
  induction h with
  | nil => intro n k; exact k.of (by simp [prices])
  | @cons p s p1 s1 p2 s2 e es h k ih =>
    intro n kn
    have a := ih n kn
    rw [tolds_cons, prices_cons]
    have dr : ∀ {x : Nat}, z[p]? = some x → z.drop p = x :: z.drop (p + 1) := fun {x} hx => by
      obtain ⟨h1, h2⟩ := List.getElem?_eq_some_iff.mp hx
      rw [List.drop_eq_getElem_cons h1, h2]
    cases h with
    | take hx => rw [dr hx]; exact a.take.of (by show _ = 1 + prices es + n; omega)
    | put f m => exact a.put.of (by show _ = 1 + prices es + n; omega)
    | keep f m hx => rw [dr hx]; exact a.chg.of (by rw [if_pos rfl]; show _ = 0 + prices es + n; omega)
    | chg f m hx ne => rw [dr hx]; exact a.chg.of (by rw [if_neg ne]; show _ = 1 + prices es + n; omega)
theorem WayE.al {es : List Edit} (h : WayE z F E lot 0 0 es) : Al z (tolds es) (prices es) := by
  obtain ⟨t, _, w⟩ := h
  have := Path.al w 0 (by rw [List.drop_length]; exact .nil)
  rw [List.drop_zero] at this
  exact this
theorem Run.free {s t u c : Nat} {y : List Nat} (f : F s t) (m : c ∈ lot t) (k : Run F lot t y u 0) : Run F lot s (c :: y) u 0 := by
  have := Run.step (x := c) f k
  rw [if_pos m] at this
  exact this
theorem Path.run {p s : Nat} {es : List Edit} {p2 s2 : Nat} (h : Path z F lot p s es p2 s2) : Run F lot s (tolds es) s2 0 := by
  induction h with
  | nil => exact .nil
  | @cons p s p1 s1 p2 s2 e es h k ih =>
    rw [tolds_cons]
    cases h with
    | take hx => exact ih
    | put f m => exact Run.free f m ih
    | keep f m hx => exact Run.free f m ih
    | chg f m hx ne => exact Run.free f m ih
/-- a run that costs nothing and an alignment make a way -/
theorem run_way {y v : List Nat} {n : Nat} (h : Al y v n) : ∀ {p s t : Nat}, y = z.drop p → p ≤ z.length → Run F lot s v t 0 → E t → ∃ es, WayE z F E lot p s es ∧ prices es = n ∧ tolds es = v := by
  have r0 : ∀ {s t n : Nat}, Run F lot s [] t n → n = 0 → s = t := by
    intro s t n r
    generalize e : ([] : List Nat) = l at r
    cases r with
    | nil => intro _; rfl
    | put _ _ => intro e; omega
    | take _ => cases e
    | step _ _ => cases e
  have rc : ∀ {s t c n : Nat} {v : List Nat}, Run F lot s (c :: v) t n → n = 0 → ∃ s1, F s s1 ∧ c ∈ lot s1 ∧ Run F lot s1 v t 0 := by
    intro s t c n v r
    generalize e : c :: v = l at r
    cases r with
    | nil => cases e
    | put _ _ => intro e; omega
    | take _ => intro e; omega
    | @step s t1 u n x z h k =>
      cases e
      intro e
      by_cases q : c ∈ lot t1
      · rw [if_pos q] at e; have : n = 0 := by omega
        subst this; exact ⟨t1, h, q, k⟩
      · rw [if_neg q] at e; omega
  induction h with
  | nil =>
    intro p s t hy hp r ht
    have : z.length ≤ p := List.drop_eq_nil_iff.mp hy.symm
    have e : p = z.length := by omega
    subst e
    exact ⟨[], ⟨t, ht, by rw [r0 r rfl]; exact .nil⟩, rfl, rfl⟩
  | put _ ih =>
    intro p s t hy hp r ht
    obtain ⟨s1, f, m, r⟩ := rc r rfl
    obtain ⟨es, w, h1, h2⟩ := ih hy hp r ht
    exact ⟨_, w.cons (.put f m), by rw [prices_cons, h1]; show 1 + _ = _; omega, by rw [tolds_cons, h2]; rfl⟩
  | @take x y a n _ ih =>
    intro p s t hy hp r ht
    have hlt : p < z.length := by
      rcases Nat.lt_or_ge p z.length with h | h
      · exact h
      · rw [List.drop_eq_nil_iff.mpr h] at hy; cases hy
    rw [List.drop_eq_getElem_cons hlt] at hy
    injection hy with e1 e2
    obtain ⟨es, w, h1, h2⟩ := ih e2 hlt r ht
    exact ⟨_, w.cons (.take (List.getElem?_eq_getElem hlt)), by rw [prices_cons, h1]; show 1 + _ = _; omega, by rw [tolds_cons, h2]; rfl⟩
  | @chg x y a c n _ ih =>
    intro p s t hy hp r ht
    have hlt : p < z.length := by
      rcases Nat.lt_or_ge p z.length with h | h
      · exact h
      · rw [List.drop_eq_nil_iff.mpr h] at hy; cases hy
    rw [List.drop_eq_getElem_cons hlt] at hy
    injection hy with e1 e2
    have hx : z[p]? = some a := by rw [List.getElem?_eq_getElem hlt, e1]
    obtain ⟨s1, f, m, r⟩ := rc r rfl
    obtain ⟨es, w, h1, h2⟩ := ih e2 hlt r ht
    by_cases q : a = c
    · subst q
      exact ⟨_, w.cons (.keep f m hx), by rw [prices_cons, h1, if_pos rfl]; show 0 + _ = _; omega, by rw [tolds_cons, h2]; rfl⟩
    · exact ⟨_, w.cons (.chg f m hx q), by rw [prices_cons, h1, if_neg q]; show 1 + _ = _; omega, by rw [tolds_cons, h2]; rfl⟩
end
/-! ### the least text -/
structure BestT (p : Pat) (z u : List Nat) (c : Nat) : Prop where
  reads : Reads p u
  price : edT z u = c
  least : ∀ v, Reads p v → c ≤ edT z v
  short : ∀ v, Reads p v → edT z v = c → u.length ≤ v.length
  lex : ∀ v, Reads p v → edT z v = c → v.length = u.length → ∀ i a b, u.take i = v.take i → u[i]? = some a → v[i]? = some b → a ≤ b
theorem lots_at (p : Pat) : LotsAt p.lotN p 0 := lots_at_of p 0 fun i hi => by
  have h1 : i < p.lots.length := by rw [Pat.lots_len]; exact hi
  unfold Pat.lotN
  rw [show 0 + 1 + i - 1 = i by omega, List.getD_eq_getElem?_getD, List.getElem?_eq_getElem h1]
  rfl
theorem Reads.run {p : Pat} {u : List Nat} : Reads p u ↔ ∃ t, EndS p t ∧ Run (FolS p) p.lotN 0 u t 0 := (acc_iff p 0 u 0 (lots_at p)).symm
theorem tolds_split : ∀ {es : List Edit} {w1 w2 : List Nat}, tolds es = w1 ++ w2 → ∃ es1 es2, es = es1 ++ es2 ∧ tolds es1 = w1
  | es, [], _, _ => ⟨[], es, rfl, rfl⟩
  | [], c :: w, _, h => by cases h
  | e :: es, c :: w, w2, h => by
    rw [tolds_cons] at h
    cases hto : e.told with
    | none =>
      rw [hto] at h
      obtain ⟨es1, es2, h1, h2⟩ := tolds_split (es := es) (w1 := c :: w) h
      exact ⟨e :: es1, es2, by rw [h1]; rfl, by rw [tolds_cons, hto]; exact h2⟩
    | some d =>
      rw [hto] at h
      have hd : d = c := by injection h
      have hr : tolds es = w ++ w2 := by injection h
      obtain ⟨es1, es2, h1, h2⟩ := tolds_split (es := es) (w1 := w) hr
      exact ⟨e :: es1, es2, by rw [h1]; rfl, by rw [tolds_cons, hto, h2, hd]; rfl⟩
section
variable {p : Pat} {z : List Nat} {N : Nat} {B : Bt}
/-- each text that is read is reached by some way -/
theorem Reads.way {v : List Nat} {n : Nat} (h : Reads p v) (a : Al z v n) : ∃ es, WayE z (FolS p) (EndS p) p.lotN 0 0 es ∧ prices es = n ∧ tolds es = v := by
  obtain ⟨t, ht, r⟩ := Reads.run.mp h
  exact run_way a (by rw [List.drop_zero]) (Nat.zero_le _) r ht
theorem Reads.mend {v : List Nat} {n : Nat} (h : Reads p v) (a : Al z v n) : ∃ m, m ≤ n ∧ Mend p z m := by
  obtain ⟨es, w, h1, h2⟩ := h.way a
  obtain ⟨c, hc, w'⟩ := w.way
  exact ⟨c, by rw [← h1]; exact hc, cost_iff.mp ⟨_, w'⟩⟩
theorem Least.texts (hL : Least z (FolS p) (EndS p) p.lotN N 0 B) {c q : Nat} (h0 : B 0 0 = some (c, q)) {v : List Nat} {n : Nat} (h : Reads p v) (a : Al z v n) : le2 (c, q) (n, v.length) := by
  obtain ⟨es, w, h1, h2⟩ := h.way a
  obtain ⟨c', hc, w'⟩ := w.way
  obtain ⟨u, h3, h4⟩ := hL.least 0 0 _ _ (Nat.le_refl _) (Nat.zero_le _) w'
  rw [h0] at h3
  cases h3
  rw [h2] at h4
  unfold le2 at *
  simp only at *
  omega
theorem Least.bestT (hL : Least z (FolS p) (EndS p) p.lotN N 0 B) (hN : ∀ s t, FolS p s t → t ≤ N) (hl : ∀ s t, FolS p s t → p.lotN t ≠ []) {c q : Nat} (h0 : B 0 0 = some (c, q)) {u : List Nat} {k : Nat × Nat} (hk : Lay z (FolS p) p.lotN B u k) (hu : u.length = q)
    (hg : ∀ i d, u[i]? = some d → ∀ e, e < d → ¬ ∃ k1 k2, Lay z (FolS p) p.lotN B (u.take i) k1 ∧ Sg z (FolS p) p.lotN B e k1 k2) : BestT p z u c := by
  obtain ⟨es, t, ht, w, h1, h2⟩ := hk.done hL hN hl h0 hu
  have hr : Reads p u := Reads.run.mpr ⟨t, ht, by rw [← h2]; exact Path.run w.path⟩
  have ha : Al z u c := by
    have := WayE.al (z := z) (F := FolS p) (E := EndS p) (lot := p.lotN) ⟨t, ht, w.path⟩
    rw [h1, h2] at this
    exact this
  have hp : edT z u = c := by
    have h3 := edT_le ha
    have h4 := hL.texts h0 hr (edT_al z u)
    unfold le2 at h4
    simp only at h4
    omega
  refine ⟨hr, hp, fun v hv => ?_, fun v hv e => ?_, fun v hv e el i a b et ea eb => ?_⟩
  · have h4 := hL.texts h0 hv (edT_al z v)
    unfold le2 at h4
    simp only at h4
    omega
  · have h4 := hL.texts h0 hv (edT_al z v)
    unfold le2 at h4
    simp only at h4
    omega
  · obtain ⟨es', ⟨t', ht', w'⟩, h3, h4⟩ := hv.way (edT_al z v)
    have tp := hL.tight hN hl w' rfl ht' (Nat.zero_le _) (by rw [h0, h3, h4, e, el, hu])
    have hi : i < v.length := (List.getElem?_eq_some_iff.mp eb).1
    have ev : v.take (i + 1) = v.take i ++ [b] := by rw [List.take_add_one, eb]; rfl
    obtain ⟨es1, es2, h5, h6⟩ := tolds_split (es := es') (w1 := v.take (i + 1)) (w2 := v.drop (i + 1)) (by rw [h4, List.take_append_drop])
    rw [h5] at tp
    obtain ⟨p1, s1, h7, _⟩ := PathE.split tp
    have hlay : Lay z (FolS p) p.lotN B (v.take i ++ [b]) (p1, s1) := ⟨es1, h7, by rw [h6, ev]⟩
    obtain ⟨k1, k2, g1, g2, _⟩ := lay_snoc.mp hlay
    rcases Nat.lt_or_ge b a with hlt | hge
    · exact absurd ⟨k1, k2, by rw [et]; exact g1, g2⟩ (hg i a ea b hlt)
    · exact hge
/-- no way of least price is longer than there are keys -/
theorem tpath_len {F : Nat → Nat → Prop} {lot : Nat → List Nat} (hN : ∀ s t, F s t → t ≤ N) {p s : Nat} {es : List Edit} {p2 s2 : Nat} (h : TPath z F lot B p s es p2 s2) : p ≤ z.length → s ≤ N → ∀ {c q}, B p s = some (c, q) →
    ∃ ks : List Nat, ks.length = es.length + 1 ∧ ks.Nodup ∧ ∀ x ∈ ks, ∃ p' s' c' q', x = p' * (N + 1) + s' ∧ s' ≤ N ∧ p' ≤ z.length ∧ B p' s' = some (c', q') ∧ c' + q' ≤ c + q := by
  induction h with
  | @nil p s => intro hp hs c q hb; exact ⟨[p * (N + 1) + s], rfl, by simp, fun x hx => ⟨p, s, c, q, List.mem_singleton.mp hx, hs, hp, hb, Nat.le_refl _⟩⟩
  | @cons p s p1 s1 p2 s2 e es h k ih =>
    intro hp hs c q hb
    obtain ⟨c1, q1, h1, h2⟩ := h.at_
    rw [hb] at h2
    cases h2
    obtain ⟨ks, g1, g2, g3⟩ := ih (h.st.pl.2 hp) (h.st.le hN hs) h1
    have pos : 1 ≤ e.price + oN e.told := by cases e <;> simp [Edit.price, Edit.told, oN]
    refine ⟨(p * (N + 1) + s) :: ks, by rw [List.length_cons, g1, List.length_cons], List.nodup_cons.mpr ⟨fun hm => ?_, g2⟩, fun x hx => ?_⟩
    · obtain ⟨p', s', c', q', e1, e2, e3, e4, e5⟩ := g3 _ hm
      have : p = p' ∧ s = s' := by
        have hs2 : s < N + 1 := by omega
        have hs3 : s' < N + 1 := by omega
        have d1 : (p * (N + 1) + s) / (N + 1) = p := by rw [Nat.mul_comm, Nat.mul_add_div (by omega), Nat.div_eq_of_lt hs2]; rfl
        have d2 : (p' * (N + 1) + s') / (N + 1) = p' := by rw [Nat.mul_comm, Nat.mul_add_div (by omega), Nat.div_eq_of_lt hs3]; rfl
        have ep : p = p' := by rw [← d1, ← d2, e1]
        subst ep
        exact ⟨rfl, by omega⟩
      obtain ⟨rfl, rfl⟩ := this
      rw [hb] at e4
      cases e4
      omega
    · rcases List.mem_cons.mp hx with rfl | hx
      · exact ⟨p, s, _, _, rfl, hs, hp, hb, Nat.le_refl _⟩
      · obtain ⟨p', s', c', q', e1, e2, e3, e4, e5⟩ := g3 _ hx
        exact ⟨p', s', c', q', e1, e2, e3, e4, by omega⟩
theorem nodup_lt_len : ∀ (n : Nat) (l : List Nat), l.Nodup → (∀ x ∈ l, x < n) → l.length ≤ n
  | 0, [], _, _ => Nat.le_refl _
  | 0, x :: _, _, h => absurd (h x (List.mem_cons_self ..)) (Nat.not_lt_zero _)
  | n + 1, l, hn, h => by
    have h1 := nodup_lt_len n (l.erase n) (hn.erase n) fun x hx => by
      have h2 := (List.Nodup.mem_erase_iff hn).mp hx
      have := h x h2.2
      have := h2.1
      omega
    have := List.length_erase_le (a := n) (l := l)
    rw [List.length_erase] at h1
    split at h1 <;> omega
theorem Least.short (hL : Least z (FolS p) (EndS p) p.lotN N 0 B) (hN : ∀ s t, FolS p s t → t ≤ N) (hl : ∀ s t, FolS p s t → p.lotN t ≠ []) {c q : Nat} (h0 : B 0 0 = some (c, q)) : q < (z.length + 1) * (N + 1) := by
  obtain ⟨es, t, ht, w, h1, h2⟩ := hL.way_at hN hl (Nat.zero_le _) h0
  obtain ⟨ks, g1, g2, g3⟩ := tpath_len hN w (Nat.zero_le _) (Nat.zero_le _) h0
  have := nodup_lt_len ((z.length + 1) * (N + 1)) ks g2 fun x hx => by
    obtain ⟨p', s', c', q', e1, e2, e3, e4, e5⟩ := g3 x hx
    have : p' * (N + 1) ≤ z.length * (N + 1) := Nat.mul_le_mul_right _ e3
    rw [Nat.add_mul]
    omega
  have hle : (tolds es).length ≤ es.length := List.length_filterMap_le _ _
  simp only at h2
  omega
/-- what is told are signs of the lots -/
theorem Path.told_mem {F : Nat → Nat → Prop} {lot : Nat → List Nat} {p s : Nat} {es : List Edit} {p2 s2 : Nat} (h : Path z F lot p s es p2 s2) : ∀ c ∈ tolds es, ∃ s t, F s t ∧ c ∈ lot t := by
  induction h with
  | nil => exact fun c h => nomatch h
  | @cons p s p1 s1 p2 s2 e es h k ih =>
    intro c hc
    rw [tolds_cons] at hc
    rcases List.mem_append.mp hc with hc | hc
    · cases h with
      | take _ => exact nomatch hc
      | put f m => rw [List.mem_singleton.mp hc]; exact ⟨_, _, f, m⟩
      | keep f m _ => rw [List.mem_singleton.mp hc]; exact ⟨_, _, f, m⟩
      | chg f m _ _ => rw [List.mem_singleton.mp hc]; exact ⟨_, _, f, m⟩
    · exact ih c hc
end
theorem reads_sign {l u : List Nat} : Reads (.sign l) u ↔ ∃ c, u = [c] ∧ c ∈ l := by
  constructor
  · rintro ⟨a, b, ⟨_, h⟩ | ⟨x, h1, h2⟩⟩
    · omega
    · by_cases hx : x ∈ l
      · rw [if_pos hx] at h2
        have ha : a = [] := List.eq_nil_of_length_eq_zero (by omega)
        have hb : b = [] := List.eq_nil_of_length_eq_zero (by omega)
        exact ⟨x, by rw [h1, ha, hb]; rfl, hx⟩
      · rw [if_neg hx] at h2; omega
  · rintro ⟨c, rfl, hc⟩
    exact ⟨[], [], .inr ⟨c, rfl, by rw [if_pos hc]; rfl⟩⟩
theorem reads_thn {p q : Pat} {u : List Nat} : Reads (.thn p q) u ↔ ∃ a b, u = a ++ b ∧ Reads p a ∧ Reads q b := by
  constructor
  · rintro ⟨z1, z2, n1, n2, h1, h2, h3, h4⟩
    have e1 : n1 = 0 := by omega
    have e2 : n2 = 0 := by omega
    subst e1 e2
    exact ⟨z1, z2, h1, h3, h4⟩
  · rintro ⟨a, b, h1, h2, h3⟩
    exact ⟨a, b, 0, 0, h1, rfl, h2, h3⟩
theorem reads_emp {u : List Nat} : Reads .emp u ↔ u = [] := ⟨fun h => List.eq_nil_of_length_eq_zero (Eq.symm h), fun h => by rw [h]; rfl⟩
end Fr

set_option maxHeartbeats 4000000
namespace Fr
open PySem PySem.Spec PyProof.Rows L2
/-- an edit's tuple, a step's tuple -/
def EdO : Edit → List V
  | .keep c => [.str "keep", .str ⟨#[c]⟩]
  | .put c => [.str "put", .str ⟨#[c]⟩]
  | .take x => [.str "take", .str ⟨#[x]⟩]
  | .chg x c => [.str "change", .str ⟨#[x]⟩, .str ⟨#[c]⟩]
def EdAt (H : Hp) (v : V) (e : Edit) : Prop := ∃ t, v = .ref t ∧ H t = some (.tup (EdO e))
def StAt (H : Hp) (v : V) (r : Nat × Nat × Edit) : Prop := ∃ t w, v = .ref t ∧ H t = some (.tup [.int (r.2.2.price : Nat), .int (r.1 : Nat), .int (r.2.1 : Nat), w]) ∧ EdAt H w r.2.2
theorem EdAt.mod {ms : List Addr} {H H' : Hp} {v : V} {e : Edit} (m : Mod ms H H') (h : EdAt H v e) : EdAt H' v e := let ⟨t, h1, h2⟩ := h; ⟨t, h1, m.tup _ _ h2⟩
theorem StAt.mod {ms : List Addr} {H H' : Hp} {v : V} {r : Nat × Nat × Edit} (m : Mod ms H H') (h : StAt H v r) : StAt H' v r := let ⟨t, w, h1, h2, h3⟩ := h; ⟨t, w, h1, m.tup _ _ h2, h3.mod m⟩
theorem pairedMap {α β : Type} {R S : α → β → Prop} (i : ∀ a b, R a b → S a b) : ∀ {l : List α} {m : List β}, Paired R l m → Paired S l m
  | _, _, .nil => .nil
  | _, _, .cons h t => .cons (i _ _ h) (pairedMap i t)
theorem pairedSnoc {α β : Type} {R : α → β → Prop} {a : α} {b : β} (h : R a b) : ∀ {l : List α} {m : List β}, Paired R l m → Paired R (l ++ [a]) (m ++ [b])
  | _, _, .nil => .cons h .nil
  | _, _, .cons k t => .cons k (pairedSnoc h t)
/-- a sign's text, or none -/
def sgV : Option Nat → Str
  | none => ""
  | some c => ⟨#[c]⟩
theorem MenAt.mod {K : PySem.W.Frag} {H H' : Hp} {a : MA} {p : Pat} {z : Str} {B : Bt} {kvs : List (List Key × V)} (m : Mod [] H H') (h : MenAt K H a p z B kvs) : MenAt K H' a p z B kvs :=
  ⟨h.c.mod m (fun _ x => nomatch x), h.fa.mod m (fun _ _ x => nomatch x), m.keep _ _ h.e (by simp), h.ks, h.br.mod m (by simp), h.le⟩
theorem sg_ne (c : Nat) : (⟨#[c]⟩ : Str) ≠ "" := fun z => by
  have h := congrArg (fun s : Str => s.cps.size) z
  have h2 : ("" : Str).cps.size = 0 := by decide +kernel
  simp only [h2] at h
  cases h
/-- the steps to t that tell c -/
def tSt (z l : List Nat) (pl t c : Nat) : List (Nat × Nat × Edit) :=
  if c ∈ l then (pl, t, .put c) :: (match z[pl]? with | none => [] | some x => [(pl + 1, t, if x = c then .keep c else .chg x c)]) else []
theorem tSt_mem {z : List Nat} {F : Nat → Nat → Prop} {lot : Nat → List Nat} {pl s t c : Nat} (f : F s t) {r : Nat × Nat × Edit} : r ∈ tSt z (lot t) pl t c ↔ St1 z F lot pl s r.2.2 r.1 r.2.1 ∧ r.2.2.told = some c ∧ r.2.1 = t := by
  obtain ⟨p1, s1, e⟩ := r
  unfold tSt
  constructor
  · intro h
    split at h
    · rename_i hc
      rcases List.mem_cons.mp h with h | h
      · cases h; exact ⟨.put f hc, rfl, rfl⟩
      · cases hz : z[pl]? with
        | none => rw [hz] at h; cases h
        | some x =>
          rw [hz] at h
          have h := List.mem_singleton.mp h
          by_cases hx : x = c
          · rw [if_pos hx] at h; cases h; exact ⟨.keep f hc (hx ▸ hz), rfl, rfl⟩
          · rw [if_neg hx] at h; cases h; exact ⟨.chg f hc hz hx, rfl, rfl⟩
    · cases h
  · rintro ⟨h, ht, rfl⟩
    cases e with
    | take x => cases ht
    | put d =>
      cases ht
      cases h with
      | put _ hc => rw [if_pos hc]; exact List.mem_cons_self ..
    | keep d =>
      cases ht
      cases h with
      | keep _ hc hz => rw [if_pos hc, hz]; simp
    | chg x d =>
      cases ht
      cases h with
      | chg _ hc hz hx => rw [if_pos hc, hz]; simp [hx]
theorem tSt_len (z l : List Nat) (pl t c : Nat) : (tSt z l pl t c).length ≤ 2 := by
  unfold tSt
  split
  · rw [List.length_cons]; split <;> simp
  · simp
section
variable {P : Program} {w : World} {K : PySem.W.Frag} {mg : Str → Option Value} {base : Heap}
def spSteps (K : PySem.W.Frag) : Sp := fun vs H Q _ => ∃ (a : MA) (p : Pat) (z : Str) (B : Bt) (kvs : List (List Key × V)) (pl s : Nat) (o : Option Nat), vs = [.ref a.m, .int (pl : Nat), .int (s : Nat), .str (sgV o)] ∧ MenAt K H a p z B kvs ∧ pl ≤ z.length ∧ z.length ≤ 300 ∧ s ≤ p.sg ∧ p.sg ≤ 60 ∧
  ∀ H' l vs (rs : List (Nat × Nat × Edit)), Mod [] H H' → H l = none → H' l = some (.lst vs) → Paired (StAt H') vs rs → rs.length ≤ 200 → (∀ r, r ∈ rs ↔ St1 z.cps.toList (FolS p) p.lotN pl s r.2.2 r.1 r.2.1 ∧ r.2.2.told = o) → Q (.ref l) H'
theorem has_Mender_steps_from (T : Tx w K mg) : HasM P w K mg base 1 "Mender" "steps_from" ["self", "place", "state", "sign"] (spSteps K) := by
  refine (T.has (d := d_Mender_steps_from) 19 rfl rfl rfl rfl b_Mender_steps_from sc_Mender_steps_from (fun vs H Q E h => ?_) fun cdv A outer s H vs Q E hr h => ?_)
  · obtain ⟨_, _, _, _, _, _, _, _, rfl, _⟩ := h; rfl
  obtain ⟨a, p, z, B, kvs, pl, s, o, rfl, ma, hpl, hz, hs, hN, q⟩ := h
  refine ⟨_, (pss_cons (ps_set (i := 4) sc_Mender_steps_from.nd rfl (Or.inl rfl) (pe_lst pa_nil))
      (pss_cons (ps_if (pt_cmpR op_eq (pv 3) pe_str (nomark _)) (pss_one (ps_ret (pe_ifExp (pt_cmpR op_lt (pv 1) (pe_callB call_len_str (by rfl) (z_len T) (by decide +kernel) (pa_cons (pe_fldC (c_Mender T) (n_Mender_begun_text T) (pv 0)) pa_nil)) (nomark _)) (pe_lst (pa_cons (pe_tup (pa_cons pe_int (pa_cons (pe_op op_add (pv 1) pe_int) (pa_cons (pv 2) (pa_cons (pe_tup (pa_cons (pe_gs (by rfl) (k_TAKE T)) (pa_cons (pe_ix ix_str (pe_fldC (c_Mender T) (n_Mender_begun_text T) (pv 0)) (pv 1) (fun _ _ => rfl)) pa_nil))) pa_nil))))) pa_nil)) (pe_lst pa_nil)))) pss_nil)
      (pss_cons (ps_lock (ps_for PassesOwn.never rfl (pi_keys (pe_ix ix_list (pe_fldC (c_Sets T) (n_Sets_follows T) (pe_fldC (c_Mender T) (n_Mender_sets T) (pv 0))) (pv 2) (fun _ _ => rfl))) (pg_name (i := 5) sc_Mender_steps_from.nd rfl (Or.inl rfl)) (pss_one (ps_if (pt_cmpR op_in_sign (pv 3) (pe_ix ix_list (pe_fldC (c_Sets T) (n_Sets_lots T) (pe_fldC (c_Mender T) (n_Mender_sets T) (pv 0))) (pe_op op_sub (pv 5) pe_int) (fun _ _ => rfl)) rfl) (pss_cons (ps_expr (pe_bm PySem.F.plainAttrs_list PySem.F.slot_list_append PySem.F.type_list_append mt_append (pv 4) (pa_cons (pe_tup (pa_cons pe_int (pa_cons (pv 1) (pa_cons (pv 5) (pa_cons (pe_tup (pa_cons (pe_gs (by rfl) (k_PUT T)) (pa_cons (pv 3) pa_nil))) pa_nil))))) pa_nil)))
      (pss_one (ps_if (PW.pt (pw_and (pt_cmpR op_lt (pv 1) (pe_callB call_len_str (by rfl) (z_len T) (by decide +kernel) (pa_cons (pe_fldC (c_Mender T) (n_Mender_begun_text T) (pv 0)) pa_nil)) (nomark _)) (pw_and1 (pt_cmpR op_eq (pe_ix ix_str (pe_fldC (c_Mender T) (n_Mender_begun_text T) (pv 0)) (pv 1) (fun _ _ => rfl)) (pv 3) (nomark _))))) (pss_one (ps_expr (pe_bm PySem.F.plainAttrs_list PySem.F.slot_list_append PySem.F.type_list_append mt_append (pv 4) (pa_cons (pe_tup (pa_cons pe_int (pa_cons (pe_op op_add (pv 1) pe_int) (pa_cons (pv 5) (pa_cons (pe_tup (pa_cons (pe_gs (by rfl) (k_KEEP T)) (pa_cons (pv 3) pa_nil))) pa_nil))))) pa_nil)))) (pss_one (ps_if (pt_cmpR op_lt (pv 1) (pe_callB call_len_str (by rfl) (z_len T) (by decide +kernel) (pa_cons (pe_fldC (c_Mender T) (n_Mender_begun_text T) (pv 0)) pa_nil)) (nomark _)) (pss_one (ps_expr (pe_bm PySem.F.plainAttrs_list PySem.F.slot_list_append PySem.F.type_list_append mt_append (pv 4) (pa_cons (pe_tup (pa_cons pe_int (pa_cons (pe_op op_add (pv 1) pe_int) (pa_cons (pv 5) (pa_cons (pe_tup (pa_cons (pe_gs (by rfl) (k_CHANGE T)) (pa_cons (pe_ix ix_str (pe_fldC (c_Mender T) (n_Mender_begun_text T) (pv 0)) (pv 1) (fun _ _ => rfl)) (pa_cons (pv 3) pa_nil)))) pa_nil))))) pa_nil)))) pss_nil))))) pss_nil))))
      (pss_one (ps_ret (pv 4)))))), ?_⟩
  have ezl : z.cps.toList.length = z.length := Array.length_toList
  refine ⟨le_line (by simp), fun l hl => ?_⟩
  have n1 := Mod.refl (ms := []).new (o := .lst []) hl
  have ma1 := ma.mod n1
  have mc1 := ma1.c
  refine ⟨_, rfl, rfl, _, rfl, ?_⟩
  cases o with
  | none =>
    refine iteTe (by decide) ?_
    refine ⟨_, rfl, _, rfl, a.m, a.dm, _, _, rfl, mc1.m, rfl, z, rfl, le_line (by omega), _, _, rfl, rfl, _, rfl, ?_⟩
    by_cases hlt : pl < z.length
    · refine iteTe (decide_eq_true (by omega)) ?_
      have hlt' : pl < z.cps.toList.length := by omega
      obtain ⟨x, hx⟩ : ∃ c, z.cps.toList[pl]? = some c := ⟨_, List.getElem?_eq_getElem hlt'⟩
      refine ⟨_, rfl, _, _, rfl, rfl, _, rfl, _, rfl, a.m, a.dm, _, _, rfl, mc1.m, rfl, _, rfl, z, _, x, rfl, rfl, le_line (by omega), atI_nat hx, ln2, fun t1 ht1 => ⟨ln4, fun t2 ht2 => ⟨ln1, fun l2 hl2 => ?_⟩⟩⟩
      have n2 := (n1.new (o := .tup [.str "take", .str ⟨#[x]⟩]) ht1).new (o := .tup [.int 1, .int ((pl : Nat) + 1), .int (s : Nat), .ref t1]) ht2
      have m3 := n2.new (o := .lst [.ref t2]) hl2
      have e1 := (Mod.refl (ms := []).new (o := .lst [.ref t2]) hl2).keep _ _ ((Mod.refl (ms := []).new (o := .tup [.int 1, .int ((pl : Nat) + 1), .int (s : Nat), .ref t1]) ht2).keep _ _ (upd_same (a := t1)) (by simp)) (by simp)
      have e2 := (Mod.refl (ms := []).new (o := .lst [.ref t2]) hl2).keep _ _ (upd_same (a := t2)) (by simp)
      refine q _ l2 _ [(pl + 1, s, .take x)] m3 (n2.back hl2) upd_same (.cons ⟨t2, .ref t1, rfl, e2, ⟨t1, rfl, e1⟩⟩ .nil) (by simp) fun r => ⟨fun h => ?_, fun ⟨h, ht⟩ => ?_⟩
      · rw [List.mem_singleton.mp h]; exact ⟨.take hx, rfl⟩
      · obtain ⟨p1, s1, e⟩ := r
        cases e with
        | take y =>
          cases h with
          | take h => rw [hx] at h; cases h; exact List.mem_singleton.mpr rfl
        | put _ => cases ht
        | keep _ => cases ht
        | chg _ _ => cases ht
    · refine iteFe (decide_eq_false (by omega)) ?_
      refine ⟨le_line (by simp), fun l2 hl2 => ?_⟩
      refine q _ l2 [] [] (n1.new hl2) (n1.back hl2) upd_same .nil (by simp) fun r => ⟨(fun h => by cases h), fun ⟨h, ht⟩ => ?_⟩
      obtain ⟨p1, s1, e⟩ := r
      cases e with
      | take y =>
        cases h with
        | take h => have := (List.getElem?_eq_some_iff.mp h).1; omega
      | put _ => cases ht
      | keep _ => cases ht
      | chg _ _ => cases ht
  | some c =>
    refine iteFe (decide_eq_false fun z => sg_ne c (by injection z)) ?_
    have hid : s < a.ds.length := by rw [ma.fa.len]; omega
    obtain ⟨kl, hkl, ksl⟩ := ma.fa.at_ s a.ds[s] (List.getElem?_eq_getElem hid)
    have hkl1 := n1.keep _ _ hkl (by simp)
    refine ⟨a.ds[s], .dK kl, hkl1, trivial, fun od => ?_⟩
    have mL : Mod [a.ds[s]] (upd H l (.lst [])) (upd (upd H l (.lst [])) a.ds[s] (.frz od (.dK kl))) := Mod.refl.put hkl1 (fun _ z => nomatch z) (List.mem_singleton.mpr rfl)
    have mLH : Mod [a.ds[s]] H (upd (upd H l (.lst [])) a.ds[s] (.frz od (.dK kl))) := n1.nil.trans mL
    have mdd : ∀ x ∈ [a.ds[s]], ∃ o, H x = some o ∧ isDict o := fun x hx => by rw [List.mem_singleton.mp hx]; exact ⟨_, hkl, trivial⟩
    have hls : l ∉ [a.ds[s]] := fun z => by rw [List.mem_singleton.mp z, hkl] at hl; cases hl
    have mcL := ma.c.mod mLH mdd
    refine ⟨_, rfl, a.m, a.dm, _, _, rfl, mcL.m, rfl, a.s, a.dx, _, _, rfl, mcL.s, rfl, _, rfl, a.fo, _, _, _, rfl, rfl, SqL.of mcL.fo, at_of (j := s) rfl (by rw [List.getElem?_map, List.getElem?_eq_getElem hid]; rfl), a.ds[s], od, rfl, .inl ⟨kl, upd_same, ?_⟩⟩
    refine for_it walk_keys (fun j σ H3 => ∃ (y5 : Option V) (vs : List V) (rs : List (Nat × Nat × Edit)), σ = [some (.ref a.m), some (.int (pl : Nat)), some (.int (s : Nat)), some (.str ⟨#[c]⟩), some (.ref l), y5] ∧ Mod [a.ds[s]] H H3 ∧ H3 a.ds[s] = some (.frz od (.dK kl)) ∧ H3 l = some (.lst vs) ∧ Paired (StAt H3) vs rs ∧
        rs.length ≤ 2 * j ∧ ∀ r, r ∈ rs ↔ ∃ (j' t : Nat) (v : V), j' < j ∧ kl[j']? = some ((Sum.inl (t : Int) : Key), v) ∧ r ∈ tSt z.cps.toList (p.lotN t) pl t c)
      ⟨none, [], [], rfl, mLH, upd_same, mL.keep _ _ upd_same hls, .nil, by simp, fun r => ⟨(fun h => by cases h), fun ⟨_, _, _, h, _⟩ => absurd h (Nat.not_lt_zero _)⟩⟩
      (fun j σ H3 _ h => by obtain ⟨_, _, _, _, _, h, _⟩ := h; exact h) ?_ ?_
    · rintro j x σ _ H3 hj ⟨y5, vs, rs, rfl, m3, ef, el, pr, hlen, hrs⟩ ⟨rfl, k, v, hkv, rfl⟩
      obtain ⟨t, rfl, htN, hft⟩ := ksl.at_ hkv
      have ht1' := FolS_in hft
      have mc3 := ma.c.mod m3 mdd
      have hlot : t - 1 < p.lots.length := by rw [Pat.lots_len]; omega
      have elot : p.lots[t - 1]? = some (p.lotN t) := by unfold Pat.lotN; rw [List.getD_eq_getElem?_getD, List.getElem?_eq_getElem hlot]; rfl
      have hkj := ksl.len
      have fin : ∀ {H4 : Hp} {vs' : List V} {rs' : List (Nat × Nat × Edit)}, Mod [a.ds[s]] H H4 → H4 a.ds[s] = some (.frz od (.dK kl)) → H4 l = some (.lst (vs ++ vs')) → Paired (StAt H4) (vs ++ vs') (rs ++ rs') → rs' = tSt z.cps.toList (p.lotN t) pl t c →
          ∃ (y5 : Option V) (vs : List V) (rs : List (Nat × Nat × Edit)), [some (V.ref a.m), some (.int (pl : Nat)), some (.int (s : Nat)), some (.str ⟨#[c]⟩), some (.ref l), some (.int (t : Nat))] = [some (.ref a.m), some (.int (pl : Nat)), some (.int (s : Nat)), some (.str ⟨#[c]⟩), some (.ref l), y5] ∧ Mod [a.ds[s]] H H4 ∧ H4 a.ds[s] = some (.frz od (.dK kl)) ∧ H4 l = some (.lst vs) ∧ Paired (StAt H4) vs rs ∧
        rs.length ≤ 2 * (j + 1) ∧ ∀ r, r ∈ rs ↔ ∃ (j' t : Nat) (v : V), j' < j + 1 ∧ kl[j']? = some ((Sum.inl (t : Int) : Key), v) ∧ r ∈ tSt z.cps.toList (p.lotN t) pl t c := fun {H4 vs' rs'} m4 ef4 el4 pr4 ers => by
        refine ⟨_, _, _, rfl, m4, ef4, el4, pr4, ?_, fun r => ?_⟩
        · have := tSt_len z.cps.toList (p.lotN t) pl t c
          rw [List.length_append, ers]; omega
        · rw [List.mem_append, hrs r, ers]
          constructor
          · rintro (⟨j', t', v', h1, h2, h3⟩ | h)
            · exact ⟨j', t', v', by omega, h2, h3⟩
            · exact ⟨j, t, v, by omega, hkv, h⟩
          · rintro ⟨j', t', v', h1, h2, h3⟩
            by_cases e : j' = j
            · subst e
              rw [hkv] at h2
              have e2 : t = t' := by injection h2 with h2; injection h2 with h2 _; injection h2 with h2; omega
              subst e2
              exact .inr h3
            · exact .inl ⟨j', t', v', by omega, h2, h3⟩
      refine ⟨_, rfl, _, rfl, a.m, a.dm, _, _, rfl, mc3.m, rfl, a.s, a.dx, _, _, rfl, mc3.s, rfl, _, rfl, _, _, rfl, rfl, a.lo, _, (t : Int) - 1, _, rfl, rfl, SqL.of mc3.lo, at_of (j := t - 1) (by omega) (by rw [List.getElem?_map, elot]; rfl), c, _, rfl, rfl, _, rfl, ?_⟩
      by_cases hc : c ∈ p.lotN t
      · refine iteTe (by simpa using hc) ?_
        have hts : vs.length = rs.length := Paired.length pr
        refine ⟨_, rfl, ty_lst el, _, rfl, _, rfl, _, rfl, ln2, fun t1 ht1 => ⟨ln4, fun t2 ht2 => ?_⟩⟩
        have n2 := (Mod.refl (ms := []).new (o := .tup [.str "put", .str ⟨#[c]⟩]) ht1).new (o := .tup [.int 1, .int (pl : Nat), .int (t : Nat), .ref t1]) ht2
        have e1 := (Mod.refl (ms := []).new (o := .tup [.int 1, .int (pl : Nat), .int (t : Nat), .ref t1]) ht2).keep _ _ (upd_same (H := H3) (a := t1) (o := .tup [.str "put", .str ⟨#[c]⟩])) (by simp)
        have el2 := n2.keep _ _ el (by simp)
        refine ⟨l, vs, _, rfl, rfl, el2, lt_line (by omega), ?_⟩
        have nput : Mod [l] _ (upd (upd (upd H3 t1 (.tup [.str "put", .str ⟨#[c]⟩])) t2 (.tup [.int 1, .int (pl : Nat), .int (t : Nat), .ref t1])) l (.lst (vs ++ [.ref t2]))) := Mod.refl.put el2 (fun _ z => nomatch z) (List.mem_singleton.mpr rfl)
        have m5 := (m3.trans n2.nil).putNew (o := .lst (vs ++ [.ref t2])) el2 hl
        have hdl : a.ds[s] ∉ [l] := fun z => hls (List.mem_singleton.mpr (List.mem_singleton.mp z).symm)
        have ef5 := nput.keep _ _ (n2.keep _ _ ef (by simp)) hdl
        have pr5 : Paired (StAt _) (vs ++ [.ref t2]) (rs ++ [(pl, t, .put c)]) := pairedSnoc ⟨t2, .ref t1, rfl, nput.tup _ _ upd_same, ⟨t1, rfl, nput.tup _ _ e1⟩⟩ (pairedMap (fun _ _ h => (h.mod n2).mod nput) pr)
        have el5 : upd (upd (upd H3 t1 (.tup [.str "put", .str ⟨#[c]⟩])) t2 (.tup [.int 1, .int (pl : Nat), .int (t : Nat), .ref t1])) l (.lst (vs ++ [.ref t2])) l = some (.lst (vs ++ [.ref t2])) := upd_same
        have mc5 := ma.c.mod m5 mdd
        refine ⟨_, rfl, _, rfl, a.m, a.dm, _, _, rfl, mc5.m, rfl, z, rfl, le_line (by omega), _, _, rfl, rfl, _, rfl, ?_⟩
        by_cases hlt : pl < z.length
        · refine iteTe (decide_eq_true (by omega)) ?_
          have hlt' : pl < z.cps.toList.length := by omega
          obtain ⟨x, hx⟩ : ∃ c, z.cps.toList[pl]? = some c := ⟨_, List.getElem?_eq_getElem hlt'⟩
          refine ⟨_, rfl, a.m, a.dm, _, _, rfl, mc5.m, rfl, _, rfl, z, _, x, rfl, rfl, le_line (by omega), atI_nat hx, _, rfl, rfl, _, rfl, ?_⟩
          by_cases hxc : x = c
          · refine iteTe (decide_eq_true (by rw [hxc])) ?_
            refine ⟨_, rfl, ty_lst el5, _, rfl, _, _, rfl, rfl, _, rfl, _, rfl, ln2, fun t3 ht3 => ⟨ln4, fun t4 ht4 => ?_⟩⟩
            have n6 := (Mod.refl (ms := []).new (o := .tup [.str "keep", .str ⟨#[c]⟩]) ht3).new (o := .tup [.int 0, .int ((pl : Nat) + 1), .int (t : Nat), .ref t3]) ht4
            have e6 := (Mod.refl (ms := []).new (o := .tup [.int 0, .int ((pl : Nat) + 1), .int (t : Nat), .ref t3]) ht4).keep _ _ (upd_same (a := t3) (o := .tup [.str "keep", .str ⟨#[c]⟩])) (by simp)
            have el6 := n6.keep _ _ el5 (by simp)
            refine ⟨l, _, _, rfl, rfl, el6, lt_line (by rw [List.length_append]; simp; omega), ?_⟩
            have nput2 := Mod.refl.put (ms := [l]) (o := .lst (vs ++ [.ref t2] ++ [.ref t4])) el6 (fun _ z => nomatch z) (List.mem_singleton.mpr rfl)
            refine fin (vs' := [.ref t2, .ref t4]) (rs' := [(pl, t, .put c), (pl + 1, t, .keep c)]) ((m5.trans n6.nil).putNew el6 hl) (nput2.keep _ _ (n6.keep _ _ ef5 (by simp)) hdl) (by rw [upd_same, List.append_assoc]; rfl) ?_ (by unfold tSt; rw [if_pos hc, hx]; simp [hxc])
            rw [show vs ++ [V.ref t2, V.ref t4] = vs ++ [V.ref t2] ++ [V.ref t4] by simp, show rs ++ [(pl, t, Edit.put c), (pl + 1, t, Edit.keep c)] = rs ++ [(pl, t, Edit.put c)] ++ [(pl + 1, t, Edit.keep c)] by simp]
            exact pairedSnoc (R := StAt _) (a := .ref t4) (b := (pl + 1, t, Edit.keep c)) ⟨t4, .ref t3, rfl, nput2.tup _ _ upd_same, ⟨t3, rfl, nput2.tup _ _ e6⟩⟩ (pairedMap (fun _ _ h => (h.mod n6).mod nput2) pr5)
          · refine iteFe (decide_eq_false fun z => hxc (by injection z with z; injection z with z; injection z with z; injection z)) ?_
            refine ⟨_, rfl, _, rfl, a.m, a.dm, _, _, rfl, mc5.m, rfl, z, rfl, le_line (by omega), _, _, rfl, rfl, _, rfl, ?_⟩
            refine iteTe (decide_eq_true (by omega)) ?_
            refine ⟨_, rfl, ty_lst el5, _, rfl, _, _, rfl, rfl, _, rfl, _, rfl, a.m, a.dm, _, _, rfl, mc5.m, rfl, _, rfl, z, _, x, rfl, rfl, le_line (by omega), atI_nat hx, _, rfl, ln3, fun t3 ht3 => ⟨ln4, fun t4 ht4 => ?_⟩⟩
            have n6 := (Mod.refl (ms := []).new (o := .tup [.str "change", .str ⟨#[x]⟩, .str ⟨#[c]⟩]) ht3).new (o := .tup [.int 1, .int ((pl : Nat) + 1), .int (t : Nat), .ref t3]) ht4
            have e6 := (Mod.refl (ms := []).new (o := .tup [.int 1, .int ((pl : Nat) + 1), .int (t : Nat), .ref t3]) ht4).keep _ _ (upd_same (a := t3) (o := .tup [.str "change", .str ⟨#[x]⟩, .str ⟨#[c]⟩])) (by simp)
            have el6 := n6.keep _ _ el5 (by simp)
            refine ⟨l, _, _, rfl, rfl, el6, lt_line (by rw [List.length_append]; simp; omega), ?_⟩
            have nput2 := Mod.refl.put (ms := [l]) (o := .lst (vs ++ [.ref t2] ++ [.ref t4])) el6 (fun _ z => nomatch z) (List.mem_singleton.mpr rfl)
            refine fin (vs' := [.ref t2, .ref t4]) (rs' := [(pl, t, .put c), (pl + 1, t, .chg x c)]) ((m5.trans n6.nil).putNew el6 hl) (nput2.keep _ _ (n6.keep _ _ ef5 (by simp)) hdl) (by rw [upd_same, List.append_assoc]; rfl) ?_ (by unfold tSt; rw [if_pos hc, hx]; simp [hxc])
            rw [show vs ++ [V.ref t2, V.ref t4] = vs ++ [V.ref t2] ++ [V.ref t4] by simp, show rs ++ [(pl, t, Edit.put c), (pl + 1, t, Edit.chg x c)] = rs ++ [(pl, t, Edit.put c)] ++ [(pl + 1, t, Edit.chg x c)] by simp]
            exact pairedSnoc (R := StAt _) (a := .ref t4) (b := (pl + 1, t, Edit.chg x c)) ⟨t4, .ref t3, rfl, nput2.tup _ _ upd_same, ⟨t3, rfl, nput2.tup _ _ e6⟩⟩ (pairedMap (fun _ _ h => (h.mod n6).mod nput2) pr5)
        · refine iteFe (decide_eq_false (by omega)) ?_
          refine ⟨_, rfl, _, rfl, a.m, a.dm, _, _, rfl, mc5.m, rfl, z, rfl, le_line (by omega), _, _, rfl, rfl, _, rfl, ?_⟩
          refine iteFe (decide_eq_false (by omega)) ?_
          have hx : z.cps.toList[pl]? = none := List.getElem?_eq_none (by omega)
          exact fin (vs' := [.ref t2]) (rs' := [(pl, t, .put c)]) m5 ef5 el5 pr5 (by unfold tSt; rw [if_pos hc, hx])
      · refine iteFe (by simpa using hc) ?_
        exact fin (vs' := []) m3 ef (by rw [List.append_nil]; exact el) (by rw [List.append_nil, List.append_nil]; exact pr) (by unfold tSt; rw [if_neg hc])
    · rintro σ H3 ⟨y5, vs, rs, rfl, m3, ef, el, pr, hlen, hrs⟩
      have m4 : Mod [a.ds[s]] H3 (upd H3 a.ds[s] (.dK kl)) := Mod.refl.put ef (fun _ z => nomatch z) (List.mem_singleton.mpr rfl)
      have hkj := ksl.len
      refine ⟨ef, _, rfl, q _ l vs rs (m3.unlock hkl (fun _ z => nomatch z)) hl (m4.keep _ _ el hls) (pairedMap (fun _ _ h => h.mod m4) pr) (by omega) fun r => ?_⟩
      rw [hrs r]
      constructor
      · rintro ⟨j', t, v, h1, h2, h3⟩
        obtain ⟨t', e, _, hft⟩ := ksl.at_ h2
        have e : t = t' := by injection e with e; omega
        subst e
        obtain ⟨g1, g2, _⟩ := (tSt_mem (lot := p.lotN) hft).mp h3
        exact ⟨g1, g2⟩
      · rintro ⟨h1, h2⟩
        have hft : FolS p s r.2.1 := by
          obtain ⟨p1, s1, e⟩ := r
          cases e with
          | take x => cases h2
          | put d => cases h1 with | put f _ => exact f
          | keep d => cases h1 with | keep f _ _ => exact f
          | chg x d => cases h1 with | chg f _ _ _ => exact f
        obtain ⟨j, v, hj⟩ := ksl.turn hft
        exact ⟨j, r.2.1, v, (List.getElem?_eq_some_iff.mp hj).1, hj, (tSt_mem (lot := p.lotN) hft).mpr ⟨h1, h2, rfl⟩⟩
end
end Fr

set_option maxHeartbeats 4000000
namespace Fr
open PySem PySem.Spec PyProof.Rows L2
/-- where a key of a layer comes from: the edit, the key before -/
abbrev Org := Option (Edit × (Nat × Nat))
def OrgAt (H : Hp) (v : V) : Org → Prop
  | none => v = .non
  | some (e, k) => ∃ t x f, v = .ref t ∧ H t = some (.tup [x, .ref f]) ∧ EdAt H x e ∧ H f = some (.tup [.int (k.1 : Nat), .int (k.2 : Nat)])
theorem OrgAt.mod {ms : List Addr} {H H' : Hp} {v : V} (m : Mod ms H H') : ∀ {o : Org}, OrgAt H v o → OrgAt H' v o
  | none, h => h
  | some _, ⟨t, x, f, h1, h2, h3, h4⟩ => ⟨t, x, f, h1, m.tup _ _ h2, h3.mod m, m.tup _ _ h4⟩
/-- a layer stands at d: its keys are S, W tells where they come from -/
structure LayD (H : Hp) (d : Addr) (kvs : List (List Key × V)) (L N : Nat) (S : Nat × Nat → Prop) (W : Nat × Nat → Org → Prop) : Prop where
  at_ : H d = some (.dT kvs)
  nd : (kvs.map (·.1)).Nodup
  key : ∀ k ∈ kvs.map (·.1), ∃ p s, k = bk p s ∧ p ≤ L ∧ s ≤ N
  mem : ∀ k : Nat × Nat, bk k.1 k.2 ∈ kvs.map (·.1) ↔ S k
  val : ∀ (k : Nat × Nat) v, valV kvs (bk k.1 k.2) = some v → ∃ o, OrgAt H v o ∧ W k o
theorem bk_eq {k k' : Nat × Nat} : bk k.1 k.2 = bk k'.1 k'.2 ↔ k = k' := ⟨fun h => Prod.ext (bk_inj h).1 (bk_inj h).2, fun h => h ▸ rfl⟩
theorem LayD.mod {ms : List Addr} {H H' : Hp} {d : Addr} {kvs : List (List Key × V)} {L N : Nat} {S : Nat × Nat → Prop} {W : Nat × Nat → Org → Prop} (m : Mod ms H H') (h : LayD H d kvs L N S W) (hd : d ∉ ms) : LayD H' d kvs L N S W :=
  ⟨m.keep _ _ h.at_ hd, h.nd, h.key, h.mem, fun k v e => let ⟨o, h1, h2⟩ := h.val k v e; ⟨o, h1.mod m, h2⟩⟩
theorem LayD.imp {H : Hp} {d : Addr} {kvs : List (List Key × V)} {L N : Nat} {S S' : Nat × Nat → Prop} {W W' : Nat × Nat → Org → Prop} (h : LayD H d kvs L N S W) (hs : ∀ k, S k ↔ S' k) (hw : ∀ k o, W k o → W' k o) : LayD H d kvs L N S' W' :=
  ⟨h.at_, h.nd, h.key, fun k => (h.mem k).trans (hs k), fun k v e => let ⟨o, h1, h2⟩ := h.val k v e; ⟨o, h1, hw _ _ h2⟩⟩
theorem LayD.len {H : Hp} {d : Addr} {kvs : List (List Key × V)} {L N : Nat} {S : Nat × Nat → Prop} {W : Nat × Nat → Org → Prop} (h : LayD H d kvs L N S W) : kvs.length ≤ (L + 1) * (N + 1) := keysT_len h.nd h.key
theorem LayD.nil {H : Hp} {d : Addr} {L N : Nat} {W : Nat × Nat → Org → Prop} (h : H d = some (.dT [])) : LayD H d [] L N (fun _ => False) W :=
  ⟨h, List.nodup_nil, (fun _ h => nomatch h), fun k => ⟨(fun h => nomatch h), fun h => h.elim⟩, fun _ _ h => nomatch h⟩
theorem LayD.put {H : Hp} {d : Addr} {kvs : List (List Key × V)} {L N : Nat} {S : Nat × Nat → Prop} {W : Nat × Nat → Org → Prop} (h : LayD H d kvs L N S W) {k : Nat × Nat} {v : V} {o : Org} (hp : k.1 ≤ L) (hs : k.2 ≤ N) (ho : OrgAt H v o) (hw : W k o) :
    LayD (upd H d (.dT (putK kvs (bk k.1 k.2) v))) d (putK kvs (bk k.1 k.2) v) L N (fun x => S x ∨ x = k) W := by
  have m : Mod [d] H (upd H d (.dT (putK kvs (bk k.1 k.2) v))) := Mod.refl.put h.at_ (fun _ z => nomatch z) (List.mem_singleton.mpr rfl)
  refine ⟨upd_same, nd_putT _ _ h.nd, fun j hj => ?_, fun j => ?_, fun j u e => ?_⟩
  · rcases putT_keys _ _ _ _ hj with hj | rfl
    · exact h.key j hj
    · exact ⟨_, _, rfl, hp, hs⟩
  · have e : bk j.1 j.2 ∈ (putK kvs (bk k.1 k.2) v).map (·.1) ↔ (valV (putK kvs (bk k.1 k.2) v) (bk j.1 j.2)).isSome = true := by
      rw [← valV_any, List.any_eq_true]
      exact ⟨fun hm => let ⟨x, h1, h2⟩ := List.mem_map.mp hm; ⟨x, h1, decide_eq_true h2⟩, fun ⟨x, h1, h2⟩ => List.mem_map.mpr ⟨x, h1, of_decide_eq_true h2⟩⟩
    have e2 : bk j.1 j.2 ∈ kvs.map (·.1) ↔ (valV kvs (bk j.1 j.2)).isSome = true := by
      rw [← valV_any, List.any_eq_true]
      exact ⟨fun hm => let ⟨x, h1, h2⟩ := List.mem_map.mp hm; ⟨x, h1, decide_eq_true h2⟩, fun ⟨x, h1, h2⟩ => List.mem_map.mpr ⟨x, h1, of_decide_eq_true h2⟩⟩
    rw [e, valV_put]
    by_cases q : bk j.1 j.2 = bk k.1 k.2
    · rw [if_pos q]; exact ⟨fun _ => .inr (bk_eq.mp q), fun _ => rfl⟩
    · rw [if_neg q, ← e2, h.mem]
      exact ⟨.inl, fun z => z.resolve_right fun z => q (bk_eq.mpr z)⟩
  · rw [valV_put] at e
    by_cases q : bk j.1 j.2 = bk k.1 k.2
    · rw [if_pos q] at e
      cases e
      obtain rfl := bk_eq.mp q
      exact ⟨o, ho.mod m, hw⟩
    · rw [if_neg q] at e
      obtain ⟨o', h1, h2⟩ := h.val j u e
      exact ⟨o', h1.mod m, h2⟩
theorem LayD.get {H : Hp} {d : Addr} {kvs : List (List Key × V)} {L N : Nat} {S : Nat × Nat → Prop} {W : Nat × Nat → Org → Prop} (h : LayD H d kvs L N S W) (k : Nat × Nat) : (valV kvs (bk k.1 k.2)).isSome = true ↔ S k := by
  rw [← h.mem, ← valV_any, List.any_eq_true]
  exact ⟨fun ⟨x, h1, h2⟩ => List.mem_map.mpr ⟨x, h1, of_decide_eq_true h2⟩, fun hm => let ⟨x, h1, h2⟩ := List.mem_map.mp hm; ⟨x, h1, decide_eq_true h2⟩⟩
theorem LayD.small {H : Hp} {d : Addr} {kvs : List (List Key × V)} {L N : Nat} {S : Nat × Nat → Prop} {W : Nat × Nat → Org → Prop} (h : LayD H d kvs L N S W) (hL : L ≤ 15) (hN : N ≤ 15) : SmallKeys (kvs.map (·.1)) := fun k hk => by
  obtain ⟨p, s, rfl, hp, hs⟩ := h.key k hk
  exact ⟨p, s, by omega, by omega, rfl⟩
/-- a key's tuple -/
def KeyAt (H : Hp) (b : Addr) (k : Nat × Nat) : Prop := H b = some (.tup [.int (k.1 : Nat), .int (k.2 : Nat)])
/-- one step on a least way that tells o -/
def Stp (z : List Nat) (F : Nat → Nat → Prop) (lot : Nat → List Nat) (B : Bt) (o : Option Nat) (k k' : Nat × Nat) : Prop := ∃ e : Edit, e.told = o ∧ Tight z F lot B k.1 k.2 e k'.1 k'.2
theorem eqv_pair (a b c d : Int) : PyData.eqv (.tuple [.int a, .int b]) (.tuple [.int c, .int d]) = (decide (a = c) && decide (b = d)) := by
  simp [PyData.eqv, PyData.eqvAll]
  rfl
theorem eqv_nonP (c d : Int) : PyData.eqv .none (.tuple [.int c, .int d]) = false := by simp [PyData.eqv]
section
variable {P : Program} {w : World} {K : PySem.W.Frag} {mg : Str → Option Value} {base : Heap}
def spLater (K : PySem.W.Frag) : Sp := fun vs H Q _ => ∃ (a : MA) (p : Pat) (z : Str) (B : Bt) (kvs : List (List Key × V)) (hl : Addr) (bs : List Addr) (hs : List (Nat × Nat)) (o : Option Nat), vs = [.ref a.m, .ref hl, .str (sgV o)] ∧ MenAt K H a p z B kvs ∧
  H hl = some (.lst (bs.map V.ref)) ∧ Paired (KeyAt H) bs hs ∧ (∀ k ∈ hs, k.1 ≤ z.length ∧ k.2 ≤ p.sg ∧ (B k.1 k.2).isSome = true) ∧ z.length ≤ 300 ∧ p.sg ≤ 60 ∧
  ∀ H' d kvs', Mod [] H H' → H d = none → LayD H' d kvs' z.length p.sg (fun k' => ∃ k ∈ hs, Stp z.cps.toList (FolS p) p.lotN B o k k') (fun k' org => ∃ e k, org = some (e, k) ∧ k ∈ hs ∧ e.told = o ∧ Tight z.cps.toList (FolS p) p.lotN B k.1 k.2 e k'.1 k'.2) → Q (.ref d) H'
theorem has_Mender_later (T : Tx w K mg) : HasM P w K mg base 2 "Mender" "later" ["self", "here", "sign"] (spLater K) := by
  have H_Mender_steps_from := has_Mender_steps_from (P := P) (base := base) T
  refine (T.has (d := d_Mender_later) 20 rfl rfl rfl rfl b_Mender_later sc_Mender_later (fun vs H Q E h => ?_) fun cdv A outer s H vs Q E hr h => ?_)
  · obtain ⟨_, _, _, _, _, _, _, _, _, rfl, _⟩ := h; rfl
  obtain ⟨a, p, z, B, kvs, hl, bs, hs, o, rfl, ma, hhl, hbs, hin, hz, hN, q⟩ := h
  refine ⟨_, (pss_cons (ps_set (i := 3) sc_Mender_later.nd rfl (Or.inl rfl) pe_dnewT)
      (pss_cons (ps_for PassesOwn.never rfl (pi_list (pv 1)) (pg_tup rfl (pgs_cons (pg_name (i := 4) sc_Mender_later.nd rfl (Or.inl rfl)) (pgs_cons (pg_name (i := 5) sc_Mender_later.nd rfl (Or.inl rfl)) pgs_nil))) (pss_cons (ps_set (i := 6) sc_Mender_later.nd rfl (Or.inl rfl) (pe_dget (hu_of hr) (pe_fldC (c_Mender T) (n_Mender_best T) (pv 0)) (pe_tup (pa_cons (pv 4) (pa_cons (pv 5) pa_nil))) (fun _ _ => rfl)))
      (pss_one (ps_for PassesOwn.never rfl (pi_list (pe_methH (c_Mender T) (m_Mender_steps_from T) H_Mender_steps_from (hr.mono (by decide)) (pv 0) (pa_cons (pv 4) (pa_cons (pv 5) (pa_cons (pv 2) pa_nil))))) (pg_tup rfl (pgs_cons (pg_name (i := 7) sc_Mender_later.nd rfl (Or.inl rfl)) (pgs_cons (pg_name (i := 8) sc_Mender_later.nd rfl (Or.inl rfl)) (pgs_cons (pg_name (i := 9) sc_Mender_later.nd rfl (Or.inl rfl)) (pgs_cons (pg_name (i := 10) sc_Mender_later.nd rfl (Or.inl rfl)) pgs_nil))))) (pss_cons (ps_set (i := 11) sc_Mender_later.nd rfl (Or.inl rfl) (pe_tup (pa_cons (pe_op op_sub (pe_ix ix_tup (pv 6) pe_int (fun _ _ => rfl)) (pv 7)) (pa_cons (pe_op op_sub (pe_ix ix_tup (pv 6) pe_int (fun _ _ => rfl)) (pe_callTy call_int1 (by rfl) (z_int T) (by decide +kernel) (pa_cons (pe_cmpR op_ne (pv 2) pe_str (nomark _)) pa_nil))) pa_nil))))
      (pss_one (ps_if (PW.pt (pw_and (pt_cmpR (op_eqD (hu64 hr)) (pe_dget2 (hu_of hr) (pe_fldC (c_Mender T) (n_Mender_best T) (pv 0)) (pe_tup (pa_cons (pv 8) (pa_cons (pv 9) pa_nil))) pe_non ⟨rfl, rfl, rfl, rfl⟩) (pv 11) (nomark _)) (pw_and1 (pt_cmp (pc_dnotin (hu_of hr) (pe_tup (pa_cons (pv 8) (pa_cons (pv 9) pa_nil))) (pv 3)) rfl)))) (pss_one (ps_dput (hu_of hr) (pv 3) (pe_tup (pa_cons (pv 8) (pa_cons (pv 9) pa_nil))) (pe_tup (pa_cons (pv 10) (pa_cons (pe_tup (pa_cons (pv 4) (pa_cons (pv 5) pa_nil))) pa_nil))) rfl)) pss_nil)))))))
      (pss_one (ps_ret (pv 3))))), ?_⟩
  have ezl : z.cps.toList.length = z.length := Array.length_toList
  have hFN : ∀ s t, FolS p s t → t ≤ p.sg := fun s t h => (FolS_in h).2
  refine fun d hd => ?_
  have n1 := Mod.refl (ms := []).new (o := .dT []) hd
  refine ⟨_, rfl, hl, rfl, ⟨_, SqL.of (n1.keep _ _ hhl (by simp))⟩, ?_⟩
  refine for_it (walk_list (xs := bs.map V.ref)) (fun i σ H2 => ∃ (kvs2 : List (List Key × V)) (y4 y5 y6 y7 y8 y9 y10 y11 : Option V), σ = [some (.ref a.m), some (.ref hl), some (.str (sgV o)), some (.ref d), y4, y5, y6, y7, y8, y9, y10, y11] ∧ Mod [] H H2 ∧
      LayD H2 d kvs2 z.length p.sg (fun k' => ∃ j k, j < i ∧ hs[j]? = some k ∧ Stp z.cps.toList (FolS p) p.lotN B o k k') (fun k' org => ∃ e k, org = some (e, k) ∧ k ∈ hs ∧ e.told = o ∧ Tight z.cps.toList (FolS p) p.lotN B k.1 k.2 e k'.1 k'.2))
    ⟨[], none, none, none, none, none, none, none, none, rfl, n1, (LayD.nil upd_same).imp (fun k => ⟨fun h => h.elim, fun ⟨_, _, h, _⟩ => absurd h (Nat.not_lt_zero _)⟩) fun _ _ h => h⟩
    (fun i σ H2 _ h => by obtain ⟨_, _, _, _, _, _, _, _, _, _, m2, _⟩ := h; exact SqL.of (m2.keep _ _ hhl (by simp))) ?_ ?_
  · rintro i x σ _ H2 hi ⟨kvs2, y4, y5, y6, y7, y8, y9, y10, y11, rfl, m2, ld⟩ ⟨rfl, hx⟩
    rw [List.length_map] at hi
    have hle := Paired.length hbs
    rw [List.getElem?_map, List.getElem?_eq_getElem hi] at hx
    obtain rfl : x = V.ref bs[i] := by injection hx with hx; exact hx.symm
    obtain ⟨k, hk, hkb⟩ := paired_get hbs (List.getElem?_eq_getElem hi)
    have hkm := List.mem_of_getElem? hk
    obtain ⟨hk1, hk2, hkB⟩ := hin k hkm
    obtain ⟨⟨c, qq⟩, hB⟩ := Option.isSome_iff_exists.mp hkB
    have hkb2 : KeyAt H2 bs[i] k := m2.tup _ _ hkb
    have ma2 := ma.mod m2
    obtain ⟨tu, hv1, hv2⟩ := ma2.br.some hB
    refine ⟨bs[i], _, rfl, SqT.of hkb2, rfl, _, _, rfl, _, _, rfl, rfl, ?_⟩
    refine ⟨_, rfl, a.m, a.dm, _, _, rfl, ma2.c.m, rfl, ?_⟩
    refine ⟨_, rfl, _, rfl, ln2, fun t1 ht1 => ?_⟩
    have n3 := Mod.refl (ms := []).new (o := .tup [.int (k.1 : Nat), .int (k.2 : Nat)]) ht1
    refine ⟨a.b, _, rfl, by have := DGet.t (k := bk k.1 k.2) (n3.keep _ _ ma2.br.at_ (by simp)) upd_same; rw [hv1] at this; exact this, ?_⟩
    have m3 := m2.trans n3
    have ma3 := ma.mod m3
    have ld3 := ld.mod n3 (by simp)
    have hv3 := n3.tup _ _ hv2
    refine ⟨_, rfl, a.m, a.dm, _, rfl, ma3.c.m, rfl, _, rfl, _, rfl, _, rfl, ?_⟩
    refine ⟨a, p, z, B, kvs, k.1, k.2, o, rfl, ma3, hk1, hz, hk2, hN, fun H4 l vs rs m4 hl0 el pr hlen hrs => ?_⟩
    refine ⟨l, rfl, ⟨_, SqL.of el⟩, ?_⟩
    have m04 := m3.trans m4
    have ma4 := ma.mod m04
    have ld4 := ld3.mod m4 (by simp)
    have hv4 := m4.tup _ _ hv3
    have e1s : H4 bs[i] = _ := m04.tup _ _ hkb
    have hld : l ≠ d := fun z => by
      have := ld3.at_
      rw [← z, hl0] at this
      cases this
    refine for_it (walk_list (xs := vs)) (fun j σ H5 => ∃ (kvs2 : List (List Key × V)) (y7 y8 y9 y10 y11 : Option V), σ = [some (.ref a.m), some (.ref hl), some (.str (sgV o)), some (.ref d), some (.int (k.1 : Nat)), some (.int (k.2 : Nat)), some (.ref tu), y7, y8, y9, y10, y11] ∧ Mod [] H H5 ∧ Mod [d] H4 H5 ∧
      LayD H5 d kvs2 z.length p.sg (fun k' => (∃ j k, j < i ∧ hs[j]? = some k ∧ Stp z.cps.toList (FolS p) p.lotN B o k k') ∨ ∃ (j' : Nat) (r : Nat × Nat × Edit), j' < j ∧ rs[j']? = some r ∧ k' = (r.1, r.2.1) ∧ Tight z.cps.toList (FolS p) p.lotN B k.1 k.2 r.2.2 k'.1 k'.2)
        (fun k' org => ∃ e k, org = some (e, k) ∧ k ∈ hs ∧ e.told = o ∧ Tight z.cps.toList (FolS p) p.lotN B k.1 k.2 e k'.1 k'.2))
      ⟨kvs2, y7, y8, y9, y10, y11, rfl, m04, Mod.refl, ld4.imp (fun k' => ⟨.inl, fun h => h.elim id fun ⟨_, _, h, _⟩ => absurd h (Nat.not_lt_zero _)⟩) fun _ _ h => h⟩
      (fun j σ H5 _ h => by obtain ⟨_, _, _, _, _, _, _, _, m5, _⟩ := h; exact SqL.of (m5.keep _ _ el (by simp [hld]))) ?_ ?_
    · rintro j x σ _ H5 hj ⟨kvs3, y7, y8, y9, y10, y11, rfl, m05, m5, ld5⟩ ⟨rfl, hx⟩
      obtain ⟨r, hr5, ts, w5, rfl, hts, hed⟩ := paired_get pr hx
      obtain ⟨hst, hto⟩ := (hrs r).mp (List.mem_of_getElem? hr5)
      have ma5 := ma.mod m05
      have hts5 := m5.tup _ _ hts
      have hed5 := hed.mod m5
      have hv5 := m5.tup _ _ hv4
      have hrp := hst.pl
      have hrs2 := hst.le hFN hk2
      refine ⟨ts, _, rfl, SqT.of hts5, rfl, _, _, rfl, _, _, rfl, _, _, rfl, _, _, rfl, rfl, ?_⟩
      refine ⟨_, rfl, tu, _, _, _, rfl, rfl, SqT.of hv5, rfl, _, rfl, _, _, rfl, rfl, _, rfl, tu, _, _, _, rfl, rfl, SqT.of hv5, rfl, _, rfl, rfl, .inr ⟨_, rfl, _, _, rfl, rfl, ln2, fun td htd => ?_⟩⟩
      have eon : (if (!decide (V.str (sgV o) = V.str "")) = true then (1 : Int) else 0) = ((oN o : Nat) : Int) := by
        cases o with
        | none => rfl
        | some c => rw [if_pos (by simp only [Bool.not_eq_true', decide_eq_false_iff_not]; exact fun z => sg_ne c (by injection z))]; rfl
      have htde : upd H5 td (.tup [.int ((c : Int) - (r.2.2.price : Nat)), .int ((qq : Int) - (oN o : Nat))]) td = some (.tup [.int ((c : Int) - (r.2.2.price : Nat)), .int ((qq : Int) - (oN o : Nat))]) := upd_same
      rw [eon]
      have n6 := Mod.refl (ms := []).new (o := .tup [.int ((c : Int) - (r.2.2.price : Nat)), .int ((qq : Int) - (oN o : Nat))]) htd
      have ma6 := ma5.mod n6
      refine ⟨_, rfl, a.m, a.dm, _, _, rfl, ma6.c.m, rfl, a.b, rfl, .inr ⟨kvs, .inl ma6.br.at_⟩, _, rfl, _, rfl, ln2, fun t2 ht2 => ?_⟩
      have n7 := Mod.refl (ms := []).new (o := .tup [.int (r.1 : Nat), .int (r.2.1 : Nat)]) ht2
      refine ⟨_, DGet.t (k := bk r.1 r.2.1) (n7.keep _ _ ma6.br.at_ (by simp)) upd_same, _, rfl, ?_⟩
      have ma7 := ma6.mod n7
      have htd7 := n7.tup _ _ htde
      have m07 := (m05.trans n6).trans n7
      have m57 : Mod [] H5 _ := n6.trans n7
      have m47 : Mod [d] H4 _ := m5.trans m57.nil
      have ld7 := ld5.mod m57 (by simp)
      -- how the turn ends
      have fin : ∀ {H8 : Hp} {kvs4 : List (List Key × V)} {y11 : Option V} {S' : Nat × Nat → Prop}, Mod [] H H8 → Mod [d] H4 H8 → LayD H8 d kvs4 z.length p.sg S' (fun k' org => ∃ e k, org = some (e, k) ∧ k ∈ hs ∧ e.told = o ∧ Tight z.cps.toList (FolS p) p.lotN B k.1 k.2 e k'.1 k'.2) →
          (∀ k', S' k' ↔ ((∃ j k, j < i ∧ hs[j]? = some k ∧ Stp z.cps.toList (FolS p) p.lotN B o k k') ∨ ∃ (j' : Nat) (r : Nat × Nat × Edit), j' < j ∧ rs[j']? = some r ∧ k' = (r.1, r.2.1) ∧ Tight z.cps.toList (FolS p) p.lotN B k.1 k.2 r.2.2 k'.1 k'.2) ∨ (k' = (r.1, r.2.1) ∧ Tight z.cps.toList (FolS p) p.lotN B k.1 k.2 r.2.2 r.1 r.2.1)) →
          ∃ (kvs2 : List (List Key × V)) (z7 z8 z9 z10 z11 : Option V), [some (V.ref a.m), some (.ref hl), some (.str (sgV o)), some (.ref d), some (.int (k.1 : Nat)), some (.int (k.2 : Nat)), some (.ref tu), some (.int (r.2.2.price : Nat)), some (.int (r.1 : Nat)), some (.int (r.2.1 : Nat)), some w5, y11] = [some (.ref a.m), some (.ref hl), some (.str (sgV o)), some (.ref d), some (.int (k.1 : Nat)), some (.int (k.2 : Nat)), some (.ref tu), z7, z8, z9, z10, z11] ∧ Mod [] H H8 ∧ Mod [d] H4 H8 ∧
      LayD H8 d kvs2 z.length p.sg (fun k' => (∃ j k, j < i ∧ hs[j]? = some k ∧ Stp z.cps.toList (FolS p) p.lotN B o k k') ∨ ∃ (j' : Nat) (r : Nat × Nat × Edit), j' < j + 1 ∧ rs[j']? = some r ∧ k' = (r.1, r.2.1) ∧ Tight z.cps.toList (FolS p) p.lotN B k.1 k.2 r.2.2 k'.1 k'.2)
        (fun k' org => ∃ e k, org = some (e, k) ∧ k ∈ hs ∧ e.told = o ∧ Tight z.cps.toList (FolS p) p.lotN B k.1 k.2 e k'.1 k'.2) := fun {H8 kvs4 y11 S'} m8 m48 ld8 hS => by
        refine ⟨kvs4, _, _, _, _, _, rfl, m8, m48, ld8.imp (fun k' => (hS k').trans ?_) fun _ _ h => h⟩
        constructor
        · rintro ((h | ⟨j', r', h1, h2, h3, h4⟩) | ⟨rfl, h⟩)
          · exact .inl h
          · exact .inr ⟨j', r', by omega, h2, h3, h4⟩
          · exact .inr ⟨j, r, by omega, hr5, rfl, h⟩
        · rintro (h | ⟨j', r', h1, h2, rfl, h4⟩)
          · exact .inl (.inl h)
          · by_cases e : j' = j
            · subst e
              rw [hr5] at h2
              cases h2
              exact .inr ⟨rfl, h4⟩
            · exact .inl (.inr ⟨j', r', by omega, h2, rfl, h4⟩)
      have htI : Tight z.cps.toList (FolS p) p.lotN B k.1 k.2 r.2.2 r.1 r.2.1 ↔ ∃ u : Nat × Nat, B r.1 r.2.1 = some u ∧ ((u.1 : Nat) : Int) = (c : Int) - (r.2.2.price : Nat) ∧ ((u.2 : Nat) : Int) = (qq : Int) - (oN o : Nat) := by
        constructor
        · rintro ⟨_, c', q', h1, h2⟩
          rw [hB, hto] at h2
          injection h2 with h2
          injection h2 with h2 h3
          exact ⟨_, h1, by simp only; omega, by simp only; omega⟩
        · rintro ⟨u, h1, h2, h3⟩
          exact ⟨hst, u.1, u.2, h1, by rw [hB, hto]; congr 1; exact Prod.ext (by simp only; omega) (by simp only; omega)⟩
      cases hB1 : B r.1 r.2.1 with
      | none =>
        rw [ma7.br.none hB1]
        refine ⟨.none, .tuple [.int _, .int _], .non, .tup (SqT.of htd7) (.cons (.int _) (.cons (.int _) .nil)), by decide, rfl, _, rfl, iteFe (eqv_nonP _ _) ?_⟩
        refine iteF (fin m07 m47 ld7 fun k' => ⟨.inl, fun h => h.elim id fun ⟨_, h⟩ => ?_⟩)
        obtain ⟨u, h1, _⟩ := htI.mp h
        rw [hB1] at h1; cases h1
      | some u =>
        obtain ⟨tv, h1, h2⟩ := ma7.br.some hB1
        rw [h1]
        refine ⟨.tuple [.int _, .int _], .tuple [.int _, .int _], .tup (SqT.of h2) (.cons (.int _) (.cons (.int _) .nil)), .tup (SqT.of htd7) (.cons (.int _) (.cons (.int _) .nil)), rfl, rfl, _, rfl, ?_⟩
        rw [eqv_pair]
        by_cases ht : ((u.1 : Nat) : Int) = (c : Int) - (r.2.2.price : Nat) ∧ ((u.2 : Nat) : Int) = (qq : Int) - (oN o : Nat)
        · have htight := htI.mpr ⟨u, hB1, ht⟩
          refine iteTe (by simp [ht.1, ht.2]) ?_
          refine ⟨_, rfl, _, rfl, ln2, fun t3 ht3 => ?_⟩
          have n8 := Mod.refl (ms := []).new (o := .tup [.int (r.1 : Nat), .int (r.2.1 : Nat)]) ht3
          have ld8 := ld7.mod n8 (by simp)
          refine ⟨_, rfl, d, _, rfl, DGet.t (k := bk r.1 r.2.1) ld8.at_ upd_same, _, rfl, ?_⟩
          have hg := ld8.get (r.1, r.2.1)
          have m08 := m07.trans n8
          have m48 := m47.trans n8.nil
          cases hvv : (valV kvs3 (bk r.1 r.2.1)).isSome with
          | true =>
            have hin8 := hg.mp hvv
            refine iteFe (by rfl) (fin m08 m48 ld8 fun k' => ⟨.inl, fun h => h.elim id fun ⟨h, _⟩ => ?_⟩)
            rw [h]; exact hin8
          | false =>
            refine iteTe (by rfl) ?_
            refine ⟨_, rfl, _, rfl, _, rfl, ln2, fun f hf => ⟨ln2, fun tw htw => ⟨_, rfl, _, rfl, _, rfl, ln2, fun t4 ht4 => ?_⟩⟩⟩
            have na := Mod.refl (ms := []).new (o := .tup [.int (k.1 : Nat), .int (k.2 : Nat)]) hf
            have nb := Mod.refl (ms := []).new (o := .tup [w5, .ref f]) htw
            have nc := Mod.refl (ms := []).new (o := .tup [.int (r.1 : Nat), .int (r.2.1 : Nat)]) ht4
            have nn := (na.trans nb).trans nc
            have ld9 := ld8.mod nn (by simp)
            have hlen9 := ld9.len
            have hlen10 : (z.length + 1) * (p.sg + 1) ≤ 301 * 61 := Nat.mul_le_mul (by omega) (by omega)
            refine ⟨d, _, rfl, DPut.t (k := bk r.1 r.2.1) ld9.at_ upd_same (lt_line (by omega)), ?_⟩
            have hor : OrgAt _ (.ref tw) (some (r.2.2, k)) := ⟨tw, w5, f, rfl, nc.tup _ _ upd_same, (hed5.mod (m57.trans n8)).mod nn, nc.tup _ _ (nb.tup _ _ upd_same)⟩
            have ld10 := ld9.put (k := (r.1, r.2.1)) (v := .ref tw) (o := some (r.2.2, k)) (by have := hrp.2 hk1; show r.1 ≤ z.length; rw [← ezl]; rw [ezl]; exact this) hrs2 hor ⟨r.2.2, k, rfl, hkm, hto, htight⟩
            refine fin ((m08.trans nn).putNew ld9.at_ hd) ((m48.trans nn.nil).put ld9.at_ (fun _ z => nomatch z) (List.mem_singleton.mpr rfl)) ld10 fun k' => ⟨fun h => h.imp id fun h => ⟨h, htight⟩, fun h => h.imp id fun h => h.1⟩
        · refine iteFe (by simp only [Bool.and_eq_false_iff, decide_eq_false_iff_not]; exact Decidable.not_and_iff_or_not.mp ht) (iteF (fin m07 m47 ld7 fun k' => ⟨.inl, fun h => h.elim id fun ⟨_, h⟩ => ?_⟩))
          obtain ⟨u', g1, g2⟩ := htI.mp h
          rw [hB1] at g1; cases g1
          exact absurd g2 ht
    · rintro σ H5 ⟨kvs3, y7, y8, y9, y10, y11, rfl, m05, m5, ld5⟩
      refine ⟨kvs3, _, _, _, _, _, _, _, _, rfl, m05, ld5.imp (fun k' => ?_) fun _ _ h => h⟩
      constructor
      · rintro (⟨j, k0, h1, h2, h3⟩ | ⟨j', r, h1, h2, rfl, h4⟩)
        · exact ⟨j, k0, by omega, h2, h3⟩
        · exact ⟨i, k, by omega, hk, r.2.2, ((hrs r).mp (List.mem_of_getElem? h2)).2, h4⟩
      · rintro ⟨j, k0, h1, h2, h3⟩
        by_cases e : j = i
        · subst e
          rw [hk] at h2
          cases h2
          obtain ⟨ed, h4, h5⟩ := h3
          obtain ⟨j', hj'⟩ := List.mem_iff_getElem?.mp ((hrs (k'.1, k'.2, ed)).mpr ⟨h5.st, h4⟩)
          exact .inr ⟨j', _, by rw [Paired.length pr]; exact (List.getElem?_eq_some_iff.mp hj').1, hj', rfl, h5⟩
        · exact .inl ⟨j, k0, by omega, h2, h3⟩
  · rintro σ H2 ⟨kvs2, y4, y5, y6, y7, y8, y9, y10, y11, rfl, m2, ld⟩
    refine ⟨_, rfl, q _ d kvs2 m2 hd (ld.imp (fun k' => ⟨fun ⟨j, k, _, h1, h2⟩ => ⟨k, List.mem_of_getElem? h1, h2⟩, fun ⟨k, h1, h2⟩ => ?_⟩) fun _ _ h => h)⟩
    obtain ⟨j, hj⟩ := List.mem_iff_getElem?.mp h1
    have := Paired.length hbs
    exact ⟨j, k, by rw [List.length_map, this]; exact (List.getElem?_eq_some_iff.mp hj).1, hj, h2⟩
end
end Fr

set_option maxHeartbeats 4000000
namespace Fr
open PySem PySem.Spec PyProof.Rows L2
theorem valV_nd {κ : Type} [DecidableEq κ] : ∀ {kvs : List (κ × V)} {i : Nat} {k : κ} {v : V}, (kvs.map (·.1)).Nodup → kvs[i]? = some (k, v) → valV kvs k = some v
  | [], _, _, _, _, h => by simp at h
  | p :: r, 0, k, v, _, h => by
    have h : p = (k, v) := by simpa using h
    rw [valV_pos (by rw [h]), h]
  | p :: r, i + 1, k, v, hn, h => by
    rw [List.map_cons, List.nodup_cons] at hn
    have h : r[i]? = some (k, v) := by simpa using h
    have hm : k ∈ r.map (·.1) := List.mem_map.mpr ⟨_, List.mem_of_getElem? h, rfl⟩
    rw [valV_neg (fun e => hn.1 (e ▸ hm))]
    exact valV_nd hn.2 h
theorem paired_snoc {α β : Type} {R : α → β → Prop} : ∀ {l : List α} {m : List β}, Paired R l m → l ≠ [] → ∃ l' a m' b, l = l' ++ [a] ∧ m = m' ++ [b] ∧ Paired R l' m' ∧ R a b
  | _, _, .nil, h => absurd rfl h
  | _, _, .cons (l₁ := []) h .nil, _ => ⟨[], _, [], _, rfl, rfl, .nil, h⟩
  | _, _, .cons (l₁ := _ :: _) h t, _ => let ⟨l', a, m', b, h1, h2, h3, h4⟩ := paired_snoc t (by simp); ⟨_ :: l', a, _ :: m', b, by rw [h1]; rfl, by rw [h2]; rfl, .cons h h3, h4⟩
theorem keys_of {H : Hp} {L N : Nat} : ∀ {kvs : List (List Key × V)} {bs : List Addr}, IsKeys H kvs bs → (∀ k ∈ kvs.map (·.1), ∃ p s, k = bk p s ∧ p ≤ L ∧ s ≤ N) → ∃ hs : List (Nat × Nat), Paired (KeyAt H) bs hs ∧ kvs.map (·.1) = hs.map fun k => bk k.1 k.2
  | _, _, .nil, _ => ⟨[], .nil, rfl⟩
  | _, _, .cons (a := kv) (b := b) h t, hk => by
    rw [List.map_cons] at hk
    obtain ⟨p, s, e, _, _⟩ := hk _ (List.mem_cons_self ..)
    obtain ⟨hs, h1, h2⟩ := keys_of t fun k hk' => hk k (List.mem_cons_of_mem _ hk')
    refine ⟨(p, s) :: hs, .cons ?_ h1, by rw [List.map_cons, h2, e]; rfl⟩
    rw [e] at h
    exact h
theorem mem_bk {hs : List (Nat × Nat)} {k : Nat × Nat} : bk k.1 k.2 ∈ hs.map (fun k => bk k.1 k.2) ↔ k ∈ hs := by
  rw [List.mem_map]
  exact ⟨fun ⟨k', h, e⟩ => bk_eq.mp e ▸ h, fun h => ⟨k, h, rfl⟩⟩
section
variable {P : Program} {w : World} {K : PySem.W.Frag} {mg : Str → Option Value} {base : Heap}
/-- what closed tells of a layer -/
def ClS (z : List Nat) (F : Nat → Nat → Prop) (lot : Nat → List Nat) (B : Bt) (S0 : Nat × Nat → Prop) (k : Nat × Nat) : Prop := ∃ h, S0 h ∧ Tks z F lot B h k
def ClW (z : List Nat) (F : Nat → Nat → Prop) (lot : Nat → List Nat) (B : Bt) (S0 : Nat × Nat → Prop) (W0 : Nat × Nat → Org → Prop) (k : Nat × Nat) (o : Org) : Prop :=
  W0 k o ∨ ∃ x h, o = some (.take x, h) ∧ ClS z F lot B S0 h ∧ Tight z F lot B h.1 h.2 (.take x) k.1 k.2
def spClosed (K : PySem.W.Frag) : Sp := fun vs H Q _ => ∃ (a : MA) (p : Pat) (z : Str) (B : Bt) (kvs : List (List Key × V)) (d0 : Addr) (kvs0 : List (List Key × V)) (S0 : Nat × Nat → Prop) (W0 : Nat × Nat → Org → Prop), vs = [.ref a.m, .ref d0] ∧ MenAt K H a p z B kvs ∧
  LayD H d0 kvs0 z.length p.sg S0 W0 ∧ (∀ k, S0 k → (B k.1 k.2).isSome = true) ∧ z.length ≤ 15 ∧ p.sg ≤ 15 ∧
  ∀ H' d kvs', Mod [] H H' → H d = none → LayD H' d kvs' z.length p.sg (ClS z.cps.toList (FolS p) p.lotN B S0) (ClW z.cps.toList (FolS p) p.lotN B S0 W0) → Q (.ref d) H'
theorem has_Mender_closed (T : Tx w K mg) : HasM P w K mg base 3 "Mender" "closed" ["self", "here"] (spClosed K) := by
  have H_Mender_later := has_Mender_later (P := P) (base := base) T
  refine (T.has (d := d_Mender_closed) 21 rfl rfl rfl rfl b_Mender_closed sc_Mender_closed (fun vs H Q E h => ?_) fun cdv A outer s H vs Q E hr h => ?_)
  · obtain ⟨_, _, _, _, _, _, _, _, _, rfl, _⟩ := h; rfl
  obtain ⟨a, p, z, B, kvs, d0, kvs0, S0, W0, rfl, ma, ld0, hB0, hz, hN, q⟩ := h
  refine ⟨_, (pss_cons (ps_set (i := 2) sc_Mender_closed.nd rfl (Or.inl rfl) (pe_callTy (call_dictT (hu64 hr)) (by rfl) (z_dict T) (by decide +kernel) (pa_cons (pv 1) pa_nil)))
      (pss_cons (ps_set (i := 3) sc_Mender_closed.nd rfl (Or.inl rfl) (pe_callTy (call_list_dT rfl) (by rfl) (z_list T) (by decide +kernel) (pa_cons (pv 1) pa_nil)))
      (pss_cons (ps_while PassesOwn.never (pt_cmpR op_gt (pe_callB call_len_seq (by rfl) (z_len T) (by decide +kernel) (pa_cons (pv 3) pa_nil)) pe_int (nomark _)) (pss_cons (ps_set (i := 4) sc_Mender_closed.nd rfl (Or.inl rfl) (pe_bm0 PySem.F.plainAttrs_list PySem.F.slot_list_pop PySem.F.type_list_pop mt_pop (pv 3)))
      (pss_one (ps_for PassesOwn.never rfl (pi_itemsT (pe_methH (c_Mender T) (m_Mender_later T) H_Mender_later (hr.mono (by decide)) (pv 0) (pa_cons (pe_lst (pa_cons (pv 4) pa_nil)) (pa_cons pe_str pa_nil)))) (pg_tup rfl (pgs_cons (pg_name (i := 5) sc_Mender_closed.nd rfl (Or.inl rfl)) (pgs_cons (pg_name (i := 6) sc_Mender_closed.nd rfl (Or.inl rfl)) pgs_nil))) (pss_one (ps_if (pt_cmp (pc_dnotin (hu_of hr) (pv 5) (pv 2)) rfl) (pss_cons (ps_dput (hu_of hr) (pv 2) (pv 5) (pv 6) rfl)
      (pss_one (ps_expr (pe_bm PySem.F.plainAttrs_list PySem.F.slot_list_append PySem.F.type_list_append mt_append (pv 3) (pa_cons (pv 5) pa_nil))))) pss_nil))))))
      (pss_one (ps_ret (pv 2)))))), ?_⟩
  have ezl : z.cps.toList.length = z.length := Array.length_toList
  have hFN : ∀ s t, FolS p s t → t ≤ p.sg := fun s t h => (FolS_in h).2
  have hM : (z.length + 1) * (p.sg + 1) ≤ 16 * 16 := Nat.mul_le_mul (by omega) (by omega)
  refine ⟨_, rfl, d0, kvs0, rfl, .inl ld0.at_, ld0.small hz hN, fun d hd => ?_⟩
  have n1 := Mod.refl (ms := []).new (o := .dT kvs0) hd
  refine ⟨_, rfl, d0, kvs0, rfl, .inl (n1.keep _ _ ld0.at_ (by simp)), fun w bs hw hkeys => ?_⟩
  have n2 := Mod.refl (ms := []).new (o := .lst (bs.map V.ref)) hw
  have n12 := n1.trans n2
  have hwd : w ≠ d := fun z => by rw [z, upd_same] at hw; cases hw
  have hwH : H w = none := n1.back hw
  obtain ⟨hs, hbs, ehs⟩ := keys_of hkeys ld0.key
  have hl0 := ld0.len
  have ed : upd (upd H d (.dT kvs0)) w (.lst (bs.map V.ref)) d = some (.dT kvs0) := n2.keep _ _ upd_same (by simp)
  refine ⟨fun m σ H1 => ∃ (kvs1 : List (List Key × V)) (S1 : Nat × Nat → Prop) (ws : List Addr) (hs : List (Nat × Nat)) (y4 y5 y6 : Option V), σ = [some (.ref a.m), some (.ref d0), some (.ref d), some (.ref w), y4, y5, y6] ∧ Mod [] H H1 ∧ LayD H1 d kvs1 z.length p.sg S1 (ClW z.cps.toList (FolS p) p.lotN B S0 W0) ∧
      H1 w = some (.lst (ws.map V.ref)) ∧ Paired (KeyAt H1) ws hs ∧ (∀ k ∈ hs, S1 k) ∧ (∀ k, S0 k → S1 k) ∧ (∀ k, S1 k → ClS z.cps.toList (FolS p) p.lotN B S0 k) ∧ (∀ k, S1 k → k ∈ hs ∨ ∀ k', Tk z.cps.toList (FolS p) p.lotN B k k' → S1 k') ∧
      m = 2 * ((z.length + 1) * (p.sg + 1) - kvs1.length) + ws.length ∧ m ≤ 1000,
    ⟨_, kvs0, S0, bs, hs, none, none, none, rfl, n12, ⟨ed, ld0.nd, ld0.key, ld0.mem, fun k v e => let ⟨o, h1, h2⟩ := ld0.val k v e; ⟨o, h1.mod n12, .inl h2⟩⟩, upd_same, pairedMap (fun _ _ h => n2.tup _ _ h) hbs,
      fun k hk => (ld0.mem k).mp (by rw [ehs]; exact mem_bk.mpr hk), fun _ h => h, fun k h => ⟨k, h, .nil⟩, fun k h => .inl (by have := (ld0.mem k).mpr h; rw [ehs] at this; exact mem_bk.mp this), rfl, (by have := Paired.length hkeys; omega)⟩, ?_⟩
  rintro m σ H1 ⟨kvs1, S1, ws, hs, y4, y5, y6, rfl, m1, ld1, ew, hws, hin, hS0, hcl, hcov, rfl, hms0⟩
  refine ⟨_, rfl, w, _, rfl, .inl (SqL.of ew), _, _, rfl, rfl, _, rfl, ite2 (fun hpos => ?_) (fun hpos => ?_)⟩
  · have hne : ws ≠ [] := fun e => by rw [e] at hpos; exact absurd hpos (by decide)
    obtain ⟨ws', b, hs', k, rfl, rfl, hws', hkb⟩ := paired_snoc hws hne
    refine ⟨fun σ' H' => ∃ m', m' < _ ∧ _, fun _ _ h => h, ?_⟩
    rw [List.length_append, List.length_singleton] at hms0
    have hdl : ((ws' ++ [b]).map V.ref).dropLast = ws'.map V.ref := by rw [List.map_append]; exact List.dropLast_concat
    have hlast : ((ws' ++ [b]).map V.ref)[((ws' ++ [b]).map V.ref).length - 1]? = some (.ref b) := by rw [List.map_append]; simp
    refine ⟨_, rfl, .inl ⟨rfl, _, SqL.of ew⟩, w, _, _, rfl, rfl, ew, hlast, ?_⟩
    rw [hdl]
    have m2 : Mod [] H (upd H1 w (.lst (ws'.map V.ref))) := m1.putNew ew hwH
    have m12 : Mod [w] H1 (upd H1 w (.lst (ws'.map V.ref))) := Mod.refl.put ew (fun _ z => nomatch z) (List.mem_singleton.mpr rfl)
    have ld2 := ld1.mod m12 (by simp [hwd.symm])
    have ma2 := ma.mod m2
    have hk1 : S1 k := hin k (by simp)
    have hkB : (B k.1 k.2).isSome = true := by
      obtain ⟨h, h1, h2⟩ := hcl k hk1
      have key : ∀ {k k' : Nat × Nat}, Tks z.cps.toList (FolS p) p.lotN B k k' → (B k.1 k.2).isSome = true → (B k'.1 k'.2).isSome = true := by
        intro k k' t
        induction t with
        | nil => exact id
        | snoc _ t _ => intro _; obtain ⟨x, t⟩ := t; obtain ⟨_, _, e, _⟩ := t.at_; rw [e]; rfl
      exact key h2 (hB0 h h1)
    obtain ⟨p', s', e, hp', hs''⟩ := ld1.key _ ((ld1.mem k).mpr hk1)
    obtain ⟨e1, e2⟩ := bk_inj e
    refine ⟨_, rfl, a.m, a.dm, _, rfl, ma2.c.m, rfl, _, rfl, ln1, fun l1 hl1 => ?_⟩
    have n3 := Mod.refl (ms := []).new (o := .lst [.ref b]) hl1
    refine ⟨a, p, z, B, kvs, l1, [b], [k], none, rfl, ma2.mod n3, upd_same, .cons (n3.tup _ _ (m12.tup _ _ hkb)) .nil, (fun k' hk' => by rw [List.mem_singleton.mp hk']; exact ⟨by omega, by omega, hkB⟩), by omega, by omega, fun H4 d4 kvs4 m4 hd4 ld4 => ⟨d4, kvs4, rfl, ld4.at_, fun od => ?_⟩⟩
    have hd4' : H d4 = none := m2.back (n3.back hd4)
    have m5 : Mod [d4] H4 (upd H4 d4 (.frz od (.dT kvs4))) := Mod.refl.put ld4.at_ (fun _ z => nomatch z) (List.mem_singleton.mpr rfl)
    have m05 : Mod [] H (upd H4 d4 (.frz od (.dT kvs4))) := ((m2.trans n3).trans m4).putNew ld4.at_ hd4'
    have hd4d : d ∉ [d4] := by simp [ne_of_none (ld2.mod n3 (by simp)).at_ hd4]
    have hd4w : w ∉ [d4] := by simp [ne_of_none (n3.keep _ _ (upd_same (H := H1) (a := w) (o := .lst (ws'.map V.ref))) (by simp)) hd4]
    refine for_it walk_itemsT (fun i σ H5 => ∃ (kvs5 : List (List Key × V)) (S5 : Nat × Nat → Prop) (ws5 : List Addr) (hs5 : List (Nat × Nat)) (y5 y6 : Option V), σ = [some (.ref a.m), some (.ref d0), some (.ref d), some (.ref w), some (.ref b), y5, y6] ∧ Mod [] H H5 ∧ Mod [d, w] (upd H4 d4 (.frz od (.dT kvs4))) H5 ∧ H5 d4 = some (.frz od (.dT kvs4)) ∧ LayD H5 d kvs5 z.length p.sg S5 (ClW z.cps.toList (FolS p) p.lotN B S0 W0) ∧
        H5 w = some (.lst (ws5.map V.ref)) ∧ Paired (KeyAt H5) ws5 hs5 ∧ (∀ k ∈ hs5, S5 k) ∧ (∀ k, S1 k → S5 k) ∧ (∀ k, S5 k → ClS z.cps.toList (FolS p) p.lotN B S0 k) ∧ (∀ k1, S5 k1 → k1 ∈ hs5 ∨ k1 = k ∨ ∀ k', Tk z.cps.toList (FolS p) p.lotN B k1 k' → S5 k') ∧
        (∀ j k1 v, j < i → kvs4[j]? = some (bk k1.1 k1.2, v) → S5 k1) ∧ 2 * ((z.length + 1) * (p.sg + 1) - kvs5.length) + ws5.length ≤ 2 * ((z.length + 1) * (p.sg + 1) - kvs1.length) + ws'.length)
      ⟨kvs1, S1, ws', hs', y5, y6, rfl, m05, Mod.refl, upd_same, ((ld2.mod n3 (by simp)).mod m4 (by simp)).mod m5 hd4d, m5.keep _ _ (m4.keep _ _ (n3.keep _ _ upd_same (by simp)) (by simp)) hd4w, pairedMap (fun _ _ h => m5.tup _ _ (m4.tup _ _ (n3.tup _ _ (m12.tup _ _ h)))) hws',
        (fun k hk => hin k (List.mem_append_left _ hk)), (fun _ h => h), hcl, (fun k1 h1 => by
          rcases hcov k1 h1 with h | h
          · rcases List.mem_append.mp h with h | h
            · exact .inl h
            · exact .inr (.inl (List.mem_singleton.mp h))
          · exact .inr (.inr h)), (fun j _ _ h => absurd h (Nat.not_lt_zero _)), Nat.le_refl _⟩
      (fun i σ H5 _ h => by obtain ⟨_, _, _, _, _, _, _, _, _, h, _⟩ := h; exact h) ?_ ?_
    · rintro i x σ H5 _ hi ⟨kvs5, S5, ws5, hs5, y5, y6, rfl, m5H, m5d, ef, ld5, ew5, hws5, hin5, h15, hcl5, hcov5, hall, hms⟩ ⟨T', kk, v, qq, hkv, rfl, hT, hq, rfl⟩
      obtain ⟨p1, s1, rfl, hp1, hs1⟩ := ld4.key kk (List.mem_map.mpr ⟨_, List.mem_of_getElem? hkv, rfl⟩)
      have hvv := valV_nd ld4.nd hkv
      obtain ⟨og, hog, e0, k0, rfl, hk0, hto, htight⟩ := ld4.val (p1, s1) v hvv
      obtain rfl : k0 = k := List.mem_singleton.mp hk0
      obtain ⟨x0, rfl⟩ : ∃ x0, e0 = .take x0 := by cases e0 with | take x0 => exact ⟨x0, rfl⟩ | keep _ => cases hto | put _ => cases hto | chg _ _ => cases hto
      have m6 := Mod.refl (ms := []).new (o := .tup [.ref qq, v]) hT
      have ld6 := ld5.mod m6 (by simp)
      have ew6 := m6.keep _ _ ew5 (by simp)
      have ef6 := m6.keep _ _ ef (by simp)
      have m06 := m5H.trans m6
      have m5d6 := m5d.trans m6.nil
      have hws6 := pairedMap (fun _ _ h => m6.tup _ _ h) hws5
      have hkcl : ClS z.cps.toList (FolS p) p.lotN B S0 (p1, s1) := let ⟨h, h1, h2⟩ := hcl k0 hk1; ⟨h, h1, h2.snoc ⟨x0, htight⟩⟩
      refine ⟨T', _, rfl, SqT.of upd_same, rfl, _, _, rfl, _, _, rfl, rfl, ?_⟩
      refine ⟨_, rfl, _, rfl, d, _, rfl, DGet.t (k := bk p1 s1) ld6.at_ (m6.tup _ _ hq), _, rfl, ?_⟩
      have hg := ld6.get (p1, s1)
      have hallj : ∀ {S' : Nat × Nat → Prop}, (∀ k, S5 k → S' k) → S' (p1, s1) → ∀ j k1 v, j < i + 1 → kvs4[j]? = some (bk k1.1 k1.2, v) → S' k1 := fun {S'} h1 h2 j k1 v' hj e => by
        by_cases ej : j = i
        · subst ej
          rw [hkv] at e
          injection e with e
          injection e with e _
          have : (p1, s1) = k1 := bk_eq.mp e
          rw [← this]; exact h2
        · exact h1 _ (hall j k1 v' (by omega) e)
      cases hfnd : (valV kvs5 (bk p1 s1)).isSome with
      | true =>
        have h5 := hg.mp hfnd
        exact iteFe (by rfl) ⟨kvs5, S5, ws5, hs5, _, _, rfl, m06, m5d6, ef6, ld6, ew6, hws6, hin5, h15, hcl5, hcov5, hallj (fun _ h => h) h5, hms⟩
      | false =>
        refine iteTe (by rfl) ?_
        have hn5 : ¬ S5 (p1, s1) := fun h => by have := hg.mpr h; rw [hfnd] at this; cases this
        have hl6 := ld6.len
        refine ⟨_, rfl, _, rfl, _, rfl, d, _, rfl, DPut.t (k := bk p1 s1) ld6.at_ (m6.tup _ _ hq) (lt_line (by omega)), ?_⟩
        have ld7 := ld6.put (k := (p1, s1)) (v := v) hp1 hs1 (((hog.mod m5).mod m5d).mod m6) (.inr ⟨x0, k0, rfl, hcl k0 hk1, htight⟩)
        have m7 := m06.putNew (o := .dT (putK kvs5 (bk p1 s1) v)) ld6.at_ hd
        have m67 : Mod [d] _ (upd (upd H5 T' (.tup [.ref qq, v])) d (.dT (putK kvs5 (bk p1 s1) v))) := Mod.refl.put ld6.at_ (fun _ z => nomatch z) (List.mem_singleton.mpr rfl)
        have ew7 := m67.keep _ _ ew6 (by simp [hwd])
        have hlw : ws5.length < 1000000 := by omega
        refine ⟨_, rfl, ty_lst ew7, _, rfl, w, _, _, rfl, rfl, ew7, lt_line (by rw [List.length_map]; omega), ?_⟩
        have m78 : Mod [w] (upd (upd H5 T' (.tup [.ref qq, v])) d (.dT (putK kvs5 (bk p1 s1) v))) (upd (upd (upd H5 T' (.tup [.ref qq, v])) d (.dT (putK kvs5 (bk p1 s1) v))) w (.lst (ws5.map V.ref ++ [.ref qq]))) := Mod.refl.put ew7 (fun _ z => nomatch z) (List.mem_singleton.mpr rfl)
        have ld8 := ld7.mod m78 (by simp [hwd.symm])
        have hlk : (putK kvs5 (bk p1 s1) v).length = kvs5.length + 1 := by
          have : (kvs5.any fun kv => decide (kv.1 = bk p1 s1)) = false := by rw [valV_any, hfnd]
          unfold putK
          rw [if_neg (by rw [this]; simp), List.length_append, List.length_singleton]
        have hl8 := ld8.len
        refine ⟨_, _, ws5 ++ [qq], hs5 ++ [(p1, s1)], _, _, rfl, m7.putNew ew7 hwH, (m5d6.trans (m67.mono fun x h => by rw [List.mem_singleton.mp h]; simp)).trans (m78.mono fun x h => by rw [List.mem_singleton.mp h]; simp), m78.keep _ _ (m67.keep _ _ ef6 (by simp; exact fun z => hd4d (by rw [z]; simp))) (by simp; exact fun z => hd4w (by rw [z]; simp)), ld8, by rw [upd_same, List.map_append]; rfl,
          pairedSnoc (R := KeyAt _) (b := (p1, s1)) (m78.tup _ _ (m67.tup _ _ (m6.tup _ _ hq))) (pairedMap (fun _ _ h => m78.tup _ _ (m67.tup _ _ h)) hws6), fun k hk => ?_, fun k h => .inl (h15 k h), fun k h => ?_, fun k1 h1 => ?_, hallj (fun _ h => .inl h) (.inr rfl), ?_⟩
        · rcases List.mem_append.mp hk with hk | hk
          · exact .inl (hin5 k hk)
          · exact .inr (List.mem_singleton.mp hk)
        · rcases h with h | rfl
          · exact hcl5 k h
          · exact hkcl
        · rcases h1 with h1 | rfl
          · rcases hcov5 k1 h1 with h | h | h
            · exact .inl (List.mem_append_left _ h)
            · exact .inr (.inl h)
            · exact .inr (.inr fun k' t => .inl (h k' t))
          · exact .inl (by simp)
        · rw [hlk] at hl8
          rw [hlk, List.length_append, List.length_singleton]
          omega
    · rintro σ H5 ⟨kvs5, S5, ws5, hs5, y5, y6, rfl, m5H, _, _, ld5, ew5, hws5, hin5, h15, hcl5, hcov5, hall, hms⟩
      refine ⟨_, ?_, kvs5, S5, ws5, hs5, _, _, _, rfl, m5H, ld5, ew5, hws5, hin5, fun k h => h15 k (hS0 k h), hcl5, fun k1 h1 => ?_, rfl, ?_⟩
      · rw [List.length_append, List.length_singleton]; omega
      · rcases hcov5 k1 h1 with h | rfl | h
        · exact .inl h
        · refine .inr fun k' ⟨x, hx⟩ => ?_
          have hm : bk k'.1 k'.2 ∈ kvs4.map (·.1) := (ld4.mem k').mpr ⟨k1, by simp, .take x, rfl, hx⟩
          obtain ⟨⟨k2, v2⟩, g1, g2⟩ := List.mem_map.mp hm
          obtain ⟨j, hj⟩ := List.mem_iff_getElem?.mp g1
          have g2 : k2 = bk k'.1 k'.2 := g2
          subst g2
          exact hall j k' v2 (List.getElem?_eq_some_iff.mp hj).1 hj
        · exact .inr h
      · omega
  · have he : ws = [] := by
      cases ws with
      | nil => rfl
      | cons b r => exact absurd hpos (by simp)
    subst he
    cases hws
    refine ⟨_, rfl, q _ d kvs1 m1 hd (ld1.imp (fun k => ⟨hcl k, fun ⟨h, h1, h2⟩ => ?_⟩) fun _ _ h => h)⟩
    have key : ∀ {k k' : Nat × Nat}, Tks z.cps.toList (FolS p) p.lotN B k k' → S1 k → S1 k' := by
      intro k k' t
      induction t with
      | nil => exact id
      | snoc _ t ih => exact fun h => ((hcov _ (ih h)).resolve_left fun h => nomatch h) _ t
    exact key h2 (hS0 h h1)
end
end Fr

set_option maxHeartbeats 4000000
namespace Fr
open PySem PySem.Spec PyProof.Rows L2
theorem Pat.Ok.lots : ∀ {p : Pat}, p.Ok → ∀ l ∈ p.lots, LotOk l
  | .sign _, h, _, hl => by rw [List.mem_singleton.mp hl]; exact h
  | .thn _ _, h, l, hl => (List.mem_append.mp hl).elim (Pat.Ok.lots h.1 l) (Pat.Ok.lots h.2 l)
  | .orr _ _, h, l, hl => (List.mem_append.mp hl).elim (Pat.Ok.lots h.1 l) (Pat.Ok.lots h.2 l)
  | .many p, h, l, hl => Pat.Ok.lots (p := p) h l hl
  | .few p, h, l, hl => Pat.Ok.lots (p := p) h l hl
  | .mark _ p, h, l, hl => Pat.Ok.lots (p := p) h.2 l hl
theorem lotN_ok {p : Pat} (h : p.Ok) {s t : Nat} (f : FolS p s t) : LotOk (p.lotN t) := by
  have ht := FolS_in f
  have h1 : t - 1 < p.lots.length := by rw [Pat.lots_len]; omega
  have e : p.lotN t = p.lots[t - 1] := by unfold Pat.lotN; rw [List.getD_eq_getElem?_getD, List.getElem?_eq_getElem h1]; rfl
  rw [e]
  exact h.lots _ (List.getElem_mem h1)
theorem okSign_at {c : Nat} (h : okSign c = true) : 97 ≤ c ∧ c ≤ 100 := by
  have h1 : c ∈ ("abcd" : Str).cps.toList := of_decide_eq_true h
  have e : ("abcd" : Str).cps.toList = [97, 98, 99, 100] := by decide +kernel
  rw [e] at h1
  simp at h1
  omega
theorem refs_keys {H : Hp} {L N : Nat} {ks : List (List Key)} (hk : ∀ k ∈ ks, ∃ p s, k = bk p s ∧ p ≤ L ∧ s ≤ N) : ∀ {bs : List Addr}, (∀ b ∈ bs, ∃ k ∈ ks, H b = some (.tup (k.map kV))) → ∃ hs, Paired (KeyAt H) bs hs ∧ ∀ k ∈ hs, bk k.1 k.2 ∈ ks
  | [], _ => ⟨[], .nil, fun _ h => nomatch h⟩
  | b :: bs, h => by
    obtain ⟨k, h1, h2⟩ := h b (List.mem_cons_self ..)
    obtain ⟨p, s, rfl, _, _⟩ := hk k h1
    obtain ⟨hs, h3, h4⟩ := refs_keys hk (bs := bs) fun b hb => h b (List.mem_cons_of_mem _ hb)
    exact ⟨(p, s) :: hs, .cons h2 h3, fun k hm => by
      rcases List.mem_cons.mp hm with rfl | hm
      · exact h1
      · exact h4 k hm⟩
theorem keyAt_uniq {H : Hp} {b : Addr} {k k' : Nat × Nat} (h : KeyAt H b k) (h' : KeyAt H b k') : k = k' := by
  unfold KeyAt at h h'
  rw [h] at h'
  injection h' with h'
  injection h' with h'
  injection h' with h1 h2
  injection h2 with h2 _
  injection h1 with h1
  injection h2 with h2
  exact Prod.ext (by omega) (by omega)
/-- where a key of the i-th layer comes from -/
def LayW (z : List Nat) (F : Nat → Nat → Prop) (lot : Nat → List Nat) (B : Bt) (u : List Nat) (i : Nat) (k : Nat × Nat) : Org → Prop
  | none => i = 0 ∧ k = (0, 0)
  | some (e, h) => Tight z F lot B h.1 h.2 e k.1 k.2 ∧ ((e.told = none ∧ Lay z F lot B (u.take i) h) ∨ ∃ j c, i = j + 1 ∧ u[j]? = some c ∧ e.told = some c ∧ Lay z F lot B (u.take j) h)
theorem LayW.more {z : List Nat} {F : Nat → Nat → Prop} {lot : Nat → List Nat} {B : Bt} {u : List Nat} {d i : Nat} (hi : i ≤ u.length) {k : Nat × Nat} : ∀ {o : Org}, LayW z F lot B u i k o → LayW z F lot B (u ++ [d]) i k o
  | none, h => h
  | some _, ⟨h1, h2⟩ => ⟨h1, h2.imp (fun ⟨h3, h4⟩ => ⟨h3, by rw [List.take_append_of_le_length hi]; exact h4⟩) fun ⟨j, c, h3, h4, h5, h6⟩ => ⟨j, c, h3, by rw [List.getElem?_append_left (by have := (List.getElem?_eq_some_iff.mp h4).1; exact this)]; exact h4, h5, by rw [List.take_append_of_le_length (by omega)]; exact h6⟩⟩
/-- the least sign each time -/
def Greedy (z : List Nat) (F : Nat → Nat → Prop) (lot : Nat → List Nat) (B : Bt) (u : List Nat) : Prop := ∀ i d, u[i]? = some d → ∀ e, e < d → ¬ ∃ k1 k2, Lay z F lot B (u.take i) k1 ∧ Sg z F lot B e k1 k2
/-- the layers stand at ds -/
def LaysAt (H : Hp) (p : Pat) (z : Str) (B : Bt) (u : List Nat) (ds : List Addr) : Prop := ∀ i d, ds[i]? = some d → ∃ kvs, LayD H d kvs z.length p.sg (Lay z.cps.toList (FolS p) p.lotN B (u.take i)) (LayW z.cps.toList (FolS p) p.lotN B u i)
section
variable {P : Program} {w : World} {K : PySem.W.Frag} {mg : Str → Option Value} {base : Heap}
def spWay (K : PySem.W.Frag) : Sp := fun vs H Q _ => ∃ (a : MA) (p : Pat) (z : Str) (B : Bt) (kvs : List (List Key × V)) (c0 q0 : Nat), vs = [.ref a.m] ∧ MenAt K H a p z B kvs ∧ p.Ok ∧ z.length ≤ 15 ∧ p.sg ≤ 15 ∧ (z.length + 1) * (p.sg + 1) < 64 ∧ B 0 0 = some (c0, q0) ∧
  ∀ H' t ll (u : List Nat) (ds : List Addr), Mod [] H H' → H' t = some (.tup [.str ⟨u.toArray⟩, .ref ll]) → H' ll = some (.lst (ds.map V.ref)) → ds.length = q0 + 1 → u.length = q0 → (∀ c ∈ u, okSign c = true) → LaysAt H' p z B u ds → (∃ k, Lay z.cps.toList (FolS p) p.lotN B u k) → Greedy z.cps.toList (FolS p) p.lotN B u → Q (.ref t) H'
theorem has_way_of (T : Tx w K mg) : Has P w K mg base 4 "way_of" ["mender"] (spWay K) := by
  have H_Mender_least := has_Mender_least (P := P) (base := base) T
  have H_Mender_closed := has_Mender_closed (P := P) (base := base) T
  have H_Mender_later := has_Mender_later (P := P) (base := base) T
  refine (T.has (d := d_way_of) 22 rfl rfl rfl rfl b_way_of sc_way_of (fun vs H Q E h => ?_) fun cdv A outer s H vs Q E hr h => ?_)
  · obtain ⟨_, _, _, _, _, _, _, rfl, _⟩ := h; rfl
  obtain ⟨a, p, z, B, kvs, c0, q0, rfl, ma, hok, hz, hN, h64, hB, q⟩ := h
  refine ⟨_, (pss_cons (ps_asg (pe_methH0 (c_Mender T) (m_Mender_least T) H_Mender_least (hr.mono (by decide)) (pv 0)) (pg_tup rfl (pgs_cons (pg_name (i := 1) sc_way_of.nd rfl (Or.inl rfl)) (pgs_cons (pg_name (i := 2) sc_way_of.nd rfl (Or.inl rfl)) pgs_nil))))
      (pss_cons (ps_par (i := 3) (j := 4) rfl sc_way_of.nd rfl rfl (by decide) rfl rfl (pa_cons (pe_lst (pa_cons (pe_methH (c_Mender T) (m_Mender_closed T) H_Mender_closed (hr.mono (by decide)) (pv 0) (pa_cons (pe_dispT1 (hu64 hr) (pe_tup (pa_cons pe_int (pa_cons pe_int pa_nil))) pe_non) pa_nil)) pa_nil)) (pa_cons pe_str pa_nil)) (by rfl))
      (pss_cons (ps_for PassesOwn.never rfl (pi_range1 (by rfl) (z_range T) (pa_cons (pv 2) pa_nil)) (pg_name (i := 5) sc_way_of.nd rfl (Or.inl rfl)) (pss_one (ps_for PassesOwn.never rfl (pi_str (pe_gs (by rfl) (k_SIGNS T))) (pg_name (i := 6) sc_way_of.nd rfl (Or.inl rfl)) (pss_cons (ps_set (i := 7) sc_way_of.nd rfl (Or.inl rfl) (pe_methH (c_Mender T) (m_Mender_later T) H_Mender_later (hr.mono (by decide)) (pv 0) (pa_cons (pe_callB (cr_sortedDT rfl) (by rfl) (z_sorted T) (by decide +kernel) (pa_cons (pe_ix ix_list (pv 3) (pe_un un_neg pe_int) (fun _ _ => rfl)) pa_nil)) (pa_cons (pv 6) pa_nil))))
      (pss_one (ps_if (pt_cmpR op_gt (pe_callB call_len_dT (by rfl) (z_len T) (by decide +kernel) (pa_cons (pv 7) pa_nil)) pe_int (nomark _)) (pss_cons (ps_expr (pe_bm PySem.F.plainAttrs_list PySem.F.slot_list_append PySem.F.type_list_append mt_append (pv 3) (pa_cons (pe_methH (c_Mender T) (m_Mender_closed T) H_Mender_closed (hr.mono (by decide)) (pv 0) (pa_cons (pv 7) pa_nil)) pa_nil)))
      (pss_cons (ps_aug (i := 4) sc_way_of.nd rfl (Or.inl rfl) (pv 6) iop_add_str)
      (pss_one ps_break))) pss_nil))))))
      (pss_one (ps_ret (pe_tup (pa_cons (pv 4) (pa_cons (pv 3) pa_nil)))))))), ?_⟩
  have ezl : z.cps.toList.length = z.length := Array.length_toList
  have hFN : ∀ s t, FolS p s t → t ≤ p.sg := fun s t h => (FolS_in h).2
  have hln : ∀ s t, FolS p s t → p.lotN t ≠ [] := fun s t h => (lotN_ok hok h).ne
  have hq0 : q0 < 64 := Nat.lt_of_lt_of_le (by have := ma.le.short hFN hln hB; rw [ezl] at this; exact this) (by omega)
  refine ⟨_, rfl, a.m, a.dm, _, rfl, ma.c.m, rfl, a, z, B, _, _, kvs, rfl, ma.c.m, ma.br, fun H1 v1 m1 ot => ?_⟩
  rw [hB] at ot
  obtain ⟨t1, rfl, ht1⟩ := ot
  refine ⟨t1, _, rfl, SqT.of ht1, rfl, _, _, rfl, _, _, rfl, rfl, ?_⟩
  have ma1 := ma.mod m1
  -- the first layer
  refine ⟨_, rfl, a.m, a.dm, _, rfl, ma1.c.m, rfl, fun d0 hd0 => ⟨ln2, fun t2 ht2 => ?_⟩⟩
  have n2 := Mod.refl (ms := []).new (o := .dT []) hd0
  have n3 := Mod.refl (ms := []).new (o := .tup [.int 0, .int 0]) ht2
  have ed0 := n3.keep _ _ (upd_same (H := H1) (a := d0) (o := .dT [])) (by simp)
  refine ⟨bk 0 0, t2, rfl, upd_same, ed0, ?_⟩
  have m14 := (n2.trans n3).putNew (o := .dT [(bk 0 0, .non)]) ed0 hd0
  have ld0 : LayD (upd (upd (upd H1 d0 (.dT [])) t2 (.tup [.int 0, .int 0])) d0 (.dT [(bk 0 0, .non)])) d0 [(bk 0 0, .non)] z.length p.sg (fun k => k = (0, 0)) (fun k o => k = (0, 0) ∧ o = none) := by
    refine ⟨upd_same, by simp, fun k hk => ⟨0, 0, List.mem_singleton.mp hk, Nat.zero_le _, Nat.zero_le _⟩, fun k => ?_, fun k v e => ?_⟩
    · show bk k.1 k.2 ∈ [bk 0 0] ↔ _
      rw [List.mem_singleton]
      exact bk_eq (k' := (0, 0))
    · by_cases q : bk 0 0 = bk k.1 k.2
      · rw [valV_pos q] at e
        cases e
        exact ⟨none, rfl, (bk_eq (k' := (0, 0))).mp q.symm, rfl⟩
      · rw [valV_neg q] at e
        cases e
  refine ⟨a, p, z, B, kvs, d0, _, _, _, rfl, ma1.mod m14, ld0, (fun k h => by rw [h, hB]; rfl), hz, hN, fun H4 d1 kvs1 m4 hd1 ld1 => ⟨ln1, fun ll hll => ⟨_, _, rfl, ?_⟩⟩⟩
  have m04 := (m1.trans m14).trans m4
  have n5 := Mod.refl (ms := []).new (o := .lst [.ref d1]) hll
  have hllH : H ll = none := m04.back hll
  have hlays0 : LaysAt (upd H4 ll (.lst [.ref d1])) p z B [] [d1] := fun i d e => by
    cases i with
    | succ i => simp at e
    | zero =>
      have e : d1 = d := by simpa using e
      subst e
      refine ⟨kvs1, (ld1.mod n5 (by simp)).imp (fun k => ?_) fun k o h => ?_⟩
      · show _ ↔ Lay z.cps.toList (FolS p) p.lotN B [] k
        rw [lay_nil]
        exact ⟨fun ⟨h, e, t⟩ => e ▸ t, fun t => ⟨_, rfl, t⟩⟩
      · rcases h with ⟨rfl, rfl⟩ | ⟨x, g, rfl, ⟨_, rfl, h1⟩, h2⟩
        · exact ⟨rfl, rfl⟩
        · exact ⟨h2, .inl ⟨rfl, lay_nil.mpr h1⟩⟩
  refine ⟨_, rfl, _, rfl, by omega, by omega, ?_⟩
  rw [show ((q0 : Nat) : Int).toNat = q0 by omega]
  refine for_it walk_range (fun i σ H2 => ∃ (u : List Nat) (ds : List Addr) (y5 y6 y7 : Option V), σ = [some (.ref a.m), some (.int (c0 : Nat)), some (.int (q0 : Nat)), some (.ref ll), some (.str ⟨u.toArray⟩), y5, y6, y7] ∧ Mod [] H H2 ∧ H2 ll = some (.lst (ds.map V.ref)) ∧ ds.length = i + 1 ∧ u.length = i ∧
      (∀ c ∈ u, okSign c = true) ∧ LaysAt H2 p z B u ds ∧ (∃ k, Lay z.cps.toList (FolS p) p.lotN B u k) ∧ Greedy z.cps.toList (FolS p) p.lotN B u)
    ⟨[], [d1], none, none, none, rfl, m04.trans n5, upd_same, rfl, rfl, (fun _ h => nomatch h), hlays0, ⟨(0, 0), lay_nil.mpr .nil⟩, (fun i d e => by simp at e)⟩ (fun _ _ _ _ _ => trivial) ?_ ?_
  · rintro i _ σ _ H2 hi ⟨u, ds, y5, y6, y7, rfl, m2, el, hdl, hul, hus, hlays, hne, hgr⟩ ⟨rfl, rfl⟩
    obtain ⟨dl, hdl2⟩ : ∃ dl, ds[i]? = some dl := ⟨_, List.getElem?_eq_getElem (by omega)⟩
    have eds : ds = ds.take i ++ [dl] := by
      have h1 : ds.take (i + 1) = ds := List.take_of_length_le (by omega)
      rw [List.take_add_one, hdl2] at h1
      exact h1.symm
    have eu : u.take i = u := by rw [← hul]; exact List.take_length
    have eab : ("abcd" : Str).cps = #[97, 98, 99, 100] := by decide +kernel
    have elast : ∀ ds', ds' = ds.map V.ref → atI ds' (-1) = some (.ref dl) := fun ds' e => by
      rw [e, eds, List.map_append]
      exact atI_last _ _
    refine ⟨_, rfl, ?_⟩
    refine for_it walk_str (fun j σ H3 => ∃ (y6 y7 : Option V), σ = [some (.ref a.m), some (.int (c0 : Nat)), some (.int (q0 : Nat)), some (.ref ll), some (.str ⟨u.toArray⟩), some (.int (0 + (i : Nat))), y6, y7] ∧ Mod [] H H3 ∧ H3 ll = some (.lst (ds.map V.ref)) ∧ LaysAt H3 p z B u ds ∧
        ∀ j' c, j' < j → ("abcd" : Str).cps[j']? = some c → ¬ ∃ k1 k2, Lay z.cps.toList (FolS p) p.lotN B u k1 ∧ Sg z.cps.toList (FolS p) p.lotN B c k1 k2)
      ⟨y6, y7, rfl, m2, el, hlays, fun j' c h => absurd h (Nat.not_lt_zero _)⟩ (fun _ _ _ _ _ => trivial) ?_ ?_
    · rintro j x σ _ H3 hj ⟨y6, y7, rfl, m3, el3, hlays3, hno⟩ ⟨rfl, c, hc, rfl⟩
      have ma3 := ma.mod m3
      obtain ⟨kvl, ldl⟩ := hlays3 i dl hdl2
      rw [eu] at ldl
      have hll3 := ldl.len
      refine ⟨_, rfl, a.m, a.dm, _, rfl, ma3.c.m, rfl, _, rfl, _, rfl, ll, _, _, _, rfl, rfl, SqL.of el3, elast _ rfl, dl, kvl, rfl, .inl ldl.at_, by omega, ldl.small hz hN, fun bs sl hbl hb1 hb2 hsl => ⟨_, rfl, ?_⟩⟩
      obtain ⟨hs, hbs, hhs⟩ := refs_keys ldl.key hb1
      have hmem : ∀ k, k ∈ hs ↔ Lay z.cps.toList (FolS p) p.lotN B u k := fun k => by
        constructor
        · exact fun h => (ldl.mem k).mp (hhs k h)
        · intro h
          obtain ⟨b, g1, g2⟩ := hb2 _ ((ldl.mem k).mpr h)
          obtain ⟨j', hj'⟩ := List.mem_iff_getElem?.mp g1
          obtain ⟨k', g3, g4⟩ := paired_get hbs hj'
          rw [keyAt_uniq (show KeyAt H3 b k from g2) g4]
          exact List.mem_of_getElem? g3
      have n4 := Mod.refl (ms := []).new (o := .lst (bs.map V.ref)) hsl
      have m4 := m3.trans n4
      refine ⟨a, p, z, B, kvs, sl, bs, hs, some c, rfl, ma.mod m4, upd_same, pairedMap (fun _ _ h => n4.tup _ _ h) hbs, fun k hk => ?_, by omega, by omega, fun H5 dn kvn m5 hdn ldn => ?_⟩
      · have h := (hmem k).mp hk
        obtain ⟨c', q', h1, _⟩ := h.at_ hB fun _ => trivial
        have h2 := h.le hFN
        exact ⟨by omega, h2.2, by rw [h1]; rfl⟩
      have m05 := m4.trans m5
      have n35 := n4.trans m5
      have ma5 := ma.mod m05
      have hlays5 : LaysAt H5 p z B u ds := fun i d e => let ⟨kvs, h⟩ := hlays3 i d e; ⟨kvs, h.mod n35 (by simp)⟩
      have el5 := n35.keep _ _ el3 (by simp)
      have hStp : ∀ k', (∃ k ∈ hs, Stp z.cps.toList (FolS p) p.lotN B (some c) k k') ↔ ∃ k1, Lay z.cps.toList (FolS p) p.lotN B u k1 ∧ Sg z.cps.toList (FolS p) p.lotN B c k1 k' := fun k' => ⟨fun ⟨k, h1, h2⟩ => ⟨k, (hmem k).mp h1, h2⟩, fun ⟨k, h1, h2⟩ => ⟨k, (hmem k).mpr h1, h2⟩⟩
      refine ⟨_, rfl, dn, kvn, rfl, ldn.at_, _, _, rfl, rfl, _, rfl, ?_⟩
      cases kvn with
      | nil =>
        refine iteFe (by rfl) ?_
        refine ⟨_, _, rfl, m05, el5, hlays5, fun j' c' hj' hc' => ?_⟩
        by_cases e : j' = j
        · subst e
          rw [hc] at hc'
          cases hc'
          rintro ⟨k1, k2, h1, h2⟩
          have := (ldn.mem k2).mpr ((hStp k2).mpr ⟨k1, h1, h2⟩)
          cases this
        · exact hno j' c' (by omega) hc'
      | cons e0 er =>
        refine iteTe (by simp) ?_
        have hBn : ∀ k, (∃ k1 ∈ hs, Stp z.cps.toList (FolS p) p.lotN B (some c) k1 k) → (B k.1 k.2).isSome = true := fun k ⟨_, _, _, _, h⟩ => by obtain ⟨_, _, h1, _⟩ := h.at_; rw [h1]; rfl
        refine ⟨_, rfl, ty_lst el5, _, rfl, a.m, a.dm, _, rfl, ma5.c.m, rfl, _, rfl, a, p, z, B, kvs, dn, e0 :: er, _, _, rfl, ma5, ldn, hBn, hz, hN, fun H6 d2 kvs2 m6 hd2 ld2 => ?_⟩
        have el6 := m6.keep _ _ el5 (by simp)
        have m06 := m05.trans m6
        refine ⟨ll, _, _, rfl, rfl, el6, lt_line (by rw [List.length_map]; omega), ?_⟩
        have mp : Mod [ll] H6 (upd H6 ll (.lst (ds.map V.ref ++ [.ref d2]))) := Mod.refl.put el6 (fun _ z => nomatch z) (List.mem_singleton.mpr rfl)
        have hc4 : 97 ≤ c ∧ c ≤ 100 ∧ c = 97 + j := by
          rw [eab] at hc
          have hj4 : j < 4 := by rw [eab] at hj; exact hj
          have : j = 0 ∨ j = 1 ∨ j = 2 ∨ j = 3 := by omega
          rcases this with rfl | rfl | rfl | rfl <;> (simp at hc; omega)
        have es : (⟨u.toArray⟩ ++ ⟨#[c]⟩ : Str) = ⟨(u ++ [c]).toArray⟩ := by
          show (⟨u.toArray ++ #[c]⟩ : Str) = _
          simp
        refine ⟨_, rfl, _, rfl, _, _, rfl, rfl, le_line (by show u.toArray.size + 1 ≤ _; rw [List.size_toArray]; omega), ?_⟩
        rw [es]
        have dne : ∀ i d, ds[i]? = some d → d ∉ [ll] := fun i d e z => by
          obtain ⟨kk, h⟩ := hlays5 i d e
          have h1 := h.at_
          rw [List.mem_singleton.mp z, el5] at h1
          cases h1
        obtain ⟨k2, hk2⟩ : ∃ k2, ∃ k ∈ hs, Stp z.cps.toList (FolS p) p.lotN B (some c) k k2 := by
          obtain ⟨p', s', e, _, _⟩ := ldn.key e0.1 (List.mem_cons_self ..)
          exact ⟨(p', s'), (ldn.mem (p', s')).mp (by rw [← e]; exact List.mem_cons_self ..)⟩
        have hlay' : ∀ k, Lay z.cps.toList (FolS p) p.lotN B (u ++ [c]) k ↔ ClS z.cps.toList (FolS p) p.lotN B (fun k' => ∃ k ∈ hs, Stp z.cps.toList (FolS p) p.lotN B (some c) k k') k := fun k => by
          rw [lay_snoc]
          exact ⟨fun ⟨k1, k2, h1, h2, h3⟩ => ⟨k2, (hStp k2).mpr ⟨k1, h1, h2⟩, h3⟩, fun ⟨k2, h1, h3⟩ => let ⟨k1, h1, h2⟩ := (hStp k2).mp h1; ⟨k1, k2, h1, h2, h3⟩⟩
        refine ⟨u ++ [c], ds ++ [d2], _, _, _, rfl, m06.putNew el6 hllH, by rw [upd_same, List.map_append]; rfl, by rw [List.length_append, List.length_singleton]; omega, by rw [List.length_append, List.length_singleton]; omega, fun c' hc' => ?_, fun i' d' e' => ?_, ⟨k2, (hlay' k2).mpr ⟨k2, hk2, .nil⟩⟩, fun i' d' e' => ?_⟩
        · rcases List.mem_append.mp hc' with hc' | hc'
          · exact hus c' hc'
          · rw [List.mem_singleton.mp hc']
            have : c = 97 ∨ c = 98 ∨ c = 99 ∨ c = 100 := by omega
            rcases this with rfl | rfl | rfl | rfl <;> decide +kernel
        · by_cases hi' : i' < ds.length
          · rw [List.getElem?_append_left hi'] at e'
            obtain ⟨kk, h⟩ := hlays5 i' d' e'
            refine ⟨kk, ((h.mod m6 (by simp)).mod mp (dne _ _ e')).imp (fun k => ?_) fun k o h => h.more (by omega)⟩
            rw [List.take_append_of_le_length (by omega)]
          · rw [List.getElem?_append_right (by omega)] at e'
            have hi0 : i' - ds.length = 0 := by
              cases e : i' - ds.length with
              | zero => rfl
              | succ n => rw [e] at e'; simp at e'
            rw [hi0] at e'
            have e' : d2 = d' := by simpa using e'
            subst e'
            have ei : i' = i + 1 := by omega
            have et : (u ++ [c]).take i' = u ++ [c] := List.take_of_length_le (by rw [List.length_append, List.length_singleton]; omega)
            have hd2l : d2 ∉ [ll] := by
              have := ne_of_none el5 hd2
              simp [this.symm]
            refine ⟨kvs2, (ld2.mod mp hd2l).imp (fun k => by rw [et]; exact (hlay' k).symm) fun k o h => ?_⟩
            rcases h with ⟨e1, k1, rfl, h1, h2, h3⟩ | ⟨x, g, rfl, h1, h2⟩
            · refine ⟨h3, .inr ⟨i, c, ei, ?_, h2, ?_⟩⟩
              · rw [List.getElem?_append_right (by omega), show i - u.length = 0 by omega]; rfl
              · rw [List.take_append_of_le_length (by omega), eu]
                exact (hmem k1).mp h1
            · exact ⟨h2, .inl ⟨rfl, by rw [et]; exact (hlay' g).mpr h1⟩⟩
        · by_cases hi' : i' < u.length
          · rw [List.getElem?_append_left hi'] at e'
            rw [List.take_append_of_le_length (by omega)]
            exact hgr i' d' e'
          · rw [List.getElem?_append_right (by omega)] at e'
            have hi0 : i' - u.length = 0 := by
              cases e : i' - u.length with
              | zero => rfl
              | succ n => rw [e] at e'; simp at e'
            rw [hi0] at e'
            have e' : c = d' := by simpa using e'
            subst e'
            rw [List.take_append_of_le_length (by omega), show i' = i by omega, eu]
            rintro e he ⟨⟨p1, s1⟩, ⟨p2, s2⟩, h1, ed, hto, htt⟩
            have hoke : okSign e = true := by
              have hst := htt.st
              cases ed with
              | take x => cases hto
              | put d => cases hto; cases hst with | put f m => exact (lotN_ok hok f).ok _ m
              | keep d => cases hto; cases hst with | keep f m _ => exact (lotN_ok hok f).ok _ m
              | chg x d => cases hto; cases hst with | chg f m _ _ => exact (lotN_ok hok f).ok _ m
            have hrng := okSign_at hoke
            refine hno (e - 97) e (by omega) ?_ ⟨(p1, s1), (p2, s2), h1, ed, hto, htt⟩
            rw [eab]
            have : e = 97 ∨ e = 98 ∨ e = 99 ∨ e = 100 := by omega
            rcases this with rfl | rfl | rfl | rfl <;> rfl
    · rintro σ H3 ⟨y6, y7, rfl, m3, el3, hlays3, hno⟩
      exfalso
      obtain ⟨k, hk⟩ := hne
      obtain ⟨d, k1, k2, h1, h2, t, ht, s, hf⟩ := hk.next ma.le hFN hln hB (by omega)
      have := okSign_at ((lotN_ok hok hf).ok d ht)
      refine hno (d - 97) d (by rw [eab]; show d - 97 < 4; omega) ?_ ⟨k1, k2, h1, h2⟩
      rw [eab]
      have : d = 97 ∨ d = 98 ∨ d = 99 ∨ d = 100 := by omega
      rcases this with rfl | rfl | rfl | rfl <;> rfl
  · rintro σ H2 ⟨u, ds, y5, y6, y7, rfl, m2, el, hdl, hul, hus, hlays, hne, hgr⟩
    refine ⟨_, rfl, _, rfl, ln2, fun t ht => ?_⟩
    have n6 := Mod.refl (ms := []).new (o := .tup [.str ⟨u.toArray⟩, .ref ll]) ht
    exact q _ t ll u ds (m2.trans n6) upd_same (n6.keep _ _ el (by simp)) hdl hul hus (fun i d e => let ⟨kvs, h⟩ := hlays i d e; ⟨kvs, h.mod n6 (by simp)⟩) hne hgr
end
end Fr

set_option maxHeartbeats 4000000
namespace Fr
open PySem PySem.Spec PyProof.Rows L2
theorem Reads.none {p : Pat} {z : List Nat} (h : IsMin (Mend p z) none) : ∀ u, ¬ Reads p u := fun u hu => by
  obtain ⟨m, _, hm⟩ := hu.mend (edT_al z u)
  exact h m hm
section
variable {P : Program} {w : World} {K : PySem.W.Frag} {mg : Str → Option Value} {base : Heap}
def spMended : Sp := fun vs H Q _ => ∃ (v : V) (p : Pat) (z : Str), vs = [v, .str z] ∧ IsP H v p ∧ p.Ok ∧ p.size ≤ 60 ∧ p.deep ≤ 15 ∧ IsText z ∧ z.length ≤ 15 ∧ p.sg ≤ 15 ∧ (z.length + 1) * (p.sg + 1) < 64 ∧
  (∀ H', Mod [] H H' → IsMin (Mend p z.cps.toList) none → Q .non H') ∧ ∀ H' u c, Mod [] H H' → BestT p z.cps.toList u c → IsMin (Mend p z.cps.toList) (some c) → (∀ x ∈ u, okSign x = true) → u.length < 64 → Q (.str ⟨u.toArray⟩) H'
theorem has_mended (T : Tx w K mg) : Has P w K mg base 7 "mended" ["pattern", "text"] spMended := by
  have H_check_pattern := has_check_pattern (P := P) (base := base) T
  have H_check_text := has_check_text (P := P) (base := base) T
  have H_Mender_init := has_Mender_init (P := P) (base := base) T
  have H_Mender_least := has_Mender_least (P := P) (base := base) T
  have H_way_of := has_way_of (P := P) (base := base) T
  refine (T.has (d := d_mended) 24 rfl rfl rfl rfl b_mended sc_mended (fun vs H Q E h => ?_) fun cdv A outer s H vs Q E hr h => ?_)
  · obtain ⟨_, _, _, rfl, _⟩ := h; rfl
  obtain ⟨v, p, z, rfl, hp, ok, hs, hd, hz, hzl, hsg, h64, qN, qS⟩ := h
  refine ⟨_, (pss_cons (ps_expr (pe_callH H_check_pattern (hr.mono (by decide)) (by rfl) (g_check_pattern T) (pa_cons (pv 0) pa_nil)))
      (pss_cons (ps_expr (pe_callH H_check_text (hr.mono (by decide)) (by rfl) (g_check_text T) (pa_cons (pv 1) pa_nil)))
      (pss_cons (ps_set (i := 2) sc_mended.nd rfl (Or.inl rfl) (pe_makeH (mk_Mender T) H_Mender_init (hr.mono (by decide)) (by rfl) (g_Mender T) (pa_cons (pv 0) (pa_cons (pv 1) pa_nil))))
      (pss_one (ps_ret (pe_ifExp (pt_cmpR op_isN (pe_methH0 (c_Mender T) (m_Mender_least T) H_Mender_least (hr.mono (by decide)) (pv 2)) pe_non (nomark _)) pe_non (pe_ix ix_tup (pe_callH H_way_of (hr.mono (by decide)) (by rfl) (g_way_of T) (pa_cons (pv 2) pa_nil)) pe_int (fun _ _ => rfl)))))))), ?_⟩
  have ezl : z.cps.toList.length = z.length := Array.length_toList
  refine ⟨_, rfl, p, v, rfl, hp, ok, hs, hd, fun H1 m1 => ?_⟩
  refine ⟨_, rfl, z, rfl, hz, fun H2 m2 => ?_⟩
  have m02 := m1.trans m2
  refine ⟨_, rfl, _, rfl, fun x dx hx hdx hne => ?_⟩
  have m3 : Mod [] H2 (upd (upd H2 dx (.own x)) x (.ins (He.ga K "Mender") dx [])) := (Mod.refl (ms := []).new hdx).new (by rw [upd_ne hne.symm]; exact hx)
  refine ⟨x, dx, v, p, z, rfl, upd_same, hp.mod (m02.trans m3), hs, hz.1, fun H4 a B kvs m4 eam ma => ⟨rfl, _, rfl, x, a.dm, _, rfl, by have := ma.c.m; rw [eam] at this; exact this, rfl, ?_⟩⟩
  refine ⟨a, z, B, _, _, kvs, by rw [eam]; rfl, ma.c.m, ma.br, fun H5 v5 m5 ot => ?_⟩
  have m04 : Mod [] H H4 := (m02.trans m3).step m4 fun b hb => .inr (by rw [List.mem_singleton.mp hb]; exact m02.back hx)
  have mn := ma.le.min.imp fun n => cost_iff
  have hFN : ∀ s t, FolS p s t → t ≤ p.sg := fun s t h => (FolS_in h).2
  have hln : ∀ s t, FolS p s t → p.lotN t ≠ [] := fun s t h => (lotN_ok ok h).ne
  cases hB : B 0 0 with
  | none =>
    rw [hB] at ot mn
    obtain rfl : v5 = .non := ot
    exact ⟨rfl, _, rfl, iteTe (by simp) (qN H5 (m04.trans m5) mn)⟩
  | some u0 =>
    obtain ⟨c0, q0⟩ := u0
    rw [hB] at ot mn
    obtain ⟨t, rfl, ht⟩ := ot
    refine ⟨rfl, _, rfl, iteFe (by simp) ⟨_, rfl, a, p, z, B, kvs, c0, q0, by rw [eam]; rfl, ma.mod m5, ok, hzl, hsg, h64, hB, fun H6 t6 ll u ds m6 et el hdl hul hus hlays hne hgr => ?_⟩⟩
    obtain ⟨k, hk⟩ := hne
    have hbt := ma.le.bestT hFN hln hB hk hul hgr
    refine ⟨t6, _, 0, _, rfl, rfl, SqT.of et, rfl, qS H6 u c0 ((m04.trans m5).trans m6) hbt mn hus ?_⟩
    have := ma.le.short hFN hln hB
    rw [ezl] at this
    omega
end
end Fr

set_option maxHeartbeats 4000000
namespace Fr
open PySem PySem.Spec PyProof.Rows L2
theorem min2nu (a b : Nat) : nuMin2 (.int (a : Nat)) (.int (b : Nat)) = some (.int ((min a b : Nat) : Int)) := by
  show some (if decide (((b : Nat) : Int) < ((a : Nat) : Int)) = true then V.int (b : Nat) else V.int (a : Nat)) = _
  by_cases h : ((b : Nat) : Int) < ((a : Nat) : Int)
  · rw [if_pos (decide_eq_true h), Nat.min_eq_right (by omega)]
  · rw [if_neg (by simpa using h), Nat.min_eq_left (by omega)]
theorem min3i (a b c : Nat) : nuMin3 (.int (a : Nat)) (.int (b : Nat)) (.int (c : Nat)) = some (.int ((min (min a b) c : Nat) : Int)) := by
  unfold nuMin3
  rw [min2nu]
  exact min2nu _ _
section
variable {P : Program} {w : World} {K : PySem.W.Frag} {mg : Str → Option Value} {base : Heap}
def spLawPrice : Sp := fun vs H Q _ => ∃ (x y : Str), vs = [.str x, .str y] ∧ x.length ≤ 1000 ∧ y.length ≤ 1000 ∧ ∀ H', Mod [] H H' → Q (.int (ed x.cps.toList y.cps.toList x.length y.length : Nat)) H'
theorem has_law_price (T : Tx w K mg) : Has P w K mg base 1 "_law_price" ["one", "other"] spLawPrice := by
  refine (T.has (d := d_law_price) 39 rfl rfl rfl rfl b_law_price sc_law_price (fun vs H Q E h => ?_) fun cdv A outer s H vs Q E hr h => ?_)
  · obtain ⟨_, _, rfl, _⟩ := h; rfl
  obtain ⟨x, y, rfl, hx1, hy1, q⟩ := h
  refine ⟨_, (pss_cons (ps_set (i := 2) sc_law_price.nd rfl (Or.inl rfl) (pe_listRg rfl (by rfl) (z_list T) (prg_1 (by rfl) (z_range T) (pe_op op_add (pe_callB call_len_str (by rfl) (z_len T) (by decide +kernel) (pa_cons (pv 1) pa_nil)) pe_int))))
      (pss_cons (ps_for PassesOwn.never rfl (pi_enumS (by rfl) (z_enumerate T) (pa_cons (pv 0) pa_nil)) (pg_tup rfl (pgs_cons (pg_name (i := 3) sc_law_price.nd rfl (Or.inl rfl)) (pgs_cons (pg_name (i := 4) sc_law_price.nd rfl (Or.inl rfl)) pgs_nil))) (pss_cons (ps_set (i := 5) sc_law_price.nd rfl (Or.inl rfl) (pe_lst (pa_cons (pe_op op_add (pv 3) pe_int) pa_nil)))
      (pss_cons (ps_for PassesOwn.never rfl (pi_enumS (by rfl) (z_enumerate T) (pa_cons (pv 1) pa_nil)) (pg_tup rfl (pgs_cons (pg_name (i := 6) sc_law_price.nd rfl (Or.inl rfl)) (pgs_cons (pg_name (i := 7) sc_law_price.nd rfl (Or.inl rfl)) pgs_nil))) (pss_one (ps_expr (pe_bm PySem.F.plainAttrs_list PySem.F.slot_list_append PySem.F.type_list_append mt_append (pv 5) (pa_cons (pe_callB (call_min3Nu rfl) (by rfl) (z_min T) (by decide +kernel) (pa_cons (pe_op op_add (pe_ix ix_list (pv 2) (pv 6) (fun _ _ => rfl)) (pe_callTy call_int1 (by rfl) (z_int T) (by decide +kernel) (pa_cons (pe_cmpR op_ne (pv 4) (pv 7) (nomark _)) pa_nil))) (pa_cons (pe_op op_add (pe_ix ix_list (pv 2) (pe_op op_add (pv 6) pe_int) (fun _ _ => rfl)) pe_int) (pa_cons (pe_op op_add (pe_ix ix_list (pv 5) (pv 6) (fun _ _ => rfl)) pe_int) pa_nil)))) pa_nil)))))
      (pss_one (ps_set (i := 2) sc_law_price.nd rfl (Or.inl rfl) (pv 5))))))
      (pss_one (ps_ret (pe_ix ix_list (pv 2) (pe_un un_neg pe_int) (fun _ _ => rfl)))))), ?_⟩
  have exl : x.cps.toList.length = x.length := Array.length_toList
  have eyl : y.cps.toList.length = y.length := Array.length_toList
  refine ⟨_, rfl, y, rfl, le_line (by omega), _, _, rfl, rfl, _, rfl, RgOk.of_le (by omega) (by omega) (by omega) (by omega), fun D hD => ?_⟩
  have e0 : rgV 0 ((y.length : Nat) + 1 : Int) = rowV (y.length + 1) (ed x.cps.toList y.cps.toList 0) := by
    have := rgV_states y.length
    rw [show (((y.length + 1 : Nat) : Int)) = ((y.length : Nat) + 1 : Int) from rfl] at this
    rw [this]; rfl
  rw [e0]
  refine ⟨_, rfl, x, rfl, ?_⟩
  refine for_it (walk_enumS x) (fun i σ H3 => ∃ (D : Addr) (y3 y4 y5 y6 y7 : Option V), σ = [some (.str x), some (.str y), some (.ref D), y3, y4, y5, y6, y7] ∧ Mod [] H H3 ∧ H3 D = some (.lst (rowV (y.length + 1) (ed x.cps.toList y.cps.toList i))))
    ⟨D, none, none, none, none, none, rfl, Mod.refl.new hD, upd_same⟩ (fun _ _ _ _ _ => trivial) ?_ ?_
  · rintro i v σ H3 _ hi ⟨D, y3, y4, y5, y6, y7, rfl, m3, eD⟩ ⟨t, c, rfl, ht, rfl, hc⟩
    have mt : Mod [] H3 _ := Mod.refl (ms := []).new (o := .tup [.int (i : Nat), .str ⟨#[c]⟩]) ht
    refine ⟨t, _, rfl, SqT.of upd_same, rfl, _, _, rfl, _, _, rfl, rfl, ?_⟩
    refine ⟨_, rfl, _, _, rfl, rfl, ln1, fun L hL => ?_⟩
    have m4 := (m3.trans mt).new (o := .lst [.int ((i : Nat) + 1)]) hL
    have eD4 := (Mod.refl (ms := []).new (o := .lst [.int ((i : Nat) + 1)]) hL).keep _ _ (mt.keep _ _ eD (by simp)) (by simp)
    have hcD : x.cps.toList.getD i 0 = c := by rw [List.getD_eq_getElem?_getD, Array.getElem?_toList, hc]; rfl
    refine ⟨_, rfl, y, rfl, ?_⟩
    refine for_it (walk_enumS y) (fun j σ H5 => ∃ (y6 y7 : Option V), σ = [some (.str x), some (.str y), some (.ref D), some (.int (i : Nat)), some (.str ⟨#[c]⟩), some (.ref L), y6, y7] ∧ Mod [] H H5 ∧ H5 D = some (.lst (rowV (y.length + 1) (ed x.cps.toList y.cps.toList i))) ∧
        H5 L = some (.lst (rowV (j + 1) (ed x.cps.toList y.cps.toList (i + 1)))) ∧ H L = none)
      ⟨_, _, rfl, m4, eD4, upd_same, (m3.trans mt).back hL⟩ (fun _ _ _ _ _ => trivial) ?_ ?_
    · rintro j v σ H5 _ hj ⟨y6, y7, rfl, m5, eD5, eL5, hLH⟩ ⟨t, c', rfl, ht, rfl, hc'⟩
      have hj' : j < y.length := hj
      have mt5 : Mod [] H5 _ := Mod.refl (ms := []).new (o := .tup [.int (j : Nat), .str ⟨#[c']⟩]) ht
      have eD6 := mt5.keep _ _ eD5 (by simp)
      have eL6 := mt5.keep _ _ eL5 (by simp)
      refine ⟨t, _, rfl, SqT.of upd_same, rfl, _, _, rfl, _, _, rfl, rfl, ?_⟩
      have hcD' : y.cps.toList.getD j 0 = c' := by rw [List.getD_eq_getElem?_getD, Array.getElem?_toList, hc']; rfl
      have epr : (if (!decide (V.str ⟨#[c]⟩ = V.str ⟨#[c']⟩)) = true then (1 : Int) else 0) = ((if c = c' then 0 else 1 : Nat) : Int) := by
        by_cases h : c = c'
        · subst h; simp
        · simp [h]
      refine ⟨_, rfl, ty_lst eL6, _, rfl, _, rfl, D, _, _, _, rfl, rfl, SqL.of eD6, at_of (j := j) rfl (rowV_at (by omega)), _, rfl, _, rfl, rfl, .inr ⟨_, rfl, _, _, rfl, rfl, _, rfl, _, rfl, _, _, rfl, rfl, D, _, _, _, rfl, rfl, SqL.of eD6, at_of (j := j + 1) rfl (rowV_at (by omega)), _, _, rfl, rfl, _, rfl, _, rfl, L, _, _, _, rfl, rfl, SqL.of eL6, at_of (j := j) rfl (rowV_at (by omega)), _, _, rfl, rfl, ?_⟩⟩
      rw [epr]
      refine ⟨_, _, _, _, rfl, min3i _ _ _, ?_⟩
      have mL : Mod [L] _ (upd _ L (.lst (rowV (j + 1) (ed x.cps.toList y.cps.toList (i + 1)) ++ [.int (ed x.cps.toList y.cps.toList (i + 1) (j + 1) : Nat)]))) := Mod.refl.put eL6 (fun _ z => nomatch z) (List.mem_singleton.mpr rfl)
      have eLD : D ≠ L := fun z => by
        rw [z, eL6] at eD6
        have h1 := congrArg (fun o : Option HO => match o with | some (.lst l) => l.length | _ => 0) eD6
        simp only [rowV_len] at h1
        omega
      refine ⟨L, _, _, rfl, rfl, eL6, lt_line (by rw [rowV_len]; omega), _, _, rfl, (m5.trans mt5).putNew eL6 hLH, ?_, ?_, hLH⟩
      · rw [upd_ne eLD]; exact eD6
      · rw [upd_same, rowV_succ (n := j + 1)]
        have e1 : (ed x.cps.toList y.cps.toList (i + 1) (j + 1)) = min (min (ed x.cps.toList y.cps.toList i (j + 1) + 1) (ed x.cps.toList y.cps.toList (i + 1) j + 1)) (ed x.cps.toList y.cps.toList i j + (if c = c' then 0 else 1)) := by
          show edNext (x.cps.toList.getD i 0) y.cps.toList i (ed x.cps.toList y.cps.toList i) (j + 1) = _
          rw [hcD]
          show min (min _ _) (_ + (if c = y.cps.toList.getD j 0 then 0 else 1)) = _
          rw [hcD']
          show min (min _ (edNext c y.cps.toList i (ed x.cps.toList y.cps.toList i) j + 1)) _ = min (min _ (edNext (x.cps.toList.getD i 0) y.cps.toList i (ed x.cps.toList y.cps.toList i) j + 1)) _
          rw [hcD]
        have e2 : min (min (ed x.cps.toList y.cps.toList i j + (if c = c' then 0 else 1)) (ed x.cps.toList y.cps.toList i (j + 1) + 1)) (ed x.cps.toList y.cps.toList (i + 1) j + 1) = ed x.cps.toList y.cps.toList (i + 1) (j + 1) := by rw [e1]; omega
        rw [e2]
    · rintro σ H5 ⟨y6, y7, rfl, m5, eD5, eL5, hLH⟩
      exact ⟨_, rfl, L, _, _, _, _, _, rfl, m5, eL5⟩
  · rintro σ H3 ⟨D, y3, y4, y5, y6, y7, rfl, m3, eD⟩
    refine ⟨_, rfl, _, rfl, D, _, _, _, rfl, rfl, SqL.of eD, ?_, q H3 m3⟩
    rw [rowV_succ]
    exact atI_last _ _
end
end Fr

set_option maxHeartbeats 4000000
namespace Fr
open PySem PySem.Spec PyProof.Rows L2
/-- a hand stands at h -/
def HandAt (H : Hp) (h cl : Addr) : Prop := ∃ (cs : List Int) (i1 i2 i3 i4 : Int), H h = some (.lst [.ref cl, .int i1, .int i2, .int i3, .int i4]) ∧ 0 ≤ i1 ∧ H cl = some (.lst (cs.map V.int)) ∧ cs.length ≤ 63
theorem HandAt.mod {H H' : Hp} {h cl : Addr} (m : Mod [] H H') (a : HandAt H h cl) : HandAt H' h cl :=
  let ⟨cs, i1, i2, i3, i4, h1, h2, h3, h4⟩ := a; ⟨cs, i1, i2, i3, i4, m.keep _ _ h1 (by simp), h2, m.keep _ _ h3 (by simp), h4⟩
/-- a hand's number written anew -/
theorem handPut {H : Hp} {h cl : Addr} {cs : List Int} {xs : List V} {j1 j2 j3 j4 : Int} (e : H h = some (.lst xs)) (hx : xs.length = 5) (hc : H cl = some (.lst (cs.map V.int))) (hcl : cs.length ≤ 63) (h1 : 0 ≤ j1) (hne : cl ≠ h) :
    HandAt (upd H h (.lst [.ref cl, .int j1, .int j2, .int j3, .int j4])) h cl := ⟨cs, j1, j2, j3, j4, upd_same, h1, by rw [upd_ne hne]; exact hc, hcl⟩
section
variable {P : Program} {w : World} {K : PySem.W.Frag} {mg : Str → Option Value} {base : Heap}
def spHand (K : PySem.W.Frag) : Sp := fun vs H Q _ => ∃ (a : Addr) (ns : List Int), vs = [.ref a] ∧ SqL K H a (ns.map V.int) ∧ ns.length ≤ 63 ∧ ∀ H' h cl, Mod [] H H' → H h = none → HandAt H' h cl → Q (.ref h) H'
theorem has_law_hand (T : Tx w K mg) : Has P w K mg base 1 "_law_hand" ["script"] (spHand K) := by
  refine (T.has (d := d_law_hand) 31 rfl rfl rfl rfl b_law_hand sc_law_hand (fun vs H Q E h => ?_) fun cdv A outer s H vs Q E hr h => ?_)
  · obtain ⟨_, _, rfl, _⟩ := h; rfl
  obtain ⟨a, ns, rfl, hS, hn, q⟩ := h
  refine ⟨_, (pss_cons (ps_setLc (i := 1) (own := [("cell", 2)]) (g := (gName 2)) (tt := tYes) rfl sc_law_hand.nd rfl rfl (sw_true rfl rfl rfl (by decide +kernel)) (pi_list (pe_slice sl_list (pv 0) po_none (po_some pe_int))) (blkOk_by (own := [("cell", 2)]) (N := ["script", "cells", "cell"]) (sc := defScope s_law_hand) (by decide +kernel)) (fun _ _ _ _ _ => (pg_name (i := 2) sc_law_hand.nd rfl (Or.inl rfl))) (fun _ _ _ _ _ => pts_nil) (fun _ _ _ _ _ => (pe_op op_mod (pe_callTy call_int1 (by rfl) (z_int T) (by decide +kernel) (pa_cons (pe_callB call_abs (by rfl) (z_abs T) (by decide +kernel) (pa_cons (pe_callTy call_int1 (by rfl) (z_int T) (by decide +kernel) (pa_cons (pv 2) pa_nil)) pa_nil)) pa_nil)) (pe_op op_pow pe_int pe_int))))
      (pss_one (ps_ret (pe_lst (pa_cons (pv 1) (pa_cons pe_int (pa_cons pe_int (pa_cons (pe_op op_add pe_int (pe_op op_mul pe_int (pe_callB call_len_seq (by rfl) (z_len T) (by decide +kernel) (pa_cons (pv 1) pa_nil)))) (pa_cons pe_int pa_nil))))))))), ?_⟩
  refine ⟨_, rfl, _, rfl, a, _, rfl, hS, fun p hp => ⟨p, rfl, ⟨_, SqL.of upd_same⟩, ?_⟩⟩
  have ecut : ∃ cs : List Int, cutV (ns.map V.int) none (some 63) = cs.map V.int ∧ cs.length ≤ 63 := by
    refine ⟨(ns.drop _).take _, by unfold cutV; rw [List.map_take, List.map_drop], ?_⟩
    exact Nat.le_trans (List.length_take_le' _ _) (Nat.le_trans (by rw [List.length_drop]; omega) hn)
  obtain ⟨cs, ec, hcs⟩ := ecut
  rw [ec]
  have m1 : Mod [] H _ := Mod.refl (ms := []).new (o := .lst (cs.map V.int)) hp
  refine lc_map (walk_list (xs := cs.map V.int)) [] (fun i => .int ((if cs.getD i 0 < 0 then -(cs.getD i 0) else cs.getD i 0) % 10 ^ 36)) (lt_line (by rw [List.length_map]; omega)) (fun H2 m2 => SqL.of (m2.keep _ _ upd_same (by simp))) ?_ (fun _ _ h => nomatch h) fun D H2 hD m2 e2 => ?_
  · rintro i x H1 _ R hi m2 ⟨rfl, hx⟩ k
    rw [List.length_map] at hi
    rw [List.getElem?_map, List.getElem?_eq_getElem hi] at hx
    obtain rfl : x = V.int cs[i] := by injection hx with hx; exact hx.symm
    have eg : cs.getD i 0 = cs[i] := by rw [List.getD_eq_getElem?_getD, List.getElem?_eq_getElem hi]; rfl
    rw [eg] at k
    exact ⟨rfl, _, rfl, .inl ⟨_, rfl, _, rfl, .inl ⟨_, rfl, _, _, rfl, rfl, ⟨by decide, by decide, by decide⟩, _, _, rfl, rfl, (by show (0 : Int) < 10 ^ 36; decide), k _ Mod.refl⟩⟩⟩
  · have e3 : (List.range (cs.map V.int).length).map (fun i => V.int ((if cs.getD i 0 < 0 then -(cs.getD i 0) else cs.getD i 0) % 10 ^ 36)) = (cs.map fun c => (if c < 0 then -c else c) % 10 ^ 36).map V.int := by
      have := range_map_get cs (fun c => V.int ((if c < 0 then -c else c) % 10 ^ 36))
      rw [List.length_map, List.map_map]
      exact this
    rw [e3] at e2
    refine ⟨_, rfl, _, rfl, D, _, rfl, .inl (SqL.of e2), _, _, rfl, rfl, .inl ⟨by decide, by decide⟩, _, _, rfl, rfl, ln5, fun h hh => ?_⟩
    have m3 := (m1.trans m2).new (o := .lst [.ref D, .int 0, .int 0, .int (683 + 331 * (((cs.map fun c => (if c < 0 then -c else c) % 10 ^ 36).map V.int).length : Nat)), .int 0]) hh
    refine q _ _ D m3 ((m1.trans m2).back hh) ⟨cs.map fun c => (if c < 0 then -c else c) % 10 ^ 36, 0, 0, _, 0, upd_same, Int.le_refl 0, ?_, ?_⟩
    · rw [upd_ne (ne_of_none e2 hh)]; exact e2
    · rw [List.length_map]; exact hcs
def spDraw : Sp := fun vs H Q _ => ∃ (h cl : Addr) (m : Int), vs = [.ref h, .int m] ∧ HandAt H h cl ∧ 0 < m ∧ m < 1073741824 ∧ ∀ H' d, Mod [h] H H' → HandAt H' h cl → 0 ≤ d → d < m → Q (.int d) H'
theorem has_law_draw (T : Tx w K mg) : Has P w K mg base 1 "_law_draw" ["hand", "many"] spDraw := by
  refine (T.has (d := d_law_draw) 32 rfl rfl rfl rfl b_law_draw sc_law_draw (fun vs H Q E h => ?_) fun cdv A outer s H vs Q E hr h => ?_)
  · obtain ⟨_, _, _, rfl, _⟩ := h; rfl
  obtain ⟨h, cl, m, rfl, ⟨cs, i1, i2, i3, i4, hh, h1, hcl, hcs⟩, hm0, hm1, q⟩ := h
  refine ⟨_, (C8.pss_cut (ps_if (PW.pt (pw_and (pt_cmpR op_eq (pe_ix ix_list (pv 0) pe_int (fun _ _ => rfl)) pe_int (nomark _)) (pw_and1 (pt_cmpR op_lt (pe_ix ix_list (pv 0) pe_int (fun _ _ => rfl)) (pe_callB call_len_seq (by rfl) (z_len T) (by decide +kernel) (pa_cons (pe_ix ix_list (pv 0) pe_int (fun _ _ => rfl)) pa_nil)) (nomark _))))) (pss_cons (ps_set (i := 2) sc_law_draw.nd rfl (Or.inl rfl) (pe_ix ix_list (pe_ix ix_list (pv 0) pe_int (fun _ _ => rfl)) (pe_ix ix_list (pv 0) pe_int (fun _ _ => rfl)) (fun _ _ => rfl)))
      (pss_cons (ps_asg (pe_op op_add (pe_ix ix_list (pv 0) pe_int (fun _ _ => rfl)) pe_int) (pg_sub (pv 0) pe_int set_list))
      (pss_cons (ps_asg (pe_op op_mod (pe_callTy call_int1 (by rfl) (z_int T) (by decide +kernel) (pa_cons (pe_op op_add (pe_op op_add (pe_op op_mul (pe_ix ix_list (pv 0) pe_int (fun _ _ => rfl)) pe_int) (pe_op op_mul (pv 2) pe_int)) pe_int) pa_nil)) pe_int) (pg_sub (pv 0) pe_int set_list))
      (pss_one (ps_if (pt_cmpR op_ge (pv 2) (pe_op op_pow pe_int pe_int) (nomark _)) (pss_one (ps_asg (pv 2) (pg_sub (pv 0) pe_int set_list))) pss_nil))))) pss_nil)
      (pss_cons (ps_if (pt_cmpR op_gt (pe_ix ix_list (pv 0) pe_int (fun _ _ => rfl)) pe_int (nomark _)) (pss_cons (ps_set (i := 3) sc_law_draw.nd rfl (Or.inl rfl) (pe_op op_mod (pe_callTy call_int1 (by rfl) (z_int T) (by decide +kernel) (pa_cons (pe_ix ix_list (pv 0) pe_int (fun _ _ => rfl)) pa_nil)) (pv 1)))
      (pss_cons (ps_asg (pe_op op_fdiv (pe_ix ix_list (pv 0) pe_int (fun _ _ => rfl)) (pv 1)) (pg_sub (pv 0) pe_int set_list))
      (pss_one (ps_ret (pv 3))))) pss_nil)
      (pss_cons (ps_asg (pe_op op_add (pe_ix ix_list (pv 0) pe_int (fun _ _ => rfl)) pe_int) (pg_sub (pv 0) pe_int set_list))
      (pss_cons (ps_set (i := 4) sc_law_draw.nd rfl (Or.inl rfl) (pe_op op_mod (pe_callTy call_int1 (by rfl) (z_int T) (by decide +kernel) (pa_cons (pe_op op_mul (pe_callTy call_int1 (by rfl) (z_int T) (by decide +kernel) (pa_cons (pe_op op_add (pe_ix ix_list (pv 0) pe_int (fun _ _ => rfl)) (pe_op op_mul pe_int (pe_ix ix_list (pv 0) pe_int (fun _ _ => rfl)))) pa_nil)) pe_int) pa_nil)) pe_int))
      (pss_cons (ps_set (i := 4) sc_law_draw.nd rfl (Or.inl rfl) (pe_op op_mod (pe_callTy call_int1 (by rfl) (z_int T) (by decide +kernel) (pa_cons (pe_op op_mul (pv 4) (pe_op op_add (pe_op op_fdiv (pv 4) pe_int) pe_int)) pa_nil)) pe_int))
      (pss_cons (ps_set (i := 4) sc_law_draw.nd rfl (Or.inl rfl) (pe_op op_mod (pe_callTy call_int1 (by rfl) (z_int T) (by decide +kernel) (pa_cons (pe_op op_mul (pv 4) (pe_op op_add (pe_op op_fdiv (pv 4) pe_int) pe_int)) pa_nil)) pe_int))
      (pss_one (ps_ret (pe_op op_mod (pe_callTy call_int1 (by rfl) (z_int T) (by decide +kernel) (pa_cons (pe_op op_fdiv (pv 4) pe_int) pa_nil)) (pv 1)))))))))), ?_⟩
  have hne : cl ≠ h := fun z => by
    rw [z, hh] at hcl
    injection hcl with hcl
    injection hcl with hcl
    cases cs with
    | nil => cases hcl
    | cons c r => injection hcl with hcl _; cases hcl
  refine ⟨fun σ H1 => ∃ (y2 y3 y4 : Option V) (i1 i2 i3 i4 : Int), σ = [some (.ref h), some (.int m), y2, y3, y4] ∧ Mod [h] H H1 ∧ H1 h = some (.lst [.ref cl, .int i1, .int i2, .int i3, .int i4]) ∧ 0 ≤ i1 ∧ H1 cl = some (.lst (cs.map V.int)), ?_, ?_⟩
  · refine ⟨_, rfl, h, _, 2, _, rfl, rfl, SqL.of hh, at_of (j := 2) rfl rfl, rfl, _, rfl, ite2 (fun c1 => ?_) (fun _ => iteF ⟨_, _, _, _, _, _, _, rfl, Mod.refl, hh, h1, hcl⟩)⟩
    refine ⟨_, rfl, h, _, 1, _, rfl, rfl, SqL.of hh, at_of (j := 1) rfl rfl, _, rfl, h, _, 0, _, rfl, rfl, SqL.of hh, at_of (j := 0) rfl rfl, cl, _, rfl, .inl (SqL.of hcl), _, _, rfl, rfl, _, rfl, ite2 (fun c2 => ?_) (fun _ => ⟨_, _, _, _, _, _, _, rfl, Mod.refl, hh, h1, hcl⟩)⟩
    rw [List.length_map] at c2
    obtain ⟨n, rfl⟩ : ∃ n : Nat, i1 = (n : Int) := ⟨i1.toNat, by omega⟩
    have hn : n < cs.length := by have := of_decide_eq_true c2; omega
    have c1' : i2 = 0 := by
      have := of_decide_eq_true c1
      injection this
    have eat : (cs.map V.int)[n]? = some (.int cs[n]) := by rw [List.getElem?_map, List.getElem?_eq_getElem hn]; rfl
    refine ⟨_, rfl, h, _, 0, _, rfl, rfl, SqL.of hh, at_of (j := 0) rfl rfl, _, rfl, h, _, 1, _, rfl, rfl, SqL.of hh, at_of (j := 1) rfl rfl, cl, _, _, _, rfl, rfl, SqL.of hcl, at_of (j := n) rfl eat, ?_⟩
    refine ⟨_, rfl, h, _, 1, _, rfl, rfl, SqL.of hh, at_of (j := 1) rfl rfl, _, _, rfl, rfl, _, rfl, h, _, 1, 1, rfl, rfl, hh, rfl, ?_⟩
    have hh2 : upd H h (.lst [.ref cl, .int ((n : Int) + 1), .int i2, .int i3, .int i4]) h = some (.lst [.ref cl, .int ((n : Int) + 1), .int i2, .int i3, .int i4]) := upd_same
    have m2 : Mod [h] H (upd H h (.lst [.ref cl, .int ((n : Int) + 1), .int i2, .int i3, .int i4])) := Mod.refl.put hh (fun _ z => nomatch z) (List.mem_singleton.mpr rfl)
    refine ⟨_, rfl, h, _, 3, _, rfl, rfl, SqL.of hh2, at_of (j := 3) rfl rfl, _, _, rfl, rfl, .inr ⟨by decide, by decide⟩, _, rfl, _, _, rfl, rfl, .inr ⟨by decide, by decide⟩, _, _, rfl, rfl, _, _, rfl, rfl, .inl ⟨_, rfl, _, _, rfl, rfl, (by show (0 : Int) < 2147483629; decide), _, rfl, h, _, 3, 3, rfl, rfl, hh2, rfl, ?_⟩⟩
    have m3 := m2.put (o := .lst [.ref cl, .int ((n : Int) + 1), .int i2, .int ((i3 * 69621 + cs[n] * 48271 + 17) % 2147483629), .int i4]) hh2 (fun _ z => nomatch z) (List.mem_singleton.mpr rfl)
    have nm : cl ∉ [h] := by simp [hne]
    refine ⟨_, rfl, _, _, rfl, rfl, ⟨by decide, by decide, by decide⟩, _, _, rfl, rfl, _, rfl, ite2 (fun _ => ?_) (fun _ => ⟨_, _, _, _, _, _, _, rfl, m3, upd_same, by omega, m3.keep _ _ hcl nm⟩)⟩
    refine ⟨_, rfl, _, rfl, h, _, 2, 2, rfl, rfl, upd_same, rfl, ?_⟩
    exact ⟨_, _, _, _, _, _, _, rfl, m3.put upd_same (fun _ z => nomatch z) (List.mem_singleton.mpr rfl), upd_same, by omega, (m3.put upd_same (fun _ z => nomatch z) (List.mem_singleton.mpr rfl)).keep _ _ hcl nm⟩
  · rintro σ H1 ⟨y2, y3, y4, i1, i2, i3, i4, rfl, m1, hh, h1, hcl⟩
    have nm : cl ∉ [h] := by simp [hne]
    refine ⟨_, rfl, h, _, 2, _, rfl, rfl, SqL.of hh, at_of (j := 2) rfl rfl, _, _, rfl, rfl, _, rfl, ite2 (fun _ => ?_) (fun _ => ?_)⟩
    · refine ⟨_, rfl, h, _, 2, _, rfl, rfl, SqL.of hh, at_of (j := 2) rfl rfl, .inl ⟨_, rfl, _, rfl, _, _, rfl, rfl, hm0, ?_⟩⟩
      refine ⟨_, rfl, h, _, 2, _, rfl, rfl, SqL.of hh, at_of (j := 2) rfl rfl, _, rfl, _, _, rfl, rfl, ⟨hm0, hm1⟩, _, rfl, h, _, 2, 2, rfl, rfl, hh, rfl, ?_⟩
      have m2 : Mod [h] H (upd H1 h (.lst [.ref cl, .int i1, .int (i2 / m), .int i3, .int i4])) := m1.put hh (fun _ z => nomatch z) (List.mem_singleton.mpr rfl)
      exact ⟨_, rfl, q _ _ m2 (handPut hh rfl hcl hcs h1 hne) (Int.emod_nonneg _ (by omega)) (Int.emod_lt_of_pos _ hm0)⟩
    · refine ⟨_, rfl, h, _, 4, _, rfl, rfl, SqL.of hh, at_of (j := 4) rfl rfl, _, _, rfl, rfl, _, rfl, h, _, 4, 4, rfl, rfl, hh, rfl, ?_⟩
      have m2 : Mod [h] H (upd H1 h (.lst [.ref cl, .int i1, .int i2, .int i3, .int (i4 + 1)])) := m1.put hh (fun _ z => nomatch z) (List.mem_singleton.mpr rfl)
      have hh2 : upd H1 h (.lst [.ref cl, .int i1, .int i2, .int i3, .int (i4 + 1)]) h = some (.lst [.ref cl, .int i1, .int i2, .int i3, .int (i4 + 1)]) := upd_same
      refine ⟨_, rfl, h, _, 3, _, rfl, rfl, SqL.of hh2, at_of (j := 3) rfl rfl, _, rfl, h, _, 4, _, rfl, rfl, SqL.of hh2, at_of (j := 4) rfl rfl, _, _, rfl, rfl, .inl ⟨by decide, by decide⟩, _, _, rfl, rfl, .inl ⟨_, rfl, _, _, rfl, rfl, .inr ⟨by decide, by decide⟩, .inl ⟨_, rfl, _, _, rfl, rfl, (by show (0 : Int) < 2147483647; decide), ?_⟩⟩⟩
      generalize hn1 : (i3 + 7529 * (i4 + 1)) * 40692 % 2147483647 = n1
      have b1 : 0 ≤ n1 := by rw [← hn1]; exact Int.emod_nonneg _ (by decide)
      have b2 : n1 < 2147483647 := by rw [← hn1]; exact Int.emod_lt_of_pos _ (by decide)
      refine ⟨_, rfl, _, rfl, _, _, rfl, rfl, ⟨by decide, by decide⟩, _, _, rfl, rfl, _, _, rfl, rfl, .inl ⟨by omega, by omega⟩, .inl ⟨_, rfl, _, _, rfl, rfl, (by show (0 : Int) < 2147483647; decide), ?_⟩⟩
      generalize hn2 : n1 * (n1 / 1009 + 69621) % 2147483647 = n2
      have d1 : 0 ≤ n2 := by rw [← hn2]; exact Int.emod_nonneg _ (by decide)
      have d2 : n2 < 2147483647 := by rw [← hn2]; exact Int.emod_lt_of_pos _ (by decide)
      refine ⟨_, rfl, _, rfl, _, _, rfl, rfl, ⟨by decide, by decide⟩, _, _, rfl, rfl, _, _, rfl, rfl, .inl ⟨by omega, by omega⟩, .inl ⟨_, rfl, _, _, rfl, rfl, (by show (0 : Int) < 2147483563; decide), ?_⟩⟩
      refine ⟨_, rfl, _, _, rfl, rfl, ⟨by decide, by decide⟩, .inl ⟨_, rfl, _, rfl, _, _, rfl, rfl, hm0, ?_⟩⟩
      exact q _ _ m2 (handPut hh rfl hcl hcs h1 hne) (Int.emod_nonneg _ (by omega)) (Int.emod_lt_of_pos _ hm0)
end
end Fr

set_option maxHeartbeats 4000000
namespace Fr
open PySem PySem.Spec PyProof.Rows L2
theorem LotOk.of {l : List Nat} (h : (decide (l ≠ []) && decide (l.length ≤ 4) && l.all okSign && (List.range 4).all fun i => match l[i]?, l[i + 1]? with | some a, some b => decide (a < b) | _, _ => true) = true) : LotOk l := by
  simp only [Bool.and_eq_true, List.all_eq_true, List.mem_range, decide_eq_true_eq] at h
  obtain ⟨⟨⟨h1, h2⟩, h3⟩, h4⟩ := h
  refine ⟨h1, h2, h3, fun i a b ha hb => ?_⟩
  have hi := (List.getElem?_eq_some_iff.mp ha).1
  have := h4 i (by omega)
  rw [ha, hb] at this
  simpa using this
/-- the lots and the marks that the law draws -/
theorem lot_a : LotOk [97] := .of (by decide +kernel)
theorem lot_b : LotOk [98] := .of (by decide +kernel)
theorem lot_d : LotOk [100] := .of (by decide +kernel)
theorem lot_ab : LotOk [97, 98] := .of (by decide +kernel)
theorem lot_ac : LotOk [97, 99] := .of (by decide +kernel)
theorem lot_abcd : LotOk [97, 98, 99, 100] := .of (by decide +kernel)
theorem mark_m : MarkOk [109] := ⟨by simp, by simp, fun c h => by simp at h; subst h; decide +kernel⟩
theorem mark_n : MarkOk [110] := ⟨by simp, by simp, fun c h => by simp at h; subst h; decide +kernel⟩
theorem mark_q : MarkOk [113] := ⟨by simp, by simp, fun c h => by simp at h; subst h; decide +kernel⟩
section
variable {P : Program} {w : World} {K : PySem.W.Frag} {mg : Str → Option Value} {base : Heap}
def spAny : Sp := fun vs H Q _ => ∃ (h cl : Addr) (x : V), vs = [.ref h, x] ∧ HandAt H h cl ∧
  ((∃ z : Str, x = .str z ∧ 0 < z.length ∧ z.length ≤ 1000 ∧ ∀ H' c, Mod [h] H H' → HandAt H' h cl → c ∈ z.cps.toList → Q (.str ⟨#[c]⟩) H') ∨
   ∃ l xs, x = .ref l ∧ H l = some (.lst xs) ∧ l ≠ h ∧ 0 < xs.length ∧ xs.length ≤ 1000 ∧ ∀ H' v, Mod [h] H H' → HandAt H' h cl → v ∈ xs → Q v H')
theorem has_law_any (T : Tx w K mg) : Has P w K mg base 2 "_law_any" ["hand", "some"] spAny := by
  have H_law_draw := has_law_draw (P := P) (base := base) T
  refine (T.has (d := d_law_any) 33 rfl rfl rfl rfl b_law_any sc_law_any (fun vs H Q E h => ?_) fun cdv A outer s H vs Q E hr h => ?_)
  · obtain ⟨_, _, _, rfl, _⟩ := h; rfl
  obtain ⟨h, cl, x, rfl, ha, q⟩ := h
  refine ⟨_, (pss_one (ps_ret (pe_ix ix_seq (pv 1) (pe_callH H_law_draw (hr.mono (by decide)) (by rfl) (g__law_draw T) (pa_cons (pv 0) (pa_cons (pe_callB call_len (by rfl) (z_len T) (by decide +kernel) (pa_cons (pv 1) pa_nil)) pa_nil))) (fun _ _ => rfl)))), ?_⟩
  refine ⟨_, rfl, _, rfl, _, rfl, x, ?_⟩
  rcases q with ⟨z, rfl, h0, h1, q⟩ | ⟨l, xs, rfl, hl, hn, h0, h1, q⟩
  · refine ⟨z.length, rfl, ⟨le_line (by omega), rfl⟩, h, cl, _, rfl, ha, by omega, by omega, fun H' d m a d0 d1 => ?_⟩
    obtain ⟨n, rfl⟩ : ∃ n : Nat, d = (n : Int) := ⟨d.toNat, by omega⟩
    have hn : n < z.cps.toList.length := by rw [Array.length_toList]; exact Int.ofNat_lt.mp d1
    exact .inr (.inr ⟨z, _, z.cps.toList[n], rfl, rfl, le_line (by omega), atI_nat (List.getElem?_eq_getElem hn), q _ _ m a (List.getElem_mem hn)⟩)
  · refine ⟨xs.length, rfl, .inl ⟨_, SqL.of hl, rfl⟩, h, cl, _, rfl, ha, by omega, by omega, fun H' d m a d0 d1 => ?_⟩
    obtain ⟨n, rfl⟩ : ∃ n : Nat, d = (n : Int) := ⟨d.toNat, by omega⟩
    have hn' : n < xs.length := Int.ofNat_lt.mp d1
    exact .inl ⟨l, xs, _, xs[n], rfl, rfl, SqL.of (m.keep _ _ hl (by simp [hn])), atI_nat (List.getElem?_eq_getElem hn'), q _ _ m a (List.getElem_mem hn')⟩
end
end Fr

set_option maxHeartbeats 4000000
namespace Fr
open PySem PySem.Spec PyProof.Rows L2
theorem lots7 : ∀ v ∈ [V.str "a", V.str "b", V.str "ab", V.str "ac", V.str "abcd", V.str "b", V.str "d"], ∃ l : List Nat, v = .str ⟨l.toArray⟩ ∧ LotOk l := fun v h => by
  simp only [List.mem_cons, List.not_mem_nil, or_false] at h
  rcases h with rfl | rfl | rfl | rfl | rfl | rfl | rfl
  · exact ⟨[97], rfl, lot_a⟩
  · exact ⟨[98], rfl, lot_b⟩
  · exact ⟨[97, 98], rfl, lot_ab⟩
  · exact ⟨[97, 99], rfl, lot_ac⟩
  · exact ⟨[97, 98, 99, 100], rfl, lot_abcd⟩
  · exact ⟨[98], rfl, lot_b⟩
  · exact ⟨[100], rfl, lot_d⟩
theorem lots2 : ∀ v ∈ [V.str "a", V.str "ab"], ∃ l : List Nat, v = .str ⟨l.toArray⟩ ∧ LotOk l := fun v h => by
  simp only [List.mem_cons, List.not_mem_nil, or_false] at h
  rcases h with rfl | rfl
  · exact ⟨[97], rfl, lot_a⟩
  · exact ⟨[97, 98], rfl, lot_ab⟩
theorem marks2 : ∀ v ∈ [V.str "m", V.str "n"], ∃ l : List Nat, v = .str ⟨l.toArray⟩ ∧ MarkOk l := fun v h => by
  simp only [List.mem_cons, List.not_mem_nil, or_false] at h
  rcases h with rfl | rfl
  · exact ⟨[109], rfl, mark_m⟩
  · exact ⟨[110], rfl, mark_n⟩
/-- how many nodes a drawn pattern may have -/
def szb : Nat → Nat
  | 0 => 1
  | d + 1 => max (1 + 2 * szb d) (szb d + 4)
theorem two_pos (d : Nat) : 1 ≤ 2 ^ d := Nat.one_le_two_pow
theorem szb_pos : ∀ d, 1 ≤ szb d
  | 0 => Nat.le_refl 1
  | d + 1 => by show 1 ≤ max (1 + 2 * szb d) (szb d + 4); omega
section
variable {P : Program} {w : World} {K : PySem.W.Frag} {mg : Str → Option Value} {base : Heap}
def spPat : Nat → Sp
  | 0 => fun _ _ _ _ => False
  | d + 1 => fun vs H Q _ => ∃ h cl, vs = [.ref h, .int (d : Nat)] ∧ HandAt H h cl ∧ d ≤ 3 ∧ ∀ H' v p, Mod [h] H H' → HandAt H' h cl → IsP H' v p → p.Ok → p.size ≤ szb d → p.deep ≤ 1 + 2 * d → p.sg ≤ 2 ^ d → Q v H'
theorem has_law_pattern (T : Tx w K mg) : ∀ n, Has P w K mg base (3 + n) "_law_pattern" ["hand", "deep"] (spPat n)
  | 0 => by
    have H_law_draw := has_law_draw (P := P) (base := base) T
    refine (T.has (d := d_law_pattern) 34 rfl rfl rfl rfl b_law_pattern sc_law_pattern (fun vs H Q E h => h.elim) fun cdv A outer s H vs Q E hr h => h.elim)
  | d + 1 => by
    have H_law_draw := has_law_draw (P := P) (base := base) T
    have H_law_any := has_law_any (P := P) (base := base) T
    have H_law_pattern := has_law_pattern T d
    refine (T.has (d := d_law_pattern) 34 rfl rfl rfl rfl b_law_pattern sc_law_pattern (fun vs H Q E h => ?_) fun cdv A outer s H vs Q E hr h => ?_)
    · obtain ⟨_, _, rfl, _⟩ := h; rfl
    obtain ⟨h, cl, rfl, ha, hd, q⟩ := h
    have hr : Room (3 + d) _ := hr
    refine ⟨_, (pss_cons (ps_set (i := 2) sc_law_pattern.nd rfl (Or.inl rfl) (pe_callH H_law_draw (hr.mono (by omega)) (by rfl) (g__law_draw T) (pa_cons (pv 0) (pa_cons pe_int pa_nil))))
      (pss_cons (ps_if (PW.pt (pw_or (pt_cmpR op_eq (pv 1) pe_int (nomark _)) (pw_or1 (pt_cmpR op_lt (pv 2) pe_int (nomark _))))) (pss_cons (ps_set (i := 3) sc_law_pattern.nd rfl (Or.inl rfl) (pe_callH H_law_any (hr.mono (by omega)) (by rfl) (g__law_any T) (pa_cons (pv 0) (pa_cons (pe_lst (pa_cons pe_str (pa_cons pe_str (pa_cons pe_str (pa_cons pe_str (pa_cons pe_str (pa_cons pe_str (pa_cons pe_str pa_nil)))))))) pa_nil))))
      (pss_one (ps_ret (pe_ifExp (pt_cmpR op_gt (pe_callH H_law_draw (hr.mono (by omega)) (by rfl) (g__law_draw T) (pa_cons (pv 0) (pa_cons pe_int pa_nil))) pe_int (nomark _)) (pe_tup (pa_cons pe_str (pa_cons (pv 3) pa_nil))) (pe_tup (pa_cons pe_str pa_nil)))))) pss_nil)
      (pss_cons (ps_if (pt_cmpR op_lt (pv 2) pe_int (nomark _)) (pss_one (ps_ret (pe_tup (pa_cons pe_str (pa_cons (pe_callH H_law_pattern (hr.mono (by omega)) (by rfl) (g__law_pattern T) (pa_cons (pv 0) (pa_cons (pe_op op_sub (pv 1) pe_int) pa_nil))) (pa_cons (pe_callH H_law_pattern (hr.mono (by omega)) (by rfl) (g__law_pattern T) (pa_cons (pv 0) (pa_cons (pe_op op_sub (pv 1) pe_int) pa_nil))) pa_nil)))))) pss_nil)
      (pss_cons (ps_if (pt_cmpR op_lt (pv 2) pe_int (nomark _)) (pss_one (ps_ret (pe_tup (pa_cons pe_str (pa_cons (pe_callH H_law_pattern (hr.mono (by omega)) (by rfl) (g__law_pattern T) (pa_cons (pv 0) (pa_cons (pe_op op_sub (pv 1) pe_int) pa_nil))) (pa_cons (pe_callH H_law_pattern (hr.mono (by omega)) (by rfl) (g__law_pattern T) (pa_cons (pv 0) (pa_cons (pe_op op_sub (pv 1) pe_int) pa_nil))) pa_nil)))))) pss_nil)
      (pss_cons (ps_if (pt_cmpR op_eq (pv 2) pe_int (nomark _)) (pss_one (ps_ret (pe_tup (pa_cons (pe_callH H_law_any (hr.mono (by omega)) (by rfl) (g__law_any T) (pa_cons (pv 0) (pa_cons (pe_lst (pa_cons pe_str (pa_cons pe_str pa_nil))) pa_nil))) (pa_cons (pe_callH H_law_pattern (hr.mono (by omega)) (by rfl) (g__law_pattern T) (pa_cons (pv 0) (pa_cons (pe_op op_sub (pv 1) pe_int) pa_nil))) pa_nil))))) pss_nil)
      (pss_cons (ps_if (pt_cmpR op_eq (pv 2) pe_int (nomark _)) (pss_one (ps_ret (pe_tup (pa_cons pe_str (pa_cons (pe_callH H_law_any (hr.mono (by omega)) (by rfl) (g__law_any T) (pa_cons (pv 0) (pa_cons (pe_lst (pa_cons pe_str (pa_cons pe_str pa_nil))) pa_nil))) (pa_cons (pe_callH H_law_pattern (hr.mono (by omega)) (by rfl) (g__law_pattern T) (pa_cons (pv 0) (pa_cons (pe_op op_sub (pv 1) pe_int) pa_nil))) pa_nil)))))) pss_nil)
      (pss_one (ps_ret (pe_tup (pa_cons pe_str (pa_cons (pe_tup (pa_cons pe_str (pa_cons pe_str (pa_cons (pe_callH H_law_pattern (hr.mono (by omega)) (by rfl) (g__law_pattern T) (pa_cons (pv 0) (pa_cons (pe_op op_sub (pv 1) pe_int) pa_nil))) pa_nil)))) (pa_cons (pe_tup (pa_cons pe_str (pa_cons (pe_tup (pa_cons pe_str (pa_cons (pe_callH H_law_any (hr.mono (by omega)) (by rfl) (g__law_any T) (pa_cons (pv 0) (pa_cons (pe_lst (pa_cons pe_str (pa_cons pe_str pa_nil))) pa_nil))) pa_nil))) pa_nil))) pa_nil)))))))))))), ?_⟩
    refine ⟨_, rfl, h, cl, 10, rfl, ha, by decide, by decide, fun H1 kd m1 ha1 k0 k1 => ?_⟩
    cases d with
    | zero =>
      refine ⟨_, rfl, rfl, _, rfl, ite2 (fun c => ?_) (fun c => absurd (decide_eq_true rfl) c)⟩
      refine iteT ⟨_, rfl, le_line (by simp), fun l hl => ⟨h, cl, .ref l, rfl, ha1.mod (Mod.refl.new hl), .inr ⟨l, _, rfl, upd_same, fun z => ?_, by simp, by simp, fun H3 v m3 ha3 hv => ?_⟩⟩⟩
      · obtain ⟨_, _, _, _, _, g, _⟩ := ha1; rw [z, g] at hl; cases hl
      obtain ⟨lo, rfl, hlo⟩ := lots7 v hv
      have m03 := (m1.trans (Mod.refl (ms := []).new hl).nil).trans m3
      refine ⟨_, rfl, h, cl, 7, rfl, ha3, by decide, by decide, fun H4 d4 m4 ha4 _ _ => ⟨_, _, rfl, rfl, _, rfl, ite2 (fun c => ⟨_, rfl, ln2, fun t ht => ?_⟩) (fun c => ⟨ln1, fun t ht => ?_⟩)⟩⟩
      · exact q _ _ (.sign lo) ((m03.trans m4).new ht) (ha4.mod (Mod.refl.new ht)) ⟨t, rfl, upd_same⟩ hlo (szb_pos _) (by show 1 ≤ _; omega) (two_pos _)
      · exact q _ _ .emp ((m03.trans m4).new ht) (ha4.mod (Mod.refl.new ht)) ⟨t, rfl, upd_same⟩ trivial (szb_pos _) (by show 1 ≤ _; omega) (Nat.zero_le _)
    | succ d' =>
      refine ⟨_, rfl, rfl, _, rfl, ite2 (fun c => ?_) (fun _ => ⟨_, rfl, _, _, rfl, rfl, _, rfl, ite2 (fun c => ?_) (fun _ => ?_)⟩)⟩
      · exact absurd (of_decide_eq_true c) (by intro z; injection z with z; omega)
      · refine ⟨_, rfl, le_line (by simp), fun l hl => ⟨h, cl, .ref l, rfl, ha1.mod (Mod.refl.new hl), .inr ⟨l, _, rfl, upd_same, fun z => ?_, by simp, by simp, fun H3 v m3 ha3 hv => ?_⟩⟩⟩
        · obtain ⟨_, _, _, _, _, g, _⟩ := ha1; rw [z, g] at hl; cases hl
        obtain ⟨lo, rfl, hlo⟩ := lots7 v hv
        have m03 := (m1.trans (Mod.refl (ms := []).new hl).nil).trans m3
        refine ⟨_, rfl, h, cl, 7, rfl, ha3, by decide, by decide, fun H4 d4 m4 ha4 _ _ => ⟨_, _, rfl, rfl, _, rfl, ite2 (fun c => ⟨_, rfl, ln2, fun t ht => ?_⟩) (fun c => ⟨ln1, fun t ht => ?_⟩)⟩⟩
        · exact q _ _ (.sign lo) ((m03.trans m4).new ht) (ha4.mod (Mod.refl.new ht)) ⟨t, rfl, upd_same⟩ hlo (szb_pos _) (by show 1 ≤ _; omega) (two_pos _)
        · exact q _ _ .emp ((m03.trans m4).new ht) (ha4.mod (Mod.refl.new ht)) ⟨t, rfl, upd_same⟩ trivial (szb_pos _) (by show 1 ≤ _; omega) (Nat.zero_le _)
      have sb := szb_pos d'
      refine ⟨_, rfl, _, _, rfl, rfl, _, rfl, ite2 (fun _ => ?_) (fun _ => ?_)⟩
      · refine ⟨_, rfl, _, rfl, _, _, rfl, rfl, ⟨h, cl, by show [V.ref h, V.int (((d' + 1 : Nat) : Int) - 1)] = [V.ref h, V.int (d' : Nat)]; rw [show (((d' + 1 : Nat) : Int) - 1) = (d' : Nat) by omega], ha1, by omega, fun H2 v2 p2 m2 ha2 i2 ok2 s2 e2 g2 => ?_⟩⟩
        refine ⟨_, rfl, _, rfl, _, _, rfl, rfl, ⟨h, cl, by show [V.ref h, V.int (((d' + 1 : Nat) : Int) - 1)] = [V.ref h, V.int (d' : Nat)]; rw [show (((d' + 1 : Nat) : Int) - 1) = (d' : Nat) by omega], ha2, by omega, fun H3 v3 p3 m3 ha3 i3 ok3 s3 e3 g3 => ?_⟩⟩
        refine ⟨ln3, fun t ht => ?_⟩
        exact q _ _ (.thn p2 p3) (((m1.trans m2).trans m3).new ht) (ha3.mod (Mod.refl.new ht)) ⟨t, v2, v3, rfl, upd_same, (i2.mod m3).mod (Mod.refl (ms := []).new ht), i3.mod (Mod.refl (ms := []).new ht)⟩ ⟨ok2, ok3⟩ (by show 1 + p2.size + p3.size ≤ max (1 + 2 * szb d') (szb d' + 4); omega) (by show 1 + max p2.deep p3.deep ≤ _; omega) (by show p2.sg + p3.sg ≤ 2 ^ (d' + 1); rw [Nat.pow_succ]; omega)
      refine ⟨_, rfl, _, _, rfl, rfl, _, rfl, ite2 (fun _ => ?_) (fun _ => ?_)⟩
      · refine ⟨_, rfl, _, rfl, _, _, rfl, rfl, ⟨h, cl, by show [V.ref h, V.int (((d' + 1 : Nat) : Int) - 1)] = [V.ref h, V.int (d' : Nat)]; rw [show (((d' + 1 : Nat) : Int) - 1) = (d' : Nat) by omega], ha1, by omega, fun H2 v2 p2 m2 ha2 i2 ok2 s2 e2 g2 => ?_⟩⟩
        refine ⟨_, rfl, _, rfl, _, _, rfl, rfl, ⟨h, cl, by show [V.ref h, V.int (((d' + 1 : Nat) : Int) - 1)] = [V.ref h, V.int (d' : Nat)]; rw [show (((d' + 1 : Nat) : Int) - 1) = (d' : Nat) by omega], ha2, by omega, fun H3 v3 p3 m3 ha3 i3 ok3 s3 e3 g3 => ?_⟩⟩
        refine ⟨ln3, fun t ht => ?_⟩
        exact q _ _ (.orr p2 p3) (((m1.trans m2).trans m3).new ht) (ha3.mod (Mod.refl.new ht)) ⟨t, v2, v3, rfl, upd_same, (i2.mod m3).mod (Mod.refl (ms := []).new ht), i3.mod (Mod.refl (ms := []).new ht)⟩ ⟨ok2, ok3⟩ (by show 1 + p2.size + p3.size ≤ max (1 + 2 * szb d') (szb d' + 4); omega) (by show 1 + max p2.deep p3.deep ≤ _; omega) (by show p2.sg + p3.sg ≤ 2 ^ (d' + 1); rw [Nat.pow_succ]; omega)
      refine ⟨_, rfl, rfl, _, rfl, ite2 (fun _ => ?_) (fun _ => ?_)⟩
      · refine ⟨_, rfl, ln2, fun l hl => ⟨h, cl, .ref l, rfl, ha1.mod (Mod.refl.new hl), .inr ⟨l, _, rfl, upd_same, fun z => ?_, by simp, by simp, fun H2 v m2 ha2 hv => ?_⟩⟩⟩
        · obtain ⟨_, _, _, _, _, g, _⟩ := ha1; rw [z, g] at hl; cases hl
        refine ⟨_, rfl, _, rfl, _, _, rfl, rfl, ⟨h, cl, by show [V.ref h, V.int (((d' + 1 : Nat) : Int) - 1)] = [V.ref h, V.int (d' : Nat)]; rw [show (((d' + 1 : Nat) : Int) - 1) = (d' : Nat) by omega], ha2, by omega, fun H3 v3 p3 m3 ha3 i3 ok3 s3 e3 g3 => ?_⟩⟩
        have m03 := ((m1.trans (Mod.refl (ms := []).new hl).nil).trans m2).trans m3
        refine ⟨ln2, fun t ht => ?_⟩
        have i4 := i3.mod (Mod.refl (ms := []).new (o := .tup [v, v3]) ht)
        simp only [List.mem_cons, List.not_mem_nil, or_false] at hv
        rcases hv with rfl | rfl
        · exact q _ _ (.many p3) (m03.new ht) (ha3.mod (Mod.refl.new ht)) ⟨t, v3, rfl, upd_same, i4⟩ ok3 (by show 1 + p3.size ≤ max (1 + 2 * szb d') (szb d' + 4); omega) (by show 1 + p3.deep ≤ _; omega) (by show p3.sg ≤ 2 ^ (d' + 1); rw [Nat.pow_succ]; omega)
        · exact q _ _ (.few p3) (m03.new ht) (ha3.mod (Mod.refl.new ht)) ⟨t, v3, rfl, upd_same, i4⟩ ok3 (by show 1 + p3.size ≤ max (1 + 2 * szb d') (szb d' + 4); omega) (by show 1 + p3.deep ≤ _; omega) (by show p3.sg ≤ 2 ^ (d' + 1); rw [Nat.pow_succ]; omega)
      refine ⟨_, rfl, rfl, _, rfl, ite2 (fun _ => ?_) (fun _ => ?_)⟩
      · refine ⟨_, rfl, ln2, fun l hl => ⟨h, cl, .ref l, rfl, ha1.mod (Mod.refl.new hl), .inr ⟨l, _, rfl, upd_same, fun z => ?_, by simp, by simp, fun H2 v m2 ha2 hv => ?_⟩⟩⟩
        · obtain ⟨_, _, _, _, _, g, _⟩ := ha1; rw [z, g] at hl; cases hl
        refine ⟨_, rfl, _, rfl, _, _, rfl, rfl, ⟨h, cl, by show [V.ref h, V.int (((d' + 1 : Nat) : Int) - 1)] = [V.ref h, V.int (d' : Nat)]; rw [show (((d' + 1 : Nat) : Int) - 1) = (d' : Nat) by omega], ha2, by omega, fun H3 v3 p3 m3 ha3 i3 ok3 s3 e3 g3 => ?_⟩⟩
        have m03 := ((m1.trans (Mod.refl (ms := []).new hl).nil).trans m2).trans m3
        refine ⟨ln3, fun t ht => ?_⟩
        obtain ⟨mk, rfl, hmk⟩ := marks2 v hv
        exact q _ _ (.mark mk p3) (m03.new ht) (ha3.mod (Mod.refl.new ht)) ⟨t, v3, rfl, upd_same, i3.mod (Mod.refl (ms := []).new ht)⟩ ⟨hmk, ok3⟩ (by show 1 + p3.size ≤ max (1 + 2 * szb d') (szb d' + 4); omega) (by show 1 + p3.deep ≤ _; omega) (by show p3.sg ≤ 2 ^ (d' + 1); rw [Nat.pow_succ]; omega)
      · refine ⟨_, rfl, _, rfl, _, _, rfl, rfl, ⟨h, cl, by show [V.ref h, V.int (((d' + 1 : Nat) : Int) - 1)] = [V.ref h, V.int (d' : Nat)]; rw [show (((d' + 1 : Nat) : Int) - 1) = (d' : Nat) by omega], ha1, by omega, fun H2 v2 p2 m2 ha2 i2 ok2 s2 e2 g2 => ?_⟩⟩
        refine ⟨ln3, fun t2 ht2 => ?_⟩
        have n2 := Mod.refl (ms := []).new (o := .tup [.str "mark", .str "m", v2]) ht2
        have ha2' := ha2.mod n2
        refine ⟨_, rfl, ln2, fun l hl => ⟨h, cl, .ref l, rfl, ha2'.mod (Mod.refl.new hl), .inr ⟨l, _, rfl, upd_same, fun z => ?_, by simp, by simp, fun H4 v m4 ha4 hv => ?_⟩⟩⟩
        · obtain ⟨_, _, _, _, _, g, _⟩ := ha2'; rw [z, g] at hl; cases hl
        obtain ⟨lo, rfl, hlo⟩ := lots2 v hv
        have n3 := Mod.refl (ms := []).new (o := .lst [.str "a", .str "ab"]) hl
        have m04 := (((m1.trans m2).trans n2.nil).trans n3.nil).trans m4
        refine ⟨ln2, fun t5 ht5 => ⟨ln2, fun t6 ht6 => ⟨ln3, fun t7 ht7 => ?_⟩⟩⟩
        have n5 := Mod.refl (ms := []).new (o := .tup [.str "sign", .str ⟨lo.toArray⟩]) ht5
        have n6 := Mod.refl (ms := []).new (o := .tup [.str "many", .ref t5]) ht6
        have n7 := Mod.refl (ms := []).new (o := .tup [.str "then", .ref t2, .ref t6]) ht7
        have f5 := n7.tup _ _ (n6.tup t5 _ upd_same)
        have f6 := n7.tup t6 _ upd_same
        have f2 := n7.tup _ _ (n6.tup _ _ (n5.tup _ _ (m4.tup _ _ (n3.tup t2 _ upd_same))))
        have i7 := (((((i2.mod n2).mod n3).mod m4).mod n5).mod n6).mod n7
        refine q _ _ (.thn (.mark [109] p2) (.many (.sign lo))) (((m04.trans n5.nil).trans n6.nil).trans n7.nil) (((ha4.mod n5).mod n6).mod n7) ⟨t7, .ref t2, .ref t6, rfl, upd_same, ⟨t2, v2, rfl, f2, i7⟩, ⟨t6, .ref t5, rfl, f6, ⟨t5, rfl, f5⟩⟩⟩ ⟨⟨mark_m, ok2⟩, hlo⟩ ?_ ?_ ?_
        · show 1 + (1 + p2.size) + (1 + 1) ≤ max (1 + 2 * szb d') (szb d' + 4); omega
        · show 1 + max (1 + p2.deep) (1 + 1) ≤ _; omega
        · show p2.sg + 1 ≤ 2 ^ (d' + 1); rw [Nat.pow_succ]; have := two_pos d'; omega
end
end Fr

set_option maxHeartbeats 4000000
namespace Fr
open PySem PySem.Spec PyProof.Rows L2
theorem HandAt.other {H : Hp} {h cl D : Addr} {o : HO} (a : HandAt H h cl) (h1 : D ≠ h) (h2 : D ≠ cl) : HandAt (upd H D o) h cl := by
  obtain ⟨cs, i1, i2, i3, i4, e1, e2, e3, e4⟩ := a
  exact ⟨cs, i1, i2, i3, i4, by rw [upd_ne h1.symm]; exact e1, e2, by rw [upd_ne h2.symm]; exact e3, e4⟩
theorem HandAt.ne {H : Hp} {h cl D : Addr} (a : HandAt H h cl) (hD : H D = none) : D ≠ h ∧ D ≠ cl := by
  obtain ⟨cs, i1, i2, i3, i4, e1, e2, e3, e4⟩ := a
  exact ⟨(ne_of_none e1 hD).symm, (ne_of_none e3 hD).symm⟩
section
variable {P : Program} {w : World} {K : PySem.W.Frag} {mg : Str → Option Value} {base : Heap}
theorem seven : ∀ c ∈ ("aabbacd" : Str).cps.toList, okSign c = true := by decide +kernel
def spText : Sp := fun vs H Q _ => ∃ (h cl : Addr) (m : Nat), vs = [.ref h, .int (m : Nat)] ∧ HandAt H h cl ∧ m ≤ 200 ∧ ∀ H' z, Mod [h] H H' → HandAt H' h cl → z.length ≤ m → (∀ c ∈ z.cps.toList, okSign c = true) → Q (.str z) H'
theorem has_law_text (T : Tx w K mg) : Has P w K mg base 3 "_law_text" ["hand", "most"] spText := by
  have H_law_draw := has_law_draw (P := P) (base := base) T
  have H_law_any := has_law_any (P := P) (base := base) T
  refine (T.has (d := d_law_text) 35 rfl rfl rfl rfl b_law_text sc_law_text (fun vs H Q E h => ?_) fun cdv A outer s H vs Q E hr h => ?_)
  · obtain ⟨_, _, _, rfl, _⟩ := h; rfl
  obtain ⟨h, cl, m, rfl, ha, hm, q⟩ := h
  refine ⟨_, (pss_one (ps_ret (pe_join pe_str (pe_lc (own := [("turn", 2)]) (g := (gName 2)) (tt := tYes) rfl sc_law_text.nd (pi_range1 (by rfl) (z_range T) (pa_cons (pe_callH H_law_draw (hr.mono (by decide)) (by rfl) (g__law_draw T) (pa_cons (pv 0) (pa_cons (pe_op op_add (pv 1) pe_int) pa_nil))) pa_nil)) (blkOk_by (own := [("turn", 2)]) (N := ["hand", "most", "turn"]) (sc := defScope s_law_text) (by decide +kernel)) (fun _ _ _ _ _ => (pg_name (i := 2) sc_law_text.nd rfl (Or.inl rfl))) (fun _ _ _ _ _ => pts_nil) (fun _ _ _ _ _ => (pe_callH H_law_any (hr.mono (by decide)) (by rfl) (g__law_any T) (pa_cons (pv 0) (pa_cons pe_str pa_nil)))))))), ?_⟩
  refine ⟨⟨_, rfl⟩, _, rfl, _, rfl, _, _, rfl, rfl, h, cl, _, rfl, ha, by omega, by omega, fun H1 d m1 ha1 d0 d1 => ?_⟩
  obtain ⟨n, rfl⟩ : ∃ n : Nat, d = (n : Int) := ⟨d.toNat, by omega⟩
  refine ⟨_, rfl, ?_, ?_, ?_⟩
  · omega
  · omega
  have en : ((n : Nat) : Int).toNat = n := by omega
  rw [en]
  intro D hD
  have nD := ha1.ne hD
  refine lc_it walk_range (fun i H' => ∃ cs : List Nat, cs.length = i ∧ (∀ c ∈ cs, okSign c = true) ∧ Mod [h] H H' ∧ HandAt H' h cl ∧ H' D = some (.lst (cs.map fun (c : Nat) => V.str ⟨#[c]⟩)))
    ⟨[], rfl, (fun _ h => by cases h), m1.new hD, ha1.other nD.1 nD.2, upd_same⟩ (fun _ _ _ _ => trivial) ?_ ?_
  · rintro i _ _ H3 hi ⟨cs, hl, hok, m3, ha3, eD⟩ ⟨rfl, rfl⟩
    refine ⟨rfl, _, rfl, h, cl, _, rfl, ha3, .inl ⟨_, rfl, by decide +kernel, by decide +kernel, fun H4 c m4 ha4 hc => ?_⟩⟩
    have eD4 := m4.keep _ _ eD (by simp [nD.1])
    have hDH : H D = none := m1.back hD
    refine ⟨_, eD4, lt_line (by rw [List.length_map]; omega), cs ++ [c], by simp [hl], ?_, (m3.trans m4).putNew eD4 hDH, ha4.other nD.1 nD.2, by rw [upd_same, List.map_append]; rfl⟩
    intro c' hc'
    rcases List.mem_append.mp hc' with hc' | hc'
    · exact hok c' hc'
    · rw [List.mem_singleton.mp hc']; exact seven c hc
  · rintro H3 ⟨cs, hl, hok, m3, ha3, eD⟩
    have ejoin : Txt.join "" (cs.map fun c => (⟨#[c]⟩ : Str)) = ⟨cs.toArray⟩ := by
      have h2 : (TL.joinL [] (cs.map fun c => [c])) = cs := by
        clear hl hok eD m3 ha3
        induction cs with
        | nil => rfl
        | cons c r ih =>
          cases r with
          | nil => rfl
          | cons c' r' =>
            show [c] ++ ([] ++ TL.joinL [] ((c' :: r').map fun c => [c])) = c :: c' :: r'
            rw [ih]; rfl
      have h1 := SX.join_S [] (cs.map fun c => [c])
      rw [h2, List.map_map] at h1
      exact h1
    refine ⟨_, D, cs.map fun c => (⟨#[c]⟩ : Str), rfl, rfl, .inl (SqL.of (by rw [eD, List.map_map]; rfl)), ?_, ?_⟩
    · rw [List.map_map, List.length_map]
      have e1 : (cs.map ((fun x : Str => x.length) ∘ fun c => (⟨#[c]⟩ : Str))).sum = cs.length := by
        clear hl hok eD m3 ha3 ejoin
        induction cs with
        | nil => rfl
        | cons c r ih => rw [List.map_cons, List.sum_cons, ih, List.length_cons]; show 1 + _ = _; omega
      rw [e1]
      show cs.length + cs.length * 0 ≤ _
      omega
    · rw [ejoin]
      exact q _ _ m3 ha3 (by show cs.toArray.size ≤ m; rw [List.size_toArray]; omega) hok
end
end Fr

set_option maxHeartbeats 2000000
/-! The ends of readings from a place. -/
namespace Fr
def seg (z : List Nat) (a b : Nat) : List Nat := (z.drop a).take (b - a)
theorem seg_len {z : List Nat} {a b : Nat} (h : b ≤ z.length) : (seg z a b).length = b - a := by unfold seg; rw [List.length_take, List.length_drop]; omega
theorem seg_self (z : List Nat) (a : Nat) : seg z a a = [] := by unfold seg; rw [Nat.sub_self, List.take_zero]
theorem seg_append {z : List Nat} {a m b : Nat} (h1 : a ≤ m) (h2 : m ≤ b) : seg z a m ++ seg z m b = seg z a b := by
  unfold seg
  have e : (z.drop a).drop (m - a) = z.drop m := by rw [List.drop_drop]; congr 1; omega
  rw [← e, show b - a = (m - a) + (b - m) by omega, List.take_add]
theorem seg_split {z : List Nat} {a b : Nat} {u1 u2 : List Nat} (h1 : a ≤ b) (h2 : b ≤ z.length) (h : seg z a b = u1 ++ u2) : a + u1.length ≤ b ∧ seg z a (a + u1.length) = u1 ∧ seg z (a + u1.length) b = u2 := by
  have hl := seg_len (a := a) h2
  rw [h, List.length_append] at hl
  have hle : a + u1.length ≤ b := by omega
  have he := seg_append (z := z) (a := a) (m := a + u1.length) (b := b) (by omega) hle
  rw [h] at he
  have hl1 := seg_len (z := z) (a := a) (b := a + u1.length) (by omega)
  obtain ⟨e1, e2⟩ := List.append_inj he (by rw [hl1]; omega)
  exact ⟨hle, e1, e2⟩
/-- e is an end of a reading from a place -/
def Ends (p : Pat) (z : List Nat) (a e : Nat) : Prop := a ≤ e ∧ e ≤ z.length ∧ Reads p (seg z a e)
section
variable {p q : Pat} {z : List Nat} {a e : Nat}
theorem ends_non : ¬ Ends .non z a e := fun h => h.2.2
theorem ends_emp (ha : a ≤ z.length) : Ends .emp z a e ↔ e = a := by
  constructor
  · rintro ⟨h1, h2, h3⟩
    have h3 := reads_emp.mp h3
    have := seg_len (z := z) (a := a) h2
    rw [h3] at this
    have : 0 = e - a := this
    omega
  · rintro rfl
    exact ⟨Nat.le_refl _, ha, reads_emp.mpr (seg_self z e)⟩
theorem ends_sign {l : List Nat} : Ends (.sign l) z a e ↔ e = a + 1 ∧ ∃ c, z[a]? = some c ∧ c ∈ l := by
  constructor
  · rintro ⟨h1, h2, h3⟩
    obtain ⟨c, h3, h4⟩ := reads_sign.mp h3
    have hl := seg_len (z := z) (a := a) h2
    rw [h3] at hl
    have hl : 1 = e - a := hl
    have ee : e = a + 1 := by omega
    subst ee
    refine ⟨rfl, c, ?_, h4⟩
    have : (seg z a (a + 1))[0]? = some c := by rw [h3]; rfl
    unfold seg at this
    rw [List.getElem?_take_of_lt (by omega), List.getElem?_drop, Nat.add_zero] at this
    exact this
  · rintro ⟨rfl, c, h1, h2⟩
    obtain ⟨h3, h4⟩ := List.getElem?_eq_some_iff.mp h1
    refine ⟨by omega, h3, reads_sign.mpr ⟨c, ?_, h2⟩⟩
    unfold seg
    rw [show a + 1 - a = 1 by omega, List.drop_eq_getElem_cons h3, h4]
    rfl
theorem ends_thn : Ends (.thn p q) z a e ↔ ∃ m, Ends p z a m ∧ Ends q z m e := by
  constructor
  · rintro ⟨h1, h2, h3⟩
    obtain ⟨u1, u2, h4, h5, h6⟩ := reads_thn.mp h3
    obtain ⟨g1, g2, g3⟩ := seg_split h1 h2 h4
    exact ⟨a + u1.length, ⟨by omega, by omega, by rw [g2]; exact h5⟩, ⟨g1, h2, by rw [g3]; exact h6⟩⟩
  · rintro ⟨m, ⟨h1, h2, h3⟩, ⟨h4, h5, h6⟩⟩
    exact ⟨by omega, h5, reads_thn.mpr ⟨_, _, (seg_append h1 h4).symm, h3, h6⟩⟩
theorem ends_orr : Ends (.orr p q) z a e ↔ Ends p z a e ∨ Ends q z a e :=
  ⟨fun ⟨h1, h2, h3⟩ => h3.imp (fun h => ⟨h1, h2, h⟩) fun h => ⟨h1, h2, h⟩, fun h => h.elim (fun ⟨h1, h2, h3⟩ => ⟨h1, h2, .inl h3⟩) fun ⟨h1, h2, h3⟩ => ⟨h1, h2, .inr h3⟩⟩
theorem ends_mark {m : List Nat} : Ends (.mark m p) z a e ↔ Ends p z a e := Iff.rfl
/-- laps, one behind another -/
inductive Laps (R : Nat → Nat → Prop) : Nat → Nat → Prop where
  | nil {a : Nat} : Laps R a a
  | snoc {a b c : Nat} (h : Laps R a b) (k : R b c) : Laps R a c
theorem Laps.cons {R : Nat → Nat → Prop} {a b c : Nat} (h : R a b) (k : Laps R b c) : Laps R a c := by
  induction k with
  | nil => exact .snoc .nil h
  | snoc _ r ih => exact .snoc ih r
theorem star_app {M : List Nat → Nat → Prop} {u v : List Nat} {n m : Nat} (h : Star M u n) (k : Star M v m) : Star M (u ++ v) (n + m) := by
  induction h with
  | nil => rw [List.nil_append, Nat.zero_add]; exact k
  | @take x n z _ ih => have := ih.take (x := x); rw [List.cons_append, show n + 1 + m = n + m + 1 by omega]; exact this
  | @lap z1 z2 n1 n2 h _ ih => rw [List.append_assoc, Nat.add_assoc]; exact .lap h ih
theorem laps_of : ∀ {u : List Nat} {n : Nat}, Star (Mend p) u n → n = 0 → ∀ {a b : Nat}, a ≤ b → b ≤ z.length → seg z a b = u → Laps (Ends p z) a b := by
  intro u n h
  induction h with
  | nil =>
    intro _ a b h1 h2 h3
    have := seg_len (z := z) (a := a) h2
    rw [h3] at this
    have : 0 = b - a := this
    have e : a = b := by omega
    rw [e]; exact .nil
  | take _ _ => intro e; omega
  | @lap z1 z2 n1 n2 h k ih =>
    intro e a b h1 h2 h3
    obtain ⟨g1, g2, g3⟩ := seg_split h1 h2 h3
    have e1 : n1 = 0 := by omega
    subst e1
    exact Laps.cons ⟨by omega, by omega, by rw [g2]; exact h⟩ (ih (by omega) g1 h2 g3)
theorem of_laps {a b : Nat} (h : Laps (Ends p z) a b) (ha : a ≤ z.length) : a ≤ b ∧ b ≤ z.length ∧ Star (Mend p) (seg z a b) 0 := by
  induction h with
  | nil => exact ⟨Nat.le_refl _, ha, by rw [seg_self]; exact .nil⟩
  | snoc _ k ih =>
    obtain ⟨h1, h2, h3⟩ := ih
    obtain ⟨k1, k2, k3⟩ := k
    refine ⟨by omega, k2, ?_⟩
    rw [← seg_append h1 k1]
    exact star_app h3 (Star.one k3)
theorem ends_many (ha : a ≤ z.length) : Ends (.many p) z a e ↔ Laps (Ends p z) a e :=
  ⟨fun ⟨h1, h2, h3⟩ => laps_of h3 rfl h1 h2 rfl, fun h => of_laps h ha⟩
theorem ends_few (ha : a ≤ z.length) : Ends (.few p) z a e ↔ Laps (Ends p z) a e :=
  ⟨fun ⟨h1, h2, h3⟩ => laps_of h3 rfl h1 h2 rfl, fun h => of_laps h ha⟩
theorem reads_ends {u : List Nat} : Reads p u ↔ Ends p u 0 u.length := by
  unfold Ends seg
  rw [List.drop_zero, Nat.sub_zero, List.take_length]
  exact ⟨fun h => ⟨Nat.zero_le _, Nat.le_refl _, h⟩, fun h => h.2.2⟩
end
end Fr

set_option maxHeartbeats 2000000
/-! Rows of words: the greatest end, the next word, all words. -/
namespace Fr
open PySem PySem.Spec PyProof.Rows L2
section
variable {F : Nat → Nat → Prop} {lot : Nat → List Nat}
theorem run0_nil {s t n : Nat} {u : List Nat} (h : Run F lot s u t n) : u = [] → n = 0 → s = t := by
  intro hu hn
  cases h with
  | nil => rfl
  | put _ _ => omega
  | take _ => cases hu
  | step _ _ => cases hu
theorem run0_cons {s t n x : Nat} {u v : List Nat} (h : Run F lot s v t n) : v = x :: u → n = 0 → ∃ m, F s m ∧ x ∈ lot m ∧ Run F lot m u t 0 := by
  intro hu hn
  cases h with
  | nil => cases hu
  | put _ _ => omega
  | take _ => omega
  | @step _ m _ n' _ _ f k =>
    cases hu
    by_cases hx : x ∈ lot m
    · rw [if_pos hx] at hn
      have : n' = 0 := by omega
      subst this
      exact ⟨m, f, hx, k⟩
    · rw [if_neg hx] at hn; omega
theorem run0_append : ∀ {u v : List Nat} {s t : Nat}, Run F lot s (u ++ v) t 0 ↔ ∃ m, Run F lot s u m 0 ∧ Run F lot m v t 0
  | [], v, s, t => ⟨fun h => ⟨s, .nil, h⟩, fun ⟨m, h, k⟩ => by rw [run0_nil h rfl rfl]; exact k⟩
  | x :: u, v, s, t => by
    constructor
    · intro h
      obtain ⟨m, f, hx, k⟩ := run0_cons h rfl rfl
      obtain ⟨m2, k1, k2⟩ := run0_append.mp k
      exact ⟨m2, Run.free f hx k1, k2⟩
    · rintro ⟨m2, h1, h2⟩
      obtain ⟨m, f, hx, k⟩ := run0_cons h1 rfl rfl
      exact Run.free f hx (run0_append.mpr ⟨m2, k, h2⟩)
theorem run0_snoc {u : List Nat} {c s t : Nat} : Run F lot s (u ++ [c]) t 0 ↔ ∃ m, Run F lot s u m 0 ∧ F m t ∧ c ∈ lot t := by
  rw [run0_append]
  constructor
  · rintro ⟨m, h, k⟩
    obtain ⟨t', f, hx, k'⟩ := run0_cons k rfl rfl
    obtain rfl := run0_nil k' rfl rfl
    exact ⟨m, h, f, hx⟩
  · rintro ⟨m, h, f, hx⟩
    exact ⟨m, h, Run.free f hx .nil⟩
end
theorem seg_snoc {z : List Nat} {a b c : Nat} (h : a ≤ b) (hc : z[b]? = some c) : seg z a (b + 1) = seg z a b ++ [c] := by
  rw [← seg_append h (Nat.le_succ b)]
  congr 1
  obtain ⟨h3, h4⟩ := List.getElem?_eq_some_iff.mp hc
  unfold seg
  rw [show b + 1 - b = 1 by omega, List.drop_eq_getElem_cons h3, h4]
  rfl
/-- the states after a text -/
def States (p : Pat) (u : List Nat) (ss : List Nat) : Prop := ∀ t, t ∈ ss ↔ Run (FolS p) p.lotN 0 u t 0
theorem States.reads {p : Pat} {u ss : List Nat} (h : States p u ss) : Reads p u ↔ ∃ s ∈ ss, EndS p s := by
  rw [Reads.run]
  exact ⟨fun ⟨t, h1, h2⟩ => ⟨t, (h t).mpr h2, h1⟩, fun ⟨t, h1, h2⟩ => ⟨t, h2, (h t).mp h1⟩⟩
theorem States.init {p : Pat} : States p [] [0] := fun t => by
  rw [List.mem_singleton]
  exact ⟨fun h => by rw [h]; exact .nil, fun h => (run0_nil h rfl rfl).symm⟩
theorem States.next {p : Pat} {u ss us : List Nat} {c : Nat} (h : States p u ss) (hu : ∀ t, t ∈ us ↔ ∃ s ∈ ss, FolS p s t ∧ c ∈ p.lotN t) : States p (u ++ [c]) us := fun t => by
  rw [hu t, run0_snoc]
  exact ⟨fun ⟨s, h1, h2⟩ => ⟨s, (h s).mp h1, h2⟩, fun ⟨s, h1, h2⟩ => ⟨s, (h s).mpr h1, h2⟩⟩
theorem States.dead {p : Pat} {u v : List Nat} (h : States p u []) : ¬ Reads p (u ++ v) := fun hr => by
  obtain ⟨t, _, h2⟩ := Reads.run.mp hr
  obtain ⟨m, h3, _⟩ := run0_append.mp h2
  cases (h m).mpr h3
/-- the greatest end behind a place, among those up to b -/
def GrTo (p : Pat) (z : List Nat) (a b : Nat) : Option Nat → Prop
  | none => ∀ e, a < e → e ≤ b → ¬ Ends p z a e
  | some e => a < e ∧ e ≤ b ∧ Ends p z a e ∧ ∀ e', e' ≤ b → Ends p z a e' → e' ≤ e
def Gr (p : Pat) (z : List Nat) (a : Nat) (o : Option Nat) : Prop := GrTo p z a z.length o
theorem Gr.uniq {p : Pat} {z : List Nat} {a : Nat} {o o' : Option Nat} (h : Gr p z a o) (h' : Gr p z a o') : o = o' := by
  cases o with
  | none =>
    cases o' with
    | none => rfl
    | some e => exact absurd h'.2.2.1 (h e h'.1 h'.2.1)
  | some e =>
    cases o' with
    | none => exact absurd h.2.2.1 (h' e h.1 h.2.1)
    | some e' =>
      have h1 := h.2.2.2 e' h'.2.1 h'.2.2.1
      have h2 := h'.2.2.2 e h.2.1 h.2.2.1
      rw [Nat.le_antisymm h1 h2]
open Classical in
noncomputable def gr (p : Pat) (z : List Nat) (a : Nat) : Option Nat := if h : ∃ o, Gr p z a o then Classical.choose h else none
theorem Gr.eq {p : Pat} {z : List Nat} {a : Nat} {o : Option Nat} (h : Gr p z a o) : gr p z a = o := by
  unfold gr
  rw [dif_pos ⟨o, h⟩]
  exact Gr.uniq (Classical.choose_spec (p := fun o => Gr p z a o) ⟨o, h⟩) h
theorem gr_some {p : Pat} {z : List Nat} {a e : Nat} (h : gr p z a = some e) : Gr p z a (some e) := by
  unfold gr at h
  split at h
  · rename_i hx
    have := Classical.choose_spec hx
    rw [h] at this
    exact this
  · cases h
theorem GrTo.start {p : Pat} {z : List Nat} {a : Nat} : GrTo p z a a none := fun e h1 h2 => by omega
theorem GrTo.none_step {p : Pat} {z : List Nat} {a b : Nat} {o : Option Nat} (h : GrTo p z a b o) (hn : ¬ Ends p z a (b + 1)) : GrTo p z a (b + 1) o := by
  cases o with
  | none =>
    intro e h1 h2
    by_cases he : e = b + 1
    · rw [he]; exact hn
    · exact h e h1 (by omega)
  | some e =>
    obtain ⟨h1, h2, h3, h4⟩ := h
    refine ⟨h1, by omega, h3, fun e' h5 h6 => ?_⟩
    by_cases he : e' = b + 1
    · rw [he] at h6; exact absurd h6 hn
    · exact h4 e' (by omega) h6
theorem GrTo.some_step {p : Pat} {z : List Nat} {a b : Nat} (ha : a ≤ b) (hy : Ends p z a (b + 1)) : GrTo p z a (b + 1) (some (b + 1)) := ⟨by omega, Nat.le_refl _, hy, fun _ h _ => h⟩
theorem GrTo.stop {p : Pat} {z : List Nat} {a b : Nat} {o : Option Nat} (h : GrTo p z a b o) (hb : b ≤ z.length) (hn : ∀ e, b < e → ¬ Ends p z a e) : Gr p z a o := by
  unfold Gr
  cases o with
  | none =>
    intro e h1 h2
    by_cases he : e ≤ b
    · exact h e h1 he
    · exact hn e (by omega)
  | some e =>
    obtain ⟨h1, h2, h3, h4⟩ := h
    refine ⟨h1, by omega, h3, fun e' h5 h6 => ?_⟩
    by_cases he : e' ≤ b
    · exact h4 e' he h6
    · exact absurd h6 (hn e' (by omega))
/-! ### the next word -/
abbrev Rl := List (Str × Pat)
def stepN (n : Str) (o : Option Nat) (b : Option (Str × Nat)) : Option (Str × Nat) :=
  match o, b with
  | none, b => b
  | some e, none => some (n, e)
  | some e, some (m, e') => if e' < e then some (n, e) else some (m, e')
noncomputable def nxtT (z : List Nat) (a : Nat) (rs : Rl) : Option (Str × Nat) := rs.foldl (fun b r => stepN r.1 (gr r.2 z a) b) none
theorem nxtT_snoc {z : List Nat} {a : Nat} {rs : Rl} {r : Str × Pat} : nxtT z a (rs ++ [r]) = stepN r.1 (gr r.2 z a) (nxtT z a rs) := by
  unfold nxtT
  rw [List.foldl_append]
  rfl
def NextOk (z : List Nat) (a : Nat) (rs : Rl) (b : Option (Str × Nat)) : Prop := ∀ m e, b = some (m, e) → a < e ∧ ∃ p, (m, p) ∈ rs ∧ Ends p z a e
theorem nxt_ok {z : List Nat} {a : Nat} (rs : Rl) : ∀ (l : Rl) (b : Option (Str × Nat)), (∀ r ∈ l, r ∈ rs) → NextOk z a rs b → NextOk z a rs (l.foldl (fun b r => stepN r.1 (gr r.2 z a) b) b)
  | [], b, _, h => h
  | r :: l, b, hl, h => by
    rw [List.foldl_cons]
    refine nxt_ok rs l _ (fun r' hr' => hl r' (List.mem_cons_of_mem _ hr')) ?_
    intro m e he
    have key : ∀ e', gr r.2 z a = some e' → some (r.1, e') = some (m, e) → a < e ∧ ∃ p, (m, p) ∈ rs ∧ Ends p z a e := fun e' hg h2 => by
      cases h2
      have hg := gr_some hg
      exact ⟨hg.1, r.2, hl r (List.mem_cons_self ..), hg.2.2.1⟩
    cases hg : gr r.2 z a with
    | none => rw [hg] at he; exact h m e he
    | some e' =>
      rw [hg] at he
      cases b with
      | none => exact key e' hg he
      | some me =>
        obtain ⟨m', e2⟩ := me
        simp only [stepN] at he
        split at he
        · exact key e' hg he
        · exact h m e he
theorem nxt_some {z : List Nat} {a : Nat} {rs : Rl} {m : Str} {e : Nat} (h : nxtT z a rs = some (m, e)) : a < e ∧ e ≤ z.length ∧ ∃ p, (m, p) ∈ rs ∧ Ends p z a e := by
  obtain ⟨h1, p, h2, h3⟩ := nxt_ok rs rs none (fun _ h => h) (fun _ _ h => nomatch h) m e h
  exact ⟨h1, h3.2.1, p, h2, h3⟩
/-! ### all words -/
abbrev WR := Nat ⊕ List (Str × Nat × Nat)
noncomputable def wds (rs : Rl) (z : List Nat) : Nat → Nat → List (Str × Nat × Nat) → WR
  | 0, _, f => .inr f
  | n + 1, a, f => if a < z.length then (match nxtT z a rs with
      | none => .inl a
      | some (m, e) => wds rs z n e (f ++ [(m, a, e)])) else .inr f
theorem wds_fuel {rs : Rl} {z : List Nat} : ∀ (n m a : Nat) (f : List (Str × Nat × Nat)), z.length - a ≤ n → z.length - a ≤ m → wds rs z n a f = wds rs z m a f
  | 0, 0, _, _, _, _ => rfl
  | 0, m + 1, a, f, h, _ => by unfold wds; rw [if_neg (by omega)]
  | n + 1, 0, a, f, _, h => by unfold wds; rw [if_neg (by omega)]
  | n + 1, m + 1, a, f, h1, h2 => by
    unfold wds
    split
    · cases hx : nxtT z a rs with
      | none => rfl
      | some me =>
        obtain ⟨m', e⟩ := me
        have := (nxt_some hx).1
        exact wds_fuel n m e _ (by omega) (by omega)
    · rfl
noncomputable def wordsT (rs : Rl) (z : List Nat) : WR := wds rs z z.length 0 []
/-- where the words stand -/
def WAt (rs : Rl) (z : List Nat) (a : Nat) (f : List (Str × Nat × Nat)) : Prop := wds rs z (z.length - a) a f = wordsT rs z
theorem WAt.start {rs : Rl} {z : List Nat} : WAt rs z 0 [] := rfl
theorem WAt.next {rs : Rl} {z : List Nat} {a e : Nat} {f : List (Str × Nat × Nat)} {m : Str} (h : WAt rs z a f) (ha : a < z.length) (hn : nxtT z a rs = some (m, e)) : WAt rs z e (f ++ [(m, a, e)]) := by
  unfold WAt at h ⊢
  rw [← h, show z.length - a = (z.length - a - 1) + 1 by omega]
  conv => rhs; unfold wds
  rw [if_pos ha, hn]
  have := (nxt_some hn).1
  exact wds_fuel _ _ _ _ (Nat.le_refl _) (by omega)
theorem WAt.stuck {rs : Rl} {z : List Nat} {a : Nat} {f : List (Str × Nat × Nat)} (h : WAt rs z a f) (ha : a < z.length) (hn : nxtT z a rs = none) : wordsT rs z = .inl a := by
  unfold WAt at h
  rw [← h, show z.length - a = (z.length - a - 1) + 1 by omega]
  unfold wds
  rw [if_pos ha, hn]
theorem WAt.fin {rs : Rl} {z : List Nat} {a : Nat} {f : List (Str × Nat × Nat)} (h : WAt rs z a f) (ha : z.length ≤ a) : wordsT rs z = .inr f := by
  unfold WAt at h
  rw [← h, show z.length - a = 0 by omega]
  rfl
end Fr

set_option maxHeartbeats 4000000
/-! min of a list of triples (number, number, text). -/
namespace Fr
open PySem PySem.Spec PyProof.Rows L2 PySem.W
abbrev T3 := Nat × Nat × Str
def d3 (r : T3) : PyData := .tuple [.int (r.1 : Nat), .int (r.2.1 : Nat), .str r.2.2]
/-- r comes ahead of q -/
def Lt3 (r q : T3) : Prop := r.1 < q.1 ∨ (r.1 = q.1 ∧ (r.2.1 < q.2.1 ∨ (r.2.1 = q.2.1 ∧ r.2.2.cps.toList < q.2.2.cps.toList)))
instance (r q : T3) : Decidable (Lt3 r q) := inferInstanceAs (Decidable (_ ∨ _))
theorem Lt3.irrefl (r : T3) : ¬ Lt3 r r := fun h => by
  rcases h with h | ⟨_, h | ⟨_, h⟩⟩
  · omega
  · omega
  · exact List.lt_irrefl _ h
theorem Lt3.trans {r q s : T3} (h : Lt3 r q) (k : Lt3 q s) : Lt3 r s := by
  unfold Lt3 at *
  rcases h with h | ⟨h0, h | ⟨h1, h⟩⟩ <;> rcases k with k | ⟨k0, k | ⟨k1, k⟩⟩
  any_goals (left; omega)
  · right; exact ⟨by omega, by left; omega⟩
  · right; exact ⟨by omega, by left; omega⟩
  · right; exact ⟨by omega, by left; omega⟩
  · right; exact ⟨by omega, .inr ⟨by omega, List.lt_trans h k⟩⟩
theorem dataLt_3 (r q : T3) : dataLt (d3 r) (d3 q) = decide (Lt3 r q) := by
  obtain ⟨a, b, z⟩ := r
  obtain ⟨a', b', z'⟩ := q
  unfold dataLt d3
  simp only [keyToks, keyToksAll, List.cons_append, List.nil_append]
  rw [lex_self]
  by_cases ha : a = a'
  · subst ha
    rw [lex_self, lex_self]
    by_cases hb : b = b'
    · subst hb
      rw [lex_self, lex_self]
      by_cases hz : z.cps.toList = z'.cps.toList
      · rw [hz, lex_self, lex_self]
        refine (decide_eq_false fun h => ?_).symm
        rcases h with h | ⟨_, h | ⟨_, h⟩⟩
        · exact absurd h (Nat.lt_irrefl _)
        · exact absurd h (Nat.lt_irrefl _)
        · simp only at h; rw [hz] at h; exact List.lt_irrefl _ h
      · rw [lex_diff (fun e => hz (by injection e))]
        show decide (z.cps.toList < z'.cps.toList) = _
        exact decide_eq_decide.mpr ⟨fun h => .inr ⟨rfl, .inr ⟨rfl, h⟩⟩, fun h => by
          rcases h with h | ⟨_, h | ⟨_, h⟩⟩
          · exact absurd h (Nat.lt_irrefl _)
          · exact absurd h (Nat.lt_irrefl _)
          · exact h⟩
    · rw [lex_diff (fun e => hb (by injection e with e; omega))]
      show decide (((b : Nat) : Int) < (b' : Nat)) = _
      exact decide_eq_decide.mpr ⟨fun h => .inr ⟨rfl, .inl (by show b < b'; omega)⟩, fun h => by
        rcases h with h | ⟨_, h | ⟨h, _⟩⟩
        · exact absurd h (Nat.lt_irrefl _)
        · have h : b < b' := h; omega
        · exact absurd h hb⟩
  · rw [lex_diff (fun e => ha (by injection e with e; omega))]
    show decide (((a : Nat) : Int) < (a' : Nat)) = _
    exact decide_eq_decide.mpr ⟨fun h => .inl (by show a < a'; omega), fun h => by
      rcases h with h | ⟨h, _⟩
      · have h : a < a' := h; omega
      · exact absurd h ha⟩
theorem argBest_min {bt : Nat → Nat → Bool} (h0 : ∀ i, bt i i = false) (ht : ∀ i j k, bt i j = true → bt j k = true → bt i k = true) : ∀ k, argBest bt k ≤ k ∧ ∀ i, i ≤ k → bt i (argBest bt k) = false
  | 0 => ⟨Nat.le_refl _, fun i hi => by rw [show i = 0 by omega]; exact h0 0⟩
  | k + 1 => by
    obtain ⟨h1, h2⟩ := argBest_min h0 ht k
    by_cases hb : bt (k + 1) (argBest bt k) = true
    · have e : argBest bt (k + 1) = k + 1 := if_pos hb
      rw [e]
      refine ⟨Nat.le_refl _, fun i hi => ?_⟩
      by_cases ei : i = k + 1
      · rw [ei]; exact h0 _
      · cases hc : bt i (k + 1) with
        | false => rfl
        | true =>
          have := ht _ _ _ hc hb
          rw [h2 i (by omega)] at this
          cases this
    · have e : argBest bt (k + 1) = argBest bt k := if_neg hb
      rw [e]
      refine ⟨by omega, fun i hi => ?_⟩
      by_cases ei : i = k + 1
      · rw [ei]; simpa using hb
      · exact h2 i (by omega)
section
variable {X : Cx}
def At3 (H : Hp) (b : Addr) (r : T3) : Prop := H b = some (.tup [.int (r.1 : Nat), .int (r.2.1 : Nat), .str r.2.2])
theorem dp3 {K : PySem.W.Frag} {H : Hp} : ∀ {bs : List Addr} {rs : List T3}, Paired (At3 H) bs rs → DpAll K H (bs.map V.ref) (rs.map d3)
  | _, _, .nil => .nil
  | _, _, .cons h t => .cons (.tup (SqT.of h) (.cons (.int _) (.cons (.int _) (.cons (.str _) .nil)))) (dp3 t)
theorem depth3 : ∀ rs : List T3, PyData.depthAll (rs.map d3) ≤ 3
  | [] => by simp [PyData.depthAll]
  | r :: rs => by
    have h1 := depth3 rs
    have h2 : (d3 r).depth ≤ 3 := by simp [d3, PyData.depth, PyData.depthAll]
    simp only [List.map_cons, PyData.depthAll]
    omega
theorem alike3 (r q : T3) : alike (d3 r) (d3 q) = true := by simp [d3, alike, alikeAll]
theorem cr_minT (hc : X.calm = true) (hu : X.A.units + 64 < cLine) : CallR X (.builtin "min") (fun vs H Q => ∃ (l : Addr) (bs : List Addr) (rs : List T3), vs = [V.ref l] ∧ SqL X.K H l (bs.map V.ref) ∧ Paired (At3 H) bs rs ∧ rs ≠ [] ∧
    ∀ (j : Nat) (b : Addr) (r : T3), bs[j]? = some b → rs[j]? = some r → (∀ r' ∈ rs, ¬ Lt3 r' r) → Q (.ref b) H) := by
  intro pins s σ H vs us Q I r h
  obtain ⟨l, bs, rs, rfl, hs, hp, hne, q⟩ := h
  obtain ⟨its, rv, hl, hz⟩ := I.list hs
  rw [Vals.ref1 r]
  obtain ⟨as, hr⟩ := Dp.readsAll I (rs.map d3) _ its (dp3 hp) rv
  have hlen : its.length = rs.length := by rw [← rv.length, List.length_map]; exact Paired.length hp
  have hpos : 0 < rs.length := List.length_pos_iff.mpr hne
  have hA : AlikeAll (rs.map d3) := ⟨fun x hx y hy => by
    obtain ⟨r1, _, rfl⟩ := List.mem_map.mp hx
    obtain ⟨r2, _, rfl⟩ := List.mem_map.mp hy
    exact alike3 r1 r2, fun x hx => by
    obtain ⟨r1, _, rfl⟩ := List.mem_map.mp hx
    exact fun e => by simp [d3] at e⟩
  have hd := depth3 rs
  have hu3 : X.A.in1.units + PyData.depthAll (rs.map d3) < cLine := by
    show X.A.units + 1 + _ < cLine
    omega
  refine call_min_walkH (iter_listW (A := X.A.in1) (vs := its.toArray) (I.ok.hd hc) hl.isList fun s₂ e W st hfp hw hk => ?_)
  refine ⟨_, _, _, _, _, _, _, s.heap, _, rfl, W, st, hfp, by rw [List.size_toArray]; omega, hw, hk, cmpIn_lt (A := X.A.in1) (vs := its.toArray) (xs := rs.map d3) hr hA hu3, fun v s' hP m => ?_⟩
  obtain ⟨h', tk, rfl, hk'⟩ := moved_old e rfl m
  obtain ⟨g1, g2⟩ := argBest_min (bt := fun i j => dataLt ((rs.map d3).getD i .none) ((rs.map d3).getD j .none)) (fun i => lex_irrefl _) (fun i j k => lex_trans _ _ _) (its.toArray.size - 1)
  generalize argBest (fun i j => dataLt ((rs.map d3).getD i .none) ((rs.map d3).getD j .none)) (its.toArray.size - 1) = j at hP g1 g2
  rw [List.size_toArray] at g1 g2
  have hj : j < rs.length := by omega
  have hjb : j < bs.length := by have := Paired.length hp; omega
  obtain ⟨u, hu1, hu2⟩ := paired_get rv (i := j) (a := V.ref bs[j]) (by rw [List.getElem?_map, List.getElem?_eq_getElem hjb]; rfl)
  have hP' : its[j]? = some v := by simpa using hP
  rw [hu1] at hP'
  cases hP'
  refine ⟨.ref bs[j], H, I.kept hk', hu2, q j bs[j] rs[j] (List.getElem?_eq_getElem hjb) (List.getElem?_eq_getElem hj) fun r' hr' h => ?_⟩
  obtain ⟨i, hi⟩ := List.mem_iff_getElem?.mp hr'
  have hi2 := (List.getElem?_eq_some_iff.mp hi).1
  have h3 := g2 i (by omega)
  have e1 : (rs.map d3).getD i .none = d3 r' := by rw [List.getD_eq_getElem?_getD, List.getElem?_map, hi]; rfl
  have e2 : (rs.map d3).getD j .none = d3 rs[j] := by rw [List.getD_eq_getElem?_getD, List.getElem?_map, List.getElem?_eq_getElem hj]; rfl
  simp only [e1, e2, dataLt_3] at h3
  exact of_decide_eq_false h3 h
end
end Fr

set_option maxHeartbeats 4000000
/-! set(list of numbers). -/
namespace Fr
open PySem PySem.Spec PyProof.Rows L2
section
variable {P : Program} {w : World} {A : Around} {E : Value → Shared → Prop} {s : Shared}
theorem call_set_listI {l : Addr} {items : Array Value} (ns : List Int) {Q : Value → Shared → Prop} (hh : A.handled = none) (hl : s.heap.IsList l items) (hit : IntsAre items.toList ns) (hb : ns.length + 1 < scanBound)
    (h : ∀ (h' : Heap) (tk c : Nat), SetR w h' s.heap.objs.size (fun j => decide (j ∈ ns)) c → c ≤ ns.length → (∀ b o, s.heap.get? b = some o → h'.get? b = some o) → Q (.ref s.heap.objs.size) { s with heap := h', toks := tk }) :
    wpAny (model P w) A (call (.type "set") [.ref l]) Q E s := by
  have hisz : items.size = ns.length := by
    have q := IntsAre.length hit
    rw [Array.length_toList] at q
    exact q
  obtain ⟨c, tl, hmro⟩ := F.called_set.mro
  have hmade := F.called_set.made
  have hsub := F.called_set.sub
  refine wpAny_call (codeAny_of_tree ?_)
  show wpAny _ _ (callAny (.type "set") _) _ _ _
  refine wpAny_pure ⟨Code.quiet_builtin _ (by decide +kernel), codeAny_builtin F.entry_type_call ?_⟩
  rw [Around.under_plain (weight_type_call_type "set" [.ref l] []) rfl]
  have h1 := F.called_set.notType
  have h2 := F.called_set.canCreate
  have hct := F.typeCall_set_1 (.ref l)
  repeat (any_goals (first | assumption | wp_step))

  refine codeAny_mono (code_set_led1 (.ref l) (E := E) (Q₁ := fun obj s₁ => obj = .ref s.heap.objs.size ∧ s₁ = { s with heap := s.heap.push { cls := .type "set", dict := none, data := .set #[] 0 (.fresh 0 0 (!w.params.followText "set-order")) } }) ⟨rfl, rfl⟩) fun r s₁ hr => ?_
  cases r with
  | error e => exact hr
  | ok fl =>
    cases fl with
    | ret obj =>
      obtain ⟨rfl, rfl⟩ := hr
      have hS : (s.heap.push { cls := .type "set", dict := none, data := .set #[] 0 (.fresh 0 0 (!w.params.followText "set-order")) }).get? s.heap.objs.size = some { cls := .type "set", dict := none, data := .set #[] 0 (.fresh 0 0 (!w.params.followText "set-order")) } := Heap.get?_push_size _ rfl
      have hT : Shared.TypeIs { s with heap := s.heap.push { cls := .type "set", dict := none, data := .set #[] 0 (.fresh 0 0 (!w.params.followText "set-order")) } } (.ref s.heap.objs.size) "set" := ⟨_, hS, rfl⟩
      have hli := F.called_set.init.lookup
      have hbi := F.called_set.init.bind (.ref s.heap.objs.size)
      repeat (any_goals (first | assumption | wp_step))

      refine codeAny_mono (codeAny_call_builtin (R := wants (fun r s₂ => r = .none ∧ ∃ h' tk c, s₂ = { s with heap := h', toks := tk } ∧ SetR w h' s.heap.objs.size (fun j => decide (j ∈ ns)) c ∧ c ≤ ns.length ∧
          (∀ b o, s.heap.get? b = some o → h'.get? b = some o)) E) F.called_set.init.plain F.entry_set_init (check_set_init_1 hT ?_)) fun r₂ s₂ hr₂ => ?_
      · obtain ⟨ol, hol, hcl, nl, hdl⟩ := hl
        obtain ⟨ocls, odict, odata, oslots⟩ := ol
        simp only at hcl hdl
        subst hcl; subst hdl
        have hol' : (s.heap.push { cls := .type "set", dict := none, data := .set #[] 0 (.fresh 0 0 (!w.params.followText "set-order")) }).get? l = some { cls := .type "list", dict := odict, data := .seq items nl, slots := oslots } := Heap.get?_push_of_some _ hol
        have hsls := F.sub_list_set
        have hslf := F.sub_list_frozenset
        have hne : (Value.type "list" == Value.type "dict") = false := by decide
        have hl1 : (s.heap.push { cls := .type "set", dict := none, data := .set #[] 0 (.fresh 0 0 (!w.params.followText "set-order")) }).IsList l items := ⟨_, hol', rfl, nl, rfl⟩
        unfold Builtin.«set.__init__» noKeywords Builtin.Frozenset.updateFrom
        generalize hPI : pyIter = PI
        wp_walk
        subst hPI

        refine wpAny_pyIter_list hl1 ?_
        refine wpAny_bind (wpAny_runValue ?_)
        have hlS : l < s.heap.objs.size := Heap.lt_size hol
        have hh3 : A.in1.in1.in1.handled = none := by simp [hh]
        have hz1 : (s.heap.push { cls := .type "set", dict := none, data := .set #[] 0 (.fresh 0 0 (!w.params.followText "set-order")) }).objs.size = s.heap.objs.size + 1 := Heap.size_push ..
        have hneI : l ≠ (s.heap.push { cls := .type "set", dict := none, data := .set #[] 0 (.fresh 0 0 (!w.params.followText "set-order")) }).objs.size := by
          rw [Heap.size_push]; exact Nat.ne_of_lt (Nat.lt_succ_of_lt hlS)
        have hSf : s.heap.objs.size ∉ [(s.heap.push { cls := .type "set", dict := none, data := .set #[] 0 (.fresh 0 0 (!w.params.followText "set-order")) }).objs.size, l] := by
          rw [Heap.size_push]; simp only [List.mem_cons, List.mem_singleton, List.not_mem_nil, or_false, not_or]
          exact ⟨Nat.ne_of_lt (Nat.lt_succ_self _), Nat.ne_of_gt hlS⟩
        have hval : ∀ (i : Nat) (v : Value), items[i]? = some v → ∃ k t, ns[i]? = some k ∧ v = .int k t := fun i v hv => by
          have hi : i < ns.length := by rw [← hisz]; exact (Array.getElem?_eq_some_iff.mp hv).1
          obtain ⟨t, e⟩ := PyProof.Rows.IntsAre.int_at hit i v (by rw [Array.getElem?_toList]; exact hv)
          refine ⟨ns[i], t, List.getElem?_eq_getElem hi, ?_⟩
          rw [e, List.getD_eq_getElem?_getD, List.getElem?_eq_getElem hi] <;> rfl
        refine set_update_ints ((Walks.list hh3 _ l hneI items).toS) s.heap.objs.size
          hSf ns hisz hb hval (items.size - 0) 0 _ (by omega) (Nat.zero_le _)
          ⟨⟨_, Heap.get?_push_size _ rfl, rfl, rfl⟩, (hl1.push _)⟩ ?hS0 ?hR
        case hS0 =>
          have hget : ((s.heap.push { cls := .type "set", dict := none, data := .set #[] 0 (.fresh 0 0 (!w.params.followText "set-order")) }).push { cls := .type "list_iterator", data := .fields #[.ref l, .int 0 0] }).get? s.heap.objs.size
              = some { cls := .type "set", dict := none, data := .set #[] 0 (.fresh 0 0 (!w.params.followText "set-order")) } := Heap.get?_push_of_some _ hS
          exact ⟨0, Nat.le_refl 0, setR_new_at hget⟩
        case hR =>
          intro s' c' hm hc' hS'
          obtain ⟨h', g2, d', tk', os'⟩ := s'
          have eg : g2 = s.gens := hm.gens
          have ed : d' = s.drawn := hm.drawn
          have eo : os' = s.os := hm.os
          subst eg; subst ed; subst eo
          show wpAny _ _ _ _ _ _
          refine wpAny_pure ?_
          show wpAny _ _ (ret Value.none) _ _ _
          rw [hisz] at hc'
          refine wpAny_pure ⟨rfl, h', tk', c', rfl, hS', hc', fun b o e => ?_⟩
          have hb0 : b < s.heap.objs.size := Heap.lt_size e
          have hb1 : b ≠ s.heap.objs.size := Nat.ne_of_lt hb0
          have hb2 : b ≠ (s.heap.push { cls := .type "set", dict := none, data := .set #[] 0 (.fresh 0 0 (!w.params.followText "set-order")) }).objs.size := by
            rw [Heap.size_push]; exact Nat.ne_of_lt (Nat.lt_succ_of_lt hb0)
          exact hm.heap b o (by simp only [List.mem_cons, List.mem_singleton, List.not_mem_nil, or_false, not_or]; exact ⟨hb1, hb2⟩) (Heap.get?_push_of_some _ (Heap.get?_push_of_some _ e))

      · cases r₂ with
        | error e => exact hr₂
        | ok fl₂ =>
          cases fl₂ with
          | ret r =>
            obtain ⟨rfl, h', tk, c', rfl, hS', hc', hk'⟩ := hr₂
            repeat (any_goals (first | assumption | wp_step))
            exact h _ _ _ hS' hc' hk'
          | _ => exact hr₂.elim
    | _ => exact hr.elim

end
section
variable {X : Cx}
theorem cr_setOfL (hc : X.calm = true) : CallR X (.type "set") (fun xs H Q => ∃ (l : Addr) (ns : List Int), xs = [V.ref l] ∧ SqL X.K H l (ns.map V.int) ∧ ns.length + 1 < scanBound ∧
    ∀ a n, H a = none → (∃ ks : List Int, ks.Nodup ∧ (∀ k, k ∈ ks ↔ k ∈ ns) ∧ ks.length = n) → Q (.ref a) (upd H a (SetO X.w a (fun j => decide (j ∈ ns)) n))) := by
  intro pins s σ H xs us Q I r h
  obtain ⟨l, ns, rfl, hl, hb, q⟩ := h
  rw [Vals.ref1 r]
  obtain ⟨its, rv, pl, hz⟩ := I.list hl
  refine call_set_listI (P := X.prog) (w := X.w) (items := its.toArray) ns (I.ok.hd hc) pl.isList (by simpa using rv.ints) hb fun h' tk c hS hc' k => ?_
  exact ⟨.ref s.heap.objs.size, upd H s.heap.objs.size (SetO X.w s.heap.objs.size (fun j => decide (j ∈ ns)) c), I.laid (t' := tk) k (Nat.le_refl _) (setO_new hS), rfl, q _ c (I.hok.fresh (Nat.le_refl _)) (by
    obtain ⟨o, es, ep, t, _, _, _, _, hnd, hmem, _, _, hsz, _⟩ := hS
    exact ⟨es.toList.map keyOf, hnd, fun k => by rw [← hmem k]; exact ⟨of_decide_eq_true, decide_eq_true⟩, by rw [List.length_map, Array.length_toList]; exact hsz⟩)⟩
end
end Fr

set_option maxHeartbeats 4000000
namespace Fr
open PySem PySem.Spec PyProof.Rows L2
theorem toNats : ∀ {ns : List Int}, (∀ k ∈ ns, ∃ n : Nat, k = (n : Int)) → ns.Pairwise (· < ·) → ∃ ms : List Nat, ns.map V.int = intsV ms ∧ ms.Pairwise (· < ·) ∧ ∀ m : Nat, m ∈ ms ↔ (m : Int) ∈ ns
  | [], _, _ => ⟨[], rfl, .nil, fun m => ⟨(fun h => nomatch h), (fun h => nomatch h)⟩⟩
  | k :: r, h, hp => by
    obtain ⟨h1, h2⟩ := List.pairwise_cons.mp hp
    obtain ⟨ms, e, pm, hm⟩ := toNats (fun k hk => h k (List.mem_cons_of_mem _ hk)) h2
    obtain ⟨n, rfl⟩ := h k (List.mem_cons_self ..)
    refine ⟨n :: ms, by rw [List.map_cons, e]; rfl, List.pairwise_cons.mpr ⟨fun m hm' => ?_, pm⟩, fun m => ?_⟩
    · have := h1 _ ((hm m).mp hm')
      omega
    · rw [List.mem_cons, List.mem_cons, hm m]
      exact ⟨fun h => h.imp (fun h => by rw [h]) id, fun h => h.imp (fun h => by omega) id⟩
theorem intsV_int (L : List Nat) : intsV L = (L.map fun (n : Nat) => (n : Int)).map V.int := by unfold intsV; rw [List.map_map]; rfl
theorem mem_ints {L : List Nat} {k : Int} : k ∈ L.map (fun (n : Nat) => (n : Int)) ↔ ∃ n ∈ L, k = (n : Int) := by
  rw [List.mem_map]
  exact ⟨fun ⟨n, h, e⟩ => ⟨n, h, e.symm⟩, fun ⟨n, h, e⟩ => ⟨n, h, e.symm⟩⟩
theorem mem_intsN {L : List Nat} {m : Nat} : (m : Int) ∈ L.map (fun (n : Nat) => (n : Int)) ↔ m ∈ L := by
  rw [mem_ints]
  exact ⟨fun ⟨n, h, e⟩ => by rw [show m = n by omega]; exact h, fun h => ⟨m, h, rfl⟩⟩
abbrev rSetL (K : PySem.W.Frag) (w : World) : List V → Hp → VK → Prop := fun xs H Q => ∃ (l : Addr) (ns : List Int), xs = [V.ref l] ∧ SqL K H l (ns.map V.int) ∧ ns.length + 1 < scanBound ∧
    ∀ a n, H a = none → (∃ ks : List Int, ks.Nodup ∧ (∀ k, k ∈ ks ↔ k ∈ ns) ∧ ks.length = n) → Q (.ref a) (upd H a (SetO w a (fun j => decide (j ∈ ns)) n))
theorem set_few {L : List Nat} {n : Nat} (hb : ∀ n ∈ L, n < 60) (hn : ∃ ks : List Int, ks.Nodup ∧ (∀ k, k ∈ ks ↔ k ∈ L.map fun (n : Nat) => (n : Int)) ∧ ks.length = n) : n ≤ 60 := by
  obtain ⟨ks, k1, k2, k3⟩ := hn
  have key : ∀ ks : List Int, ks.Nodup → (∀ k ∈ ks, ∃ n : Nat, n < 60 ∧ k = (n : Int)) → ∃ ms : List Nat, ms.Nodup ∧ (∀ m ∈ ms, m < 60) ∧ ms.length = ks.length ∧ ∀ m ∈ ms, (m : Int) ∈ ks := by
    intro ks
    induction ks with
    | nil => intro _ _; exact ⟨[], List.nodup_nil, (fun _ h => nomatch h), rfl, fun _ h => nomatch h⟩
    | cons k r ih =>
      intro hn hk
      obtain ⟨h1, h2⟩ := List.nodup_cons.mp hn
      obtain ⟨ms, g1, g2, g3, g4⟩ := ih h2 fun k hk' => hk k (List.mem_cons_of_mem _ hk')
      obtain ⟨n, hn60, rfl⟩ := hk k (List.mem_cons_self ..)
      exact ⟨n :: ms, List.nodup_cons.mpr ⟨fun h => h1 (g4 n h), g1⟩, fun m hm => (List.mem_cons.mp hm).elim (fun e => e ▸ hn60) (g2 m), by rw [List.length_cons, g3, List.length_cons], fun m hm => (List.mem_cons.mp hm).elim (fun e => by rw [e]; exact List.mem_cons_self ..) fun h => List.mem_cons_of_mem _ (g4 m h)⟩
  obtain ⟨ms, g1, g2, g3, _⟩ := key ks k1 fun k hk => by
    obtain ⟨n, h1, h2⟩ := mem_ints.mp ((k2 k).mp hk)
    exact ⟨n, hb n h1, h2⟩
  have := nodup_lt_len 60 ms g1 g2
  omega
theorem set_list {L : List Nat} {ns : List Int} (hp : ns.Pairwise (· < ·)) (hm : ∀ k : Int, k ∈ ns ↔ decide (k ∈ L.map fun (n : Nat) => (n : Int)) = true) : ∃ ms : List Nat, ns.map V.int = intsV ms ∧ ms.Pairwise (· < ·) ∧ ∀ m, m ∈ ms ↔ m ∈ L := by
  have hm2 : ∀ k : Int, k ∈ ns ↔ k ∈ L.map fun (n : Nat) => (n : Int) := fun k => (hm k).trans ⟨of_decide_eq_true, decide_eq_true⟩
  obtain ⟨ms, e, pm, hms⟩ := toNats (ns := ns) (fun k hk => let ⟨n, _, h⟩ := mem_ints.mp ((hm2 k).mp hk); ⟨n, h⟩) hp
  exact ⟨ms, e, pm, fun m => (hms m).trans ((hm2 m).trans mem_intsN)⟩
/-- sorted(set(L)) -/
theorem sortedSet_read {K : PySem.W.Frag} {w : World} {H : Hp} {l : Addr} {L : List Nat} {Q : VK} (hl : H l = some (.lst (intsV L))) (hlen : L.length + 1 < scanBound) (hb : ∀ n ∈ L, n < 60)
    (q : ∀ H' p ms, Mod [] H H' → H p = none → H' p = some (.lst (intsV ms)) → ms.Pairwise (· < ·) → (∀ m, m ∈ ms ↔ m ∈ L) → Q (.ref p) H') : rSetL K w [V.ref l] H (fun y H2 => rSortedSet w [y] H2 Q) := by
  refine ⟨l, L.map fun (n : Nat) => (n : Int), rfl, SqL.of (by rw [← intsV_int]; exact hl), by rw [List.length_map]; exact hlen, fun a n ha hn => ?_⟩
  have hn60 := set_few hb hn
  have n1 := Mod.refl (ms := []).new (o := SetO w a (fun j => decide (j ∈ L.map fun (n : Nat) => (n : Int))) n) ha
  refine ⟨a, _, n, rfl, upd_same, by omega, fun ns p hp hm hln hnew => ?_⟩
  obtain ⟨ms, e, pm, hms⟩ := set_list hp hm
  rw [e]
  exact q _ p ms (n1.new hnew) (n1.back hnew) upd_same pm hms
theorem pw_len {ms : List Nat} {n : Nat} (h : ms.Pairwise (· < ·)) (hb : ∀ m ∈ ms, m < n) : ms.length ≤ n := nodup_lt_len n ms (h.imp fun h => Nat.ne_of_lt h) hb
theorem flat_ints (L : List Nat) : (intsV L).all flatV = true := by
  unfold intsV
  rw [List.all_map, List.all_eq_true]
  intro _ _
  rfl
theorem in_ints (m : Nat) (L : List Nat) : inV (.int (m : Nat)) (intsV L) = decide (m ∈ L) := by
  unfold inV intsV
  rw [List.any_map]
  have e : ((fun y => eqV y (V.int (m : Nat))) ∘ fun (n : Nat) => V.int (n : Int)) = fun n => decide (n = m) := by
    funext n
    show eqV (V.int (n : Int)) (V.int (m : Nat)) = _
    have : eqV (V.int (n : Int)) (V.int (m : Nat)) = ((n : Int) == (m : Int)) := by rfl
    rw [this]
    by_cases h : n = m
    · subst h; simp
    · rw [decide_eq_false h]; exact beq_eq_false_iff_ne.mpr (by omega)
  rw [e]
  apply Bool.eq_iff_iff.mpr
  rw [List.any_eq_true, decide_eq_true_eq]
  exact ⟨fun ⟨x, h1, h2⟩ => (of_decide_eq_true h2) ▸ h1, fun h => ⟨m, h, decide_eq_true rfl⟩⟩
section
variable {P : Program} {w : World} {K : PySem.W.Frag} {mg : Str → Option Value} {base : Heap}
def spEnds : Nat → Sp
  | 0 => fun _ _ _ _ => False
  | n + 1 => fun vs H Q _ => ∃ (v : V) (p : Pat) (z : Str) (a : Nat), vs = [v, .str z, .int (a : Nat)] ∧ IsP H v p ∧ p.deep ≤ n + 1 ∧ z.length ≤ 30 ∧ a ≤ z.length ∧
    ∀ H' l ns, Mod [] H H' → H l = none → H' l = some (.lst (intsV ns)) → ns.Pairwise (· < ·) → (∀ e, e ∈ ns ↔ Ends p z.cps.toList a e) → Q (.ref l) H'
theorem has_law_ends (T : Tx w K mg) : ∀ n, Has P w K mg base (1 + n) "_law_ends" ["pattern", "text", "place"] (spEnds n)
  | 0 => by
    exact (T.has (d := d_law_ends) 36 rfl rfl rfl rfl b_law_ends sc_law_ends (fun vs H Q E h => h.elim) fun cdv A outer s H vs Q E hr h => h.elim)
  | n + 1 => by
    have H_law_ends := has_law_ends T n
    refine (T.has (d := d_law_ends) 36 rfl rfl rfl rfl b_law_ends sc_law_ends (fun vs H Q E h => ?_) fun cdv A outer s H vs Q E hr h => ?_)
    · obtain ⟨_, _, _, _, rfl, _⟩ := h; rfl
    obtain ⟨v, p, z, a, rfl, hp, hd, hz, ha, q⟩ := h
    have hr : Room (1 + n) _ := hr
    have ezl : z.cps.toList.length = z.length := Array.length_toList
    have ha' : a ≤ z.cps.toList.length := by omega
    have hn1 : ∀ {p' : Pat}, p'.deep + 1 ≤ p.deep → ∃ m, n = m + 1 ∧ p'.deep ≤ m + 1 := fun {p'} h => by
      have := p'.deep_pos
      exact ⟨n - 1, by omega, by omega⟩
    refine ⟨_, (pss_cons (ps_set (i := 3) sc_law_ends.nd rfl (Or.inl rfl) (pe_ix ix_tup (pv 0) pe_int (fun _ _ => rfl)))
      (pss_cons (ps_if (pt_cmpR op_eq (pv 3) pe_str (nomark _)) (pss_one (ps_ret (pe_lst pa_nil))) pss_nil)
      (pss_cons (ps_if (pt_cmpR op_eq (pv 3) pe_str (nomark _)) (pss_one (ps_ret (pe_lst (pa_cons (pv 2) pa_nil)))) pss_nil)
      (pss_cons (ps_if (pt_cmpR op_eq (pv 3) pe_str (nomark _)) (pss_one (ps_ret (pe_ifExp (PW.pt (pw_and (pt_cmpR op_lt (pv 2) (pe_callB call_len_str (by rfl) (z_len T) (by decide +kernel) (pa_cons (pv 1) pa_nil)) (nomark _)) (pw_and1 (pt_cmpR op_in_sign (pe_ix ix_str (pv 1) (pv 2) (fun _ _ => rfl)) (pe_ix ix_tup (pv 0) pe_int (fun _ _ => rfl)) rfl)))) (pe_lst (pa_cons (pe_op op_add (pv 2) pe_int) pa_nil)) (pe_lst pa_nil)))) pss_nil)
      (pss_cons (ps_if (pt_cmpR op_eq (pv 3) pe_str (nomark _)) (pss_one (ps_ret (pe_callH H_law_ends (hr.mono (by omega)) (by rfl) (g__law_ends T) (pa_cons (pe_ix ix_tup (pv 0) pe_int (fun _ _ => rfl)) (pa_cons (pv 1) (pa_cons (pv 2) pa_nil)))))) pss_nil)
      (pss_cons (ps_asg (pe_tup (pa_cons (pe_lst pa_nil) (pa_cons (pe_lst (pa_cons (pv 2) pa_nil)) pa_nil))) (pg_tup rfl (pgs_cons (pg_name (i := 4) sc_law_ends.nd rfl (Or.inr rfl)) (pgs_cons (pg_name (i := 5) sc_law_ends.nd rfl (Or.inl rfl)) pgs_nil))))
      (pss_cons (ps_if (pt_cmpR op_eq (pv 3) pe_str (nomark _)) (pss_one (ps_ret (pe_callB (cr_sortedSet rfl) (by rfl) (z_sorted T) (by decide +kernel) (pa_cons (pe_callTy (cr_setOfL rfl) (by rfl) (z_set T) (by decide +kernel) (pa_cons (pe_op op_cat (pe_callH H_law_ends (hr.mono (by omega)) (by rfl) (g__law_ends T) (pa_cons (pe_ix ix_tup (pv 0) pe_int (fun _ _ => rfl)) (pa_cons (pv 1) (pa_cons (pv 2) pa_nil)))) (pe_callH H_law_ends (hr.mono (by omega)) (by rfl) (g__law_ends T) (pa_cons (pe_ix ix_tup (pv 0) pe_int (fun _ _ => rfl)) (pa_cons (pv 1) (pa_cons (pv 2) pa_nil))))) pa_nil)) pa_nil)))) pss_nil)
      (pss_cons (ps_if (pt_cmpR op_eq (pv 3) pe_str (nomark _)) (pss_cons (ps_for PassesOwn.never rfl (pi_list (pe_callH H_law_ends (hr.mono (by omega)) (by rfl) (g__law_ends T) (pa_cons (pe_ix ix_tup (pv 0) pe_int (fun _ _ => rfl)) (pa_cons (pv 1) (pa_cons (pv 2) pa_nil))))) (pg_name (i := 6) sc_law_ends.nd rfl (Or.inl rfl)) (pss_one (ps_expr (pe_bm PySem.F.plainAttrs_list PySem.F.slot_list_extend PySem.F.type_list_extend mt_extend (pv 4) (pa_cons (pe_callH H_law_ends (hr.mono (by omega)) (by rfl) (g__law_ends T) (pa_cons (pe_ix ix_tup (pv 0) pe_int (fun _ _ => rfl)) (pa_cons (pv 1) (pa_cons (pv 6) pa_nil)))) pa_nil)))))
      (pss_one (ps_ret (pe_callB (cr_sortedSet rfl) (by rfl) (z_sorted T) (by decide +kernel) (pa_cons (pe_callTy (cr_setOfL rfl) (by rfl) (z_set T) (by decide +kernel) (pa_cons (pv 4) pa_nil)) pa_nil))))) pss_nil)
      (pss_cons (ps_while PassesOwn.never (pt_cmpR (op_neD (hu64 hr)) (pv 5) (pe_lst pa_nil) (nomark _)) (pss_cons (ps_set (i := 4) sc_law_ends.nd rfl (Or.inr rfl) (pe_op op_cat (pv 4) (pv 5)))
      (pss_cons (ps_set (i := 7) sc_law_ends.nd rfl (Or.inl rfl) (pe_lst pa_nil))
      (pss_cons (ps_for PassesOwn.never rfl (pi_list (pv 5)) (pg_name (i := 6) sc_law_ends.nd rfl (Or.inl rfl)) (pss_one (ps_expr (pe_bm PySem.F.plainAttrs_list PySem.F.slot_list_extend PySem.F.type_list_extend mt_extend (pv 7) (pa_cons (pe_callH H_law_ends (hr.mono (by omega)) (by rfl) (g__law_ends T) (pa_cons (pe_ix ix_tup (pv 0) pe_int (fun _ _ => rfl)) (pa_cons (pv 1) (pa_cons (pv 6) pa_nil)))) pa_nil)))))
      (pss_one (ps_setLc (i := 5) (own := [("end", 6)]) (g := (gName 6)) rfl sc_law_ends.nd rfl rfl (sw_true rfl rfl rfl (by decide +kernel)) (pi_list (pe_callB (cr_sortedSet rfl) (by rfl) (z_sorted T) (by decide +kernel) (pa_cons (pe_callTy (cr_setOfL rfl) (by rfl) (z_set T) (by decide +kernel) (pa_cons (pv 7) pa_nil)) pa_nil))) (blkOk_by (own := [("end", 6)]) (N := ["pattern", "text", "place", "word", "found", "fresh", "end", "later"]) (sc := defScope s_law_ends) (by decide +kernel)) (fun _ _ _ _ _ => (pg_name (i := 6) sc_law_ends.nd rfl (Or.inl rfl))) (fun _ _ _ _ _ => (pts_one (pt_cmpR (op_notIn_seqK K) (pv 6) (pv 4) rfl))) (fun _ _ _ _ _ => (pv 6))))))))
      (pss_one (ps_ret (pe_callB cr_sorted (by rfl) (z_sorted T) (by decide +kernel) (pa_cons (pv 4) pa_nil))))))))))))), ?_⟩
    cases p with
    | non =>
      obtain ⟨t, rfl, ht⟩ := hp
      refine ⟨_, rfl, t, _, 0, _, rfl, rfl, SqT.of ht, rfl, ?_⟩
      refine ⟨_, rfl, rfl, _, rfl, iteTe (by decide) ?_⟩
      refine ⟨le_line (by simp), fun l hl => ?_⟩
      exact q _ l [] (Mod.refl.new hl) hl upd_same .nil fun e => ⟨(fun h => nomatch h), fun h => (ends_non h).elim⟩
    | emp =>
      obtain ⟨t, rfl, ht⟩ := hp
      refine ⟨_, rfl, t, _, 0, _, rfl, rfl, SqT.of ht, rfl, ?_⟩
      refine ⟨_, rfl, rfl, _, rfl, iteFe (by decide) ?_⟩
      refine ⟨_, rfl, rfl, _, rfl, iteTe (by decide) ?_⟩
      refine ⟨_, rfl, ln1, fun l hl => ?_⟩
      exact q _ l [a] (Mod.refl.new hl) hl upd_same (by simp) fun e => by rw [List.mem_singleton, ends_emp ha']
    | sign l =>
      obtain ⟨t, rfl, ht⟩ := hp
      refine ⟨_, rfl, t, _, 0, _, rfl, rfl, SqT.of ht, rfl, ?_⟩
      refine ⟨_, rfl, rfl, _, rfl, iteFe (by decide) ?_⟩
      refine ⟨_, rfl, rfl, _, rfl, iteFe (by decide) ?_⟩
      refine ⟨_, rfl, rfl, _, rfl, iteTe (by decide) ?_⟩
      refine ⟨_, rfl, _, rfl, z, rfl, le_line (by omega), _, _, rfl, rfl, _, rfl, ?_⟩
      by_cases hlt : a < z.length
      · refine iteTe (decide_eq_true (by omega)) ?_
        obtain ⟨c, hc⟩ : ∃ c, z.cps.toList[a]? = some c := ⟨_, List.getElem?_eq_getElem (by omega)⟩
        refine ⟨_, rfl, _, rfl, z, _, c, rfl, rfl, le_line (by omega), atI_nat hc, _, rfl, t, _, 1, _, rfl, rfl, SqT.of ht, rfl, c, _, rfl, rfl, _, rfl, ?_⟩
        by_cases hm : c ∈ l
        · refine iteTe (by simpa using hm) ⟨_, rfl, _, _, rfl, rfl, ln1, fun D hD => ?_⟩
          exact q _ D [a + 1] (Mod.refl.new hD) hD upd_same (by simp) fun e => by
            rw [List.mem_singleton, ends_sign]
            exact ⟨fun h => ⟨h, c, hc, hm⟩, fun h => h.1⟩
        · refine iteFe (by simpa using hm) ⟨le_line (by simp), fun D hD => ?_⟩
          exact q _ D [] (Mod.refl.new hD) hD upd_same .nil fun e => ⟨(fun h => nomatch h), fun h => by
            obtain ⟨_, c', h1, h2⟩ := ends_sign.mp h
            rw [hc] at h1; cases h1; exact absurd h2 hm⟩
      · refine iteFe (decide_eq_false (by omega)) ⟨le_line (by simp), fun D hD => ?_⟩
        exact q _ D [] (Mod.refl.new hD) hD upd_same .nil fun e => ⟨(fun h => nomatch h), fun h => by
          obtain ⟨_, c', h1, h2⟩ := ends_sign.mp h
          have := (List.getElem?_eq_some_iff.mp h1).1
          omega⟩
    | thn p1 p2 =>
      obtain ⟨t, v1, v2, rfl, ht, h1, h2⟩ := hp
      refine ⟨_, rfl, t, _, 0, _, rfl, rfl, SqT.of ht, rfl, ?_⟩
      refine ⟨_, rfl, rfl, _, rfl, iteFe (by decide) ?_⟩
      refine ⟨_, rfl, rfl, _, rfl, iteFe (by decide) ?_⟩
      refine ⟨_, rfl, rfl, _, rfl, iteFe (by decide) ?_⟩
      refine ⟨_, rfl, rfl, _, rfl, iteFe (by decide) ?_⟩
      refine ⟨le_line (by simp), fun F hF => ⟨_, rfl, ln1, fun G hG => ⟨ln2, fun tt htt => ⟨tt, _, rfl, SqT.of upd_same, rfl, _, _, rfl, _, _, rfl, rfl, ?_⟩⟩⟩⟩
      have nF := Mod.refl (ms := []).new (o := .lst []) hF
      have nG := Mod.refl (ms := []).new (o := .lst [.int (a : Nat)]) hG
      have nT := Mod.refl (ms := []).new (o := .tup [.ref F, .ref G]) htt
      have m0 := (nF.trans nG).trans nT
      refine ⟨_, rfl, rfl, _, rfl, iteFe (by decide) ?_⟩
      refine ⟨_, rfl, rfl, _, rfl, iteTe (by decide) ?_⟩
      obtain ⟨m, rfl, hd1⟩ := hn1 (p' := p1) (by show p1.deep + 1 ≤ 1 + max p1.deep p2.deep; omega)
      have hd2 : p2.deep ≤ m + 1 := by have : p2.deep + 1 ≤ (Pat.thn p1 p2).deep := by show p2.deep + 1 ≤ 1 + max p1.deep p2.deep; omega
                                       omega
      have ht0 := m0.tup _ _ ht
      have eF0 := nT.keep _ _ (nG.keep _ _ (upd_same (H := H) (a := F) (o := .lst [])) (by simp)) (by simp)
      refine ⟨_, rfl, t, _, 1, _, rfl, rfl, SqT.of ht0, rfl, _, rfl, _, rfl, v1, p1, z, a, rfl, h1.mod m0, hd1, hz, ha, fun H1 l1 ns1 m1 hl1 el1 pw1 hm1 => ⟨l1, rfl, ⟨_, SqL.of el1⟩, ?_⟩⟩
      have k1 : ∀ e ∈ ns1, e < 60 := fun e he => by have := ((hm1 e).mp he).2.1; omega
      have g1 := pw_len pw1 k1
      have m01 := m0.trans m1
      have eF1 := m1.keep _ _ eF0 (by simp)
      have hlF : l1 ≠ F := fun z => by rw [z, eF0] at hl1; cases hl1
      refine for_it (walk_list (xs := intsV ns1)) (fun i σ H2 => ∃ (L : List Nat) (y6 y7 : Option V), σ = [some (.ref t), some (.str z), some (.int (a : Nat)), some (.str "then"), some (.ref F), some (.ref G), y6, y7] ∧ Mod [] H H2 ∧ Mod [F] H1 H2 ∧ H2 F = some (.lst (intsV L)) ∧
          L.length ≤ i * 60 ∧ ∀ e, e ∈ L ↔ ∃ j k, j < i ∧ ns1[j]? = some k ∧ Ends p2 z.cps.toList k e)
        ⟨[], none, none, rfl, m01, Mod.refl, eF1, by simp, fun e => ⟨(fun h => nomatch h), fun ⟨_, _, h, _⟩ => absurd h (Nat.not_lt_zero _)⟩⟩ (fun i σ H2 _ h => by obtain ⟨_, _, _, _, _, m2, _⟩ := h; exact SqL.of (m2.keep _ _ el1 (by simp [hlF]))) ?_ ?_
      · rintro i x σ _ H2 hi ⟨L, y6, y7, rfl, m02, m12, eF2, hLl, hL⟩ ⟨rfl, hx⟩
        have hi' : i < ns1.length := by unfold intsV at hi; rw [List.length_map] at hi; exact hi
        obtain rfl : x = .int ((ns1[i] : Nat) : Int) := by unfold intsV at hx; rw [List.getElem?_map, List.getElem?_eq_getElem hi'] at hx; injection hx with hx; exact hx.symm
        have hki := (hm1 ns1[i]).mp (List.getElem_mem hi')
        refine ⟨_, rfl, .inl ⟨rfl, _, SqL.of eF2⟩, _, rfl, t, _, 2, _, rfl, rfl, SqT.of (m02.tup _ _ ht), rfl, _, rfl, _, rfl, v2, p2, z, ns1[i], rfl, h2.mod m02, hd2, hz, by have := hki.2.1; omega, fun H3 l3 ns3 m3 hl3 el3 pw3 hm3 => ?_⟩
        have k3 : ∀ e ∈ ns3, e < 60 := fun e he => by have := ((hm3 e).mp he).2.1; omega
        have g3 := pw_len pw3 k3
        have eF3 := m3.keep _ _ eF2 (by simp)
        refine ⟨F, l3, intsV L, intsV ns3, rfl, rfl, eF3, el3, le_line (by unfold intsV; rw [List.length_map, List.length_map]; omega), L ++ ns3, _, _, rfl, (m02.trans m3).putNew eF3 hF, (m12.trans m3.nil).put eF3 (fun _ z => nomatch z) (List.mem_singleton.mpr rfl), by rw [upd_same]; unfold intsV; rw [List.map_append], by rw [List.length_append, Nat.add_mul]; omega, fun e => ?_⟩
        rw [List.mem_append, hL e, hm3 e]
        constructor
        · rintro (⟨j, k, h1, h2, h3⟩ | h)
          · exact ⟨j, k, by omega, h2, h3⟩
          · exact ⟨i, ns1[i], by omega, List.getElem?_eq_getElem hi', h⟩
        · rintro ⟨j, k, h1, h2, h3⟩
          by_cases e : j = i
          · subst e
            rw [List.getElem?_eq_getElem hi'] at h2
            cases h2
            exact .inr h3
          · exact .inl ⟨j, k, by omega, h2, h3⟩
      · rintro σ H2 ⟨L, y6, y7, rfl, m02, m12, eF2, hLl, hL⟩
        have hLl2 : L.length ≤ 60 * 60 := Nat.le_trans hLl (Nat.mul_le_mul_right _ (by unfold intsV; rw [List.length_map]; exact g1))
        refine ⟨_, rfl, sortedSet_read (L := L) eF2 (by show _ < 4096; omega) (fun e he => ?_) fun H3 P3 ms m3 hP eP pw hm => ?_⟩
        · obtain ⟨_, _, _, _, h⟩ := (hL e).mp he
          have := h.2.1
          omega
        · refine q H3 P3 ms (m02.trans m3) (m02.back hP) eP pw fun e => ?_
          rw [hm e, hL e, ends_thn]
          constructor
          · rintro ⟨j, k, _, h2, h3⟩
            exact ⟨k, (hm1 k).mp (List.mem_of_getElem? h2), h3⟩
          · rintro ⟨k, h2, h3⟩
            obtain ⟨j, hj⟩ := List.mem_iff_getElem?.mp ((hm1 k).mpr h2)
            exact ⟨j, k, by unfold intsV; rw [List.length_map]; exact (List.getElem?_eq_some_iff.mp hj).1, hj, h3⟩
    | orr p1 p2 =>
      obtain ⟨t, v1, v2, rfl, ht, h1, h2⟩ := hp
      refine ⟨_, rfl, t, _, 0, _, rfl, rfl, SqT.of ht, rfl, ?_⟩
      refine ⟨_, rfl, rfl, _, rfl, iteFe (by decide) ?_⟩
      refine ⟨_, rfl, rfl, _, rfl, iteFe (by decide) ?_⟩
      refine ⟨_, rfl, rfl, _, rfl, iteFe (by decide) ?_⟩
      refine ⟨_, rfl, rfl, _, rfl, iteFe (by decide) ?_⟩
      refine ⟨le_line (by simp), fun F hF => ⟨_, rfl, ln1, fun G hG => ⟨ln2, fun tt htt => ⟨tt, _, rfl, SqT.of upd_same, rfl, _, _, rfl, _, _, rfl, rfl, ?_⟩⟩⟩⟩
      have nF := Mod.refl (ms := []).new (o := .lst []) hF
      have nG := Mod.refl (ms := []).new (o := .lst [.int (a : Nat)]) hG
      have nT := Mod.refl (ms := []).new (o := .tup [.ref F, .ref G]) htt
      have m0 := (nF.trans nG).trans nT
      refine ⟨_, rfl, rfl, _, rfl, iteTe (by decide) ?_⟩
      obtain ⟨m, rfl, hd1⟩ := hn1 (p' := p1) (by show p1.deep + 1 ≤ 1 + max p1.deep p2.deep; omega)
      have hd2 : p2.deep ≤ m + 1 := by have : p2.deep + 1 ≤ (Pat.orr p1 p2).deep := by show p2.deep + 1 ≤ 1 + max p1.deep p2.deep; omega
                                       omega
      have ht0 := m0.tup _ _ ht
      refine ⟨_, rfl, t, _, 1, _, rfl, rfl, SqT.of ht0, rfl, _, rfl, _, rfl, v1, p1, z, a, rfl, h1.mod m0, hd1, hz, ha, fun H1 l1 ns1 m1 hl1 el1 pw1 hm1 => ?_⟩
      refine ⟨_, rfl, t, _, 2, _, rfl, rfl, SqT.of (m1.tup _ _ ht0), rfl, _, rfl, _, rfl, v2, p2, z, a, rfl, (h2.mod m0).mod m1, hd2, hz, ha, fun H2 l2 ns2 m2 hl2 el2 pw2 hm2 => ?_⟩
      have k1 : ∀ e ∈ ns1, e < 60 := fun e he => by have := ((hm1 e).mp he).2.1; omega
      have k2 : ∀ e ∈ ns2, e < 60 := fun e he => by have := ((hm2 e).mp he).2.1; omega
      have g1 := pw_len pw1 k1
      have g2 := pw_len pw2 k2
      have el12 := m2.keep _ _ el1 (by simp)
      refine ⟨l1, l2, intsV ns1, intsV ns2, rfl, rfl, el12, el2, le_line (by unfold intsV; rw [List.length_map, List.length_map]; omega), fun D hD => ?_⟩
      have nD := Mod.refl (ms := []).new (o := .lst (intsV ns1 ++ intsV ns2)) hD
      have m02 := ((m0.trans m1).trans m2).trans nD
      refine sortedSet_read (L := ns1 ++ ns2) (by rw [upd_same]; unfold intsV; rw [List.map_append]) (by rw [List.length_append]; show _ < 4096; omega) (fun e he => (List.mem_append.mp he).elim (k1 e) (k2 e)) fun H3 P3 ms m3 hP eP pw hm => ?_
      exact q H3 P3 ms (m02.trans m3) (m02.back hP) eP pw fun e => by rw [hm e, List.mem_append, hm1, hm2, ends_orr]
    | many p =>
      obtain ⟨t, v1, rfl, ht, h1⟩ := hp
      refine ⟨_, rfl, t, _, 0, _, rfl, rfl, SqT.of ht, rfl, ?_⟩
      refine ⟨_, rfl, rfl, _, rfl, iteFe (by decide) ?_⟩
      refine ⟨_, rfl, rfl, _, rfl, iteFe (by decide) ?_⟩
      refine ⟨_, rfl, rfl, _, rfl, iteFe (by decide) ?_⟩
      refine ⟨_, rfl, rfl, _, rfl, iteFe (by decide) ?_⟩
      refine ⟨le_line (by simp), fun F hF => ⟨_, rfl, ln1, fun G hG => ⟨ln2, fun tt htt => ⟨tt, _, rfl, SqT.of upd_same, rfl, _, _, rfl, _, _, rfl, rfl, ?_⟩⟩⟩⟩
      have nF := Mod.refl (ms := []).new (o := .lst []) hF
      have nG := Mod.refl (ms := []).new (o := .lst [.int (a : Nat)]) hG
      have nT := Mod.refl (ms := []).new (o := .tup [.ref F, .ref G]) htt
      have m0 := (nF.trans nG).trans nT
      refine ⟨_, rfl, rfl, _, rfl, iteFe (by decide) ?_⟩
      refine ⟨_, rfl, rfl, _, rfl, iteFe (by decide) ?_⟩
      obtain ⟨m, rfl, hd1⟩ := hn1 (p' := p) (by show p.deep + 1 ≤ 1 + p.deep; omega)
      have eF0 := nT.keep _ _ (nG.keep _ _ (upd_same (H := H) (a := F) (o := .lst [])) (by simp)) (by simp)
      have eG0 := nT.keep _ _ (upd_same (a := G) (o := .lst [.int (a : Nat)])) (by simp)
      have hend : ∀ {x : Nat}, Laps (Ends p z.cps.toList) a x → x ≤ z.length := fun {x} h => by have := (of_laps h ha').2.1; omega
      refine ⟨fun mm σ H1 => ∃ (Ff Gg : List Nat) (F' G' : Addr) (y6 y7 : Option V), σ = [some (.ref t), some (.str z), some (.int (a : Nat)), some (.str "many"), some (.ref F'), some (.ref G'), y6, y7] ∧ Mod [] H H1 ∧ H1 F' = some (.lst (intsV Ff)) ∧ H1 G' = some (.lst (intsV Gg)) ∧ (Ff ++ Gg).Nodup ∧
          (∀ x ∈ Ff ++ Gg, Laps (Ends p z.cps.toList) a x) ∧ a ∈ Ff ++ Gg ∧ (∀ x ∈ Ff, ∀ y, Ends p z.cps.toList x y → y ∈ Ff ++ Gg) ∧ mm = z.length + 2 - Ff.length,
        ⟨_, [], [a], F, G, none, none, rfl, m0, eF0, eG0, by simp, (fun x hx => by rw [List.nil_append, List.mem_singleton] at hx; rw [hx]; exact .nil), by simp, (fun x hx => nomatch hx), rfl⟩, ?_⟩
      rintro mm σ H1 ⟨Ff, Gg, F', G', y6, y7, rfl, m1, eF, eG, hnd, hlap, hain, hcl, rfl⟩
      have hall60 : ∀ x ∈ Ff ++ Gg, x < z.length + 1 := fun x hx => by have := hend (hlap x hx); omega
      have hlen := nodup_lt_len (z.length + 1) (Ff ++ Gg) hnd hall60
      rw [List.length_append] at hlen
      have hndF : Ff.Nodup := (List.nodup_append.mp hnd).1
      refine ⟨_, rfl, le_line (by simp), fun E hE => ?_⟩
      have nE := Mod.refl (ms := []).new (o := .lst []) hE
      have eF1 := nE.keep _ _ eF (by simp)
      have eG1 := nE.keep _ _ eG (by simp)
      have m1E := m1.trans nE
      refine ⟨.list (Gg.map fun (n : Nat) => PyData.int (n : Int)), .list [], .lst (SqL.of eG1) (ints_dp Gg), .lst (SqL.of upd_same) .nil, ints_shaped Gg, ints_shaped [], _, rfl, ?_⟩
      cases Gg with
      | nil =>
        refine iteFe (by simp [PyData.eqv, PyData.eqvAll]) ?_
        refine ⟨_, rfl, F', Ff.map fun (n : Nat) => (n : Int), rfl, SqL.of (by rw [← intsV_int]; exact eF1), by rw [List.length_map]; simp at hlen; omega, fun ns P3 hperm hpw hP => ?_⟩
        have hnd2 : ns.Nodup := hperm.nodup_iff.mpr (by
          rw [List.nodup_iff_pairwise_ne, List.pairwise_map]
          exact hndF.imp fun h e => h (by omega))
        have hlt : ns.Pairwise (· < ·) := (hpw.and hnd2).imp fun ⟨h1, h2⟩ => by omega
        obtain ⟨ms, e, pm, hms⟩ := toNats (ns := ns) (fun k hk => by
          obtain ⟨n, _, h⟩ := mem_ints.mp (hperm.mem_iff.mp hk)
          exact ⟨n, h⟩) hlt
        rw [e]
        refine q _ P3 ms (m1E.new hP) (m1E.back hP) upd_same pm fun x => ?_
        rw [hms x, hperm.mem_iff, mem_intsN, ends_many ha']
        constructor
        · exact fun h => hlap x (List.mem_append_left _ h)
        · intro h
          have key : ∀ {b : Nat}, Laps (Ends p z.cps.toList) a b → b ∈ Ff := by
            intro b h
            induction h with
            | nil => simpa using hain
            | snoc _ k ih => have := hcl _ ih _ k; simpa using this
          exact key h
      | cons g0 gr =>
        refine iteTe (by simp [PyData.eqv, PyData.eqvAll]) ⟨fun σ' H' => ∃ m', m' < _ ∧ _, fun _ _ h => h, ?_⟩
        generalize hGg : g0 :: gr = Gg at *
        have hGne : 1 ≤ Gg.length := by rw [← hGg]; simp
        refine ⟨_, rfl, _, rfl, F', G', _, _, rfl, rfl, eF1, eG1, le_line (by unfold intsV; rw [List.length_map, List.length_map]; omega), fun F2 hF2 => ⟨le_line (by simp), fun L0 hL0 => ?_⟩⟩
        have n2 := Mod.refl (ms := []).new (o := .lst (intsV Ff ++ intsV Gg)) hF2
        have n3 := Mod.refl (ms := []).new (o := .lst []) hL0
        have m3 := (m1E.trans n2).trans n3
        have eF2 : upd (upd (upd H1 E (.lst [])) F2 (.lst (intsV Ff ++ intsV Gg))) L0 (.lst []) F2 = some (.lst (intsV (Ff ++ Gg))) := by
          have := n3.keep _ _ (upd_same (H := upd H1 E (.lst [])) (a := F2) (o := .lst (intsV Ff ++ intsV Gg))) (by simp)
          rw [this]; unfold intsV; rw [List.map_append]
        have eG3 := n3.keep _ _ (n2.keep _ _ eG1 (by simp)) (by simp)
        have hL0H : H L0 = none := (m1E.trans n2).back hL0
        have hne1 : F2 ≠ L0 := ne_of_none (upd_same (H := upd H1 E (.lst [])) (a := F2) (o := .lst (intsV Ff ++ intsV Gg))) hL0
        have hne2 : G' ≠ L0 := ne_of_none (n2.keep _ _ eG1 (by simp)) hL0
        refine ⟨_, rfl, G', rfl, ⟨_, SqL.of eG3⟩, ?_⟩
        refine for_it (walk_list (xs := intsV Gg)) (fun i σ H4 => ∃ (L : List Nat) (y6 : Option V), σ = [some (.ref t), some (.str z), some (.int (a : Nat)), some (.str "many"), some (.ref F2), some (.ref G'), y6, some (.ref L0)] ∧ Mod [] H H4 ∧ Mod [L0] (upd (upd (upd H1 E (.lst [])) F2 (.lst (intsV Ff ++ intsV Gg))) L0 (.lst [])) H4 ∧ H4 L0 = some (.lst (intsV L)) ∧
            L.length ≤ i * 60 ∧ ∀ e, e ∈ L ↔ ∃ j k, j < i ∧ Gg[j]? = some k ∧ Ends p z.cps.toList k e)
          ⟨[], y6, rfl, m3, Mod.refl, upd_same, by simp, fun e => ⟨(fun h => nomatch h), fun ⟨_, _, h, _⟩ => absurd h (Nat.not_lt_zero _)⟩⟩ (fun i σ H4 _ h => by obtain ⟨_, _, _, _, m4, _⟩ := h; exact SqL.of (m4.keep _ _ eG3 (by simp [hne2]))) ?_ ?_
        · rintro i x σ _ H4 hi ⟨L, y6, rfl, m04, m34, eL4, hLl, hL⟩ ⟨rfl, hx⟩
          have hi' : i < Gg.length := by unfold intsV at hi; rw [List.length_map] at hi; exact hi
          obtain rfl : x = .int ((Gg[i] : Nat) : Int) := by unfold intsV at hx; rw [List.getElem?_map, List.getElem?_eq_getElem hi'] at hx; injection hx with hx; exact hx.symm
          have hki := hend (hlap Gg[i] (List.mem_append_right _ (List.getElem_mem hi')))
          refine ⟨_, rfl, .inl ⟨rfl, _, SqL.of eL4⟩, _, rfl, t, _, 1, _, rfl, rfl, SqT.of (m04.tup _ _ ht), rfl, _, rfl, _, rfl, v1, p, z, Gg[i], rfl, h1.mod m04, hd1, hz, hki, fun H5 l5 ns5 m5 hl5 el5 pw5 hm5 => ?_⟩
          have k5 : ∀ e ∈ ns5, e < 60 := fun e he => by have := ((hm5 e).mp he).2.1; omega
          have g5 := pw_len pw5 k5
          have eL5 := m5.keep _ _ eL4 (by simp)
          refine ⟨L0, l5, intsV L, intsV ns5, rfl, rfl, eL5, el5, le_line (by unfold intsV; rw [List.length_map, List.length_map]; omega), L ++ ns5, _, rfl, (m04.trans m5).putNew eL5 hL0H, (m34.trans m5.nil).put eL5 (fun _ z => nomatch z) (List.mem_singleton.mpr rfl), by rw [upd_same]; unfold intsV; rw [List.map_append], by rw [List.length_append, Nat.add_mul]; omega, fun e => ?_⟩
          rw [List.mem_append, hL e, hm5 e]
          constructor
          · rintro (⟨j, k, h1, h2, h3⟩ | h)
            · exact ⟨j, k, by omega, h2, h3⟩
            · exact ⟨i, Gg[i], by omega, List.getElem?_eq_getElem hi', h⟩
          · rintro ⟨j, k, h1, h2, h3⟩
            by_cases e : j = i
            · subst e
              rw [List.getElem?_eq_getElem hi'] at h2
              cases h2
              exact .inr h3
            · exact .inl ⟨j, k, by omega, h2, h3⟩
        · rintro σ H4 ⟨L, y6, rfl, m04, m34, eL4, hLl, hL⟩
          have hLl2 : L.length ≤ 60 * 60 := Nat.le_trans hLl (Nat.mul_le_mul_right _ (by unfold intsV; rw [List.length_map]; omega))
          have eF4 := m34.keep _ _ eF2 (by simp [hne1])
          have hL2 : ∀ e, e ∈ L ↔ ∃ k ∈ Gg, Ends p z.cps.toList k e := fun e => by
            rw [hL e]
            constructor
            · rintro ⟨j, k, _, h2, h3⟩; exact ⟨k, List.mem_of_getElem? h2, h3⟩
            · rintro ⟨k, h2, h3⟩
              obtain ⟨j, hj⟩ := List.mem_iff_getElem?.mp h2
              exact ⟨j, k, by unfold intsV; rw [List.length_map]; exact (List.getElem?_eq_some_iff.mp hj).1, hj, h3⟩
          have hLb : ∀ e ∈ L, e < 60 := fun e he => by
            obtain ⟨_, _, _, _, h⟩ := (hL e).mp he
            have := h.2.1
            omega
          refine ⟨_, rfl, L0, L.map fun (n : Nat) => (n : Int), rfl, SqL.of (by rw [← intsV_int]; exact eL4), by rw [List.length_map]; show _ < 4096; omega, fun aS nS haS hnS => ?_⟩
          have hn60 := set_few hLb hnS
          refine ⟨aS, _, nS, rfl, upd_same, by omega, fun nsS P5 hpS hmS hlnS hP5 => ?_⟩
          obtain ⟨ms, eS, pw5, hm5⟩ := set_list hpS hmS
          rw [eS]
          have mS := Mod.refl (ms := []).new (o := SetO w aS (fun j => decide (j ∈ L.map fun (n : Nat) => (n : Int))) nS) haS
          have m5 := mS.new (o := .lst (intsV ms)) hP5
          have eP5 : upd (upd H4 aS (SetO w aS (fun j => decide (j ∈ L.map fun (n : Nat) => (n : Int))) nS)) P5 (.lst (intsV ms)) P5 = some (.lst (intsV ms)) := upd_same
          have k5 : ∀ e ∈ ms, e < 60 := fun e he => hLb e ((hm5 e).mp he)
          have g5 := pw_len pw5 k5
          have m05 := m04.trans m5
          have eF5 := m5.keep _ _ eF4 (by simp)
          refine ⟨P5, rfl, ⟨_, SqL.of eP5⟩, ?_⟩
          refine lc_rel (walk_list (xs := intsV ms)) [] (fun i => !decide (ms.getD i 0 ∈ Ff ++ Gg)) (fun i y _ => y = .int ((ms.getD i 0 : Nat) : Int)) (lt_line (by unfold intsV; rw [List.length_map]; omega)) (fun _ _ _ _ _ _ h => h) (fun H6 m6 => SqL.of (m6.keep _ _ eP5 (by simp))) ?_ (fun _ _ h => nomatch h) fun D H6 zs hD m6 e6 r6 => ?_
          · rintro i x H6 _ R S hi m6 ⟨rfl, hx⟩ k1 k2
            have hi' : i < ms.length := by unfold intsV at hi; rw [List.length_map] at hi; exact hi
            obtain rfl : x = .int ((ms[i] : Nat) : Int) := by unfold intsV at hx; rw [List.getElem?_map, List.getElem?_eq_getElem hi'] at hx; injection hx with hx; exact hx.symm
            have eg : ms.getD i 0 = ms[i] := by rw [List.getD_eq_getElem?_getD, List.getElem?_eq_getElem hi']; rfl
            rw [eg] at k1 k2
            refine ⟨rfl, _, rfl, _, rfl, F2, _, rfl, .inl (SqL.of (m6.keep _ _ eF5 (by simp))), rfl, flat_ints _, _, rfl, ?_⟩
            rw [in_ints]
            cases hdec : decide (ms[i] ∈ Ff ++ Gg) with
            | true => exact iteFe (by rfl) (k2 _ Mod.refl (by rw [hdec]; rfl))
            | false => exact iteTe (by rfl) ⟨_, rfl, k1 _ _ Mod.refl (by rw [hdec]; rfl) rfl⟩
          · have ezs := pd_map r6
            have hil : (intsV ms).length = ms.length := by unfold intsV; rw [List.length_map]
            rw [hil] at ezs
            have hzs : zs = intsV (ms.filter fun n => !decide (n ∈ Ff ++ Gg)) := by
              rw [ezs]
              have e2 : ms.filter (fun n => !decide (n ∈ Ff ++ Gg)) = ((List.range ms.length).filter fun i => !decide (ms.getD i 0 ∈ Ff ++ Gg)).map fun i => ms.getD i 0 := by
                have e3 : ms = (List.range ms.length).map fun i => ms.getD i 0 := by
                  apply List.ext_getElem?
                  intro i
                  rw [List.getElem?_map]
                  by_cases h : i < ms.length
                  · rw [List.getElem?_range h, List.getElem?_eq_getElem h]
                    show some ms[i] = some (ms.getD i 0)
                    rw [List.getD_eq_getElem?_getD, List.getElem?_eq_getElem h]; rfl
                  · rw [List.getElem?_eq_none (by omega), List.getElem?_eq_none (by rw [List.length_range]; omega)]; rfl
                conv => lhs; rw [e3]
                rw [List.filter_map]
                rfl
              rw [e2]
              unfold intsV
              rw [List.map_map]
              rfl
            rw [hzs] at e6
            have hms2 : ∀ e, e ∈ ms.filter (fun n => !decide (n ∈ Ff ++ Gg)) ↔ (∃ k ∈ Gg, Ends p z.cps.toList k e) ∧ e ∉ Ff ++ Gg := fun e => by
              rw [List.mem_filter, hm5 e, hL2 e]
              simp
            refine ⟨_, ?_, Ff ++ Gg, _, F2, D, _, _, rfl, m05.trans m6, m6.keep _ _ eF5 (by simp), e6, ?_, fun x hx => ?_, List.mem_append_left _ hain, fun x hx y hy => ?_, rfl⟩
            · rw [List.length_append]; omega
            · refine List.nodup_append.mpr ⟨hnd, (pw5.imp fun h => Nat.ne_of_lt h).filter _, fun x hx y hy e => ?_⟩
              subst e
              exact ((hms2 x).mp hy).2 hx
            · rcases List.mem_append.mp hx with hx | hx
              · exact hlap x hx
              · obtain ⟨⟨k, h2, h3⟩, _⟩ := (hms2 x).mp hx
                exact .snoc (hlap k (List.mem_append_right _ h2)) h3
            · by_cases hyin : y ∈ Ff ++ Gg
              · exact List.mem_append_left _ hyin
              · rcases List.mem_append.mp hx with hx | hx
                · exact absurd (hcl x hx y hy) hyin
                · exact List.mem_append_right _ ((hms2 y).mpr ⟨⟨x, hx, hy⟩, hyin⟩)
    | few p =>
      obtain ⟨t, v1, rfl, ht, h1⟩ := hp
      refine ⟨_, rfl, t, _, 0, _, rfl, rfl, SqT.of ht, rfl, ?_⟩
      refine ⟨_, rfl, rfl, _, rfl, iteFe (by decide) ?_⟩
      refine ⟨_, rfl, rfl, _, rfl, iteFe (by decide) ?_⟩
      refine ⟨_, rfl, rfl, _, rfl, iteFe (by decide) ?_⟩
      refine ⟨_, rfl, rfl, _, rfl, iteFe (by decide) ?_⟩
      refine ⟨le_line (by simp), fun F hF => ⟨_, rfl, ln1, fun G hG => ⟨ln2, fun tt htt => ⟨tt, _, rfl, SqT.of upd_same, rfl, _, _, rfl, _, _, rfl, rfl, ?_⟩⟩⟩⟩
      have nF := Mod.refl (ms := []).new (o := .lst []) hF
      have nG := Mod.refl (ms := []).new (o := .lst [.int (a : Nat)]) hG
      have nT := Mod.refl (ms := []).new (o := .tup [.ref F, .ref G]) htt
      have m0 := (nF.trans nG).trans nT
      refine ⟨_, rfl, rfl, _, rfl, iteFe (by decide) ?_⟩
      refine ⟨_, rfl, rfl, _, rfl, iteFe (by decide) ?_⟩
      obtain ⟨m, rfl, hd1⟩ := hn1 (p' := p) (by show p.deep + 1 ≤ 1 + p.deep; omega)
      have eF0 := nT.keep _ _ (nG.keep _ _ (upd_same (H := H) (a := F) (o := .lst [])) (by simp)) (by simp)
      have eG0 := nT.keep _ _ (upd_same (a := G) (o := .lst [.int (a : Nat)])) (by simp)
      have hend : ∀ {x : Nat}, Laps (Ends p z.cps.toList) a x → x ≤ z.length := fun {x} h => by have := (of_laps h ha').2.1; omega
      refine ⟨fun mm σ H1 => ∃ (Ff Gg : List Nat) (F' G' : Addr) (y6 y7 : Option V), σ = [some (.ref t), some (.str z), some (.int (a : Nat)), some (.str "few"), some (.ref F'), some (.ref G'), y6, y7] ∧ Mod [] H H1 ∧ H1 F' = some (.lst (intsV Ff)) ∧ H1 G' = some (.lst (intsV Gg)) ∧ (Ff ++ Gg).Nodup ∧
          (∀ x ∈ Ff ++ Gg, Laps (Ends p z.cps.toList) a x) ∧ a ∈ Ff ++ Gg ∧ (∀ x ∈ Ff, ∀ y, Ends p z.cps.toList x y → y ∈ Ff ++ Gg) ∧ mm = z.length + 2 - Ff.length,
        ⟨_, [], [a], F, G, none, none, rfl, m0, eF0, eG0, by simp, (fun x hx => by rw [List.nil_append, List.mem_singleton] at hx; rw [hx]; exact .nil), by simp, (fun x hx => nomatch hx), rfl⟩, ?_⟩
      rintro mm σ H1 ⟨Ff, Gg, F', G', y6, y7, rfl, m1, eF, eG, hnd, hlap, hain, hcl, rfl⟩
      have hall60 : ∀ x ∈ Ff ++ Gg, x < z.length + 1 := fun x hx => by have := hend (hlap x hx); omega
      have hlen := nodup_lt_len (z.length + 1) (Ff ++ Gg) hnd hall60
      rw [List.length_append] at hlen
      have hndF : Ff.Nodup := (List.nodup_append.mp hnd).1
      refine ⟨_, rfl, le_line (by simp), fun E hE => ?_⟩
      have nE := Mod.refl (ms := []).new (o := .lst []) hE
      have eF1 := nE.keep _ _ eF (by simp)
      have eG1 := nE.keep _ _ eG (by simp)
      have m1E := m1.trans nE
      refine ⟨.list (Gg.map fun (n : Nat) => PyData.int (n : Int)), .list [], .lst (SqL.of eG1) (ints_dp Gg), .lst (SqL.of upd_same) .nil, ints_shaped Gg, ints_shaped [], _, rfl, ?_⟩
      cases Gg with
      | nil =>
        refine iteFe (by simp [PyData.eqv, PyData.eqvAll]) ?_
        refine ⟨_, rfl, F', Ff.map fun (n : Nat) => (n : Int), rfl, SqL.of (by rw [← intsV_int]; exact eF1), by rw [List.length_map]; simp at hlen; omega, fun ns P3 hperm hpw hP => ?_⟩
        have hnd2 : ns.Nodup := hperm.nodup_iff.mpr (by
          rw [List.nodup_iff_pairwise_ne, List.pairwise_map]
          exact hndF.imp fun h e => h (by omega))
        have hlt : ns.Pairwise (· < ·) := (hpw.and hnd2).imp fun ⟨h1, h2⟩ => by omega
        obtain ⟨ms, e, pm, hms⟩ := toNats (ns := ns) (fun k hk => by
          obtain ⟨n, _, h⟩ := mem_ints.mp (hperm.mem_iff.mp hk)
          exact ⟨n, h⟩) hlt
        rw [e]
        refine q _ P3 ms (m1E.new hP) (m1E.back hP) upd_same pm fun x => ?_
        rw [hms x, hperm.mem_iff, mem_intsN, ends_few ha']
        constructor
        · exact fun h => hlap x (List.mem_append_left _ h)
        · intro h
          have key : ∀ {b : Nat}, Laps (Ends p z.cps.toList) a b → b ∈ Ff := by
            intro b h
            induction h with
            | nil => simpa using hain
            | snoc _ k ih => have := hcl _ ih _ k; simpa using this
          exact key h
      | cons g0 gr =>
        refine iteTe (by simp [PyData.eqv, PyData.eqvAll]) ⟨fun σ' H' => ∃ m', m' < _ ∧ _, fun _ _ h => h, ?_⟩
        generalize hGg : g0 :: gr = Gg at *
        have hGne : 1 ≤ Gg.length := by rw [← hGg]; simp
        refine ⟨_, rfl, _, rfl, F', G', _, _, rfl, rfl, eF1, eG1, le_line (by unfold intsV; rw [List.length_map, List.length_map]; omega), fun F2 hF2 => ⟨le_line (by simp), fun L0 hL0 => ?_⟩⟩
        have n2 := Mod.refl (ms := []).new (o := .lst (intsV Ff ++ intsV Gg)) hF2
        have n3 := Mod.refl (ms := []).new (o := .lst []) hL0
        have m3 := (m1E.trans n2).trans n3
        have eF2 : upd (upd (upd H1 E (.lst [])) F2 (.lst (intsV Ff ++ intsV Gg))) L0 (.lst []) F2 = some (.lst (intsV (Ff ++ Gg))) := by
          have := n3.keep _ _ (upd_same (H := upd H1 E (.lst [])) (a := F2) (o := .lst (intsV Ff ++ intsV Gg))) (by simp)
          rw [this]; unfold intsV; rw [List.map_append]
        have eG3 := n3.keep _ _ (n2.keep _ _ eG1 (by simp)) (by simp)
        have hL0H : H L0 = none := (m1E.trans n2).back hL0
        have hne1 : F2 ≠ L0 := ne_of_none (upd_same (H := upd H1 E (.lst [])) (a := F2) (o := .lst (intsV Ff ++ intsV Gg))) hL0
        have hne2 : G' ≠ L0 := ne_of_none (n2.keep _ _ eG1 (by simp)) hL0
        refine ⟨_, rfl, G', rfl, ⟨_, SqL.of eG3⟩, ?_⟩
        refine for_it (walk_list (xs := intsV Gg)) (fun i σ H4 => ∃ (L : List Nat) (y6 : Option V), σ = [some (.ref t), some (.str z), some (.int (a : Nat)), some (.str "few"), some (.ref F2), some (.ref G'), y6, some (.ref L0)] ∧ Mod [] H H4 ∧ Mod [L0] (upd (upd (upd H1 E (.lst [])) F2 (.lst (intsV Ff ++ intsV Gg))) L0 (.lst [])) H4 ∧ H4 L0 = some (.lst (intsV L)) ∧
            L.length ≤ i * 60 ∧ ∀ e, e ∈ L ↔ ∃ j k, j < i ∧ Gg[j]? = some k ∧ Ends p z.cps.toList k e)
          ⟨[], y6, rfl, m3, Mod.refl, upd_same, by simp, fun e => ⟨(fun h => nomatch h), fun ⟨_, _, h, _⟩ => absurd h (Nat.not_lt_zero _)⟩⟩ (fun i σ H4 _ h => by obtain ⟨_, _, _, _, m4, _⟩ := h; exact SqL.of (m4.keep _ _ eG3 (by simp [hne2]))) ?_ ?_
        · rintro i x σ _ H4 hi ⟨L, y6, rfl, m04, m34, eL4, hLl, hL⟩ ⟨rfl, hx⟩
          have hi' : i < Gg.length := by unfold intsV at hi; rw [List.length_map] at hi; exact hi
          obtain rfl : x = .int ((Gg[i] : Nat) : Int) := by unfold intsV at hx; rw [List.getElem?_map, List.getElem?_eq_getElem hi'] at hx; injection hx with hx; exact hx.symm
          have hki := hend (hlap Gg[i] (List.mem_append_right _ (List.getElem_mem hi')))
          refine ⟨_, rfl, .inl ⟨rfl, _, SqL.of eL4⟩, _, rfl, t, _, 1, _, rfl, rfl, SqT.of (m04.tup _ _ ht), rfl, _, rfl, _, rfl, v1, p, z, Gg[i], rfl, h1.mod m04, hd1, hz, hki, fun H5 l5 ns5 m5 hl5 el5 pw5 hm5 => ?_⟩
          have k5 : ∀ e ∈ ns5, e < 60 := fun e he => by have := ((hm5 e).mp he).2.1; omega
          have g5 := pw_len pw5 k5
          have eL5 := m5.keep _ _ eL4 (by simp)
          refine ⟨L0, l5, intsV L, intsV ns5, rfl, rfl, eL5, el5, le_line (by unfold intsV; rw [List.length_map, List.length_map]; omega), L ++ ns5, _, rfl, (m04.trans m5).putNew eL5 hL0H, (m34.trans m5.nil).put eL5 (fun _ z => nomatch z) (List.mem_singleton.mpr rfl), by rw [upd_same]; unfold intsV; rw [List.map_append], by rw [List.length_append, Nat.add_mul]; omega, fun e => ?_⟩
          rw [List.mem_append, hL e, hm5 e]
          constructor
          · rintro (⟨j, k, h1, h2, h3⟩ | h)
            · exact ⟨j, k, by omega, h2, h3⟩
            · exact ⟨i, Gg[i], by omega, List.getElem?_eq_getElem hi', h⟩
          · rintro ⟨j, k, h1, h2, h3⟩
            by_cases e : j = i
            · subst e
              rw [List.getElem?_eq_getElem hi'] at h2
              cases h2
              exact .inr h3
            · exact .inl ⟨j, k, by omega, h2, h3⟩
        · rintro σ H4 ⟨L, y6, rfl, m04, m34, eL4, hLl, hL⟩
          have hLl2 : L.length ≤ 60 * 60 := Nat.le_trans hLl (Nat.mul_le_mul_right _ (by unfold intsV; rw [List.length_map]; omega))
          have eF4 := m34.keep _ _ eF2 (by simp [hne1])
          have hL2 : ∀ e, e ∈ L ↔ ∃ k ∈ Gg, Ends p z.cps.toList k e := fun e => by
            rw [hL e]
            constructor
            · rintro ⟨j, k, _, h2, h3⟩; exact ⟨k, List.mem_of_getElem? h2, h3⟩
            · rintro ⟨k, h2, h3⟩
              obtain ⟨j, hj⟩ := List.mem_iff_getElem?.mp h2
              exact ⟨j, k, by unfold intsV; rw [List.length_map]; exact (List.getElem?_eq_some_iff.mp hj).1, hj, h3⟩
          have hLb : ∀ e ∈ L, e < 60 := fun e he => by
            obtain ⟨_, _, _, _, h⟩ := (hL e).mp he
            have := h.2.1
            omega
          refine ⟨_, rfl, L0, L.map fun (n : Nat) => (n : Int), rfl, SqL.of (by rw [← intsV_int]; exact eL4), by rw [List.length_map]; show _ < 4096; omega, fun aS nS haS hnS => ?_⟩
          have hn60 := set_few hLb hnS
          refine ⟨aS, _, nS, rfl, upd_same, by omega, fun nsS P5 hpS hmS hlnS hP5 => ?_⟩
          obtain ⟨ms, eS, pw5, hm5⟩ := set_list hpS hmS
          rw [eS]
          have mS := Mod.refl (ms := []).new (o := SetO w aS (fun j => decide (j ∈ L.map fun (n : Nat) => (n : Int))) nS) haS
          have m5 := mS.new (o := .lst (intsV ms)) hP5
          have eP5 : upd (upd H4 aS (SetO w aS (fun j => decide (j ∈ L.map fun (n : Nat) => (n : Int))) nS)) P5 (.lst (intsV ms)) P5 = some (.lst (intsV ms)) := upd_same
          have k5 : ∀ e ∈ ms, e < 60 := fun e he => hLb e ((hm5 e).mp he)
          have g5 := pw_len pw5 k5
          have m05 := m04.trans m5
          have eF5 := m5.keep _ _ eF4 (by simp)
          refine ⟨P5, rfl, ⟨_, SqL.of eP5⟩, ?_⟩
          refine lc_rel (walk_list (xs := intsV ms)) [] (fun i => !decide (ms.getD i 0 ∈ Ff ++ Gg)) (fun i y _ => y = .int ((ms.getD i 0 : Nat) : Int)) (lt_line (by unfold intsV; rw [List.length_map]; omega)) (fun _ _ _ _ _ _ h => h) (fun H6 m6 => SqL.of (m6.keep _ _ eP5 (by simp))) ?_ (fun _ _ h => nomatch h) fun D H6 zs hD m6 e6 r6 => ?_
          · rintro i x H6 _ R S hi m6 ⟨rfl, hx⟩ k1 k2
            have hi' : i < ms.length := by unfold intsV at hi; rw [List.length_map] at hi; exact hi
            obtain rfl : x = .int ((ms[i] : Nat) : Int) := by unfold intsV at hx; rw [List.getElem?_map, List.getElem?_eq_getElem hi'] at hx; injection hx with hx; exact hx.symm
            have eg : ms.getD i 0 = ms[i] := by rw [List.getD_eq_getElem?_getD, List.getElem?_eq_getElem hi']; rfl
            rw [eg] at k1 k2
            refine ⟨rfl, _, rfl, _, rfl, F2, _, rfl, .inl (SqL.of (m6.keep _ _ eF5 (by simp))), rfl, flat_ints _, _, rfl, ?_⟩
            rw [in_ints]
            cases hdec : decide (ms[i] ∈ Ff ++ Gg) with
            | true => exact iteFe (by rfl) (k2 _ Mod.refl (by rw [hdec]; rfl))
            | false => exact iteTe (by rfl) ⟨_, rfl, k1 _ _ Mod.refl (by rw [hdec]; rfl) rfl⟩
          · have ezs := pd_map r6
            have hil : (intsV ms).length = ms.length := by unfold intsV; rw [List.length_map]
            rw [hil] at ezs
            have hzs : zs = intsV (ms.filter fun n => !decide (n ∈ Ff ++ Gg)) := by
              rw [ezs]
              have e2 : ms.filter (fun n => !decide (n ∈ Ff ++ Gg)) = ((List.range ms.length).filter fun i => !decide (ms.getD i 0 ∈ Ff ++ Gg)).map fun i => ms.getD i 0 := by
                have e3 : ms = (List.range ms.length).map fun i => ms.getD i 0 := by
                  apply List.ext_getElem?
                  intro i
                  rw [List.getElem?_map]
                  by_cases h : i < ms.length
                  · rw [List.getElem?_range h, List.getElem?_eq_getElem h]
                    show some ms[i] = some (ms.getD i 0)
                    rw [List.getD_eq_getElem?_getD, List.getElem?_eq_getElem h]; rfl
                  · rw [List.getElem?_eq_none (by omega), List.getElem?_eq_none (by rw [List.length_range]; omega)]; rfl
                conv => lhs; rw [e3]
                rw [List.filter_map]
                rfl
              rw [e2]
              unfold intsV
              rw [List.map_map]
              rfl
            rw [hzs] at e6
            have hms2 : ∀ e, e ∈ ms.filter (fun n => !decide (n ∈ Ff ++ Gg)) ↔ (∃ k ∈ Gg, Ends p z.cps.toList k e) ∧ e ∉ Ff ++ Gg := fun e => by
              rw [List.mem_filter, hm5 e, hL2 e]
              simp
            refine ⟨_, ?_, Ff ++ Gg, _, F2, D, _, _, rfl, m05.trans m6, m6.keep _ _ eF5 (by simp), e6, ?_, fun x hx => ?_, List.mem_append_left _ hain, fun x hx y hy => ?_, rfl⟩
            · rw [List.length_append]; omega
            · refine List.nodup_append.mpr ⟨hnd, (pw5.imp fun h => Nat.ne_of_lt h).filter _, fun x hx y hy e => ?_⟩
              subst e
              exact ((hms2 x).mp hy).2 hx
            · rcases List.mem_append.mp hx with hx | hx
              · exact hlap x hx
              · obtain ⟨⟨k, h2, h3⟩, _⟩ := (hms2 x).mp hx
                exact .snoc (hlap k (List.mem_append_right _ h2)) h3
            · by_cases hyin : y ∈ Ff ++ Gg
              · exact List.mem_append_left _ hyin
              · rcases List.mem_append.mp hx with hx | hx
                · exact absurd (hcl x hx y hy) hyin
                · exact List.mem_append_right _ ((hms2 y).mpr ⟨⟨x, hx, hy⟩, hyin⟩)
    | mark mk p =>
      obtain ⟨t, v1, rfl, ht, h1⟩ := hp
      refine ⟨_, rfl, t, _, 0, _, rfl, rfl, SqT.of ht, rfl, ?_⟩
      refine ⟨_, rfl, rfl, _, rfl, iteFe (by decide) ?_⟩
      refine ⟨_, rfl, rfl, _, rfl, iteFe (by decide) ?_⟩
      refine ⟨_, rfl, rfl, _, rfl, iteFe (by decide) ?_⟩
      refine ⟨_, rfl, rfl, _, rfl, iteTe (by decide) ?_⟩
      obtain ⟨m, rfl, hdm⟩ := hn1 (p' := p) (by show p.deep + 1 ≤ 1 + p.deep; omega)
      exact ⟨_, rfl, t, _, 2, _, rfl, rfl, SqT.of ht, rfl, _, rfl, _, rfl, v1, p, z, a, rfl, h1, hdm, hz, ha, fun H1 l ns m1 hl0 el pw hm => q H1 l ns m1 hl0 el pw hm⟩
end
end Fr

set_option maxHeartbeats 4000000
namespace Fr
open PySem PySem.Spec PyProof.Rows L2
/-- all texts of just so many signs, of so many at most -/
def lastN : Nat → List (List Nat)
  | 0 => [[]]
  | i + 1 => (lastN i).flatMap fun t => [97, 98, 99, 100].map fun c => t ++ [c]
def foundN : Nat → List (List Nat)
  | 0 => [[]]
  | i + 1 => foundN i ++ lastN (i + 1)
theorem fours_len : ∀ l : List (List Nat), (l.flatMap fun t => [97, 98, 99, 100].map fun c => t ++ [c]).length = 4 * l.length
  | [] => rfl
  | t :: r => by rw [List.flatMap_cons, List.length_append, fours_len r, List.length_map, List.length_cons]; simp; omega
theorem lastN_len : ∀ i, (lastN i).length = 4 ^ i
  | 0 => rfl
  | i + 1 => by show (List.flatMap _ (lastN i)).length = _; rw [fours_len, lastN_len i, Nat.pow_succ, Nat.mul_comm]
theorem foundN_len : ∀ i, (foundN i).length ≤ 2 * 4 ^ i
  | 0 => by decide
  | i + 1 => by
    have := foundN_len i
    show (foundN i ++ lastN (i + 1)).length ≤ _
    rw [List.length_append, lastN_len, Nat.pow_succ]
    omega
theorem okSign_iff {c : Nat} : okSign c = true ↔ c ∈ [97, 98, 99, 100] := by
  have e : ("abcd" : Str).cps.toList = [97, 98, 99, 100] := by decide +kernel
  unfold okSign
  rw [decide_eq_true_eq, e]
theorem mem_lastN : ∀ {i : Nat} {u : List Nat}, u ∈ lastN i ↔ u.length = i ∧ ∀ c ∈ u, okSign c = true
  | 0, u => by
    show u ∈ [[]] ↔ _
    rw [List.mem_singleton]
    exact ⟨fun h => by rw [h]; exact ⟨rfl, fun _ h => nomatch h⟩, fun h => List.eq_nil_of_length_eq_zero h.1⟩
  | i + 1, u => by
    show u ∈ (lastN i).flatMap _ ↔ _
    rw [List.mem_flatMap]
    constructor
    · rintro ⟨t, h1, h2⟩
      obtain ⟨c, h3, rfl⟩ := List.mem_map.mp h2
      obtain ⟨h4, h5⟩ := mem_lastN.mp h1
      refine ⟨by rw [List.length_append, h4]; rfl, fun d hd => ?_⟩
      rcases List.mem_append.mp hd with hd | hd
      · exact h5 d hd
      · rw [List.mem_singleton.mp hd]; exact okSign_iff.mpr h3
    · rintro ⟨h1, h2⟩
      have hne : u ≠ [] := fun e => by rw [e] at h1; cases h1
      have e := List.dropLast_concat_getLast hne
      refine ⟨u.dropLast, mem_lastN.mpr ⟨by rw [List.length_dropLast]; omega, fun c hc => h2 c (by rw [← e]; exact List.mem_append_left _ hc)⟩, List.mem_map.mpr ⟨u.getLast hne, okSign_iff.mp (h2 _ (List.getLast_mem hne)), e⟩⟩
theorem mem_foundN : ∀ {i : Nat} {u : List Nat}, u ∈ foundN i ↔ u.length ≤ i ∧ ∀ c ∈ u, okSign c = true
  | 0, u => by
    show u ∈ lastN 0 ↔ _
    rw [mem_lastN]
    exact ⟨fun ⟨h, k⟩ => ⟨by omega, k⟩, fun ⟨h, k⟩ => ⟨by omega, k⟩⟩
  | i + 1, u => by
    show u ∈ foundN i ++ lastN (i + 1) ↔ _
    rw [List.mem_append, mem_foundN, mem_lastN]
    constructor
    · rintro (⟨h, k⟩ | ⟨h, k⟩)
      · exact ⟨by omega, k⟩
      · exact ⟨by omega, k⟩
    · rintro ⟨h, k⟩
      by_cases e : u.length = i + 1
      · exact .inr ⟨e, k⟩
      · exact .inl ⟨by omega, k⟩
def strV (us : List (List Nat)) : List V := us.map fun u => V.str ⟨u.toArray⟩
section
variable {P : Program} {w : World} {K : PySem.W.Frag} {mg : Str → Option Value} {base : Heap}
def spRead (n : Nat) : Sp := fun vs H Q _ => ∃ (v : V) (p : Pat) (z : Str), vs = [v, .str z] ∧ IsP H v p ∧ p.deep ≤ n + 1 ∧ z.length ≤ 30 ∧ ∀ H' b, Mod [] H H' → (b = true ↔ Reads p z.cps.toList) → Q (.bl b) H'
theorem has_law_is_read (T : Tx w K mg) (n : Nat) : Has P w K mg base (n + 3) "_law_is_read" ["pattern", "text"] (spRead n) := by
  have H_law_ends := has_law_ends (P := P) (base := base) T (n + 1)
  refine (T.has (d := d_law_is_read) 37 rfl rfl rfl rfl b_law_is_read sc_law_is_read (fun vs H Q E h => ?_) fun cdv A outer s H vs Q E hr h => ?_)
  · obtain ⟨_, _, _, rfl, _⟩ := h; rfl
  obtain ⟨v, p, z, rfl, hp, hd, hz, q⟩ := h
  have hr : Room (n + 2) _ := hr
  have ezl : z.cps.toList.length = z.length := Array.length_toList
  refine ⟨_, (pss_one (ps_ret (pe_cmpR op_in_seq (pe_callB call_len_str (by rfl) (z_len T) (by decide +kernel) (pa_cons (pv 1) pa_nil)) (pe_callH H_law_ends (hr.mono (by omega)) (by rfl) (g__law_ends T) (pa_cons (pv 0) (pa_cons (pv 1) (pa_cons pe_int pa_nil)))) rfl))), ?_⟩
  refine ⟨_, rfl, z, rfl, le_line (by omega), _, rfl, _, rfl, v, p, z, 0, rfl, hp, hd, hz, Nat.zero_le _, fun H1 l ns m1 hl el pw hm => ?_⟩
  refine ⟨l, _, rfl, .inl (SqL.of el), rfl, flat_ints _, ?_⟩
  have e : inV (V.int ((z.length : Nat) : Int)) (intsV ns) = decide (z.length ∈ ns) := in_ints _ _
  refine q H1 _ m1 ?_
  rw [if_neg (by simp), e, decide_eq_true_eq, hm, reads_ends, ezl]
def spTexts : Sp := fun vs H Q _ => ∃ (n : Nat), vs = [.int (n : Nat)] ∧ n ≤ 6 ∧ ∀ H' l, Mod [] H H' → H l = none → H' l = some (.lst (strV (foundN n))) → Q (.ref l) H'
theorem has_law_texts (T : Tx w K mg) : Has P w K mg base 1 "_law_texts" ["long"] spTexts := by
  refine (T.has (d := d_law_texts) 38 rfl rfl rfl rfl b_law_texts sc_law_texts (fun vs H Q E h => ?_) fun cdv A outer s H vs Q E hr h => ?_)
  · obtain ⟨_, rfl, _⟩ := h; rfl
  obtain ⟨n, rfl, hn, q⟩ := h
  refine ⟨_, (pss_cons (ps_par (i := 1) (j := 2) rfl sc_law_texts.nd rfl rfl (by decide) rfl rfl (pa_cons (pe_lst (pa_cons pe_str pa_nil)) (pa_cons (pe_lst (pa_cons pe_str pa_nil)) pa_nil)) (by rfl))
      (pss_cons (ps_for PassesOwn.never rfl (pi_range1 (by rfl) (z_range T) (pa_cons (pv 0) pa_nil)) (pg_name (i := 3) sc_law_texts.nd rfl (Or.inl rfl)) (pss_cons (ps_set (i := 4) sc_law_texts.nd rfl (Or.inl rfl) (pe_lst pa_nil))
      (pss_cons (ps_for PassesOwn.never rfl (pi_list (pv 2)) (pg_name (i := 5) sc_law_texts.nd rfl (Or.inr rfl)) (pss_one (ps_expr (pe_bm PySem.F.plainAttrs_list PySem.F.slot_list_extend PySem.F.type_list_extend mt_extend (pv 4) (pa_cons (pe_lc (own := [("sign", 6)]) (g := (gName 6)) (tt := tYes) rfl sc_law_texts.nd (pi_str pe_str) (blkOk_by (own := [("sign", 6)]) (N := ["long", "found", "last", "turn", "longer", "text", "sign"]) (sc := defScope s_law_texts) (by decide +kernel)) (fun _ _ _ _ _ => (pg_name (i := 6) sc_law_texts.nd rfl (Or.inl rfl))) (fun _ _ _ _ _ => pts_nil) (fun _ _ _ _ _ => (pe_op op_add_str (pv 5) (pv 6)))) pa_nil)))))
      (pss_one (ps_par (i := 1) (j := 2) rfl sc_law_texts.nd rfl rfl (by decide) rfl rfl (pa_cons (pe_op op_cat (pv 1) (pv 4)) (pa_cons (pv 4) pa_nil)) (by rfl))))))
      (pss_one (ps_ret (pv 1))))), ?_⟩
  refine ⟨ln1, fun F0 hF0 => ⟨ln1, fun L0 hL0 => ⟨_, _, rfl, ?_⟩⟩⟩
  have n1 := Mod.refl (ms := []).new (o := .lst [.str ""]) hF0
  have n2 := Mod.refl (ms := []).new (o := .lst [.str ""]) hL0
  have eF0 := n2.keep _ _ (upd_same (H := H) (a := F0) (o := .lst [.str ""])) (by simp)
  have h6 : 4 ^ n ≤ 4 ^ 6 := Nat.pow_le_pow_right (by decide) hn
  refine ⟨_, rfl, _, rfl, by omega, by omega, ?_⟩
  rw [show ((n : Nat) : Int).toNat = n by omega]
  refine for_it walk_range (fun i σ H2 => ∃ (F L : Addr) (y3 y4 y5 y6 : Option V), σ = [some (.int (n : Nat)), some (.ref F), some (.ref L), y3, y4, y5, y6] ∧ Mod [] H H2 ∧ H F = none ∧ H2 F = some (.lst (strV (foundN i))) ∧ H2 L = some (.lst (strV (lastN i))))
    ⟨F0, L0, none, none, none, none, rfl, n1.trans n2, hF0, eF0, upd_same⟩ (fun _ _ _ _ _ => trivial) ?_ ?_
  · rintro i _ σ _ H2 hi ⟨F, L, y3, y4, y5, y6, rfl, m2, hFH, eF, eL⟩ ⟨rfl, rfl⟩
    have hpi : 4 ^ i ≤ 4 ^ 6 := Nat.pow_le_pow_right (by decide) (by omega)
    have hpi1 : 4 ^ (i + 1) ≤ 4 ^ 6 := Nat.pow_le_pow_right (by decide) (by omega)
    have e46 : (4 : Nat) ^ 6 = 4096 := by decide
    have hll := lastN_len i
    have hll1 := lastN_len (i + 1)
    have hfl := foundN_len i
    refine ⟨le_line (by simp), fun Lo hLo => ?_⟩
    have n3 := Mod.refl (ms := []).new (o := .lst []) hLo
    have m3 := m2.trans n3
    have hLoH : H Lo = none := m2.back hLo
    have eF3 := n3.keep _ _ eF (by simp)
    have eL3 := n3.keep _ _ eL (by simp)
    have hFLo : F ≠ Lo := ne_of_none eF hLo
    have hLLo : L ≠ Lo := ne_of_none eL hLo
    refine ⟨_, rfl, L, rfl, ⟨_, SqL.of eL3⟩, ?_⟩
    refine for_it (walk_list (xs := strV (lastN i))) (fun j σ H4 => ∃ (y5 y6 : Option V), σ = [some (.int (n : Nat)), some (.ref F), some (.ref L), some (.int (0 + (i : Nat))), some (.ref Lo), y5, y6] ∧ Mod [] H H4 ∧ Mod [Lo] (upd H2 Lo (.lst [])) H4 ∧
        H4 Lo = some (.lst (strV (((lastN i).take j).flatMap fun t => [97, 98, 99, 100].map fun c => t ++ [c]))))
      ⟨y5, y6, rfl, m3, Mod.refl, upd_same⟩ (fun j σ H4 _ h => by obtain ⟨_, _, _, _, m4, _⟩ := h; exact SqL.of (m4.keep _ _ eL3 (by simp [hLLo]))) ?_ ?_
    · rintro j x σ _ H4 hj ⟨y5, y6, rfl, m04, m34, eLo⟩ ⟨rfl, hx⟩
      have hj' : j < (lastN i).length := by unfold strV at hj; rw [List.length_map] at hj; exact hj
      obtain rfl : x = .str ⟨((lastN i)[j]).toArray⟩ := by unfold strV at hx; rw [List.getElem?_map, List.getElem?_eq_getElem hj'] at hx; injection hx with hx; exact hx.symm
      refine ⟨_, rfl, .inl ⟨rfl, _, SqL.of eLo⟩, _, rfl, ?_⟩
      have eab : ("abcd" : Str).cps = #[97, 98, 99, 100] := by decide +kernel
      have hab4 : ("abcd" : Str).cps.size = 4 := by rw [eab]; rfl
      refine lc_map (walk_str (z := "abcd")) [] (fun k => V.str ⟨((lastN i)[j] ++ [97 + k]).toArray⟩) (lt_line (by rw [hab4]; decide)) (fun _ _ => trivial) ?_ (fun _ _ h => nomatch h) fun D H5 hD m5 e5 => ?_
      · rintro k x H5 _ R hk m5 ⟨rfl, c, hc, rfl⟩ kk
        rw [hab4] at hk
        have hc4 : c = 97 + k := by
          rw [eab] at hc
          have : k = 0 ∨ k = 1 ∨ k = 2 ∨ k = 3 := by omega
          rcases this with rfl | rfl | rfl | rfl <;> (simp at hc; omega)
        have hlj := (mem_lastN.mp (List.getElem_mem hj')).1
        have es : (⟨((lastN i)[j]).toArray⟩ ++ ⟨#[c]⟩ : Str) = ⟨((lastN i)[j] ++ [97 + k]).toArray⟩ := by
          rw [hc4]
          show (⟨((lastN i)[j]).toArray ++ #[97 + k]⟩ : Str) = _
          simp
        refine ⟨rfl, _, rfl, _, rfl, _, _, rfl, rfl, le_line (by show ((lastN i)[j]).toArray.size + 1 ≤ _; rw [List.size_toArray]; omega), ?_⟩
        rw [es]
        exact kk _ Mod.refl
      · rw [hab4] at e5
        have eLo5 := m5.keep _ _ eLo (by simp)
        have hlo : ((lastN i).take j).length ≤ 4096 := by rw [List.length_take]; omega
        refine ⟨Lo, D, _, _, rfl, rfl, eLo5, e5, le_line (by unfold strV; rw [List.length_map, fours_len, List.length_map]; simp; omega), _, _, rfl, (m04.trans m5).putNew eLo5 hLoH, (m34.trans m5.nil).put eLo5 (fun _ z => nomatch z) (List.mem_singleton.mpr rfl), ?_⟩
        rw [upd_same, List.take_add_one, List.getElem?_eq_getElem hj']
        show some (HO.lst _) = some (HO.lst (strV (List.flatMap _ (_ ++ [_]))))
        rw [List.flatMap_append, List.flatMap_singleton]
        unfold strV
        rw [List.map_append]
        rfl
    · rintro σ H4 ⟨y5, y6, rfl, m04, m34, eLo⟩
      have et : (lastN i).take (strV (lastN i)).length = lastN i := List.take_of_length_le (by unfold strV; rw [List.length_map]; exact Nat.le_refl _)
      rw [et] at eLo
      have eF4 := m34.keep _ _ eF3 (by simp [hFLo])
      refine ⟨_, rfl, _, rfl, F, Lo, _, _, rfl, rfl, eF4, eLo, le_line (by unfold strV; rw [List.length_map, List.length_map, fours_len]; omega), fun F2 hF2 => ⟨_, rfl, _, _, rfl, ?_⟩⟩
      have n5 := Mod.refl (ms := []).new (o := .lst (strV (foundN i) ++ strV ((lastN i).flatMap fun t => [97, 98, 99, 100].map fun c => t ++ [c]))) hF2
      refine ⟨F2, Lo, _, _, _, _, rfl, m04.trans n5, m04.back hF2, ?_, n5.keep _ _ eLo (by simp)⟩
      rw [upd_same]
      show some (HO.lst _) = some (HO.lst (strV (foundN i ++ lastN (i + 1))))
      unfold strV
      rw [List.map_append]
      rfl
  · rintro σ H2 ⟨F, L, y3, y4, y5, y6, rfl, m2, hFH, eF, eL⟩
    exact ⟨_, rfl, q H2 F m2 hFH eF⟩
end
end Fr

set_option maxHeartbeats 4000000
namespace Fr
open PySem PySem.Spec PyProof.Rows L2
noncomputable def rdB (p : Pat) (u : List Nat) : Bool := @decide (Reads p u) (Classical.propDecidable _)
theorem rdB_iff {p : Pat} {u : List Nat} : rdB p u = true ↔ Reads p u := by unfold rdB; exact @decide_eq_true_iff _ (Classical.propDecidable _)
/-- what a text is ranked by -/
def rank (z u : List Nat) : T3 := (edT z u, u.length, ⟨u.toArray⟩)
theorem lay3 {z : List Nat} : ∀ {us : List (List Nat)}, (∀ u ∈ us, ∀ c ∈ u, okSign c = true) → (∀ u ∈ us, u.length ≤ 1000) → PyData.canLayAll0 ((us.map (rank z)).map d3) = true
  | [], _, _ => by simp [PyData.canLayAll0]
  | u :: us, h, k => by
    simp only [List.map_cons, PyData.canLayAll0, lay3 (us := us) (fun u hu => h u (List.mem_cons_of_mem _ hu)) (fun u hu => k u (List.mem_cons_of_mem _ hu)), Bool.and_true]
    simp only [d3, rank, PyData.canLay0, PyData.canLayAll0, Bool.and_true, Bool.true_and]
    show Array.all u.toArray (fun c => decide (c < 0x110000)) = true
    rw [List.all_toArray]
    exact List.all_eq_true.mpr fun c hc => decide_eq_true (by have := okSign_at (h u (List.mem_cons_self ..) c hc); omega)
theorem shaped3 {z : List Nat} {us : List (List Nat)} (h : ∀ u ∈ us, ∀ c ∈ u, okSign c = true) (k : ∀ u ∈ us, u.length ≤ 1000) : SeqAt.shaped (.list ((us.map (rank z)).map d3)) = true := by
  have h1 := depth3 (us.map (rank z))
  have h2 : PyData.depth (.list ((us.map (rank z)).map d3)) ≤ 64 := by
    simp only [PyData.depth]
    omega
  show (PyData.canLay0 (.list ((us.map (rank z)).map d3)) && decide (PyData.depth (.list ((us.map (rank z)).map d3)) ≤ 64)) = true
  rw [Bool.and_eq_true]
  exact ⟨by simp only [PyData.canLay0]; exact lay3 h k, decide_eq_true h2⟩
theorem lex_total3 {u v : List Nat} (h1 : ¬ u < v) (h2 : ¬ v < u) : u = v := List.le_antisymm (List.not_lt.mp h2) (List.not_lt.mp h1)
theorem rank_uniq {z u v : List Nat} (h1 : ¬ Lt3 (rank z u) (rank z v)) (h2 : ¬ Lt3 (rank z v) (rank z u)) : u = v := by
  unfold Lt3 rank at h1 h2
  simp only [not_or, not_and] at h1 h2
  have e1 : edT z u = edT z v := by have := h1.1; have := h2.1; omega
  have k1 := h1.2 e1
  have k2 := h2.2 e1.symm
  have e2 : u.length = v.length := by have := k1.1; have := k2.1; omega
  exact lex_total3 (k1.2 e2) (k2.2 e2.symm)
/-- the best of the texts of four signs at most -/
structure BestIn (p : Pat) (z u : List Nat) : Prop where
  mem : u ∈ foundN 4
  reads : Reads p u
  min : ∀ v ∈ foundN 4, Reads p v → ¬ Lt3 (rank z v) (rank z u)
theorem refs3 {H : Hp} {z : List Nat} {g : Nat → List Nat} : ∀ {is : List Nat} {zs : List V}, Paired (fun i y => ∃ t, y = V.ref t ∧ At3 H t (rank z (g i))) is zs → ∃ bs, zs = bs.map V.ref ∧ Paired (At3 H) bs ((is.map g).map (rank z))
  | _, _, .nil => ⟨[], rfl, .nil⟩
  | _, _, .cons ⟨t, e, h⟩ k => by
    obtain ⟨bs, h1, h2⟩ := refs3 k
    exact ⟨t :: bs, by rw [e, h1]; rfl, .cons h h2⟩
section
variable {P : Program} {w : World} {K : PySem.W.Frag} {mg : Str → Option Value} {base : Heap}
def BestV (H : Hp) (y : V) (p : Pat) (z : List Nat) : Prop := (y = .non ∧ ∀ u ∈ foundN 4, ¬ Reads p u) ∨ ∃ t u, y = .ref t ∧ BestIn p z u ∧ H t = some (.tup [.int ((edT z u : Nat) : Int), .str ⟨u.toArray⟩])
def spBest (n : Nat) : Sp := fun vs H Q _ => ∃ (v : V) (p : Pat) (z : Str), vs = [v, .str z] ∧ IsP H v p ∧ p.deep ≤ n + 1 ∧ z.length ≤ 30 ∧
  ∀ H' y, Mod [] H H' → BestV H' y p z.cps.toList → Q y H'
theorem has_law_best (T : Tx w K mg) (n : Nat) : Has P w K mg base (n + 4) "_law_best" ["pattern", "text"] (spBest n) := by
  have H_law_texts := has_law_texts (P := P) (base := base) T
  have H_law_is_read := has_law_is_read (P := P) (base := base) T n
  have H_law_price := has_law_price (P := P) (base := base) T
  refine (T.has (d := d_law_best) 40 rfl rfl rfl rfl b_law_best sc_law_best (fun vs H Q E h => ?_) fun cdv A outer s H vs Q E hr h => ?_)
  · obtain ⟨_, _, _, rfl, _⟩ := h; rfl
  obtain ⟨v, p, z, rfl, hp, hd, hz, q⟩ := h
  have qN : ∀ H', Mod [] H H' → (∀ u ∈ foundN 4, ¬ Reads p u) → Q .non H' := fun H' m h => q H' _ m (.inl ⟨rfl, h⟩)
  have qS : ∀ H' t u, Mod [] H H' → BestIn p z.cps.toList u → H' t = some (.tup [.int ((edT z.cps.toList u : Nat) : Int), .str ⟨u.toArray⟩]) → Q (.ref t) H' := fun H' t u m b e => q H' _ m (.inr ⟨t, u, rfl, b, e⟩)
  have hr : Room (n + 3) _ := hr
  have ezl : z.cps.toList.length = z.length := Array.length_toList
  refine ⟨_, (pss_cons (ps_setLc (i := 2) (own := [("one", 3)]) (g := (gName 3)) rfl sc_law_best.nd rfl rfl (sw_true rfl rfl rfl (by decide +kernel)) (pi_list (pe_callH H_law_texts (hr.mono (by omega)) (by rfl) (g__law_texts T) (pa_cons pe_int pa_nil))) (blkOk_by (own := [("one", 3)]) (N := ["pattern", "text", "some", "one"]) (sc := defScope s_law_best) (by decide +kernel)) (fun _ _ _ _ _ => (pg_name (i := 3) sc_law_best.nd rfl (Or.inl rfl))) (fun _ _ _ _ _ => (pts_one (pt_val (pe_callH H_law_is_read (hr.mono (by omega)) (by rfl) (g__law_is_read T) (pa_cons (pv 0) (pa_cons (pv 3) pa_nil)))))) (fun _ _ _ _ _ => (pe_tup (pa_cons (pe_callH H_law_price (hr.mono (by omega)) (by rfl) (g__law_price T) (pa_cons (pv 1) (pa_cons (pv 3) pa_nil))) (pa_cons (pe_callB call_len_str (by rfl) (z_len T) (by decide +kernel) (pa_cons (pv 3) pa_nil)) (pa_cons (pv 3) pa_nil))))))
      (pss_cons (ps_if (pt_cmpR (op_eqD (hu64 hr)) (pv 2) (pe_lst pa_nil) (nomark _)) (pss_one (ps_ret pe_non)) pss_nil)
      (pss_one (ps_ret (pe_tup (pa_cons (pe_ix ix_tup (pe_callB (cr_minT rfl (hu64 hr)) (by rfl) (z_min T) (by decide +kernel) (pa_cons (pv 2) pa_nil)) pe_int (fun _ _ => rfl)) (pa_cons (pe_ix ix_tup (pe_callB (cr_minT rfl (hu64 hr)) (by rfl) (z_min T) (by decide +kernel) (pa_cons (pv 2) pa_nil)) pe_int (fun _ _ => rfl)) pa_nil))))))), ?_⟩
  have hfl := foundN_len 4
  have e44 : 2 * 4 ^ 4 = 512 := by decide
  refine ⟨4, rfl, by decide, fun H1 l m1 hl el => ⟨l, rfl, ⟨_, SqL.of el⟩, ?_⟩⟩
  refine lc_rel (walk_list (xs := strV (foundN 4))) [] (fun i => rdB p ((foundN 4).getD i [])) (fun i y H => ∃ t, y = V.ref t ∧ At3 H t (rank z.cps.toList ((foundN 4).getD i []))) (lt_line (by unfold strV; rw [List.length_map]; omega))
    (fun ms H H' i y m ⟨t, h1, h2⟩ => ⟨t, h1, m.tup _ _ h2⟩) (fun H3 m3 => SqL.of (m3.keep _ _ el (by simp))) ?_ (fun _ _ h => nomatch h) fun D H3 zs hD m3 e3 r3 => ?_
  · rintro i x H3 _ R S hi m3 ⟨rfl, hx⟩ k1 k2
    have hi' : i < (foundN 4).length := by unfold strV at hi; rw [List.length_map] at hi; exact hi
    obtain rfl : x = .str ⟨((foundN 4)[i]).toArray⟩ := by unfold strV at hx; rw [List.getElem?_map, List.getElem?_eq_getElem hi'] at hx; injection hx with hx; exact hx.symm
    have eg : (foundN 4).getD i [] = (foundN 4)[i] := by rw [List.getD_eq_getElem?_getD, List.getElem?_eq_getElem hi']; rfl
    rw [eg] at k1 k2
    have hmem := mem_foundN.mp (List.getElem_mem hi')
    generalize (foundN 4)[i] = u at *
    have hul : (⟨u.toArray⟩ : Str).length = u.length := List.size_toArray
    refine ⟨rfl, _, rfl, _, rfl, v, p, ⟨u.toArray⟩, rfl, (hp.mod m1).mod m3, hd, by omega, fun H4 b m4 hb => ⟨b, rfl, ?_⟩⟩
    cases hbv : b with
    | false => exact iteFe (by rfl) (k2 _ m4 (by
        cases h : rdB p u with
        | false => rfl
        | true => have := hb.mpr (rdB_iff.mp h); rw [hbv] at this; cases this))
    | true =>
      refine iteTe (by rfl) ⟨_, rfl, _, rfl, z, ⟨u.toArray⟩, rfl, by omega, by omega, fun H5 m5 => ⟨_, rfl, ⟨u.toArray⟩, rfl, le_line (by omega), _, rfl, ln3, fun t ht => ?_⟩⟩
      have n6 := Mod.refl (ms := []).new (o := .tup [.int ((edT z.cps.toList u : Nat) : Int), .int ((u.length : Nat) : Int), .str ⟨u.toArray⟩]) ht
      have ep : ((ed z.cps.toList u z.length u.length : Nat) : Int) = ((edT z.cps.toList u : Nat) : Int) := by unfold edT; rw [ezl]
      exact k1 _ _ ((m4.trans m5).trans n6) (rdB_iff.mpr (hb.mp hbv)) ⟨t, rfl, upd_same⟩
  have hil : (strV (foundN 4)).length = (foundN 4).length := by unfold strV; rw [List.length_map]
  rw [hil] at r3
  obtain ⟨bs, rfl, hbs⟩ := refs3 r3
  have hus : ((List.range (foundN 4).length).filter fun i => rdB p ((foundN 4).getD i [])).map (fun i => (foundN 4).getD i []) = (foundN 4).filter fun u => rdB p u := by
    have e3 : foundN 4 = (List.range (foundN 4).length).map fun i => (foundN 4).getD i [] := by
      apply List.ext_getElem?
      intro i
      rw [List.getElem?_map]
      by_cases h : i < (foundN 4).length
      · rw [List.getElem?_range h, List.getElem?_eq_getElem h]
        show some (foundN 4)[i] = some ((foundN 4).getD i [])
        rw [List.getD_eq_getElem?_getD, List.getElem?_eq_getElem h]; rfl
      · rw [List.getElem?_eq_none (by omega), List.getElem?_eq_none (by rw [List.length_range]; omega)]; rfl
    conv => rhs; rw [e3]
    rw [List.filter_map]
    rfl
  rw [hus] at hbs
  have hmemU : ∀ u, u ∈ (foundN 4).filter (fun u => rdB p u) ↔ u ∈ foundN 4 ∧ Reads p u := fun u => by rw [List.mem_filter, rdB_iff]
  generalize hU : (foundN 4).filter (fun u => rdB p u) = us at *
  have hok : ∀ u ∈ us, ∀ c ∈ u, okSign c = true := fun u hu => (mem_foundN.mp ((hmemU u).mp hu).1).2
  have hlen : ∀ u ∈ us, u.length ≤ 1000 := fun u hu => by have := (mem_foundN.mp ((hmemU u).mp hu).1).1; omega
  have m03 := m1.trans m3
  refine ⟨_, rfl, le_line (by simp), fun E hE => ?_⟩
  have nE := Mod.refl (ms := []).new (o := .lst []) hE
  have e4 := nE.keep _ _ e3 (by simp)
  have hbs4 := pairedMap (fun _ _ h => show At3 _ _ _ from nE.tup _ _ h) hbs
  refine ⟨.list ((us.map (rank z.cps.toList)).map d3), .list [], .lst (SqL.of e4) (dp3 hbs4), .lst (SqL.of upd_same) .nil, shaped3 hok hlen, rfl, _, rfl, ?_⟩
  have m04 := m03.trans nE
  cases hus2 : us with
  | nil =>
    subst hus2
    refine iteTe (by simp [PyData.eqv, PyData.eqvAll]) (qN _ m04 fun u hu hr => ?_)
    have := (hmemU u).mpr ⟨hu, hr⟩
    cases this
  | cons u0 ur =>
    refine iteFe (by simp [PyData.eqv, PyData.eqvAll]) ?_
    have hne : us.map (rank z.cps.toList) ≠ [] := by rw [hus2]; simp
    have pick : ∀ {j : Nat} {b : Addr} {r : T3}, bs[j]? = some b → (us.map (rank z.cps.toList))[j]? = some r → (∀ r' ∈ us.map (rank z.cps.toList), ¬ Lt3 r' r) → ∃ u, r = rank z.cps.toList u ∧ BestIn p z.cps.toList u := fun {j b r} h1 h2 h3 => by
      obtain ⟨u, hu, rfl⟩ := List.mem_map.mp (List.mem_of_getElem? h2)
      obtain ⟨g1, g2⟩ := (hmemU u).mp hu
      exact ⟨u, rfl, g1, g2, fun v hv hr => h3 _ (List.mem_map.mpr ⟨v, (hmemU v).mpr ⟨hv, hr⟩, rfl⟩)⟩
    refine ⟨_, rfl, D, bs, _, rfl, SqL.of e4, hbs4, hne, fun j b r hb hr2 hmin => ?_⟩
    obtain ⟨u, rfl, hbest⟩ := pick hb hr2 hmin
    obtain ⟨r', hr', hat⟩ := paired_get hbs4 hb
    rw [hr2] at hr'
    cases hr'
    refine ⟨b, _, 0, _, rfl, rfl, SqT.of hat, rfl, ?_⟩
    refine ⟨_, rfl, D, bs, _, rfl, SqL.of e4, hbs4, hne, fun j2 b2 r2 hb2 hr3 hmin2 => ?_⟩
    obtain ⟨u2, rfl, hbest2⟩ := pick hb2 hr3 hmin2
    obtain ⟨r', hr', hat2⟩ := paired_get hbs4 hb2
    rw [hr3] at hr'
    cases hr'
    refine ⟨b2, _, 2, _, rfl, rfl, SqT.of hat2, rfl, ln2, fun t ht => ?_⟩
    have n5 := Mod.refl (ms := []).new (o := .tup [.int ((rank z.cps.toList u).1 : Nat), .str (rank z.cps.toList u2).2.2]) ht
    have euu : u = u2 := by
      have h1 := hbest.min u2 hbest2.mem hbest2.reads
      have h2 := hbest2.min u hbest.mem hbest.reads
      exact rank_uniq h2 h1
    subst euu
    exact qS _ t u (m04.trans n5) hbest upd_same
end
end Fr

set_option maxHeartbeats 2000000
/-! Deep == within comprehensions; slices and sums of tuples, whole and empty ones. -/
namespace Fr
open PySem PySem.Spec PyProof.Rows L2
section
variable {X : Cx}
theorem op_eqDK (K : PySem.W.Frag) (hu : X.A.units + 64 < cLine) (h : X.K = K := by rfl) : OpR X (compareOp .Eq) (rEqD K) := by subst h; exact op_eqD hu
theorem op_neDK (K : PySem.W.Frag) (hu : X.A.units + 64 < cLine) (h : X.K = K := by rfl) : OpR X (compareOp .NotEq) (rNeD K) := by subst h; exact op_neD hu
end
end Fr

set_option maxHeartbeats 4000000
namespace Fr
open PySem PySem.Spec PyProof.Rows L2
/-! ### plain -/
theorem BestT.uniq {p : Pat} {z u u' : List Nat} {c c' : Nat} (h : BestT p z u c) (h' : BestT p z u' c') : u = u' ∧ c = c' := by
  have hc : c = c' := by
    have h1 := h.least u' h'.reads
    have h2 := h'.least u h.reads
    rw [h'.price] at h1
    rw [h.price] at h2
    omega
  subst hc
  have hl : u.length = u'.length := by
    have h1 := h.short u' h'.reads h'.price
    have h2 := h'.short u h.reads h.price
    omega
  refine ⟨?_, rfl⟩
  have key : ∀ i, i ≤ u.length → u.take i = u'.take i := by
    intro i
    induction i with
    | zero => intro _; rw [List.take_zero, List.take_zero]
    | succ i ih =>
      intro hi
      have e := ih (by omega)
      have h1 : u[i]? = some u[i] := List.getElem?_eq_getElem (by omega)
      have h2 : u'[i]? = some u'[i] := List.getElem?_eq_getElem (by omega)
      have a := h.lex u' h'.reads h'.price hl.symm i u[i] u'[i] e h1 h2
      have b := h'.lex u h.reads h.price hl i u'[i] u[i] e.symm h2 h1
      rw [List.take_add_one, List.take_add_one, h1, h2, e, Nat.le_antisymm a b]
  have := key u.length (Nat.le_refl _)
  rw [List.take_length] at this
  rw [this, hl, List.take_length]
section
variable {z : List Nat} {F : Nat → Nat → Prop} {E : Nat → Prop} {lot : Nat → List Nat} {N : Nat} {B : Bt}
/-- in the last layer a key stands where nothing is left to do -/
theorem Lay.last (hL : Least z F E lot N 0 B) (hN : ∀ s t, F s t → t ≤ N) (hl : ∀ s t, F s t → lot t ≠ []) {u : List Nat} {k : Nat × Nat} {c q : Nat} (h : Lay z F lot B u k) (h0 : B 0 0 = some (c, q)) (hq : u.length = q) :
    ∃ t, Lay z F lot B u (z.length, t) ∧ B z.length t = some (0, 0) := by
  obtain ⟨es, t, ht, w, h1, h2⟩ := h.done hL hN hl h0 hq
  have hlay : Lay z F lot B u (z.length, t) := ⟨es, w, h2⟩
  obtain ⟨c', q', h3, h4⟩ := hlay.at_ h0 fun _ => trivial
  have h5 := w.at_ h3
  rw [h0] at h5
  injection h5 with h5
  injection h5 with h5 h6
  have ec : c' = 0 := by omega
  have eq' : q' = 0 := by omega
  subst ec eq'
  exact ⟨t, hlay, h3⟩
end
/-- one step back -/
theorem LayW.back {z : List Nat} {F : Nat → Nat → Prop} {lot : Nat → List Nat} {B : Bt} {u : List Nat} {i : Nat} {k : Nat × Nat} {o : Org} (h : LayW z F lot B u i k o) (hn : ¬ (i = 0 ∧ k = (0, 0))) :
    ∃ e h', o = some (e, h') ∧ Tight z F lot B h'.1 h'.2 e k.1 k.2 ∧ ((e.told = none ∧ Lay z F lot B (u.take i) h') ∨ ∃ j c, i = j + 1 ∧ u[j]? = some c ∧ e.told = some c ∧ Lay z F lot B (u.take j) h') := by
  cases o with
  | none => exact absurd h hn
  | some o => obtain ⟨e, h'⟩ := o; exact ⟨e, h', rfl, h⟩
theorem St1.dec {z : List Nat} {F : Nat → Nat → Prop} {lot : Nat → List Nat} {p s : Nat} {e : Edit} {p1 s1 : Nat} (h : St1 z F lot p s e p1 s1) : p ≤ p1 ∧ (e.told = none → p < p1) := by
  cases h with
  | take _ => exact ⟨by omega, fun _ => by omega⟩
  | put _ _ => exact ⟨Nat.le_refl _, fun h => by cases h⟩
  | keep _ _ _ => exact ⟨by omega, fun h => by cases h⟩
  | chg _ _ _ _ => exact ⟨by omega, fun h => by cases h⟩
theorem edO_take (e : Edit) : ∃ w r, EdO e = V.str w :: r ∧ (!decide (V.str w = V.str "take")) = e.told.isSome := by
  cases e with
  | keep c => exact ⟨"keep", _, rfl, (by decide +kernel : (!decide (V.str "keep" = V.str "take")) = true)⟩
  | put c => exact ⟨"put", _, rfl, (by decide +kernel : (!decide (V.str "put" = V.str "take")) = true)⟩
  | take c => exact ⟨"take", _, rfl, (by decide +kernel : (!decide (V.str "take" = V.str "take")) = false)⟩
  | chg x c => exact ⟨"change", _, rfl, (by decide +kernel : (!decide (V.str "change" = V.str "take")) = true)⟩
section
variable {P : Program} {w : World} {K : PySem.W.Frag} {mg : Str → Option Value} {base : Heap}
def spMendRow : Sp := fun vs H Q _ => ∃ (v : V) (p : Pat) (z : Str), vs = [v, .str z] ∧ IsP H v p ∧ p.Ok ∧ p.size ≤ 60 ∧ p.deep ≤ 15 ∧ IsText z ∧ z.length ≤ 15 ∧ p.sg ≤ 15 ∧ (z.length + 1) * (p.sg + 1) < 64 ∧
  (∀ H', Mod [] H H' → IsMin (Mend p z.cps.toList) none → Q .non H') ∧ ∀ H' r vs es u c, Mod [] H H' → H' r = some (.tup vs) → Paired (EdAt H') vs es → BestT p z.cps.toList u c → IsMin (Mend p z.cps.toList) (some c) → prices es = c → tolds es = u →
    (∃ t, Path z.cps.toList (FolS p) p.lotN 0 0 es z.length t) → (∀ x ∈ u, okSign x = true) → u.length < 64 → Q (.ref r) H'
theorem has_mend_row (T : Tx w K mg) : Has P w K mg base 7 "mend_row" ["pattern", "text"] spMendRow := by
  have H_check_pattern := has_check_pattern (P := P) (base := base) T
  have H_check_text := has_check_text (P := P) (base := base) T
  have H_Mender_init := has_Mender_init (P := P) (base := base) T
  have H_Mender_least := has_Mender_least (P := P) (base := base) T
  have H_way_of := has_way_of (P := P) (base := base) T
  refine (T.has (d := d_mend_row) 25 rfl rfl rfl rfl b_mend_row sc_mend_row (fun vs H Q E h => ?_) fun cdv A outer s H vs Q E hr h => ?_)
  · obtain ⟨_, _, _, rfl, _⟩ := h; rfl
  obtain ⟨v, p, z, rfl, hp, ok, hs, hd, hz, hzl, hsg, h64, qN, qS⟩ := h
  refine ⟨_, (pss_cons (ps_expr (pe_callH H_check_pattern (hr.mono (by decide)) (by rfl) (g_check_pattern T) (pa_cons (pv 0) pa_nil)))
      (pss_cons (ps_expr (pe_callH H_check_text (hr.mono (by decide)) (by rfl) (g_check_text T) (pa_cons (pv 1) pa_nil)))
      (pss_cons (ps_set (i := 2) sc_mend_row.nd rfl (Or.inr rfl) (pe_makeH (mk_Mender T) H_Mender_init (hr.mono (by decide)) (by rfl) (g_Mender T) (pa_cons (pv 0) (pa_cons (pv 1) pa_nil))))
      (pss_cons (ps_if (pt_cmpR op_isN (pe_methH0 (c_Mender T) (m_Mender_least T) H_Mender_least (hr.mono (by decide)) (pv 2)) pe_non (nomark _)) (pss_one (ps_ret pe_non)) pss_nil)
      (pss_cons (ps_set (i := 3) sc_mend_row.nd rfl (Or.inl rfl) (pe_ix ix_tup (pe_callH H_way_of (hr.mono (by decide)) (by rfl) (g_way_of T) (pa_cons (pv 2) pa_nil)) pe_int (fun _ _ => rfl)))
      (pss_cons (ps_set (i := 4) sc_mend_row.nd rfl (Or.inl rfl) (pe_op op_sub (pe_callB call_len_seq (by rfl) (z_len T) (by decide +kernel) (pa_cons (pv 3) pa_nil)) pe_int))
      (pss_cons (ps_set (i := 5) sc_mend_row.nd rfl (Or.inl rfl) (pe_ix ix_list (pe_lc (own := [("one", 9)]) (g := (gName 9)) rfl sc_mend_row.nd (pi_list (pe_callB (cr_sortedDT rfl) (by rfl) (z_sorted T) (by decide +kernel) (pa_cons (pe_ix ix_list (pv 3) (pv 4) (fun _ _ => rfl)) pa_nil))) (blkOk_by (own := [("one", 9)]) (N := ["pattern", "text", "mender", "layers", "at", "here", "found", "edit", "there", "one"]) (sc := defScope s_mend_row) (by decide +kernel)) (fun _ _ _ _ _ => (pg_name (i := 9) sc_mend_row.nd rfl (Or.inl rfl))) (fun _ _ _ _ _ => (pts_one (PW.pt (pw_and (pt_cmpR (op_eqDK K (hu64 hr)) (pe_dget (hu_of hr) (pe_fldC (c_Mender T) (n_Mender_best T) (pv 2)) (pv 9) (fun _ _ => rfl)) (pe_tup (pa_cons pe_int (pa_cons pe_int pa_nil))) (nomark _)) (pw_and1 (pt_cmpR op_eq (pe_ix (ix_tupK K) (pv 9) pe_int (fun _ _ => rfl)) (pe_callB call_len_str (by rfl) (z_len T) (by decide +kernel) (pa_cons (pv 1) pa_nil)) (nomark _))))))) (fun _ _ _ _ _ => (pv 9))) pe_int (fun _ _ => rfl)))
      (pss_cons (ps_set (i := 6) sc_mend_row.nd rfl (Or.inl rfl) (pe_lst pa_nil))
      (pss_cons (ps_while PassesOwn.never (PW.pt (pw_or (pt_cmpR op_gt (pv 4) pe_int (nomark _)) (pw_or1 (pt_cmpR (op_neD (hu64 hr)) (pv 5) (pe_tup (pa_cons pe_int (pa_cons pe_int pa_nil))) (nomark _))))) (pss_cons (ps_asg (pe_dget (hu_of hr) (pe_ix ix_list (pv 3) (pv 4) (fun _ _ => rfl)) (pv 5) (fun _ _ => rfl)) (pg_tup rfl (pgs_cons (pg_name (i := 7) sc_mend_row.nd rfl (Or.inl rfl)) (pgs_cons (pg_name (i := 8) sc_mend_row.nd rfl (Or.inl rfl)) pgs_nil))))
      (pss_cons (ps_expr (pe_bm PySem.F.plainAttrs_list PySem.F.slot_list_append PySem.F.type_list_append mt_append (pv 6) (pa_cons (pv 7) pa_nil)))
      (pss_cons (ps_aug (i := 4) sc_mend_row.nd rfl (Or.inl rfl) (pe_callTy call_int1 (by rfl) (z_int T) (by decide +kernel) (pa_cons (pe_cmpR op_ne (pe_ix ix_tup (pv 7) pe_int (fun _ _ => rfl)) (pe_gs (by rfl) (k_TAKE T)) (nomark _)) pa_nil)) ip_sub)
      (pss_one (ps_set (i := 5) sc_mend_row.nd rfl (Or.inl rfl) (pv 8)))))))
      (pss_one (ps_ret (pe_callTy call_tuple_of (by rfl) (z_tuple T) (by decide +kernel) (pa_cons (pe_revL (pv 6)) pa_nil))))))))))))), ?_⟩
  have ezl : z.cps.toList.length = z.length := Array.length_toList
  refine ⟨_, rfl, p, v, rfl, hp, ok, hs, hd, fun H1 m1 => ?_⟩
  refine ⟨_, rfl, z, rfl, hz, fun H2 m2 => ?_⟩
  have m02 := m1.trans m2
  refine ⟨_, rfl, _, rfl, fun x dx hx hdx hne => ?_⟩
  have m3 : Mod [] H2 (upd (upd H2 dx (.own x)) x (.ins (He.ga K "Mender") dx [])) := (Mod.refl (ms := []).new hdx).new (by rw [upd_ne hne.symm]; exact hx)
  refine ⟨x, dx, v, p, z, rfl, upd_same, hp.mod (m02.trans m3), hs, hz.1, fun H4 a B kvs m4 eam ma => ⟨rfl, ?_⟩⟩
  subst eam
  refine ⟨_, rfl, a.m, a.dm, _, rfl, ma.c.m, rfl, ?_⟩
  refine ⟨a, z, B, _, _, kvs, rfl, ma.c.m, ma.br, fun H5 v5 m5 ot => ?_⟩
  have m04 : Mod [] H H4 := (m02.trans m3).step m4 fun b hb => .inr (by rw [List.mem_singleton.mp hb]; exact m02.back hx)
  have mn := ma.le.min.imp fun n => cost_iff
  have hFN : ∀ s t, FolS p s t → t ≤ p.sg := fun s t h => (FolS_in h).2
  have hln : ∀ s t, FolS p s t → p.lotN t ≠ [] := fun s t h => (lotN_ok ok h).ne
  cases hB : B 0 0 with
  | none =>
    rw [hB] at ot mn
    obtain rfl : v5 = .non := ot
    exact ⟨rfl, _, rfl, iteTe (by simp) (qN H5 (m04.trans m5) mn)⟩
  | some u0 =>
    obtain ⟨c0, q0⟩ := u0
    rw [hB] at ot mn
    obtain ⟨t, rfl, ht⟩ := ot
    have hshort := ma.le.short hFN hln hB
    rw [ezl] at hshort
    refine ⟨rfl, _, rfl, iteFe (by simp) ⟨_, rfl, a, p, z, B, kvs, c0, q0, rfl, ma.mod m5, ok, hzl, hsg, h64, hB, fun H6 t6 ll u ds m6 et el hdl hul hus hlays hne hgr => ?_⟩⟩
    obtain ⟨k0, hk0⟩ := hne
    have hbt := ma.le.bestT hFN hln hB hk0 hul hgr
    obtain ⟨tl, hlast, hBl⟩ := hk0.last ma.le hFN hln hB hul
    have ma6 := (ma.mod m5).mod m6
    have m06 := (m04.trans m5).trans m6
    -- layers, at
    refine ⟨t6, _, 1, _, rfl, rfl, SqT.of et, rfl, ?_⟩
    refine ⟨_, rfl, ll, _, rfl, .inl (SqL.of el), _, _, rfl, rfl, ?_⟩
    have eat : ((((ds.map V.ref).length : Nat) : Int) - 1) = ((q0 : Nat) : Int) := by rw [List.length_map, hdl]; omega
    -- here
    obtain ⟨dl, hdl2⟩ : ∃ dl, ds[q0]? = some dl := ⟨_, List.getElem?_eq_getElem (by omega)⟩
    obtain ⟨kvl, ldl⟩ := hlays q0 dl hdl2
    have eu : u.take q0 = u := by rw [← hul]; exact List.take_length
    rw [eu] at ldl
    have hll := ldl.len
    refine ⟨_, rfl, _, rfl, ll, _, _, _, rfl, rfl, SqL.of el, by rw [eat]; exact at_of (j := q0) rfl (by rw [List.getElem?_map, hdl2]; rfl), dl, kvl, rfl, .inl ldl.at_, by omega, ldl.small hzl hsg, fun bs sl hbl hb1 hb2 hsl => ⟨sl, rfl, ⟨_, SqL.of upd_same⟩, ?_⟩⟩
    obtain ⟨hs, hbs, hhs⟩ := refs_keys ldl.key hb1
    have hmem : ∀ k, k ∈ hs ↔ Lay z.cps.toList (FolS p) p.lotN B u k := fun k => by
      constructor
      · exact fun h => (ldl.mem k).mp (hhs k h)
      · intro h
        obtain ⟨b, g1, g2⟩ := hb2 _ ((ldl.mem k).mpr h)
        obtain ⟨j', hj'⟩ := List.mem_iff_getElem?.mp g1
        obtain ⟨k', g3, g4⟩ := paired_get hbs hj'
        rw [keyAt_uniq (show KeyAt H6 b k from g2) g4]
        exact List.mem_of_getElem? g3
    have n7 := Mod.refl (ms := []).new (o := .lst (bs.map V.ref)) hsl
    have el7 := n7.keep _ _ el (by simp)
    have hblen : hs.length = bs.length := (Paired.length hbs).symm
    have hml : (bs.map V.ref).length = hs.length := by rw [List.length_map, hblen]
    refine lc_rel (walk_list (xs := bs.map V.ref)) [] (fun i => decide (B (hs.getD i (0, 0)).1 (hs.getD i (0, 0)).2 = some (0, 0)) && decide ((hs.getD i (0, 0)).1 = z.length)) (fun i y H => ∃ b, y = V.ref b ∧ KeyAt H b (hs.getD i (0, 0))) (lt_line (by omega))
      (fun ms H H' i y m ⟨b, h1, h2⟩ => ⟨b, h1, m.tup _ _ h2⟩) (fun H8 m8 => SqL.of (m8.keep _ _ upd_same (by simp))) ?_ (fun _ _ h => nomatch h) fun D H8 ys hD m8 e8 r8 => ?_
    · rintro i x8 H8 _ R S hi m8 ⟨rfl, hx8⟩ k1 k2
      have hi' : i < hs.length := by omega
      obtain ⟨b, hb⟩ : ∃ b, bs[i]? = some b := ⟨_, List.getElem?_eq_getElem (by omega)⟩
      obtain rfl : x8 = .ref b := by rw [List.getElem?_map, hb] at hx8; injection hx8 with hx8; exact hx8.symm
      obtain ⟨k, hk, hkb⟩ := paired_get hbs hb
      have eg : hs.getD i (0, 0) = k := by rw [List.getD_eq_getElem?_getD, hk]; rfl
      rw [eg] at k1 k2
      have hkL := (hmem k).mp (List.mem_of_getElem? hk)
      obtain ⟨c', q', hBk, _⟩ := hkL.at_ hB fun _ => trivial
      have ma8 := (ma6.mod n7).mod m8
      obtain ⟨tv, h1, h2⟩ := ma8.br.some hBk
      have hkb8 : KeyAt _ b k := m8.tup _ _ (n7.tup _ _ hkb)
      refine ⟨rfl, _, rfl, a.m, a.dm, _, _, rfl, ma8.c.m, rfl, _, rfl, a.b, _, rfl, by rw [← h1]; exact DGet.t (k := bk k.1 k.2) ma8.br.at_ hkb8, ln2, fun tt htt => ?_⟩
      have n9 := Mod.refl (ms := []).new (o := .tup [.int 0, .int 0]) htt
      refine ⟨.tuple [.int _, .int _], .tuple [.int 0, .int 0], .tup (SqT.of (n9.tup _ _ h2)) (.cons (.int _) (.cons (.int _) .nil)), .tup (SqT.of upd_same) (.cons (.int _) (.cons (.int _) .nil)), rfl, rfl, _, rfl, ?_⟩
      rw [eqv_pair]
      have dB : (decide (((c' : Nat) : Int) = 0) && decide (((q' : Nat) : Int) = 0)) = decide (B k.1 k.2 = some (0, 0)) := by
        rw [hBk, Bool.eq_iff_iff, Bool.and_eq_true, decide_eq_true_eq, decide_eq_true_eq, decide_eq_true_eq]
        constructor
        · rintro ⟨h3, h4⟩; rw [show c' = 0 by omega, show q' = 0 by omega]
        · intro h; injection h with h; injection h with h3 h4; exact ⟨by rw [h3]; rfl, by rw [h4]; rfl⟩
      show if (decide (((c' : Nat) : Int) = 0) && decide (((q' : Nat) : Int) = 0)) = true then _ else _
      rw [dB]
      by_cases hz0 : B k.1 k.2 = some (0, 0)
      · refine iteTe (decide_eq_true hz0) ?_
        refine ⟨_, rfl, b, _, 0, _, rfl, rfl, SqT.of (n9.tup _ _ hkb8), rfl, _, rfl, z, rfl, le_line (by omega), rfl, _, rfl, ?_⟩
        by_cases hkz : k.1 = z.length
        · exact iteTe (decide_eq_true (by rw [hkz])) ⟨_, rfl, k1 _ _ n9 (by rw [Bool.and_eq_true]; exact ⟨decide_eq_true hz0, decide_eq_true hkz⟩) ⟨b, rfl, n9.tup _ _ hkb8⟩⟩
        · exact iteFe (decide_eq_false fun z => hkz (by injection z with z; omega)) (k2 _ n9 (by rw [decide_eq_false hkz, Bool.and_false]))
      · exact iteFe (decide_eq_false hz0) (iteF (k2 _ n9 (by rw [decide_eq_false hz0, Bool.false_and])))
    rw [hml] at r8
    have hi0 : ∃ i, i ∈ (List.range hs.length).filter fun i => decide (B (hs.getD i (0, 0)).1 (hs.getD i (0, 0)).2 = some (0, 0)) && decide ((hs.getD i (0, 0)).1 = z.length) := by
      obtain ⟨i, hi⟩ := List.mem_iff_getElem?.mp ((hmem _).mpr hlast)
      have eg : hs.getD i (0, 0) = (z.cps.toList.length, tl) := by rw [List.getD_eq_getElem?_getD, hi]; rfl
      refine ⟨i, List.mem_filter.mpr ⟨List.mem_range.mpr (List.getElem?_eq_some_iff.mp hi).1, ?_⟩⟩
      rw [eg, Bool.and_eq_true]
      exact ⟨decide_eq_true hBl, decide_eq_true ezl⟩
    have hmemf : ∀ i, i ∈ (List.range hs.length).filter (fun i => decide (B (hs.getD i (0, 0)).1 (hs.getD i (0, 0)).2 = some (0, 0)) && decide ((hs.getD i (0, 0)).1 = z.length)) → Lay z.cps.toList (FolS p) p.lotN B u (hs.getD i (0, 0)) ∧ B (hs.getD i (0, 0)).1 (hs.getD i (0, 0)).2 = some (0, 0) ∧ (hs.getD i (0, 0)).1 = z.length := fun i hi => by
      obtain ⟨h1, h2⟩ := List.mem_filter.mp hi
      rw [Bool.and_eq_true] at h2
      have h1 := List.mem_range.mp h1
      refine ⟨(hmem _).mp ?_, of_decide_eq_true h2.1, of_decide_eq_true h2.2⟩
      rw [List.getD_eq_getElem?_getD, List.getElem?_eq_getElem h1]
      exact List.getElem_mem h1
    generalize (List.range hs.length).filter (fun i => decide (B (hs.getD i (0, 0)).1 (hs.getD i (0, 0)).2 = some (0, 0)) && decide ((hs.getD i (0, 0)).1 = z.length)) = fl at *
    cases r8 with
    | nil => obtain ⟨i, hi⟩ := hi0; cases hi
    | @cons i0 y0 fl' ys' h0 _ =>
    obtain ⟨b0, rfl, hkb0⟩ := h0
    obtain ⟨hlf, hBf, hzf⟩ := hmemf i0 (List.mem_cons_self ..)
    generalize hs.getD i0 (0, 0) = kf at *
    have m08 := (m06.trans n7).trans m8
    have n78 := n7.trans m8
    refine ⟨D, _, 0, _, rfl, rfl, SqL.of e8, at_of (j := 0) rfl rfl, ?_⟩
    refine ⟨le_line (by simp), fun F hF => ?_⟩
    have nF := Mod.refl (ms := []).new (o := .lst []) hF
    have n7F := n78.trans nF
    have m0F := m08.trans nF
    have elF := n7F.keep _ _ el (by simp)
    have hllF : ll ≠ F := ne_of_none (n78.keep _ _ el (by simp)) hF
    have hFH : H F = none := m08.back hF
    have hlaysF : LaysAt _ p z B u ds := fun i d e => let ⟨kvs, h⟩ := hlays i d e; ⟨kvs, h.mod n7F (by simp)⟩
    have hdF : ∀ d ∈ ds, d ≠ F := fun d hd z => by
      obtain ⟨i, hi⟩ := List.mem_iff_getElem?.mp hd
      obtain ⟨kvs, h⟩ := hlays i d hi
      have := n78.keep _ _ h.at_ (by simp)
      rw [z, hF] at this; cases this
    generalize hHF : upd H8 F (.lst []) = HF at *
    refine ⟨fun m σ Hk => ∃ (at_ : Nat) (k : Nat × Nat) (hb : Addr) (vs : List V) (rs : List Edit) (y7 y8 y9 : Option V), σ = [some v, some (.str z), some (.ref a.m), some (.ref ll), some (.int (at_ : Nat)), some (.ref hb), some (.ref F), y7, y8, y9] ∧ Mod [] H Hk ∧ Mod [F] HF Hk ∧ KeyAt Hk hb k ∧
        Hk F = some (.lst vs) ∧ Paired (EdAt Hk) vs rs ∧ at_ ≤ q0 ∧ Lay z.cps.toList (FolS p) p.lotN B (u.take at_) k ∧ TPath z.cps.toList (FolS p) p.lotN B k.1 k.2 rs.reverse kf.1 kf.2 ∧ tolds rs.reverse = u.drop at_ ∧ m = at_ + k.1 ∧ rs.length + m ≤ 200,
      ⟨_, q0, kf, b0, [], [], none, none, none, by show [some v, some (V.str z), some (V.ref a.m), some (V.ref ll), some (V.int ((((ds.map V.ref).length : Nat) : Int) - 1)), some (V.ref b0), some (V.ref F), none, none, none] = _; rw [eat], m0F, Mod.refl, nF.tup _ _ hkb0, by rw [← hHF]; exact upd_same, .nil, Nat.le_refl _, by rw [eu]; exact hlf, .nil, by rw [← hul, List.drop_length]; rfl, rfl, by simp; omega⟩, ?_⟩
    rintro m σ Hk ⟨at_, k, hb, vs, rs, y7, y8, y9, rfl, mk, mFk, hkb, eF, hvs, hat, hlay, hpath, htold, rfl, hrl⟩
    by_cases hdone : at_ = 0 ∧ k = (0, 0)
    · obtain ⟨rfl, rfl⟩ := hdone
      refine ⟨_, rfl, _, _, rfl, rfl, _, rfl, iteFe (by rfl) ⟨_, rfl, ln2, fun tt htt => ?_⟩⟩
      have nt := Mod.refl (ms := []).new (o := .tup [.int 0, .int 0]) htt
      refine ⟨.tuple [.int _, .int _], .tuple [.int 0, .int 0], .tup (SqT.of (nt.tup _ _ hkb)) (.cons (.int _) (.cons (.int _) .nil)), .tup (SqT.of upd_same) (.cons (.int _) (.cons (.int _) .nil)), rfl, rfl, _, rfl, iteFe (by rw [eqv_pair]; rfl) ?_⟩
      have eF2 := nt.keep _ _ eF (by simp)
      refine ⟨_, rfl, F, vs, rfl, SqL.of eF2, fun l hl => ⟨l, _, rfl, .inl ⟨SqL.of upd_same, fun r hr => ?_⟩⟩⟩
      have nl := Mod.refl (ms := []).new (o := .lst vs.reverse) hl
      have nr := Mod.refl (ms := []).new (o := .tup vs.reverse) hr
      have hB2 := hpath.at_ hBf
      rw [hB] at hB2
      injection hB2 with hB2
      injection hB2 with hB3 hB4
      have hp := hpath.path
      rw [hzf] at hp
      rw [List.drop_zero] at htold
      exact qS _ r _ rs.reverse u c0 (((mk.trans nt).trans nl).trans nr) upd_same (pd_rev (pd_imp (fun _ _ h => ((EdAt.mod nt h).mod nl).mod nr) hvs)) hbt mn (by omega) htold ⟨kf.2, hp⟩ hus (by omega)
    · refine ⟨_, rfl, _, _, rfl, rfl, _, rfl, ite2 (fun c => ?_) (fun c => ⟨_, rfl, ln2, fun tt htt => ?_⟩)⟩
      · have m8 : Mod [] Hk Hk := Mod.refl
        show ∃ _, _
        have hat1 : at_ < ds.length := by omega
        have mkk := mk.trans m8
        have mFk8 := mFk.trans m8.nil
        have hkb8 := m8.tup _ _ hkb
        have eF8 := m8.keep _ _ eF (by simp)
        have hvs8 := pd_imp (fun _ _ h => EdAt.mod m8 h) hvs
        have el8 := mFk8.keep _ _ elF (fun z => hllF (List.mem_singleton.mp z))
        obtain ⟨dk, hdk⟩ : ∃ dk, ds[at_]? = some dk := ⟨_, List.getElem?_eq_getElem hat1⟩
        obtain ⟨kvk, ldk⟩ := hlaysF at_ dk hdk
        have ldk8 := ldk.mod mFk8 (fun z => hdF dk (List.mem_of_getElem? hdk) (List.mem_singleton.mp z))
        have hsome := (ldk8.get k).mpr hlay
        obtain ⟨v1, hv1⟩ := Option.isSome_iff_exists.mp hsome
        obtain ⟨o, ho, hlw⟩ := ldk8.val k v1 hv1
        obtain ⟨e, k', rfl, htight, hback⟩ := hlw.back hdone
        obtain ⟨t1, x1, f1, rfl, ht1, hx1, hf1⟩ := ho
        obtain ⟨te, rfl, hte⟩ := hx1
        obtain ⟨w1, r1, ew1, hw1⟩ := edO_take e
        rw [ew1] at hte
        refine ⟨fun σ' H' => ∃ m', m' < _ ∧ _, fun _ _ h => h, ?_⟩
        refine ⟨_, rfl, _, rfl, ll, _, _, _, rfl, rfl, SqL.of el8, at_of (j := at_) rfl (by rw [List.getElem?_map, hdk]; rfl), _, rfl, dk, _, rfl, by rw [← hv1]; exact DGet.t (k := bk k.1 k.2) ldk8.at_ hkb8, t1, _, rfl, SqT.of ht1, rfl, _, _, rfl, _, _, rfl, rfl, ?_⟩
        have hlen := pd_len hvs
        refine ⟨_, rfl, ty_lst eF8, _, rfl, F, vs, _, rfl, rfl, eF8, lt_line (by omega), ?_⟩
        have mP : Mod [F] _ (upd (Hk) F (.lst (vs ++ [.ref te]))) := Mod.refl.put eF8 (fun _ z => nomatch z) (List.mem_singleton.mpr rfl)
        refine ⟨_, rfl, _, rfl, te, _, 0, .str w1, rfl, rfl, SqT.of (mP.tup _ _ hte), at_of (j := 0) rfl rfl, rfl, .inr ⟨_, rfl, _, _, rfl, rfl, ?_⟩⟩
        rw [hw1]
        have hd := htight.st.dec
        have hpath' : TPath z.cps.toList (FolS p) p.lotN B k'.1 k'.2 (rs ++ [e]).reverse kf.1 kf.2 := by
          rw [List.reverse_append]
          exact .cons htight hpath
        have hvs' : Paired (EdAt (upd (Hk) F (.lst (vs ++ [.ref te])))) (vs ++ [.ref te]) (rs ++ [e]) := pd_snoc (F := EdAt _) ⟨te, rfl, by rw [ew1]; exact mP.tup _ _ hte⟩ (pd_imp (fun _ _ h => EdAt.mod mP h) hvs8)
        have hmk := mkk.putNew (o := .lst (vs ++ [.ref te])) eF8 hFH
        have hmF := mFk8.trans mP
        rcases hback with ⟨htn, hlb⟩ | ⟨j, cc, rfl, huj, htc, hlb⟩
        · rw [htn]
          have := hd.2 htn
          refine ⟨_, rfl, _, ?_, at_, k', f1, vs ++ [.ref te], rs ++ [e], _, _, _, rfl, hmk, hmF, mP.tup _ _ hf1, upd_same, hvs', hat, hlb, hpath', ?_, rfl, ?_⟩
          · omega
          · rw [List.reverse_append]
            show tolds (e :: rs.reverse) = _
            rw [tolds_cons, htn, htold]; rfl
          · rw [List.length_append]; simp; omega
        · rw [htc]
          refine ⟨_, rfl, _, ?_, j, k', f1, vs ++ [.ref te], rs ++ [e], some (.ref te), some (.ref f1), y9, ?_, hmk, hmF, mP.tup _ _ hf1, upd_same, hvs', by omega, hlb, hpath', ?_, rfl, ?_⟩
          · omega
          · have ej : (((j + 1 : Nat) : Int) - (if (some cc).isSome = true then 1 else 0)) = ((j : Nat) : Int) := by simp
            rw [← ej]; rfl
          · rw [List.reverse_append]
            show tolds (e :: rs.reverse) = _
            rw [tolds_cons, htc, htold]
            obtain ⟨hj1, hj2⟩ := List.getElem?_eq_some_iff.mp huj
            rw [List.drop_eq_getElem_cons hj1, hj2]; rfl
          · rw [List.length_append]; simp; omega
      · have m8 : Mod [] Hk (upd Hk tt (.tup [.int 0, .int 0])) := Mod.refl.new htt
        refine ⟨.tuple [.int _, .int _], .tuple [.int 0, .int 0], .tup (SqT.of (m8.tup _ _ hkb)) (.cons (.int _) (.cons (.int _) .nil)), .tup (SqT.of upd_same) (.cons (.int _) (.cons (.int _) .nil)), rfl, rfl, _, rfl, iteTe ?_ ?_⟩
        · have hz0 : at_ = 0 := by have h : ¬ ((0 : Int) < (at_ : Nat)) := fun h => c (decide_eq_true h); omega
          have hk : ¬ (((k.1 : Nat) : Int) = 0 ∧ ((k.2 : Nat) : Int) = 0) := fun ⟨h1, h2⟩ => hdone ⟨hz0, Prod.ext (by show k.1 = 0; omega) (by show k.2 = 0; omega)⟩
          rw [eqv_pair, ← Bool.decide_and, decide_eq_false hk]; rfl
        have hat1 : at_ < ds.length := by omega
        have mkk := mk.trans m8
        have mFk8 := mFk.trans m8.nil
        have hkb8 := m8.tup _ _ hkb
        have eF8 := m8.keep _ _ eF (by simp)
        have hvs8 := pd_imp (fun _ _ h => EdAt.mod m8 h) hvs
        have el8 := mFk8.keep _ _ elF (fun z => hllF (List.mem_singleton.mp z))
        obtain ⟨dk, hdk⟩ : ∃ dk, ds[at_]? = some dk := ⟨_, List.getElem?_eq_getElem hat1⟩
        obtain ⟨kvk, ldk⟩ := hlaysF at_ dk hdk
        have ldk8 := ldk.mod mFk8 (fun z => hdF dk (List.mem_of_getElem? hdk) (List.mem_singleton.mp z))
        have hsome := (ldk8.get k).mpr hlay
        obtain ⟨v1, hv1⟩ := Option.isSome_iff_exists.mp hsome
        obtain ⟨o, ho, hlw⟩ := ldk8.val k v1 hv1
        obtain ⟨e, k', rfl, htight, hback⟩ := hlw.back hdone
        obtain ⟨t1, x1, f1, rfl, ht1, hx1, hf1⟩ := ho
        obtain ⟨te, rfl, hte⟩ := hx1
        obtain ⟨w1, r1, ew1, hw1⟩ := edO_take e
        rw [ew1] at hte
        refine ⟨fun σ' H' => ∃ m', m' < _ ∧ _, fun _ _ h => h, ?_⟩
        refine ⟨_, rfl, _, rfl, ll, _, _, _, rfl, rfl, SqL.of el8, at_of (j := at_) rfl (by rw [List.getElem?_map, hdk]; rfl), _, rfl, dk, _, rfl, by rw [← hv1]; exact DGet.t (k := bk k.1 k.2) ldk8.at_ hkb8, t1, _, rfl, SqT.of ht1, rfl, _, _, rfl, _, _, rfl, rfl, ?_⟩
        have hlen := pd_len hvs
        refine ⟨_, rfl, ty_lst eF8, _, rfl, F, vs, _, rfl, rfl, eF8, lt_line (by omega), ?_⟩
        have mP : Mod [F] _ (upd (upd Hk tt (.tup [.int 0, .int 0])) F (.lst (vs ++ [.ref te]))) := Mod.refl.put eF8 (fun _ z => nomatch z) (List.mem_singleton.mpr rfl)
        refine ⟨_, rfl, _, rfl, te, _, 0, .str w1, rfl, rfl, SqT.of (mP.tup _ _ hte), at_of (j := 0) rfl rfl, rfl, .inr ⟨_, rfl, _, _, rfl, rfl, ?_⟩⟩
        rw [hw1]
        have hd := htight.st.dec
        have hpath' : TPath z.cps.toList (FolS p) p.lotN B k'.1 k'.2 (rs ++ [e]).reverse kf.1 kf.2 := by
          rw [List.reverse_append]
          exact .cons htight hpath
        have hvs' : Paired (EdAt (upd (upd Hk tt (.tup [.int 0, .int 0])) F (.lst (vs ++ [.ref te])))) (vs ++ [.ref te]) (rs ++ [e]) := pd_snoc (F := EdAt _) ⟨te, rfl, by rw [ew1]; exact mP.tup _ _ hte⟩ (pd_imp (fun _ _ h => EdAt.mod mP h) hvs8)
        have hmk := mkk.putNew (o := .lst (vs ++ [.ref te])) eF8 hFH
        have hmF := mFk8.trans mP
        rcases hback with ⟨htn, hlb⟩ | ⟨j, cc, rfl, huj, htc, hlb⟩
        · rw [htn]
          have := hd.2 htn
          refine ⟨_, rfl, _, ?_, at_, k', f1, vs ++ [.ref te], rs ++ [e], _, _, _, rfl, hmk, hmF, mP.tup _ _ hf1, upd_same, hvs', hat, hlb, hpath', ?_, rfl, ?_⟩
          · omega
          · rw [List.reverse_append]
            show tolds (e :: rs.reverse) = _
            rw [tolds_cons, htn, htold]; rfl
          · rw [List.length_append]; simp; omega
        · rw [htc]
          refine ⟨_, rfl, _, ?_, j, k', f1, vs ++ [.ref te], rs ++ [e], some (.ref te), some (.ref f1), y9, ?_, hmk, hmF, mP.tup _ _ hf1, upd_same, hvs', by omega, hlb, hpath', ?_, rfl, ?_⟩
          · omega
          · have ej : (((j + 1 : Nat) : Int) - (if (some cc).isSome = true then 1 else 0)) = ((j : Nat) : Int) := by simp
            rw [← ej]; rfl
          · rw [List.reverse_append]
            show tolds (e :: rs.reverse) = _
            rw [tolds_cons, htc, htold]
            obtain ⟨hj1, hj2⟩ := List.getElem?_eq_some_iff.mp huj
            rw [List.drop_eq_getElem_cons hj1, hj2]; rfl
          · rw [List.length_append]; simp; omega
end
end Fr

set_option maxHeartbeats 4000000
namespace Fr
open PySem PySem.Spec PyProof.Rows L2
/-! ### plain: edits, and what a row of them does -/
def Edit.args : Edit → List Nat
  | .keep c => [c] | .put c => [c] | .take c => [c] | .chg x c => [x, c]
def Edit.word : Edit → Str
  | .keep _ => "keep" | .put _ => "put" | .take _ => "take" | .chg _ _ => "change"
theorem edO_eq (e : Edit) : EdO e = V.str e.word :: e.args.map fun c => V.str ⟨#[c]⟩ := by cases e <;> rfl
def Edit.isSame : Edit → Bool
  | .chg x c => decide (x = c)
  | _ => false
def edB (e : Edit) : Bool := e.args.all okSign && !e.isSame
def doneP (z : List Nat) : Nat → List Edit → Option (List Nat)
  | p, [] => if p = z.length then some [] else none
  | p, e :: es => match e.src with
    | none => (doneP z p es).map (e.told.toList ++ ·)
    | some x => if z[p]? = some x then (doneP z (p + 1) es).map (e.told.toList ++ ·) else none
def rawD (z : List Nat) (es : List Edit) : Option (List Nat) := if es.all edB then doneP z 0 es else none
theorem path_done {z : List Nat} {F : Nat → Nat → Prop} {lot : Nat → List Nat} {p s : Nat} {es : List Edit} {p2 s2 : Nat} (h : Path z F lot p s es p2 s2) : p2 = z.length → doneP z p es = some (tolds es) := by
  induction h with
  | nil => intro e; unfold doneP; rw [if_pos e]; rfl
  | @cons p s p1 s1 p2 s2 e es h k ih =>
    intro hp
    have ih := ih hp
    rw [tolds_cons]
    cases h with
    | take hx => show (if z[p]? = some _ then _ else _) = _; rw [if_pos hx, ih]; rfl
    | put _ _ => show (doneP z p es).map _ = _; rw [ih]; rfl
    | keep _ _ hx => show (if z[p]? = some _ then _ else _) = _; rw [if_pos hx, ih]; rfl
    | chg _ _ hx _ => show (if z[p]? = some _ then _ else _) = _; rw [if_pos hx, ih]; rfl
/-- the signs told, joined -/
theorem join_signs (cs : List Nat) : Txt.join "" (cs.map fun c => (⟨#[c]⟩ : Str)) = ⟨cs.toArray⟩ := by
  have h2 : (TL.joinL [] (cs.map fun c => [c])) = cs := by
    induction cs with
    | nil => rfl
    | cons c r ih =>
      cases r with
      | nil => rfl
      | cons c' r' =>
        show [c] ++ ([] ++ TL.joinL [] ((c' :: r').map fun c => [c])) = c :: c' :: r'
        rw [ih]; rfl
  have h1 := SX.join_S [] (cs.map fun c => [c])
  rw [h2, List.map_map] at h1
  exact h1
theorem signs_sum (cs : List Nat) : (cs.map ((fun x : Str => x.length) ∘ fun c => (⟨#[c]⟩ : Str))).sum = cs.length := by
  induction cs with
  | nil => rfl
  | cons c r ih => rw [List.map_cons, List.sum_cons, ih, List.length_cons]; show 1 + _ = _; omega
section
variable {P : Program} {w : World} {K : PySem.W.Frag} {mg : Str → Option Value} {base : Heap}
def spIsSign : Sp := fun vs H Q _ => ∃ (c : Nat), vs = [.str ⟨#[c]⟩] ∧ ∀ H', Mod [] H H' → Q (.bl (okSign c)) H'
theorem has_is_sign (T : Tx w K mg) : Has P w K mg base 1 "is_sign" ["thing"] spIsSign := by
  refine (T.has (d := d_is_sign) 26 rfl rfl rfl rfl b_is_sign sc_is_sign (fun vs H Q E h => ?_) fun cdv A outer s H vs Q E hr h => ?_)
  · obtain ⟨_, rfl, _⟩ := h; rfl
  obtain ⟨c, rfl, q⟩ := h
  refine ⟨_, (pss_one (ps_ret (pe_and (pe_callB call_isiB (by rfl) (z_isinstance T) (by decide +kernel) (pa_cons (pv 0) (pa_cons (pe_bltn (v := .ty "str") (by rfl) (z_str T) (by decide +kernel) rfl) pa_nil))) (pe_and (pe_cmpR op_eq (pe_callB call_len_str (by rfl) (z_len T) (by decide +kernel) (pa_cons (pv 0) pa_nil)) pe_int (nomark _)) (pe_one (pe_cmpR op_in_sign (pv 0) (pe_gs (by rfl) (k_SIGNS T)) rfl)))))), ?_⟩
  refine ⟨_, rfl, _, _, true, rfl, isb_str, true, rfl, iteT ?_⟩
  refine ⟨_, rfl, _, rfl, le_line (by show 1 ≤ _; decide), rfl, true, rfl, iteT ?_⟩
  exact ⟨_, rfl, c, _, rfl, rfl, q _ Mod.refl⟩
def spIsEdit : Sp := fun vs H Q _ => ∃ (v : V) (e : Edit), vs = [v] ∧ EdAt H v e ∧ ∀ H', Mod [] H H' → Q (.bl (edB e)) H'
theorem has_is_edit (T : Tx w K mg) : Has P w K mg base 2 "is_edit" ["thing"] spIsEdit := by
  have H_is_sign := has_is_sign (P := P) (base := base) T
  refine (T.has (d := d_is_edit) 27 rfl rfl rfl rfl b_is_edit sc_is_edit (fun vs H Q E h => ?_) fun cdv A outer s H vs Q E hr h => ?_)
  · obtain ⟨_, _, rfl, _⟩ := h; rfl
  obtain ⟨v, e, rfl, ⟨t, rfl, ht⟩, q⟩ := h
  refine ⟨_, (pss_cons (ps_if (PW.pt (pw_or (pt_not (pt_val (pe_callB call_isiB (by rfl) (z_isinstance T) (by decide +kernel) (pa_cons (pv 0) (pa_cons (pe_bltn (v := .ty "tuple") (by rfl) (z_tuple T) (by decide +kernel) rfl) pa_nil))))) (pw_or (pt_cmpR op_notIn_seq (pe_callB call_len_seq (by rfl) (z_len T) (by decide +kernel) (pa_cons (pv 0) pa_nil)) (pe_tup (pa_cons pe_int (pa_cons pe_int pa_nil))) rfl) (pw_or1 (pt_not (pt_val (pe_callB call_isiB (by rfl) (z_isinstance T) (by decide +kernel) (pa_cons (pe_ix ix_tup (pv 0) pe_int (fun _ _ => rfl)) (pa_cons (pe_bltn (v := .ty "str") (by rfl) (z_str T) (by decide +kernel) rfl) pa_nil))))))))) (pss_one (ps_ret pe_bl)) pss_nil)
      (pss_cons (ps_if (pt_not (pt_val (pe_callB (cr_all rfl) (by rfl) (z_all T) (by decide +kernel) (pa_cons (pe_lc (own := [("one", 1)]) (g := (gName 1)) (tt := tYes) rfl sc_is_edit.nd (pi_tup (pe_slice sl_tup (pv 0) (po_some pe_int) po_none)) (blkOk_by (own := [("one", 1)]) (N := ["thing", "one"]) (sc := defScope s_is_edit) (by decide +kernel)) (fun _ _ _ _ _ => (pg_name (i := 1) sc_is_edit.nd rfl (Or.inl rfl))) (fun _ _ _ _ _ => pts_nil) (fun _ _ _ _ _ => (pe_callH H_is_sign (hr.mono (by decide)) (by rfl) (g_is_sign T) (pa_cons (pv 1) pa_nil)))) pa_nil)))) (pss_one (ps_ret pe_bl)) pss_nil)
      (pss_cons (ps_if (pt_cmpR op_eq (pe_ix ix_tup (pv 0) pe_int (fun _ _ => rfl)) (pe_gs (by rfl) (k_CHANGE T)) (nomark _)) (pss_one (ps_ret (pe_and (pe_cmpR op_eq (pe_callB call_len_seq (by rfl) (z_len T) (by decide +kernel) (pa_cons (pv 0) pa_nil)) pe_int (nomark _)) (pe_one (pe_cmpR op_ne (pe_ix ix_tup (pv 0) pe_int (fun _ _ => rfl)) (pe_ix ix_tup (pv 0) pe_int (fun _ _ => rfl)) (nomark _)))))) pss_nil)
      (pss_one (ps_ret (pe_and (pe_cmpR op_in_seq (pe_ix ix_tup (pv 0) pe_int (fun _ _ => rfl)) (pe_tup (pa_cons (pe_gs (by rfl) (k_KEEP T)) (pa_cons (pe_gs (by rfl) (k_PUT T)) (pa_cons (pe_gs (by rfl) (k_TAKE T)) pa_nil)))) rfl) (pe_one (pe_cmpR op_eq (pe_callB call_len_seq (by rfl) (z_len T) (by decide +kernel) (pa_cons (pv 0) pa_nil)) pe_int (nomark _))))))))), ?_⟩
  rw [edO_eq] at ht
  have hlen : (V.str e.word :: e.args.map fun c => V.str ⟨#[c]⟩).length = 1 + e.args.length := by rw [List.length_cons, List.length_map]; omega
  have hal : e.args.length = 1 ∨ e.args.length = 2 := by cases e <;> simp [Edit.args]
  refine ⟨_, rfl, _, _, true, rfl, isb_tup ht, true, rfl, iteF ?_⟩
  refine ⟨_, rfl, t, _, rfl, .inr (SqT.of ht), ln2, fun tt htt => ⟨tt, [.int 2, .int 3], rfl, .inr (SqT.of upd_same), rfl, rfl, _, rfl, iteFe ?_ ?_⟩⟩
  · rw [hlen]
    rcases hal with h | h <;> rw [h] <;> rfl
  have n1 := Mod.refl (ms := []).new (o := .tup [.int 2, .int 3]) htt
  have ht1 := n1.tup _ _ ht
  refine ⟨_, rfl, t, _, 0, .str e.word, rfl, rfl, SqT.of ht1, at_of (j := 0) rfl rfl, _, _, true, rfl, isb_str, true, rfl, iteF ?_⟩
  refine ⟨_, rfl, _, rfl, t, _, rfl, SqT.of ht1, ?_, fun t2 ht2 => ?_⟩
  · rintro ⟨h, _⟩
    rw [six1, hlen] at h
    omega
  have ecut : cutV (V.str e.word :: e.args.map fun c => V.str ⟨#[c]⟩) (some 1) none = e.args.map fun c => V.str ⟨#[c]⟩ := by
    unfold cutV
    rw [six1, HT.sIx_none, hlen, show min 1 (1 + e.args.length) = 1 by omega, List.drop_one, List.tail_cons]
    exact List.take_of_length_le (by rw [List.length_map]; omega)
  rw [ecut]
  have n2 := Mod.refl (ms := []).new (o := .tup (e.args.map fun c => V.str ⟨#[c]⟩)) ht2
  refine ⟨t2, rfl, ⟨_, SqT.of upd_same⟩, ?_⟩
  refine lc_map (walk_tup (xs := e.args.map fun c => V.str ⟨#[c]⟩)) [] (fun i => V.bl (okSign (e.args.getD i 0))) (lt_line (by rw [List.length_map]; omega)) (fun H3 m3 => SqT.of (m3.tup _ _ upd_same)) ?_ (fun _ _ h => nomatch h) fun D H3 hD m3 e3 => ?_
  · rintro i y _ H3 R hi m3 ⟨rfl, hy⟩ k
    have hi' : i < e.args.length := by rw [List.length_map] at hi; exact hi
    obtain rfl : y = .str ⟨#[e.args[i]]⟩ := by rw [List.getElem?_map, List.getElem?_eq_getElem hi'] at hy; injection hy with hy; exact hy.symm
    have eg : e.args.getD i 0 = e.args[i] := by rw [List.getD_eq_getElem?_getD, List.getElem?_eq_getElem hi']; rfl
    rw [eg] at k
    exact ⟨rfl, _, rfl, _, rfl, fun H4 m4 => k _ m4⟩
  have e4 : (List.range (e.args.map fun c => V.str ⟨#[c]⟩).length).map (fun i => V.bl (okSign (e.args.getD i 0))) = (e.args.map okSign).map V.bl := by
    rw [List.length_map]
    exact (range_map_get e.args fun c => V.bl (okSign c)).trans (by rw [List.map_map]; rfl)
  rw [e4] at e3
  have m03 := (n1.trans n2).trans m3
  have ht3 := (n2.trans m3).tup _ _ ht1
  refine ⟨D, e.args.map okSign, rfl, SqL.of e3, ?_⟩
  have eall : (e.args.map okSign).all id = e.args.all okSign := by rw [List.all_map]; rfl
  rw [eall]
  have qe := q H3 m03
  unfold edB at qe
  cases ha : e.args.all okSign with
  | false =>
    rw [ha] at qe
    exact ⟨false, rfl, iteT qe⟩
  | true =>
    rw [ha, Bool.true_and] at qe
    refine ⟨true, rfl, iteF ?_⟩
    refine ⟨_, rfl, t, _, 0, .str e.word, rfl, rfl, SqT.of ht3, at_of (j := 0) rfl rfl, rfl, _, rfl, ?_⟩
    cases e with
    | chg x c =>
      refine iteTe (show decide (V.str "change" = V.str "change") = true by decide +kernel) ?_
      refine ⟨_, rfl, t, _, rfl, .inr (SqT.of ht3), rfl, true, rfl, iteT ?_⟩
      refine ⟨_, rfl, t, _, 1, .str ⟨#[x]⟩, rfl, rfl, SqT.of ht3, at_of (j := 1) rfl rfl, _, rfl, t, _, 2, .str ⟨#[c]⟩, rfl, rfl, SqT.of ht3, at_of (j := 2) rfl rfl, rfl, ?_⟩
      have eb : (!decide (V.str ⟨#[x]⟩ = V.str ⟨#[c]⟩)) = !decide (x = c) := by
        by_cases h : x = c
        · rw [h]; simp
        · rw [decide_eq_false h, decide_eq_false fun z => h (by injection z with z; injection z with z; injection z with z; injection z)]
      rw [eb]
      exact qe
    | keep c =>
      refine iteFe (show decide (V.str "keep" = V.str "change") = false by decide +kernel) ?_
      refine ⟨_, rfl, t, _, 0, .str "keep", rfl, rfl, SqT.of ht3, at_of (j := 0) rfl rfl, ln3, fun t5 ht5 => ⟨t5, [.str "keep", .str "put", .str "take"], rfl, .inr (SqT.of upd_same), rfl, rfl, true, by decide +kernel, iteT ?_⟩⟩
      have n5 := Mod.refl (ms := []).new (o := .tup [.str "keep", .str "put", .str "take"]) ht5
      have hb : edB (.keep c) = true := by unfold edB; rw [ha]; rfl
      have qe5 := q _ (m03.trans n5)
      rw [hb] at qe5
      exact ⟨_, rfl, t, _, rfl, .inr (SqT.of (n5.tup _ _ ht3)), rfl, qe5⟩
    | put c =>
      refine iteFe (show decide (V.str "put" = V.str "change") = false by decide +kernel) ?_
      refine ⟨_, rfl, t, _, 0, .str "put", rfl, rfl, SqT.of ht3, at_of (j := 0) rfl rfl, ln3, fun t5 ht5 => ⟨t5, [.str "keep", .str "put", .str "take"], rfl, .inr (SqT.of upd_same), rfl, rfl, true, by decide +kernel, iteT ?_⟩⟩
      have n5 := Mod.refl (ms := []).new (o := .tup [.str "keep", .str "put", .str "take"]) ht5
      have hb : edB (.put c) = true := by unfold edB; rw [ha]; rfl
      have qe5 := q _ (m03.trans n5)
      rw [hb] at qe5
      exact ⟨_, rfl, t, _, rfl, .inr (SqT.of (n5.tup _ _ ht3)), rfl, qe5⟩
    | take c =>
      refine iteFe (show decide (V.str "take" = V.str "change") = false by decide +kernel) ?_
      refine ⟨_, rfl, t, _, 0, .str "take", rfl, rfl, SqT.of ht3, at_of (j := 0) rfl rfl, ln3, fun t5 ht5 => ⟨t5, [.str "keep", .str "put", .str "take"], rfl, .inr (SqT.of upd_same), rfl, rfl, true, by decide +kernel, iteT ?_⟩⟩
      have n5 := Mod.refl (ms := []).new (o := .tup [.str "keep", .str "put", .str "take"]) ht5
      have hb : edB (.take c) = true := by unfold edB; rw [ha]; rfl
      have qe5 := q _ (m03.trans n5)
      rw [hb] at qe5
      exact ⟨_, rfl, t, _, rfl, .inr (SqT.of (n5.tup _ _ ht3)), rfl, qe5⟩
end
end Fr

set_option maxHeartbeats 4000000
namespace Fr
open PySem PySem.Spec PyProof.Rows L2
theorem put_is (e : Edit) : (!decide (V.str e.word = V.str "put")) = e.src.isSome := by
  cases e with
  | keep _ => exact (by decide +kernel : (!decide (V.str "keep" = V.str "put")) = true)
  | put _ => exact (by decide +kernel : (!decide (V.str "put" = V.str "put")) = false)
  | take _ => exact (by decide +kernel : (!decide (V.str "take" = V.str "put")) = true)
  | chg _ _ => exact (by decide +kernel : (!decide (V.str "change" = V.str "put")) = true)
theorem take_is (e : Edit) : (!decide (V.str e.word = V.str "take")) = e.told.isSome := by
  cases e with
  | keep _ => exact (by decide +kernel : (!decide (V.str "keep" = V.str "take")) = true)
  | put _ => exact (by decide +kernel : (!decide (V.str "put" = V.str "take")) = true)
  | take _ => exact (by decide +kernel : (!decide (V.str "take" = V.str "take")) = false)
  | chg _ _ => exact (by decide +kernel : (!decide (V.str "change" = V.str "take")) = true)
theorem keep_is (e : Edit) : (!decide (V.str e.word = V.str "keep")) = decide (e.price = 1) := by
  cases e with
  | keep _ => exact (by decide +kernel : (!decide (V.str "keep" = V.str "keep")) = false)
  | put _ => exact (by decide +kernel : (!decide (V.str "put" = V.str "keep")) = true)
  | take _ => exact (by decide +kernel : (!decide (V.str "take" = V.str "keep")) = true)
  | chg _ _ => exact (by decide +kernel : (!decide (V.str "change" = V.str "keep")) = true)
theorem price_01 (e : Edit) : e.price = if e.price = 1 then 1 else 0 := by cases e <;> rfl
theorem src_arg {e : Edit} {x : Nat} (h : e.src = some x) : ∃ r, e.args = x :: r := by
  cases e with
  | put _ => cases h
  | keep c => cases h; exact ⟨_, rfl⟩
  | take c => cases h; exact ⟨_, rfl⟩
  | chg a c => cases h; exact ⟨_, rfl⟩
theorem told_last {e : Edit} {c : Nat} (h : e.told = some c) : atI (V.str e.word :: e.args.map fun c => V.str ⟨#[c]⟩) (-1) = some (.str ⟨#[c]⟩) := by
  cases e with
  | take _ => cases h
  | keep _ => cases h; rfl
  | put _ => cases h; rfl
  | chg _ _ => cases h; rfl
theorem sg_inj {x y : Nat} : (V.str ⟨#[x]⟩ = V.str ⟨#[y]⟩) ↔ x = y := ⟨fun z => by injection z with z; injection z with z; injection z with z; injection z, fun h => by rw [h]⟩
theorem cut_one {z : Str} {a : Nat} (h : a ≤ z.length) : cutS z (some (a : Int)) (some ((a : Int) + 1)) = (match z.cps.toList[a]? with | some c => ⟨#[c]⟩ | none => "") := by
  have ezl : z.cps.toList.length = z.length := Array.length_toList
  unfold cutS
  have e1 : HT.sIx z.length 0 (some (a : Int)) = a := by rw [HT.sIx_nat]; omega
  have e2 : HT.sIx z.length z.length (some ((a : Int) + 1)) = min (a + 1) z.length := HT.sIx_nat _ _ (a + 1)
  rw [e1, e2]
  by_cases hl : a < z.length
  · rw [List.getElem?_eq_getElem (by omega), show min (a + 1) z.length - a = 1 by omega, List.drop_eq_getElem_cons (by omega)]
    rfl
  · rw [List.getElem?_eq_none (by omega), show min (a + 1) z.length - a = 0 by omega, List.take_zero]
    rfl
theorem cut_is {z : Str} {a x : Nat} (h : a ≤ z.length) : (!decide (V.str (cutS z (some (a : Int)) (some ((a : Int) + 1))) = V.str ⟨#[x]⟩)) = !decide (z.cps.toList[a]? = some x) := by
  rw [cut_one h]
  cases hz : z.cps.toList[a]? with
  | none =>
    rw [decide_eq_false (by intro z; injection z with z; exact sg_ne x z.symm), decide_eq_false (by intro z; cases z)]
  | some c =>
    by_cases hc : c = x
    · rw [hc]; simp
    · rw [decide_eq_false fun z => hc (sg_inj.mp z), decide_eq_false fun z => hc (by injection z)]
def strO : Option (List Nat) → V
  | none => .non
  | some u => .str ⟨u.toArray⟩
def RowE (H : Hp) (v : V) (es : List Edit) : Prop := ∃ t vs, v = .ref t ∧ H t = some (.tup vs) ∧ Paired (EdAt H) vs es
theorem RowE.mod {ms : List Addr} {H H' : Hp} {v : V} {es : List Edit} (m : Mod ms H H') (h : RowE H v es) : RowE H' v es := let ⟨t, vs, h1, h2, h3⟩ := h; ⟨t, vs, h1, m.tup _ _ h2, pd_imp (fun _ _ h => h.mod m) h3⟩
section
variable {P : Program} {w : World} {K : PySem.W.Frag} {mg : Str → Option Value} {base : Heap}
def spRawDone : Sp := fun vs H Q _ => ∃ (z : Str) (v : V), vs = [.str z, v] ∧ z.length ≤ 300 ∧ ((∃ es, RowE H v es ∧ es.length ≤ 1000 ∧ ∀ H', Mod [] H H' → Q (strO (rawD z.cps.toList es)) H') ∨ ∃ t xs, v = .ref t ∧ H t = some (.lst xs) ∧ ∀ H', Mod [] H H' → Q .non H')
theorem has_raw_done (T : Tx w K mg) : Has P w K mg base 3 "raw_done" ["text", "row"] spRawDone := by
  have H_is_edit := has_is_edit (P := P) (base := base) T
  refine (T.has (d := d_raw_done) 28 rfl rfl rfl rfl b_raw_done sc_raw_done (fun vs H Q E h => ?_) fun cdv A outer s H vs Q E hr h => ?_)
  · obtain ⟨_, _, rfl, _⟩ := h; rfl
  obtain ⟨z, v, rfl, hz, h⟩ := h
  refine ⟨_, (pss_cons (ps_if (PW.pt (pw_or (pt_not (pt_val (pe_callB call_isiB (by rfl) (z_isinstance T) (by decide +kernel) (pa_cons (pv 1) (pa_cons (pe_bltn (v := .ty "tuple") (by rfl) (z_tuple T) (by decide +kernel) rfl) pa_nil))))) (pw_or1 (pt_not (pt_val (pe_callB (cr_all rfl) (by rfl) (z_all T) (by decide +kernel) (pa_cons (pe_lc (own := [("one", 5)]) (g := (gName 5)) (tt := tYes) rfl sc_raw_done.nd (pi_tup (pv 1)) (blkOk_by (own := [("one", 5)]) (N := ["text", "row", "found", "at", "edit", "one"]) (sc := defScope s_raw_done) (by decide +kernel)) (fun _ _ _ _ _ => (pg_name (i := 5) sc_raw_done.nd rfl (Or.inl rfl))) (fun _ _ _ _ _ => pts_nil) (fun _ _ _ _ _ => (pe_callH H_is_edit (hr.mono (by decide)) (by rfl) (g_is_edit T) (pa_cons (pv 5) pa_nil)))) pa_nil))))))) (pss_one (ps_ret pe_non)) pss_nil)
      (pss_cons (ps_par (i := 2) (j := 3) rfl sc_raw_done.nd rfl rfl (by decide) rfl rfl (pa_cons (pe_lst pa_nil) (pa_cons pe_int pa_nil)) (by rfl))
      (pss_cons (ps_for PassesOwn.never rfl (pi_tup (pv 1)) (pg_name (i := 4) sc_raw_done.nd rfl (Or.inl rfl)) (C8.pss_cut (ps_if (pt_cmpR op_ne (pe_ix ix_tup (pv 4) pe_int (fun _ _ => rfl)) (pe_gs (by rfl) (k_PUT T)) (nomark _)) (pss_cons (ps_if (pt_cmpR op_ne (pe_slice sl_str (pv 0) (po_some (pv 3)) (po_some (pe_op op_add (pv 3) pe_int))) (pe_ix ix_tup (pv 4) pe_int (fun _ _ => rfl)) (nomark _)) (pss_one (ps_ret pe_non)) pss_nil)
      (pss_one (ps_aug (i := 3) sc_raw_done.nd rfl (Or.inl rfl) pe_int ip_add))) pss_nil)
      (pss_one (ps_if (pt_cmpR op_ne (pe_ix ix_tup (pv 4) pe_int (fun _ _ => rfl)) (pe_gs (by rfl) (k_TAKE T)) (nomark _)) (pss_one (ps_expr (pe_bm PySem.F.plainAttrs_list PySem.F.slot_list_append PySem.F.type_list_append mt_append (pv 2) (pa_cons (pe_ix ix_tup (pv 4) (pe_un un_neg pe_int) (fun _ _ => rfl)) pa_nil)))) pss_nil))))
      (pss_one (ps_ret (pe_ifExp (pt_cmpR op_eq (pv 3) (pe_callB call_len_str (by rfl) (z_len T) (by decide +kernel) (pa_cons (pv 0) pa_nil)) (nomark _)) (pe_join pe_str (pv 2)) pe_non)))))), ?_⟩
  have ezl : z.cps.toList.length = z.length := Array.length_toList
  rcases h with ⟨es, ⟨t, vs, rfl, ht, hp⟩, hel, q⟩ | ⟨t, xs, rfl, ht, q⟩
  case inr => exact ⟨_, rfl, _, _, false, rfl, ⟨"list", .base (.lst ht), by decide +kernel⟩, false, rfl, iteTe rfl (iteT (q _ Mod.refl))⟩
  have hlen := pd_len hp
  refine ⟨_, rfl, _, _, true, rfl, isb_tup ht, true, rfl, iteF ?_⟩
  refine ⟨_, rfl, t, rfl, ⟨_, SqT.of ht⟩, ?_⟩
  refine lc_map (walk_tup (xs := vs)) [] (fun i => V.bl ((es.map edB).getD i false)) (lt_line (by omega)) (fun H3 m3 => SqT.of (m3.tup _ _ ht)) ?_ (fun _ _ h => nomatch h) fun D H3 hD m3 e3 => ?_
  · rintro i y _ H3 R hi m3 ⟨rfl, hy⟩ k
    have hie : i < es.length := by omega
    obtain ⟨e, he, hve⟩ := paired_get hp hy
    have eg : (es.map edB).getD i false = edB e := by rw [List.getD_eq_getElem?_getD, List.getElem?_map, he]; rfl
    rw [eg] at k
    exact ⟨rfl, _, rfl, y, e, rfl, hve.mod m3, fun H4 m4 => k _ m4⟩
  have e4 : (List.range vs.length).map (fun i => V.bl ((es.map edB).getD i false)) = (es.map edB).map V.bl := by
    rw [hlen, ← List.length_map (f := edB) (as := es)]
    exact range_map_get (es.map edB) V.bl
  rw [e4] at e3
  refine ⟨D, es.map edB, rfl, SqL.of e3, ?_⟩
  have eall : (es.map edB).all id = es.all edB := by rw [List.all_map]; rfl
  rw [eall]
  have hraw : rawD z.cps.toList es = if es.all edB = true then doneP z.cps.toList 0 es else none := rfl
  cases ha : es.all edB with
  | false =>
    rw [ha, if_neg (by simp)] at hraw
    rw [hraw] at q
    exact ⟨false, rfl, iteT (q _ m3)⟩
  | true =>
    rw [ha, if_pos rfl] at hraw
    rw [hraw] at q
    refine ⟨true, rfl, iteF ?_⟩
    refine ⟨le_line (by simp), fun F hF => ⟨_, _, rfl, ?_⟩⟩
    have nF := Mod.refl (ms := []).new (o := .lst []) hF
    have hFH : H F = none := m3.back hF
    have htF := (m3.trans nF).tup _ _ ht
    refine ⟨_, rfl, t, rfl, ⟨_, SqT.of htF⟩, ?_⟩
    refine for_it (walk_tup (xs := vs)) (fun i σ H4 => ∃ (at_ : Nat) (fs : List Nat) (y4 y5 : Option V), σ = [some (.str z), some (.ref t), some (.ref F), some (.int (at_ : Nat)), y4, y5] ∧ Mod [] H H4 ∧ H4 F = some (.lst (fs.map fun c => V.str ⟨#[c]⟩)) ∧ at_ ≤ z.length ∧ fs.length ≤ i ∧
        doneP z.cps.toList 0 es = (doneP z.cps.toList at_ (es.drop i)).map (fs ++ ·))
      ⟨0, [], none, none, rfl, m3.trans nF, upd_same, Nat.zero_le _, Nat.le_refl _, by rw [List.drop_zero]; cases doneP z.cps.toList 0 es <;> rfl⟩ (fun i σ H4 _ h => by obtain ⟨_, _, _, _, _, m, _⟩ := h; exact SqT.of (m.tup _ _ ht)) ?_ ?_
    · rintro i y σ _ H4 hi ⟨at_, fs, y4, y5, rfl, m4, eF, hat, hfl, hdone⟩ ⟨rfl, hy⟩
      obtain ⟨e, he, hve⟩ := paired_get hp hy
      obtain ⟨te, rfl, hte⟩ := hve.mod m4
      rw [edO_eq] at hte
      obtain ⟨he1, he2⟩ := List.getElem?_eq_some_iff.mp he
      rw [List.drop_eq_getElem_cons he1, he2] at hdone
      refine ⟨fun σ' H' => ∃ at', σ' = [some (.str z), some (.ref t), some (.ref F), some (.int (at' : Nat)), some (.ref te), y5] ∧ H' = H4 ∧ at' ≤ z.length ∧ doneP z.cps.toList at_ (e :: es.drop (i + 1)) = (doneP z.cps.toList at' (es.drop (i + 1))).map (e.told.toList ++ ·), ?_, ?_⟩
      · refine ⟨_, rfl, te, _, 0, .str e.word, rfl, rfl, SqT.of hte, at_of (j := 0) rfl rfl, rfl, _, rfl, ?_⟩
        rw [put_is]
        cases hsrc : e.src with
        | none =>
          refine iteFe rfl ⟨at_, rfl, rfl, hat, ?_⟩
          show (match e.src with | none => _ | some x => _) = _
          rw [hsrc]
        | some x =>
          obtain ⟨r, er⟩ := src_arg hsrc
          refine iteTe rfl ?_
          refine ⟨_, rfl, _, rfl, _, rfl, _, rfl, _, _, rfl, rfl, _, rfl, z, rfl, le_line (by omega), _, rfl, te, _, 1, .str ⟨#[x]⟩, rfl, rfl, SqT.of hte, at_of (j := 1) rfl (by rw [er]; rfl), rfl, _, rfl, ?_⟩
          rw [cut_is hat]
          by_cases hx : z.cps.toList[at_]? = some x
          · refine iteFe (by rw [decide_eq_true hx]; rfl) ?_
            have hlt := (List.getElem?_eq_some_iff.mp hx).1
            refine ⟨_, rfl, _, _, rfl, rfl, at_ + 1, rfl, rfl, by omega, ?_⟩
            show (match e.src with | none => _ | some x => _) = _
            rw [hsrc]
            show (if _ then _ else _) = _
            rw [if_pos hx]
          · refine iteTe (by rw [decide_eq_false hx]; rfl) ?_
            have hn : doneP z.cps.toList at_ (e :: es.drop (i + 1)) = none := by
              show (match e.src with | none => _ | some x => _) = _
              rw [hsrc]
              show (if _ then _ else _) = _
              rw [if_neg hx]
            rw [hn] at hdone
            rw [hdone] at q
            exact q _ m4
      · rintro σ' H' ⟨at', rfl, rfl, hat', hd'⟩
        rw [hd'] at hdone
        refine ⟨_, rfl, te, _, 0, .str e.word, rfl, rfl, SqT.of hte, at_of (j := 0) rfl rfl, rfl, _, rfl, ?_⟩
        rw [take_is]
        cases htl : e.told with
        | none =>
          refine iteFe rfl ⟨at', fs, _, _, rfl, m4, eF, hat', by omega, ?_⟩
          rw [hdone, htl]
          cases doneP z.cps.toList at' (es.drop (i + 1)) <;> rfl
        | some c =>
          refine iteTe rfl ⟨_, rfl, ty_lst eF, _, rfl, _, rfl, te, _, -1, .str ⟨#[c]⟩, rfl, rfl, SqT.of hte, told_last htl, F, _, _, rfl, rfl, eF, lt_line (by rw [List.length_map]; omega), ?_⟩
          refine ⟨at', fs ++ [c], _, _, rfl, m4.putNew eF hFH, by rw [upd_same, List.map_append]; rfl, hat', by rw [List.length_append]; simp; omega, ?_⟩
          rw [hdone, htl]
          cases doneP z.cps.toList at' (es.drop (i + 1)) with
          | none => rfl
          | some d => show some (fs ++ ([c] ++ d)) = some (fs ++ [c] ++ d); rw [List.append_assoc]
    · rintro σ H4 ⟨at_, fs, y4, y5, rfl, m4, eF, hat, hfl, hdone⟩
      rw [hlen, List.drop_length] at hdone
      refine ⟨_, rfl, _, rfl, z, rfl, le_line (by omega), rfl, _, rfl, ?_⟩
      by_cases hend : at_ = z.length
      · refine iteTe (decide_eq_true (by rw [hend])) ?_
        have hd2 : doneP z.cps.toList at_ [] = some [] := by show (if _ then _ else _) = _; rw [if_pos (by omega)]
        rw [hd2] at hdone
        rw [hdone] at q
        refine ⟨⟨_, rfl⟩, _, rfl, _, F, fs.map fun c => (⟨#[c]⟩ : Str), rfl, rfl, .inl (SqL.of (by rw [eF, List.map_map]; rfl)), ?_, ?_⟩
        · rw [List.map_map, List.length_map, signs_sum]
          show fs.length + fs.length * 0 ≤ _
          exact le_line (by omega)
        · rw [join_signs]
          have q4 := q _ m4
          rw [show (some []).map (fs ++ ·) = some fs by show some (fs ++ []) = _; rw [List.append_nil]] at q4
          exact q4
      · refine iteFe (decide_eq_false fun z => hend (by injection z with z; omega)) ?_
        have hd2 : doneP z.cps.toList at_ [] = none := by show (if _ then _ else _) = _; rw [if_neg (by omega)]
        rw [hd2] at hdone
        rw [hdone] at q
        exact q _ m4
end
end Fr

set_option maxHeartbeats 4000000
namespace Fr
open PySem PySem.Spec PyProof.Rows L2
theorem count_prices : ∀ es : List Edit, (es.filter fun e => decide (e.price = 1)).length = prices es
  | [] => rfl
  | e :: es => by
    have e0 := price_01 e
    rw [prices_cons, List.filter_cons, ← count_prices es]
    by_cases h : e.price = 1
    · rw [if_pos (decide_eq_true h), List.length_cons, h]; omega
    · rw [if_neg h] at e0
      rw [if_neg (by simpa using h), e0]; omega
section
variable {P : Program} {w : World} {K : PySem.W.Frag} {mg : Str → Option Value} {base : Heap}
def spDoneBy : Sp := fun vs H Q _ => ∃ (z : Str) (v : V) (es : List Edit) (u : List Nat), vs = [.str z, v] ∧ IsText z ∧ RowE H v es ∧ es.length ≤ 1000 ∧ rawD z.cps.toList es = some u ∧ ∀ H', Mod [] H H' → Q (.str ⟨u.toArray⟩) H'
theorem has_done_by (T : Tx w K mg) : Has P w K mg base 4 "done_by" ["text", "row"] spDoneBy := by
  have H_check_text := has_check_text (P := P) (base := base) T
  have H_raw_done := has_raw_done (P := P) (base := base) T
  refine (T.has (d := d_done_by) 29 rfl rfl rfl rfl b_done_by sc_done_by (fun vs H Q E h => ?_) fun cdv A outer s H vs Q E hr h => ?_)
  · obtain ⟨_, _, _, _, rfl, _⟩ := h; rfl
  obtain ⟨z, v, es, u, rfl, hz, hv, hel, hu, q⟩ := h
  refine ⟨_, (pss_cons (ps_expr (pe_callH H_check_text (hr.mono (by decide)) (by rfl) (g_check_text T) (pa_cons (pv 0) pa_nil)))
      (pss_cons (ps_set (i := 2) sc_done_by.nd rfl (Or.inl rfl) (pe_callH H_raw_done (hr.mono (by decide)) (by rfl) (g_raw_done T) (pa_cons (pv 0) (pa_cons (pv 1) pa_nil))))
      (pss_cons (ps_if (pt_cmpR op_isN (pv 2) pe_non (nomark _)) (pss_one ps_never) pss_nil)
      (pss_one (ps_ret (pv 2)))))), ?_⟩
  refine ⟨_, rfl, z, rfl, hz, fun H1 m1 => ⟨_, rfl, _, rfl, z, v, rfl, hz.1, .inl ⟨es, hv.mod m1, hel, fun H2 m2 => ?_⟩⟩⟩
  rw [hu]
  exact ⟨_, rfl, rfl, _, rfl, iteFe rfl ⟨_, rfl, q _ (m1.trans m2)⟩⟩
def spDoneByX (K : PySem.W.Frag) : Sp := fun vs H Q E => ∃ (z : Str) (v : V) (es : List Edit), vs = [.str z, v] ∧ IsText z ∧ RowE H v es ∧ es.length ≤ 1000 ∧ rawD z.cps.toList es = none ∧ ∀ H', Mod [] H H' → E (.ref (He.ga K "NoMending")) none H'
theorem has_done_byX (T : Tx w K mg) : HasF P w K mg base (L2.CX P w) 4 (He.ga K "done_by") ["text", "row"] (spDoneByX K) := by
  have H_check_text := has_check_text (P := P) (base := base) T
  have H_raw_done := has_raw_done (P := P) (base := base) T
  refine (T.hasX (d := d_done_by) 29 rfl rfl rfl rfl b_done_by sc_done_by (fun vs H Q E h => ?_) fun cdv A outer s H vs Q E hr h => ?_)
  · obtain ⟨_, _, _, rfl, _⟩ := h; rfl
  obtain ⟨z, v, es, rfl, hz, hv, hel, hu, q⟩ := h
  obtain ⟨x1, x2, x3, x4⟩ := x_NoMending T
  refine ⟨_, pss_cons (ps_expr (pe_callH H_check_text (hr.mono (by decide)) (by rfl) (g_check_text T) (pa_cons (pv 0) pa_nil)))
      (pss_cons (ps_set (i := 2) sc_done_by.nd rfl (Or.inl rfl) (pe_callH H_raw_done (hr.mono (by decide)) (by rfl) (g_raw_done T) (pa_cons (pv 0) (pa_cons (pv 1) pa_nil))))
      (pss_cons (ps_if (pt_cmpR op_isN (pv 2) pe_non (nomark _)) (pss_one (ps_raise rfl (takes_of rfl rfl rfl rfl) (pmk_own0 PySem.F.excBase_ValueError x1 (g_NoMending T) x2 (raises_own x3 x4) rfl))) pss_nil)
      (PSs.nox (pss_one (ps_ret (pv 2)))))), ?_⟩
  refine ⟨_, rfl, z, rfl, hz, fun H1 m1 => ⟨_, rfl, _, rfl, z, v, rfl, hz.1, .inl ⟨es, hv.mod m1, hel, fun H2 m2 => ?_⟩⟩⟩
  rw [hu]
  exact ⟨_, rfl, rfl, _, rfl, iteTe rfl (q _ (m1.trans m2))⟩
def RowO (H : Hp) (z : Str) (v : V) (es : List Edit) (o : Option (List Nat)) : Prop := (RowE H v es ∧ es.length ≤ 1000 ∧ rawD z.cps.toList es = o) ∨ (o = none ∧ ∃ t xs, v = .ref t ∧ H t = some (.lst xs))
theorem RowO.mod {H H' : Hp} {z : Str} {v : V} {es : List Edit} {o : Option (List Nat)} (m : Mod [] H H') : RowO H z v es o → RowO H' z v es o
  | .inl ⟨h1, h2, h3⟩ => .inl ⟨h1.mod m, h2, h3⟩
  | .inr ⟨h1, t, xs, h2, h3⟩ => .inr ⟨h1, t, xs, h2, m.keep _ _ h3 (by simp)⟩
def spRawO : Sp := fun vs H Q _ => ∃ (z : Str) (v : V) (es : List Edit) (o : Option (List Nat)), vs = [.str z, v] ∧ z.length ≤ 300 ∧ RowO H z v es o ∧ ∀ H', Mod [] H H' → Q (strO o) H'
theorem rawO_of : ∀ vs H Q E, spRawO vs H Q E → spRawDone vs H Q E := fun vs H Q E ⟨z, v, es, o, h1, h2, h3, q⟩ => ⟨z, v, h1, h2, by
  rcases h3 with ⟨g1, g2, g3⟩ | ⟨g1, t, xs, g2, g3⟩
  · exact .inl ⟨es, g1, g2, fun H' m => by rw [g3]; exact q H' m⟩
  · rw [g1] at q; exact .inr ⟨t, xs, g2, g3, q⟩⟩
def spIsMending : Sp := fun vs H Q _ => ∃ (v : V) (p : Pat) (z : Str) (rv : V) (o : Option (List Nat)) (es : List Edit), vs = [v, .str z, rv] ∧ IsP H v p ∧ p.Ok ∧ p.size ≤ 60 ∧ p.deep ≤ 15 ∧ IsText z ∧ z.length ≤ 15 ∧ p.sg ≤ 15 ∧ (z.length + 1) * (p.sg + 1) < 64 ∧
  RowO H z rv es o ∧
  ∀ H' b, Mod [] H H' → (b = true ↔ ∃ u c, o = some u ∧ BestT p z.cps.toList u c ∧ prices es = c) → Q (.bl b) H'
theorem has_is_mending (T : Tx w K mg) : Has P w K mg base 7 "is_mending" ["pattern", "text", "thing"] spIsMending := by
  have H_check_pattern := has_check_pattern (P := P) (base := base) T
  have H_check_text := has_check_text (P := P) (base := base) T
  have H_raw_done := (has_raw_done (P := P) (base := base) T).imp rawO_of
  have H_Mender_init := has_Mender_init (P := P) (base := base) T
  have H_Mender_least := has_Mender_least (P := P) (base := base) T
  have H_way_of := has_way_of (P := P) (base := base) T
  refine (T.has (d := d_is_mending) 30 rfl rfl rfl rfl b_is_mending sc_is_mending (fun vs H Q E h => ?_) fun cdv A outer s H vs Q E hr h => ?_)
  · obtain ⟨_, _, _, _, _, _, rfl, _⟩ := h; rfl
  obtain ⟨v, p, z, rv, o, es, rfl, hp, ok, hs, hd, hz, hzl, hsg, h64, hrow, q⟩ := h
  refine ⟨_, (pss_cons (ps_expr (pe_callH H_check_pattern (hr.mono (by decide)) (by rfl) (g_check_pattern T) (pa_cons (pv 0) pa_nil)))
      (pss_cons (ps_expr (pe_callH H_check_text (hr.mono (by decide)) (by rfl) (g_check_text T) (pa_cons (pv 1) pa_nil)))
      (pss_cons (ps_par (i := 3) (j := 4) rfl sc_is_mending.nd rfl rfl (by decide) rfl rfl (pa_cons (pe_callH H_raw_done (hr.mono (by decide)) (by rfl) (g_raw_done T) (pa_cons (pv 1) (pa_cons (pv 2) pa_nil))) (pa_cons (pe_makeH (mk_Mender T) H_Mender_init (hr.mono (by decide)) (by rfl) (g_Mender T) (pa_cons (pv 0) (pa_cons (pv 1) pa_nil))) pa_nil)) (by rfl))
      (pss_cons (ps_set (i := 5) sc_is_mending.nd rfl (Or.inl rfl) (pe_methH0 (c_Mender T) (m_Mender_least T) H_Mender_least (hr.mono (by decide)) (pv 4)))
      (pss_cons (ps_if (PW.pt (pw_or (pt_cmpR op_isN (pv 3) pe_non (nomark _)) (pw_or (pt_cmpR op_isN (pv 5) pe_non (nomark _)) (pw_or1 (pt_cmpR op_ne (pv 3) (pe_ix ix_tup (pe_callH H_way_of (hr.mono (by decide)) (by rfl) (g_way_of T) (pa_cons (pv 4) pa_nil)) pe_int (fun _ _ => rfl)) (nomark _)))))) (pss_one (ps_ret pe_bl)) pss_nil)
      (pss_one (ps_ret (pe_cmpR op_eq (pe_callB call_len_seq (by rfl) (z_len T) (by decide +kernel) (pa_cons (pe_lc (own := [("edit", 6)]) (g := (gName 6)) rfl sc_is_mending.nd (pi_tup (pv 2)) (blkOk_by (own := [("edit", 6)]) (N := ["pattern", "text", "thing", "found", "mender", "told", "edit"]) (sc := defScope s_is_mending) (by decide +kernel)) (fun _ _ _ _ _ => (pg_name (i := 6) sc_is_mending.nd rfl (Or.inl rfl))) (fun _ _ _ _ _ => (pts_one (pt_cmpR op_ne (pe_ix (ix_tupK K) (pv 6) pe_int (fun _ _ => rfl)) (pe_gs (by rfl) (k_KEEP T)) (nomark _)))) (fun _ _ _ _ _ => (pv 6))) pa_nil)) (pe_ix ix_tup (pv 5) pe_int (fun _ _ => rfl)) (nomark _))))))))), ?_⟩
  have ezl : z.cps.toList.length = z.length := Array.length_toList
  refine ⟨_, rfl, p, v, rfl, hp, ok, hs, hd, fun H1 m1 => ?_⟩
  refine ⟨_, rfl, z, rfl, hz, fun H2 m2 => ?_⟩
  have m02 := m1.trans m2
  refine ⟨_, rfl, _, rfl, z, rv, es, o, rfl, hz.1, hrow.mod m02, fun H3 m3 => ?_⟩
  have m03 := m02.trans m3
  refine ⟨_, rfl, _, rfl, fun x dx hx hdx hne => ?_⟩
  have mx : Mod [] H3 (upd (upd H3 dx (.own x)) x (.ins (He.ga K "Mender") dx [])) := (Mod.refl (ms := []).new hdx).new (by rw [upd_ne hne.symm]; exact hx)
  refine ⟨x, dx, v, p, z, rfl, upd_same, hp.mod (m03.trans mx), hs, hz.1, fun H4 a B kvs m4 eam ma => ⟨rfl, _, _, rfl, ?_⟩⟩
  subst eam
  refine ⟨_, rfl, a.m, a.dm, _, rfl, ma.c.m, rfl, ?_⟩
  refine ⟨a, z, B, _, _, kvs, rfl, ma.c.m, ma.br, fun H5 v5 m5 ot => ?_⟩
  have m04 : Mod [] H H4 := (m03.trans mx).step m4 fun b hb => .inr (by rw [List.mem_singleton.mp hb]; exact m03.back hx)
  have m05 := m04.trans m5
  have mn := ma.le.min.imp fun n => cost_iff
  have hFN : ∀ s t, FolS p s t → t ≤ p.sg := fun s t h => (FolS_in h).2
  have hln : ∀ s t, FolS p s t → p.lotN t ≠ [] := fun s t h => (lotN_ok ok h).ne
  cases ho : o with
  | none =>
    subst ho
    exact ⟨_, rfl, rfl, _, rfl, iteTe rfl (iteT (q _ _ m05 ⟨(fun h => by cases h), fun ⟨_, _, h, _⟩ => by cases h⟩))⟩
  | some f =>
    subst ho
    refine ⟨_, rfl, rfl, _, rfl, iteFe rfl ?_⟩
    cases hB : B 0 0 with
    | none =>
      rw [hB] at ot mn
      obtain rfl : v5 = .non := ot
      refine ⟨_, rfl, rfl, _, rfl, iteTe rfl (iteT (q _ _ m05 ⟨(fun h => by cases h), fun ⟨u, c, _, hb, _⟩ => absurd hb.reads (Reads.none mn u)⟩))⟩
    | some u0 =>
      obtain ⟨c0, q0⟩ := u0
      rw [hB] at ot mn
      obtain ⟨t5, rfl, ht5⟩ := ot
      refine ⟨_, rfl, rfl, _, rfl, iteFe rfl ?_⟩
      refine ⟨_, rfl, _, rfl, a, p, z, B, kvs, c0, q0, rfl, ma.mod m5, ok, hzl, hsg, h64, hB, fun H6 t6 ll u ds m6 et el hdl hul hus hlays hne hgr => ?_⟩
      obtain ⟨k0, hk0⟩ := hne
      have hbt := ma.le.bestT hFN hln hB hk0 hul hgr
      have m06 := m05.trans m6
      have ht6 := m6.tup _ _ ht5
      have efu : (!decide (V.str ⟨f.toArray⟩ = V.str ⟨u.toArray⟩)) = !decide (f = u) := by
        by_cases h : f = u
        · rw [h]; simp
        · rw [decide_eq_false h, decide_eq_false fun z => h (by injection z with z; injection z with z; injection z with z)]
      refine ⟨t6, _, 0, _, rfl, rfl, SqT.of et, rfl, rfl, _, rfl, ?_⟩
      show if (!decide (V.str ⟨f.toArray⟩ = V.str ⟨u.toArray⟩)) = true then _ else _
      rw [efu]
      by_cases hfu : f = u
      · subst hfu
        refine iteFe (by simp) ?_
        rcases hrow with ⟨⟨tr, vs, rfl, hrt, hvs⟩, hel, hraw⟩ | ⟨h, _⟩
        case inr => cases h
        have hrt6 := m06.tup _ _ hrt
        have hlen := pd_len hvs
        refine ⟨_, rfl, tr, rfl, ⟨_, SqT.of hrt6⟩, ?_⟩
        refine lc_rel (walk_tup (xs := vs)) [] (fun i => decide ((es.getD i (.keep 0)).price = 1)) (fun _ _ _ => True) (lt_line (by omega)) (fun _ _ _ _ _ _ h => h) (fun H8 m8 => SqT.of (m8.tup _ _ hrt6)) ?_ (fun _ _ h => nomatch h) fun D H8 ys hD m8 e8 r8 => ?_
        · rintro i y H8 _ R S hi m8 ⟨rfl, hy⟩ k1 k2
          obtain ⟨e, he, hve⟩ := paired_get hvs hy
          have eg : es.getD i (.keep 0) = e := by rw [List.getD_eq_getElem?_getD, he]; rfl
          rw [eg] at k1 k2
          obtain ⟨te, rfl, hte⟩ := hve.mod (m06.trans m8)
          rw [edO_eq] at hte
          refine ⟨rfl, _, rfl, te, _, 0, .str e.word, rfl, rfl, SqT.of hte, at_of (j := 0) rfl rfl, rfl, _, rfl, ?_⟩
          have ek := keep_is e
          by_cases hpr : e.price = 1
          · exact iteTe (by rw [ek]; exact decide_eq_true hpr) ⟨_, rfl, k1 _ _ Mod.refl (decide_eq_true hpr) trivial⟩
          · exact iteFe (by rw [ek]; exact decide_eq_false hpr) (k2 _ Mod.refl (decide_eq_false hpr))
        have hcount : ys.length = prices es := by
          rw [← pd_len r8, ← count_prices es, ← List.length_map (f := fun i => es.getD i (.keep 0))]
          have e3 : es = (List.range es.length).map fun i => es.getD i (.keep 0) := by
            apply List.ext_getElem?
            intro i
            rw [List.getElem?_map]
            by_cases h : i < es.length
            · rw [List.getElem?_range h, List.getElem?_eq_getElem h]
              show some es[i] = some (es.getD i (.keep 0))
              rw [List.getD_eq_getElem?_getD, List.getElem?_eq_getElem h]; rfl
            · rw [List.getElem?_eq_none (by omega), List.getElem?_eq_none (by rw [List.length_range]; omega)]; rfl
          conv => rhs; rw [e3]
          rw [List.filter_map, List.length_map, List.length_map, hlen]
          rfl
        refine ⟨D, _, rfl, .inl (SqL.of e8), _, rfl, t5, _, 0, _, rfl, rfl, SqT.of (m8.tup _ _ ht6), rfl, rfl, ?_⟩
        refine q _ _ (m06.trans m8) ?_
        rw [decide_eq_true_eq, hcount]
        constructor
        · intro h
          injection h with h
          exact ⟨f, c0, rfl, hbt, by omega⟩
        · rintro ⟨u', c', h1, h2, h3⟩
          obtain ⟨_, h4⟩ := h2.uniq hbt
          rw [h3, h4]
      · refine iteTe (by simp [hfu]) (q _ _ m06 ⟨(fun h => by cases h), fun ⟨u', c', h1, h2, _⟩ => ?_⟩)
        injection h1 with h1
        subst h1
        exact absurd (h2.uniq hbt).1 hfu
end
end Fr

set_option maxHeartbeats 4000000
namespace Fr
open PySem PySem.Spec PyProof.Rows L2
def lawG (z : List Nat) : Nat → Nat → List Edit → Option (List Nat × Nat)
  | p, n, [] => if p = z.length then some ([], n) else none
  | p, n, e :: es => if e.isSame = true then none else match e.src with
    | none => (lawG z p (n + e.price) es).map fun r => (e.told.toList ++ r.1, r.2)
    | some x => if z[p]? = some x then (lawG z (p + 1) (n + e.price) es).map fun r => (e.told.toList ++ r.1, r.2) else none
theorem lawG_eq {z : List Nat} : ∀ (es : List Edit) (p n : Nat), lawG z p n es = if es.all (fun e => !e.isSame) = true then (doneP z p es).map fun u => (u, n + prices es) else none
  | [], p, n => by
    show (if _ then _ else _) = if true = true then (if _ then _ else _ : Option (List Nat)).map _ else _
    rw [if_pos rfl]
    by_cases h : p = z.length
    · rw [if_pos h, if_pos h]; rfl
    · rw [if_neg h, if_neg h]; rfl
  | e :: es, p, n => by
    rw [List.all_cons]
    show (if e.isSame = true then none else match e.src with | none => _ | some x => _) = if (!e.isSame && _) = true then (match e.src with | none => _ | some x => _ : Option (List Nat)).map _ else _
    cases hs : e.isSame with
    | true => rfl
    | false =>
      have key : ∀ q, (lawG z q (n + e.price) es).map (fun r => (e.told.toList ++ r.1, r.2)) = if es.all (fun e => !e.isSame) = true then ((doneP z q es).map (e.told.toList ++ ·)).map fun u => (u, n + prices (e :: es)) else none := by
        intro q
        rw [lawG_eq es q (n + e.price), prices_cons]
        by_cases ha : es.all (fun e => !e.isSame) = true
        · rw [if_pos ha, if_pos ha]
          cases doneP z q es with
          | none => rfl
          | some u => show some (_, _) = some (_, _); rw [Nat.add_assoc]
        · rw [if_neg ha, if_neg ha]; rfl
      rw [if_neg (by simp)]
      cases hsrc : e.src with
      | none => exact key p
      | some x =>
        show (if _ then _ else _) = if _ then (if _ then _ else _ : Option (List Nat)).map _ else _
        by_cases hx : z[p]? = some x
        · rw [if_pos hx, if_pos hx]; exact key (p + 1)
        · rw [if_neg hx, if_neg hx]; split <;> rfl
theorem lawG_raw {z : List Nat} {es : List Edit} (h : ∀ e ∈ es, e.args.all okSign = true) : lawG z 0 0 es = (rawD z es).map fun u => (u, prices es) := by
  rw [lawG_eq]
  have e1 : es.all edB = es.all fun e => !e.isSame := by
    rw [Bool.eq_iff_iff, List.all_eq_true, List.all_eq_true]
    constructor
    · intro k e he; have := k e he; unfold edB at this; rw [h e he, Bool.true_and] at this; exact this
    · intro k e he; unfold edB; rw [h e he, Bool.true_and]; exact k e he
  unfold rawD
  rw [e1]
  by_cases ha : es.all (fun e => !e.isSame) = true
  · rw [if_pos ha, if_pos ha]; simp
  · rw [if_neg ha, if_neg ha]; rfl
def DoneV (H : Hp) (v : V) : Option (List Nat × Nat) → Prop
  | none => v = .non
  | some r => ∃ t, v = .ref t ∧ H t = some (.tup [.str ⟨r.1.toArray⟩, .int (r.2 : Nat)])
theorem DoneV.mod {ms : List Addr} {H H' : Hp} {v : V} {o : Option (List Nat × Nat)} (m : Mod ms H H') (h : DoneV H v o) : DoneV H' v o := by
  cases o with
  | none => exact h
  | some r => obtain ⟨t, h1, h2⟩ := h; exact ⟨t, h1, m.tup _ _ h2⟩
theorem chg_is (e : Edit) : decide (V.str e.word = V.str "change") = (match e with | .chg _ _ => true | _ => false) := by
  cases e with
  | keep _ => exact (by decide +kernel : decide (V.str "keep" = V.str "change") = false)
  | put _ => exact (by decide +kernel : decide (V.str "put" = V.str "change") = false)
  | take _ => exact (by decide +kernel : decide (V.str "take" = V.str "change") = false)
  | chg _ _ => exact (by decide +kernel : decide (V.str "change" = V.str "change") = true)
theorem sgn_eq {x y : Nat} : decide (V.str ⟨#[x]⟩ = V.str ⟨#[y]⟩) = decide (x = y) := by
  by_cases h : x = y
  · rw [h]; simp
  · rw [decide_eq_false h, decide_eq_false fun z => h (sg_inj.mp z)]
theorem args_ne (e : Edit) : ∃ x r, e.args = x :: r := by cases e <;> exact ⟨_, _, rfl⟩
theorem iteR2 {b s : Bool} {A R : Prop} (h2 : b = false → s = false) (r : s = false → R) (h1 : b = true → (s = false → R) → A) : if b = true then A else R := by
  cases b with
  | true => exact h1 rfl r
  | false => exact r (h2 rfl)
def toldS (e : Edit) : Str := match e.told with | some c => ⟨#[c]⟩ | none => ""
theorem last_arg (e : Edit) : ∃ c, atI (V.str e.word :: e.args.map fun c => V.str ⟨#[c]⟩) (-1) = some (.str ⟨#[c]⟩) := by cases e <;> exact ⟨_, rfl⟩
theorem add_told (fs : List Nat) (e : Edit) : (⟨fs.toArray⟩ : Str) ++ toldS e = ⟨(fs ++ e.told.toList).toArray⟩ := by
  unfold toldS
  cases e.told with
  | none => show Str.mk (fs.toArray ++ #[]) = _; simp
  | some c => show Str.mk (fs.toArray ++ #[c]) = _; simp
theorem told_dict (e : Edit) {x c : Nat} (hx : ∃ r, e.args = x :: r) (hc : atI (V.str e.word :: e.args.map fun c => V.str ⟨#[c]⟩) (-1) = some (.str ⟨#[c]⟩)) :
    valV (mergeK [] [(Sum.inr "keep", V.str ⟨#[x]⟩), (Sum.inr "put", V.str ⟨#[x]⟩), (Sum.inr "take", V.str ""), (Sum.inr "change", V.str ⟨#[c]⟩)]) (Sum.inr e.word) = some (.str (toldS e)) := by
  obtain ⟨r, hr⟩ := hx
  cases e with
  | keep d => cases hr; rfl
  | put d => cases hr; rfl
  | take d => rfl
  | chg a d => cases hc; rfl
theorem int01 (b : Bool) : (if b = true then (1 : Int) else 0) = ((if b = true then 1 else 0 : Nat) : Int) := by cases b <;> rfl
section
variable {P : Program} {w : World} {K : PySem.W.Frag} {mg : Str → Option Value} {base : Heap}
def spLawDone : Sp := fun vs H Q _ => ∃ (z : Str) (v : V) (es : List Edit), vs = [.str z, v] ∧ z.length ≤ 300 ∧ RowE H v es ∧ es.length ≤ 1000 ∧ (∀ e ∈ es, e.args.all okSign = true) ∧ ∀ H' v', Mod [] H H' → DoneV H' v' ((rawD z.cps.toList es).map fun u => (u, prices es)) → Q v' H'
theorem has_law_done (T : Tx w K mg) : Has P w K mg base 1 "_law_done" ["text", "row"] spLawDone := by
  refine (T.has (d := d_law_done) 41 rfl rfl rfl rfl b_law_done sc_law_done (fun vs H Q E h => ?_) fun cdv A outer s H vs Q E hr h => ?_)
  · obtain ⟨_, _, _, rfl, _⟩ := h; rfl
  obtain ⟨z, v, es, rfl, hz, ⟨t, vs, rfl, ht, hp⟩, hel, hok, q⟩ := h
  refine ⟨_, (pss_cons (ps_asg (pe_tup (pa_cons pe_str (pa_cons pe_int (pa_cons pe_int pa_nil)))) (pg_tup rfl (pgs_cons (pg_name (i := 2) sc_law_done.nd rfl (Or.inl rfl)) (pgs_cons (pg_name (i := 3) sc_law_done.nd rfl (Or.inl rfl)) (pgs_cons (pg_name (i := 4) sc_law_done.nd rfl (Or.inl rfl)) pgs_nil)))))
      (pss_cons (ps_for PassesOwn.never rfl (pi_tup (pv 1)) (pg_name (i := 5) sc_law_done.nd rfl (Or.inl rfl)) (pss_cons (ps_if (PW.pt (pw_and (pt_cmpR op_eq (pe_ix ix_tup (pv 5) pe_int (fun _ _ => rfl)) pe_str (nomark _)) (pw_and1 (pt_cmpR op_eq (pe_ix ix_tup (pv 5) pe_int (fun _ _ => rfl)) (pe_ix ix_tup (pv 5) pe_int (fun _ _ => rfl)) (nomark _))))) (pss_one (ps_ret pe_non)) pss_nil)
      (C8.pss_cut (ps_if (pt_cmpR op_ne (pe_ix ix_tup (pv 5) pe_int (fun _ _ => rfl)) pe_str (nomark _)) (pss_cons (ps_if (PW.pt (pw_or (pt_cmpR op_eq (pv 3) (pe_callB call_len_str (by rfl) (z_len T) (by decide +kernel) (pa_cons (pv 0) pa_nil)) (nomark _)) (pw_or1 (pt_cmpR op_ne (pe_ix ix_tup (pv 5) pe_int (fun _ _ => rfl)) (pe_ix ix_str (pv 0) (pv 3) (fun _ _ => rfl)) (nomark _))))) (pss_one (ps_ret pe_non)) pss_nil)
      (pss_one (ps_set (i := 3) sc_law_done.nd rfl (Or.inl rfl) (pe_op op_add (pv 3) pe_int)))) pss_nil)
      (pss_cons (ps_set (i := 4) sc_law_done.nd rfl (Or.inl rfl) (pe_op op_add (pv 4) (pe_callTy call_int1 (by rfl) (z_int T) (by decide +kernel) (pa_cons (pe_cmpR op_ne (pe_ix ix_tup (pv 5) pe_int (fun _ _ => rfl)) pe_str (nomark _)) pa_nil))))
      (pss_one (ps_set (i := 2) sc_law_done.nd rfl (Or.inl rfl) (pe_op op_add_str (pv 2) (pe_dget (hu_of hr) (pe_disp (pps_cons pe_str (pe_ix ix_tup (pv 5) pe_int (fun _ _ => rfl)) (pps_cons pe_str (pe_ix ix_tup (pv 5) pe_int (fun _ _ => rfl)) (pps_cons pe_str pe_str (pps_cons pe_str (pe_ix ix_tup (pv 5) (pe_un un_neg pe_int) (fun _ _ => rfl)) pps_nil)))) (by rfl) (by rfl) (fun z => by cases z) (by decide)) (pe_ix ix_tup (pv 5) pe_int (fun _ _ => rfl)) (fun _ _ => rfl)))))))))
      (pss_one (ps_ret (pe_ifExp (pt_cmpR op_eq (pv 3) (pe_callB call_len_str (by rfl) (z_len T) (by decide +kernel) (pa_cons (pv 0) pa_nil)) (nomark _)) (pe_tup (pa_cons (pv 2) (pa_cons (pv 4) pa_nil))) pe_non))))), ?_⟩
  have ezl : z.cps.toList.length = z.length := Array.length_toList
  have hlen := pd_len hp
  rw [← lawG_raw hok] at q
  refine ⟨ln3, fun t0 ht0 => ⟨t0, _, rfl, SqT.of upd_same, rfl, _, _, rfl, _, _, rfl, _, _, rfl, rfl, ?_⟩⟩
  have n0 := Mod.refl (ms := []).new (o := .tup [.str "", .int 0, .int 0]) ht0
  refine ⟨_, rfl, t, rfl, ⟨_, SqT.of (n0.tup _ _ ht)⟩, ?_⟩
  refine for_it (walk_tup (xs := vs)) (fun i σ H4 => ∃ (at_ n : Nat) (fs : List Nat) (y5 : Option V), σ = [some (.str z), some (.ref t), some (.str ⟨fs.toArray⟩), some (.int (at_ : Nat)), some (.int (n : Nat)), y5] ∧ Mod [] H H4 ∧ at_ ≤ z.length ∧ fs.length ≤ i ∧
        lawG z.cps.toList 0 0 es = (lawG z.cps.toList at_ n (es.drop i)).map fun r => (fs ++ r.1, r.2))
      ⟨0, 0, [], none, rfl, n0, Nat.zero_le _, Nat.le_refl _, by rw [List.drop_zero]; cases lawG z.cps.toList 0 0 es <;> rfl⟩ (fun i σ H4 _ h => by obtain ⟨_, _, _, _, _, m, _⟩ := h; exact SqT.of (m.tup _ _ ht)) ?_ ?_
  · rintro i y σ _ H4 hi ⟨at_, n, fs, y5, rfl, m4, hat, hfl, hdone⟩ ⟨rfl, hy⟩
    obtain ⟨e, he, hve⟩ := paired_get hp hy
    obtain ⟨te, rfl, hte⟩ := hve.mod m4
    rw [edO_eq] at hte
    obtain ⟨he1, he2⟩ := List.getElem?_eq_some_iff.mp he
    rw [List.drop_eq_getElem_cons he1, he2] at hdone
    have hstep : lawG z.cps.toList at_ n (e :: es.drop (i + 1)) = if e.isSame = true then none else match e.src with
      | none => (lawG z.cps.toList at_ (n + e.price) (es.drop (i + 1))).map fun r => (e.told.toList ++ r.1, r.2)
      | some x => if z.cps.toList[at_]? = some x then (lawG z.cps.toList (at_ + 1) (n + e.price) (es.drop (i + 1))).map fun r => (e.told.toList ++ r.1, r.2) else none := rfl
    have hno : lawG z.cps.toList at_ n (e :: es.drop (i + 1)) = none → Q .non H4 := fun hn => by
      rw [hn] at hdone; rw [hdone] at q; exact q _ _ m4 rfl
    refine ⟨_, rfl, te, _, 0, .str e.word, rfl, rfl, SqT.of hte, at_of (j := 0) rfl rfl, rfl, _, rfl, ?_⟩
    rw [chg_is]
    refine iteR2 (s := e.isSame) (fun hb => by cases e <;> first | rfl | cases hb) (fun hsame => ?_) (fun hb R => ?_)
    · rw [hsame, if_neg (by simp)] at hstep
      refine ⟨fun σ' H' => ∃ at', σ' = [some (.str z), some (.ref t), some (.str ⟨fs.toArray⟩), some (.int (at' : Nat)), some (.int (n : Nat)), some (.ref te)] ∧ H' = H4 ∧ at' ≤ z.length ∧ lawG z.cps.toList at_ n (e :: es.drop (i + 1)) = (lawG z.cps.toList at' (n + e.price) (es.drop (i + 1))).map fun r => (e.told.toList ++ r.1, r.2), ?_, ?_⟩
      · refine ⟨_, rfl, te, _, 0, .str e.word, rfl, rfl, SqT.of hte, at_of (j := 0) rfl rfl, rfl, _, rfl, ?_⟩
        rw [put_is]
        cases hsrc : e.src with
        | none =>
          rw [hsrc] at hstep
          exact iteFe rfl ⟨at_, rfl, rfl, hat, hstep⟩
        | some x =>
          rw [hsrc] at hstep
          obtain ⟨r, er⟩ := src_arg hsrc
          refine iteTe rfl ?_
          refine ⟨_, rfl, _, rfl, z, rfl, le_line (by omega), rfl, _, rfl, ?_⟩
          by_cases hend : at_ = z.length
          · refine iteTe (decide_eq_true (by rw [hend])) ?_
            have hnx : ¬ z.cps.toList[at_]? = some x := by rw [List.getElem?_eq_none (by omega)]; simp
            exact hno (by rw [hstep]; exact if_neg hnx)
          · refine iteFe (decide_eq_false fun z => hend (by injection z with z; omega)) ?_
            have hlt : at_ < z.cps.toList.length := by omega
            obtain ⟨c, hc⟩ : ∃ c, z.cps.toList[at_]? = some c := ⟨_, List.getElem?_eq_getElem hlt⟩
            refine ⟨_, rfl, te, _, 1, .str ⟨#[x]⟩, rfl, rfl, SqT.of hte, at_of (j := 1) rfl (by rw [er]; rfl), _, rfl, _, rfl, z, _, c, rfl, rfl, le_line (by omega), atI_nat hc, rfl, _, rfl, ?_⟩
            have ex : (!decide (V.str ⟨#[x]⟩ = V.str ⟨#[c]⟩)) = !decide (x = c) := by rw [sgn_eq]
            by_cases hx : x = c
            · subst hx
              refine iteFe (by simp) ?_
              refine ⟨_, rfl, _, _, rfl, rfl, at_ + 1, rfl, rfl, by omega, ?_⟩
              rw [hstep]; exact if_pos hc
            · refine iteTe (by simp [hx]) ?_
              exact hno (by rw [hstep]; exact if_neg (by rw [hc]; intro h; exact hx (by injection h with h; exact h.symm)))
      · rintro σ' H' ⟨at', rfl, rfl, hat', hd'⟩
        rw [hd'] at hdone
        refine ⟨_, rfl, _, rfl, te, _, 0, .str e.word, rfl, rfl, SqT.of hte, at_of (j := 0) rfl rfl, rfl, .inr ⟨_, rfl, _, _, rfl, rfl, ?_⟩⟩
        obtain ⟨x, hx⟩ := args_ne e
        obtain ⟨r, hxr⟩ := hx
        obtain ⟨c, hc⟩ := last_arg e
        have e1 : (V.str e.word :: e.args.map fun c => V.str ⟨#[c]⟩)[1]? = some (.str ⟨#[x]⟩) := by rw [hxr]; rfl
        refine ⟨_, rfl, fun p hp' => ⟨_, rfl, te, _, 1, .str ⟨#[x]⟩, rfl, rfl, SqT.of ?_, at_of (j := 1) rfl e1, _, rfl, te, _, 1, .str ⟨#[x]⟩, rfl, rfl, SqT.of ?_, at_of (j := 1) rfl e1, _, rfl, _, rfl, te, _, -1, .str ⟨#[c]⟩, rfl, rfl, SqT.of ?_, hc, upd_same,
          [(Sum.inr "keep", V.str ⟨#[x]⟩), (Sum.inr "put", V.str ⟨#[x]⟩), (Sum.inr "take", V.str ""), (Sum.inr "change", V.str ⟨#[c]⟩)], rfl, by simp, ?_⟩⟩
        all_goals have m5 := mod_disp (m := mergeK [] [(Sum.inr "keep", V.str ⟨#[x]⟩), (Sum.inr "put", V.str ⟨#[x]⟩), (Sum.inr "take", V.str ""), (Sum.inr "change", V.str ⟨#[c]⟩)]) hp'
        all_goals have m5' := Mod.refl (ms := []).new (o := .dK []) hp'
        case _ => exact m5'.tup _ _ hte
        case _ => exact m5'.tup _ _ hte
        case _ => exact m5'.tup _ _ hte
        refine ⟨_, rfl, te, _, 0, .str e.word, rfl, rfl, SqT.of (m5.tup _ _ hte), at_of (j := 0) rfl rfl, p, V.str (toldS e), rfl, ?_, ?_⟩
        · rw [← told_dict e ⟨r, hxr⟩ hc]
          exact DGet.k (k := Sum.inr e.word) upd_same
        · have htl : (toldS e).length ≤ 1 := by
            unfold toldS
            cases e.told with
            | none => exact (by decide +kernel : ("" : Str).length ≤ 1)
            | some c => exact Nat.le_refl 1
          refine ⟨_, _, rfl, rfl, ?_, ?_⟩
          · show (fs.toArray.size + (toldS e).length) ≤ _
            exact le_line (by rw [List.size_toArray]; omega)
          · refine ⟨at', n + e.price, fs ++ e.told.toList, some (.ref te), ?_, m4.trans m5, hat', ?_, ?_⟩
            · have ep : ((n : Nat) : Int) + (if (!decide (V.str e.word = V.str "keep")) = true then (1 : Int) else 0) = ((n + e.price : Nat) : Int) := by
                rw [keep_is, int01]
                have := price_01 e
                by_cases h : e.price = 1
                · rw [if_pos (decide_eq_true h), h]; omega
                · rw [if_neg h] at this
                  rw [if_neg (by simpa using h), this]; omega
              show [_, _, some (V.str (⟨fs.toArray⟩ ++ toldS e)), _, some (V.int (((n : Nat) : Int) + (if (!decide (V.str e.word = V.str "keep")) = true then (1 : Int) else 0))), _] = _
              rw [ep, add_told]
            · have : e.told.toList.length ≤ 1 := by cases e.told <;> simp
              rw [List.length_append]; omega
            · rw [hdone]
              cases lawG z.cps.toList at' (n + e.price) (es.drop (i + 1)) with
              | none => rfl
              | some d => show some (fs ++ (e.told.toList ++ d.1), d.2) = some (fs ++ e.told.toList ++ d.1, d.2); rw [List.append_assoc]
    · cases e with
      | keep _ => cases hb
      | put _ => cases hb
      | take _ => cases hb
      | chg x c =>
        refine ⟨_, rfl, te, _, 1, .str ⟨#[x]⟩, rfl, rfl, SqT.of hte, at_of (j := 1) rfl rfl, _, rfl, te, _, 2, .str ⟨#[c]⟩, rfl, rfl, SqT.of hte, at_of (j := 2) rfl rfl, rfl, _, rfl, ?_⟩
        rw [sgn_eq]
        by_cases hxc : x = c
        · refine iteTe (decide_eq_true hxc) (hno ?_)
          rw [hstep]; exact if_pos (decide_eq_true hxc)
        · exact iteFe (decide_eq_false hxc) (R (decide_eq_false hxc))
  · rintro σ H4 ⟨at_, n, fs, y5, rfl, m4, hat, hfl, hdone⟩
    rw [hlen, List.drop_length] at hdone
    refine ⟨_, rfl, _, rfl, z, rfl, le_line (by omega), rfl, _, rfl, ?_⟩
    by_cases hend : at_ = z.length
    · refine iteTe (decide_eq_true (by rw [hend])) ?_
      have hd2 : lawG z.cps.toList at_ n [] = some ([], n) := by show (if _ then _ else _) = _; rw [if_pos (by omega)]
      rw [hd2] at hdone
      rw [hdone] at q
      refine ⟨_, rfl, _, rfl, ln2, fun t5 ht5 => ?_⟩
      have n5 := Mod.refl (ms := []).new (o := .tup [.str ⟨fs.toArray⟩, .int (n : Nat)]) ht5
      exact q _ _ (m4.trans n5) ⟨t5, rfl, by show _ = some (HO.tup [V.str ⟨(fs ++ []).toArray⟩, _]); rw [List.append_nil]; exact upd_same⟩
    · refine iteFe (decide_eq_false fun z => hend (by injection z with z; omega)) ?_
      have hd2 : lawG z.cps.toList at_ n [] = none := by show (if _ then _ else _) = _; rw [if_neg (by omega)]
      rw [hd2] at hdone
      rw [hdone] at q
      exact q _ _ m4 rfl
end
end Fr

set_option maxHeartbeats 4000000
namespace Fr
open PySem PySem.Spec PyProof.Rows L2
theorem cut_upto {α : Type} (xs : List α) (n : Nat) (h : n ≤ xs.length) : (xs.drop (HT.sIx xs.length 0 none)).take (HT.sIx xs.length xs.length (some (n : Int)) - HT.sIx xs.length 0 none) = xs.take n := by
  have e1 : HT.sIx xs.length 0 none = 0 := by rfl
  have e2 : HT.sIx xs.length xs.length (some (n : Int)) = min n xs.length := HT.sIx_nat _ _ n
  rw [e1, e2, List.drop_zero, Nat.min_eq_left h, Nat.sub_zero]
theorem cut_from {α : Type} (xs : List α) (n : Nat) : (xs.drop (HT.sIx xs.length 0 (some (n : Int)))).take (HT.sIx xs.length xs.length none - HT.sIx xs.length 0 (some (n : Int))) = xs.drop n := by
  have e1 : HT.sIx xs.length xs.length none = xs.length := by rfl
  have e2 : HT.sIx xs.length 0 (some (n : Int)) = min n xs.length := HT.sIx_nat _ _ n
  rw [e1, e2]
  rcases Nat.le_total n xs.length with h | h
  · rw [Nat.min_eq_left h]
    exact List.take_of_length_le (by rw [List.length_drop]; exact Nat.le_refl _)
  · rw [Nat.min_eq_right h, Nat.sub_self, List.take_zero, List.drop_of_length_le h]
theorem slA {K : PySem.W.Frag} {H : Hp} {t : Addr} {xs : List V} {lo hi : Option Int} {Q : VK} (ht : H t = some (.tup xs)) (q : ∀ H' p, Mod [] H H' → H' p = some (.tup (cutV xs lo hi)) → Q (.ref p) H') : rSlA K (.ref t) lo hi H Q := by
  refine ⟨t, xs, rfl, SqT.of ht, fun ⟨h1, h2⟩ => q H t Mod.refl ?_, fun _ p hp => q _ p (Mod.refl.new hp) upd_same⟩
  have : cutV xs lo hi = xs := by
    show (xs.drop _).take _ = xs
    rw [h1, h2, List.drop_zero, Nat.sub_zero, List.take_length]
  rw [this]; exact ht
theorem catA {K : PySem.W.Frag} {H : Hp} {t t' : Addr} {xs ys : List V} {Q : VK} (ht : H t = some (.tup xs)) (ht' : H t' = some (.tup ys)) (hl : xs.length + ys.length ≤ 100000) (q : ∀ H' p, Mod [] H H' → H' p = some (.tup (xs ++ ys)) → Q (.ref p) H') : rCatA K (.ref t) (.ref t') H Q := by
  refine ⟨t, t', xs, ys, rfl, rfl, SqT.of ht, SqT.of ht', le_line hl, fun h => q H t' Mod.refl (by rw [h]; exact ht'), fun _ h => q H t Mod.refl (by rw [h, List.append_nil]; exact ht), fun _ _ p hp => q _ p (Mod.refl.new hp) upd_same⟩
theorem pd_take {α β : Type} {F : α → β → Prop} : ∀ {l : List α} {m : List β} (n : Nat), Paired F l m → Paired F (l.take n) (m.take n)
  | _, _, 0, _ => .nil
  | _, _, _ + 1, .nil => .nil
  | _, _, n + 1, .cons r t => .cons r (pd_take n t)
theorem pd_drop {α β : Type} {F : α → β → Prop} : ∀ {l : List α} {m : List β} (n : Nat), Paired F l m → Paired F (l.drop n) (m.drop n)
  | _, _, 0, h => h
  | _, _, _ + 1, .nil => .nil
  | _, _, n + 1, .cons r t => pd_drop n t
section
variable {K : PySem.W.Frag} {H : Hp} {v v' : V} {es es' : List Edit} {Q : VK} {n : Nat}
theorem rowE_to (h : RowE H v es) (hn : n ≤ es.length) (q : ∀ H' u, Mod [] H H' → RowE H' u (es.take n) → Q u H') : rSlA K v none (some (n : Int)) H Q := by
  obtain ⟨t, vs, rfl, ht, hp⟩ := h
  refine slA ht fun H' p m e => q H' _ m ⟨p, _, rfl, e, ?_⟩
  show Paired _ ((vs.drop _).take _) _
  rw [cut_upto vs n (by rw [pd_len hp]; exact hn)]
  exact pd_take n (pd_imp (fun _ _ h => h.mod m) hp)
theorem rowE_from {i : Int} (h : RowE H v es) (hi : i = (n : Int)) (q : ∀ H' u, Mod [] H H' → RowE H' u (es.drop n) → Q u H') {σ : L2.St} : tNoPart σ H fun u H3 => rSlA K v (some i) u H3 Q := by
  subst hi
  show rSlA K v (some (n : Int)) none H Q
  obtain ⟨t, vs, rfl, ht, hp⟩ := h
  refine slA ht fun H' p m e => q H' _ m ⟨p, _, rfl, e, ?_⟩
  show Paired _ ((vs.drop _).take _) _
  rw [cut_from vs n]
  exact pd_drop n (pd_imp (fun _ _ h => h.mod m) hp)
theorem rowE_cat (h : RowE H v es) (h' : RowE H v' es') (hl : es.length + es'.length ≤ 100000) (q : ∀ H' u, Mod [] H H' → RowE H' u (es ++ es') → Q u H') : rCatA K v v' H Q := by
  obtain ⟨t, vs, rfl, ht, hp⟩ := h
  obtain ⟨t', vs', rfl, ht', hp'⟩ := h'
  exact catA ht ht' (by rw [pd_len hp, pd_len hp']; exact hl) fun H' p m e => q H' _ m ⟨p, _, rfl, e, pd_append (pd_imp (fun _ _ h => h.mod m) hp) (pd_imp (fun _ _ h => h.mod m) hp')⟩
end
theorem okA : okSign 97 = true := by decide +kernel
theorem abcd_ok {c : Nat} (h : c ∈ ("abcd" : Str).cps.toList) : okSign c = true := by
  have : ∀ c ∈ ("abcd" : Str).cps.toList, okSign c = true := by decide +kernel
  exact this c h
section
variable {P : Program} {w : World} {K : PySem.W.Frag} {mg : Str → Option Value} {base : Heap}
def BentV (H : Hp) (v : V) (n : Nat) : Prop := (∃ es, RowE H v es ∧ es.length ≤ n ∧ ∀ e ∈ es, e.args.all okSign = true) ∨ ∃ t xs, v = .ref t ∧ H t = some (.lst xs)
theorem BentV.mod {H H' : Hp} {v : V} {n : Nat} {ms : List Addr} (m : Mod ms H H') (hm : ∀ t xs, H t = some (.lst xs) → v = .ref t → t ∉ ms) : BentV H v n → BentV H' v n
  | .inl ⟨es, h1, h2, h3⟩ => .inl ⟨es, h1.mod m, h2, h3⟩
  | .inr ⟨t, xs, h1, h2⟩ => .inr ⟨t, xs, h1, m.keep _ _ h2 (hm t xs h2 h1)⟩
def spLawBent : Sp := fun vs H Q _ => ∃ (h cl : Addr) (v : V) (es : List Edit), vs = [.ref h, v] ∧ HandAt H h cl ∧ RowE H v es ∧ es.length ≤ 200 ∧ (∀ e ∈ es, e.args.all okSign = true) ∧ ∀ H' v', Mod [h] H H' → HandAt H' h cl → BentV H' v' (es.length + 2) → Q v' H'
theorem has_law_bent (T : Tx w K mg) : Has P w K mg base 3 "_law_bent" ["hand", "row"] spLawBent := by
  have H_law_draw := has_law_draw (P := P) (base := base) T
  have H_law_any := has_law_any (P := P) (base := base) T
  refine (T.has (d := d_law_bent) 43 rfl rfl rfl rfl b_law_bent sc_law_bent (fun vs H Q E h => ?_) fun cdv A outer s H vs Q E hr h => ?_)
  · obtain ⟨_, _, _, _, rfl, _⟩ := h; rfl
  obtain ⟨h, cl, v, es, rfl, ha, hv, hl, hok, q⟩ := h
  refine ⟨_, (pss_cons (ps_par (i := 2) (j := 3) rfl sc_law_bent.nd rfl rfl (by decide) rfl rfl (pa_cons (pe_callH H_law_draw (hr.mono (by decide)) (by rfl) (g__law_draw T) (pa_cons (pv 0) (pa_cons (pe_op op_add (pe_callB call_len_seq (by rfl) (z_len T) (by decide +kernel) (pa_cons (pv 1) pa_nil)) pe_int) pa_nil))) (pa_cons (pe_callH H_law_any (hr.mono (by decide)) (by rfl) (g__law_any T) (pa_cons (pv 0) (pa_cons pe_str pa_nil))) pa_nil)) (by rfl))
      (pss_cons (ps_set (i := 4) sc_law_bent.nd rfl (Or.inl rfl) (pe_lst (pa_cons (pe_op op_catA (pe_op op_catA (pe_slice sl_tupA (pv 1) po_none (po_some (pv 2))) (pe_tup (pa_cons (pe_tup (pa_cons pe_str (pa_cons (pv 3) pa_nil))) (pa_cons (pe_tup (pa_cons pe_str (pa_cons (pv 3) pa_nil))) pa_nil)))) (pe_slice sl_tupA (pv 1) (po_some (pv 2)) po_none)) (pa_cons (pe_op op_catA (pe_slice sl_tupA (pv 1) po_none (po_some (pv 2))) (pe_slice sl_tupA (pv 1) (po_some (pe_op op_add (pv 2) pe_int)) po_none)) (pa_cons (pe_op op_catA (pv 1) (pe_tup (pa_cons (pe_tup (pa_cons pe_str (pa_cons (pv 3) pa_nil))) pa_nil))) pa_nil)))))
      (pss_one (ps_ret (pe_callH H_law_any (hr.mono (by decide)) (by rfl) (g__law_any T) (pa_cons (pv 0) (pa_cons (pe_op op_cat (pv 4) (pe_lst (pa_cons (pe_op op_catA (pe_op op_catA (pe_slice sl_tupA (pv 1) po_none (po_some (pv 2))) (pe_tup (pa_cons (pe_tup (pa_cons pe_str (pa_cons (pv 3) (pa_cons pe_str pa_nil)))) pa_nil))) (pe_slice sl_tupA (pv 1) (po_some (pe_op op_add (pv 2) pe_int)) po_none)) (pa_cons (pe_callTy call_list_of (by rfl) (z_list T) (by decide +kernel) (pa_cons (pv 1) pa_nil)) pa_nil)))) pa_nil))))))), ?_⟩
  obtain ⟨t, vs, rfl, ht, hp⟩ := hv
  have hlen := pd_len hp
  refine ⟨_, rfl, _, rfl, t, _, rfl, .inr (SqT.of ht), _, _, rfl, rfl, h, cl, _, rfl, ha, by omega, by omega, fun H1 d m1 ha1 d0 d1 => ?_⟩
  obtain ⟨at_, rfl⟩ : ∃ n : Nat, d = (n : Int) := ⟨d.toNat, by omega⟩
  have hat : at_ ≤ es.length := by omega
  refine ⟨_, rfl, h, cl, .str "abcd", rfl, ha1, .inl ⟨"abcd", rfl, by decide +kernel, by decide +kernel, fun H2 c m2 ha2 hc => ⟨_, _, rfl, ?_⟩⟩⟩
  have m02 := m1.trans m2
  have hr2 : RowE H2 (.ref t) es := ⟨t, vs, rfl, m02.tup _ _ ht, pd_imp (fun _ _ h => h.mod m02) hp⟩
  have okc : okSign c = true := abcd_ok hc
  have hoT : ∀ e ∈ es.take at_, e.args.all okSign = true := fun e he => hok e (List.mem_of_mem_take he)
  have hoD : ∀ n, ∀ e ∈ es.drop n, e.args.all okSign = true := fun n e he => hok e (List.mem_of_mem_drop he)
  have hlT : (es.take at_).length ≤ es.length := by rw [List.length_take]; omega
  have hlD : ∀ n, (es.drop n).length ≤ es.length - n := fun n => by rw [List.length_drop]; omega
  have hTD : ∀ n, at_ ≤ n → (es.take at_).length + (es.drop n).length ≤ es.length := fun n hn => by rw [List.length_take, List.length_drop]; omega
  -- A
  refine ⟨_, rfl, _, rfl, _, rfl, rowE_to hr2 hat fun H3 a1 m3 r1 => ⟨_, rfl, ln2, fun p1 hp1 => ⟨_, rfl, ln2, fun p2 hp2 => ⟨ln2, fun p3 hp3 => ?_⟩⟩⟩⟩
  have k1 := Mod.refl (ms := []).new (o := .tup [.str "put", .str ⟨#[c]⟩]) hp1
  have k2 := Mod.refl (ms := []).new (o := .tup [.str "take", .str ⟨#[c]⟩]) hp2
  have k3 := Mod.refl (ms := []).new (o := .tup [.ref p1, .ref p2]) hp3
  have k13 := (k1.trans k2).trans k3
  have rA : RowE _ (.ref p3) [.put c, .take c] := ⟨p3, _, rfl, upd_same, .cons ⟨p1, rfl, k3.tup _ _ (k2.tup _ _ upd_same)⟩ (.cons ⟨p2, rfl, k3.tup _ _ upd_same⟩ .nil)⟩
  refine rowE_cat (r1.mod k13) rA (by show _ + 2 ≤ _; omega) fun H4 a2 m4 r3 => ?_
  have m24 := (m3.trans k13).trans m4
  refine ⟨_, rfl, _, rfl, _, rfl, ?_⟩
  refine rowE_from (hr2.mod m24) rfl fun H5 a3 m5 r4 => ?_
  have hlA : (es.take at_ ++ [Edit.put c, Edit.take c]).length + (es.drop at_).length ≤ es.length + 2 := by
    have := hTD at_ (Nat.le_refl _)
    rw [List.length_append]
    show _ + 2 + _ ≤ _
    omega
  refine rowE_cat (r3.mod m5) r4 (by omega) fun H6 a4 m6 r5 => ?_
  have m26 := (m24.trans m5).trans m6
  -- B
  refine ⟨_, rfl, _, rfl, _, rfl, rowE_to (hr2.mod m26) hat fun H7 b1 m7 s1 => ?_⟩
  refine ⟨_, rfl, _, rfl, _, _, rfl, rfl, _, rfl, ?_⟩
  refine rowE_from (n := at_ + 1) ((hr2.mod m26).mod m7) (by omega) fun H8 b2 m8 s2 => ?_
  refine rowE_cat (s1.mod m8) s2 (by have := hTD (at_ + 1) (by omega); omega) fun H9 b3 m9 s3 => ?_
  have m69 := (m7.trans m8).trans m9
  have m29 := m26.trans m69
  -- C
  refine ⟨_, rfl, _, rfl, ln2, fun p4 hp4 => ⟨ln1, fun p5 hp5 => ?_⟩⟩
  have k4 := Mod.refl (ms := []).new (o := .tup [.str "keep", .str ⟨#[c]⟩]) hp4
  have k5 := Mod.refl (ms := []).new (o := .tup [.ref p4]) hp5
  have k45 := k4.trans k5
  have rC : RowE _ (.ref p5) [.keep c] := ⟨p5, _, rfl, upd_same, .cons ⟨p4, rfl, k5.tup _ _ upd_same⟩ .nil⟩
  refine rowE_cat ((hr2.mod m29).mod k45) rC (by show _ + 1 ≤ _; omega) fun HA c1 mA t1 => ?_
  have m9A := k45.trans mA
  have m2A := m29.trans m9A
  refine ⟨ln3, fun L hL => ?_⟩
  have kL := Mod.refl (ms := []).new (o := .lst [a4, b3, c1]) hL
  have m2L := m2A.trans kL
  -- D
  refine ⟨_, rfl, _, rfl, _, rfl, _, rfl, _, rfl, rowE_to (hr2.mod m2L) hat fun HB d1 mB u1 => ⟨_, rfl, ln3, fun p6 hp6 => ⟨ln1, fun p7 hp7 => ?_⟩⟩⟩
  have k6 := Mod.refl (ms := []).new (o := .tup [.str "change", .str ⟨#[c]⟩, .str "a"]) hp6
  have k7 := Mod.refl (ms := []).new (o := .tup [.ref p6]) hp7
  have k67 := k6.trans k7
  have rD : RowE _ (.ref p7) [.chg c 97] := ⟨p7, _, rfl, upd_same, .cons ⟨p6, rfl, k7.tup _ _ upd_same⟩ .nil⟩
  refine rowE_cat (u1.mod k67) rD (by show _ + 1 ≤ _; omega) fun HC d2 mC u2 => ?_
  have mLC := (mB.trans k67).trans mC
  refine ⟨_, rfl, _, rfl, _, _, rfl, rfl, _, rfl, ?_⟩
  refine rowE_from (n := at_ + 1) ((hr2.mod m2L).mod mLC) (by omega) fun HD d3 mD u3 => ?_
  have hlD2 : (es.take at_ ++ [Edit.chg c 97]).length + (es.drop (at_ + 1)).length ≤ es.length + 1 := by
    have := hTD (at_ + 1) (by omega)
    rw [List.length_append]
    show _ + 1 + _ ≤ _
    omega
  refine rowE_cat (u2.mod mD) u3 (by omega) fun HE d4 mE u4 => ?_
  have mLE := (mLC.trans mD).trans mE
  have m2E := m2L.trans mLE
  have m0E := m02.trans m2E.nil
  -- E
  refine ⟨_, rfl, t, vs, rfl, .inr (SqT.of (m0E.tup _ _ ht)), fun L2 hL2 => ⟨ln2, fun L3 hL3 => ?_⟩⟩
  have kL2 := Mod.refl (ms := []).new (o := .lst vs) hL2
  have kL3 := Mod.refl (ms := []).new (o := .lst [d4, .ref L2]) hL3
  have kL23 := kL2.trans kL3
  have eL := (mLE.trans kL23).keep _ _ (upd_same (a := L) (o := .lst [a4, b3, c1])) (by simp)
  refine ⟨L, L3, _, _, rfl, rfl, eL, upd_same, le_line (by simp), fun L4 hL4 => ?_⟩
  have kL4 := Mod.refl (ms := []).new (o := .lst ([a4, b3, c1] ++ [d4, .ref L2])) hL4
  have m24' := (m2E.trans kL23).trans kL4
  have ha4 := ha2.mod m24'
  have hne : L4 ≠ h := fun z => (ha2.mod (m2E.trans kL23)).ne hL4 |>.1 z
  refine ⟨h, cl, .ref L4, rfl, ha4, .inr ⟨L4, _, rfl, upd_same, hne, by simp, by simp, fun HF y mF haF hy => q _ y ((m02.trans m24'.nil).trans mF) haF ?_⟩⟩
  have eL2 := kL4.keep _ _ (kL3.keep _ _ (upd_same (a := L2) (o := .lst vs)) (by simp)) (by simp)
  have hneL2 : L2 ≠ h := fun z => (ha2.mod m2E).ne hL2 |>.1 z
  have mLF : Mod [h] _ HF := (((mLE.trans kL23).trans kL4).nil).trans mF
  have okK : ∀ e ∈ ([.put c, .take c] : List Edit), e.args.all okSign = true := fun e he => by
    simp only [List.mem_cons, List.not_mem_nil, or_false] at he
    rcases he with rfl | rfl <;> simp [Edit.args, okc]
  simp only [List.cons_append, List.nil_append, List.mem_cons, List.not_mem_nil, or_false] at hy
  rcases hy with rfl | rfl | rfl | rfl | rfl
  · refine .inl ⟨_, (((r5.mod m69).mod m9A).mod kL).mod mLF, by rw [List.length_append]; omega, fun e he => ?_⟩
    rcases List.mem_append.mp he with he | he
    · rcases List.mem_append.mp he with he | he
      · exact hoT e he
      · exact okK e he
    · exact hoD _ e he
  · refine .inl ⟨_, ((s3.mod m9A).mod kL).mod mLF, by rw [List.length_append]; have := hTD (at_ + 1) (by omega); omega, fun e he => ?_⟩
    rcases List.mem_append.mp he with he | he
    · exact hoT e he
    · exact hoD _ e he
  · refine .inl ⟨_, (t1.mod kL).mod mLF, by rw [List.length_append]; show _ + 1 ≤ _; omega, fun e he => ?_⟩
    rcases List.mem_append.mp he with he | he
    · exact hok e he
    · rw [List.mem_singleton.mp he]; simp [Edit.args, okc]
  · refine .inl ⟨_, ((u4.mod kL23).mod kL4).mod mF, by rw [List.length_append]; omega, fun e he => ?_⟩
    rcases List.mem_append.mp he with he | he
    · rcases List.mem_append.mp he with he | he
      · exact hoT e he
      · rw [List.mem_singleton.mp he]; simp [Edit.args, okc, okA]
    · exact hoD _ e he
  · exact .inr ⟨L2, vs, rfl, mF.keep _ _ eL2 (by simp [hneL2])⟩
end
end Fr

set_option maxHeartbeats 4000000
namespace Fr
open PySem PySem.Spec PyProof.Rows L2 LamX
/-- what _law_word makes of a call: the word of the error, or "let" -/
def TTword (K : PySem.W.Frag) : (XK → Hp → VK → Prop) → Hp → VK → Prop := fun tl H Q =>
  ∀ Qn : VK, (∀ v H', Q (.str "let") H' → Qn v H') → tl (fun cls d H' => cls = .ref (He.ga K "NoMending") ∧ d = none ∧ ∀ H'', Mod [] H' H'' → Q (.str "mending") H'') H Qn
section
variable {w : World} {K : PySem.W.Frag} {mg : Str → Option Value}
abbrev wordCx (X : Cx) (g : Addr) (cdg : Value) (s : Shared) (H : Hp) : Cx := (cxOf C8.CX0 X.prog X.w X.K X.mg X.base ["call", "found", "error", "flags", "is_one"] "_law_word" d_law_word.scope g cdg X.A X.stack s H C8.E0).nox
theorem word_gives {X : Cx} (T : Tx X.w X.K X.mg) {g : Addr} {cdg : Value} {q : Str} : GivesTo X ["call", "found", "error", "flags", "is_one"] "_law_word" d_law_word.scope g cdg d_law_word.body "call" q (TTword X.K) := by
  intro f c' s H Q tl act hc h
  obtain ⟨i1, i2⟩ := i_NoMending T
  have i3 := i_NoMending_NoMending T
  have ee := e_NoMending T
  refine ⟨_, pss_cons (ps_set (i := 1) sc_law_word.nd rfl (Or.inl rfl) pe_str) (pss_cons (ps_try_as (X := wordCx X g cdg s H) (c := .ref (He.ga X.K "ReadError")) (i := 2)
      (tb := fun W D σ H => ∃ Ech : XK, (∀ cls d σ' H', Ech cls d H' → σ'.length = 5 → W cls d σ' H') ∧ σ[0]? = some (some (.ref f)) ∧ H c' = some (CodeO c' q) ∧ tl Ech H fun _ H' => D.nx σ H')
      rfl rfl sc_law_word.nd rfl rfl ⟨by rfl, by decide, .inl (g_ReadError T)⟩ takes0 ?b (fun a oe cls d pn hz hf => (by exact pss_cons (ps_set (i := 3) sc_law_word.nd rfl (Or.inl rfl) (pe_lst (pa_cons (pe_callB (call_isE2 (X := wordCx X g cdg s H) (pn := pn) hz hf) (by rfl) (z_isinstance T) (by decide +kernel) (pa_cons (pv 2) (pa_cons (pe_gr (by rfl) (g_NoMending T)) pa_nil))) pa_nil))) (pss_cons (ps_set (i := 4) sc_law_word.nd rfl (Or.inl rfl) (pe_and (pe_cmpR op_eq (pe_bmK X.K PySem.F.plainAttrs_list PySem.F.slot_list_count PySem.F.type_list_count (mt_countK X.K) (pv 3) (pa_cons pe_bl pa_nil)) pe_int (nomark _)) (pe_one (pe_callB (call_isE2 (X := wordCx X g cdg s H) (pn := pn) hz hf) (by rfl) (z_isinstance T) (by decide +kernel) (pa_cons (pv 2) (pa_cons (pe_bltn (v := .ty "ValueError") (by rfl) (z_ValueError T) (by decide +kernel) rfl) pa_nil)))))) (pss_one (ps_set (i := 1) sc_law_word.nd rfl (Or.inl rfl) (pe_ifExp (pt_val (pv 4)) (pe_ix (ix_listK X.K) (pe_lst (pa_cons pe_str pa_nil)) (pe_bmK X.K PySem.F.plainAttrs_list PySem.F.slot_list_index PySem.F.type_list_index (mt_indexK X.K) (pv 3) (pa_cons pe_bl pa_nil)) (fun _ _ => rfl)) pe_str))))))) (pss_one (ps_ret (pv 1)))), ?r⟩
  case b =>
    intro W pn xe tk _
    refine ⟨fun pins s' σ H' D I h' => ?_⟩
    obtain ⟨Ech, hW, h1, h2, h3⟩ := h'
    have hp := fun p1 p2 => act _ pn xe Ech p1 p2 (Takes.len tk) (fun cls d σ' H' e hl => hW cls d σ' H' e hl)
    exact (pss_one (ps_expr (hp _ _))).run pins s' σ H' D I ⟨h1, h2, h3⟩
  case r =>
    refine ⟨_, ?_, rfl, hc, h _ fun v H' hq => ⟨_, rfl, hq⟩⟩
    rintro cls d σ' H' ⟨rfl, rfl, hq⟩ hl
    match σ', hl with
    | [s0, s1, s2, s3, s4], _ =>
    refine ⟨true, ee, fun _ a ha => ?_, fun z => by cases z⟩
    refine ⟨_, rfl, _, rfl, rfl, i1, _, _, true, rfl, fun u r => r, i3, ln1, fun L hL => ?_⟩
    have n1 := Mod.refl (ms := []).new (o := .lst [.bl true]) hL
    have eL : upd H' L (.lst [.bl true]) L = some (.lst [.bl true]) := upd_same
    refine ⟨_, rfl, ty_lst eL, L, [true], rfl, rfl, SqL.of eL, rfl, true, rfl, iteT ?_⟩
    refine ⟨_, rfl, _, rfl, rfl, i1, _, _, true, rfl, fun u r => r, i2, ?_⟩
    refine ⟨_, rfl, true, rfl, iteT ⟨ln1, fun L2 hL2 => ?_⟩⟩
    have n2 := Mod.refl (ms := []).new (o := .lst [.str "mending"]) hL2
    have eL2 := n2.keep _ _ eL (by simp)
    refine ⟨_, rfl, ty_lst eL2, L, [.bl true], .bl true, 0, .bl true, rfl, rfl, SqL.of eL2, rfl, rfl, rfl, rfl, fun m z' hm => absurd hm (Nat.not_lt_zero _), ?_⟩
    exact ⟨L2, _, 0, _, rfl, rfl, SqL.of upd_same, at_of (j := 0) rfl rfl, _, rfl, hq _ (n1.trans n2)⟩
end
end Fr

set_option maxHeartbeats 4000000
namespace Fr
open PySem PySem.Spec PyProof.Rows L2 LamX
/-! ### plain -/
theorem short_read : ∀ (p : Pat) {u : List Nat}, Reads p u → ∃ v, Reads p v ∧ v.length ≤ p.sg
  | .non, _, h => h.elim
  | .emp, _, _ => ⟨[], rfl, Nat.zero_le _⟩
  | .sign l, u, h => ⟨u, h, by obtain ⟨c, rfl, _⟩ := reads_sign.mp h; exact Nat.le_refl 1⟩
  | .thn p q, u, h => by
    obtain ⟨a, b, _, h1, h2⟩ := reads_thn.mp h
    obtain ⟨v1, g1, k1⟩ := short_read p h1
    obtain ⟨v2, g2, k2⟩ := short_read q h2
    exact ⟨v1 ++ v2, reads_thn.mpr ⟨v1, v2, rfl, g1, g2⟩, by rw [List.length_append]; exact Nat.add_le_add k1 k2⟩
  | .orr p q, u, h => by
    rcases h with h | h
    · obtain ⟨v, g, k⟩ := short_read p h; exact ⟨v, .inl g, Nat.le_trans k (Nat.le_add_right _ _)⟩
    · obtain ⟨v, g, k⟩ := short_read q h; exact ⟨v, .inr g, Nat.le_trans k (Nat.le_add_left _ _)⟩
  | .many _, _, _ => ⟨[], .nil, Nat.zero_le _⟩
  | .few _, _, _ => ⟨[], .nil, Nat.zero_le _⟩
  | .mark _ p, u, h => short_read p (u := u) h
theorem Al.len {x y : List Nat} {n : Nat} (h : Al x y n) : y.length ≤ x.length + n := by
  induction h with
  | nil => exact Nat.le_refl _
  | put _ ih => rw [List.length_cons]; omega
  | take _ ih => rw [List.length_cons]; omega
  | chg _ ih => rw [List.length_cons, List.length_cons]; omega
theorem Al.all (x y : List Nat) : Al x y (x.length + y.length) := by
  have h1 : ∀ l : List Nat, Al l [] l.length := fun l => by induction l with | nil => exact .nil | cons _ _ ih => exact ih.take
  have h2 : ∀ l : List Nat, Al [] l l.length := fun l => by induction l with | nil => exact .nil | cons _ _ ih => exact ih.put
  have := (h1 x).append (h2 y)
  rw [List.append_nil, List.nil_append] at this
  exact this
theorem BestT.len {p : Pat} {z u : List Nat} {c : Nat} (h : BestT p z u c) : u.length ≤ z.length + z.length + p.sg := by
  obtain ⟨v, h1, h2⟩ := short_read p h.reads
  have h3 := h.least v h1
  have h4 := edT_le (Al.all z v)
  have h5 := (edT_al z u).len
  rw [h.price] at h5
  omega
theorem path_len {z : List Nat} {F : Nat → Nat → Prop} {lot : Nat → List Nat} {p s : Nat} {es : List Edit} {p2 s2 : Nat} (h : Path z F lot p s es p2 s2) : p + es.length ≤ p2 + (tolds es).length := by
  induction h with
  | nil => exact Nat.le_refl _
  | @cons p s p1 s1 p2 s2 e es h k ih =>
    rw [tolds_cons, List.length_append, List.length_cons]
    cases h with
    | take _ => show _ ≤ p2 + (0 + _); omega
    | put _ _ => show _ ≤ p2 + (1 + _); omega
    | keep _ _ _ => show _ ≤ p2 + (1 + _); omega
    | chg _ _ _ _ => show _ ≤ p2 + (1 + _); omega
theorem path_ok {z : List Nat} {F : Nat → Nat → Prop} {lot : Nat → List Nat} (hz : ∀ c ∈ z, okSign c = true) (hl : ∀ s t, F s t → ∀ c ∈ lot t, okSign c = true) {p s : Nat} {es : List Edit} {p2 s2 : Nat} (h : Path z F lot p s es p2 s2) : ∀ e ∈ es, e.args.all okSign = true ∧ e.isSame = false := by
  have at_ : ∀ {p x}, z[p]? = some x → okSign x = true := fun h => hz _ (List.mem_of_getElem? h)
  induction h with
  | nil => exact fun _ h => nomatch h
  | @cons p s p1 s1 p2 s2 e es h k ih =>
    intro e' he
    rcases List.mem_cons.mp he with rfl | he
    · cases h with
      | take h => exact ⟨by simp [Edit.args, at_ h], rfl⟩
      | put f m => exact ⟨by simp [Edit.args, hl _ _ f _ m], rfl⟩
      | keep f m h => exact ⟨by simp [Edit.args, at_ h], rfl⟩
      | chg f m h n => exact ⟨by simp [Edit.args, at_ h, hl _ _ f _ m], decide_eq_false n⟩
    · exact ih e' he
theorem ed_edT (x y : Str) : ed x.cps.toList y.cps.toList x.length y.length = edT x.cps.toList y.cps.toList := by
  unfold edT
  rw [Array.length_toList, Array.length_toList]
  rfl
theorem doneP_len {z : List Nat} : ∀ (es : List Edit) {p : Nat} {u : List Nat}, doneP z p es = some u → u.length ≤ es.length
  | [], p, u, h => by
    have h : (if p = z.length then some [] else none) = some u := h
    split at h
    · cases h; exact Nat.le_refl _
    · cases h
  | e :: es, p, u, h => by
    have h : (match e.src with | none => (doneP z p es).map (e.told.toList ++ ·) | some x => if z[p]? = some x then (doneP z (p + 1) es).map (e.told.toList ++ ·) else none) = some u := h
    have key : ∀ q, (doneP z q es).map (e.told.toList ++ ·) = some u → u.length ≤ (e :: es).length := fun q hq => by
      cases hd : doneP z q es with
      | none => rw [hd] at hq; cases hq
      | some d =>
        rw [hd] at hq
        have hq : some (e.told.toList ++ d) = some u := hq
        injection hq with hq
        have := doneP_len es hd
        have : e.told.toList.length ≤ 1 := by cases e.told <;> simp
        rw [← hq, List.length_append, List.length_cons]
        omega
    cases hs : e.src with
    | none => rw [hs] at h; exact key _ h
    | some x =>
      rw [hs] at h
      have h : (if z[p]? = some x then (doneP z (p + 1) es).map (e.told.toList ++ ·) else none) = some u := h
      split at h
      · exact key _ h
      · cases h
theorem rawD_len {z : List Nat} {es : List Edit} {u : List Nat} (h : rawD z es = some u) : u.length ≤ es.length := by
  unfold rawD at h
  split at h
  · exact doneP_len es h
  · cases h
theorem sh_pair {u : List Nat} {n : Nat} (h : ∀ c ∈ u, okSign c = true) : SeqAt.shaped (.tuple [.str ⟨u.toArray⟩, .int (n : Int)]) = true := by
  have h1 : PyData.canLay0 (.tuple [.str ⟨u.toArray⟩, .int (n : Int)]) = true := by
    simp only [PyData.canLay0, PyData.canLayAll0, Bool.and_true]
    show Array.all u.toArray (fun c => decide (c < 0x110000)) = true
    rw [List.all_toArray]
    exact List.all_eq_true.mpr fun c hc => decide_eq_true (by have := okSign_at (h c hc); omega)
  have h2 : PyData.depth (.tuple [.str ⟨u.toArray⟩, .int (n : Int)]) ≤ 64 := by simp [PyData.depth, PyData.depthAll]
  show (PyData.canLay0 _ && decide (_ ≤ 64)) = true
  rw [h1, decide_eq_true h2]; rfl
theorem iteK {b : Bool} {A R : Prop} (r : R) (h1 : b = true → R → A) : if b = true then A else R := by
  cases b with
  | true => exact h1 rfl r
  | false => exact r
def Kp (ms : List Addr) (H H' : Hp) : Prop := ∀ b o, H b = some o → (∀ ps, o ≠ .tbl ps) → b ∉ ms → H' b = some o
theorem Kp.trans {ms : List Addr} {H H1 H2 : Hp} (a : Kp ms H H1) (b : Kp ms H1 H2) : Kp ms H H2 := fun c o e n m => b c o (a c o e n m) n m
theorem Mod.kp {ms : List Addr} {H H' : Hp} (m : Mod ms H H') : Kp ms H H' := fun b o e _ n => m.keep b o e n
theorem kp_ext {ms : List Addr} {H H' : Hp} (m : ExtN H H') : Kp ms H H' := fun b o e n _ => m b o e n
theorem Kp.nil {ms : List Addr} {H H' : Hp} (m : Kp [] H H') : Kp ms H H' := fun b o e n _ => m b o e n (by simp)
theorem HandAt.kp {H H' : Hp} {h cl : Addr} (m : Kp [] H H') (a : HandAt H h cl) : HandAt H' h cl :=
  let ⟨cs, i1, i2, i3, i4, h1, h2, h3, h4⟩ := a; ⟨cs, i1, i2, i3, i4, m _ _ h1 (fun _ z => nomatch z) (by simp), h2, m _ _ h3 (fun _ z => nomatch z) (by simp), h4⟩
theorem RowE.kp {H H' : Hp} {v : V} {es : List Edit} (m : Kp [] H H') (h : RowE H v es) : RowE H' v es :=
  let ⟨t, vs, h1, h2, h3⟩ := h; ⟨t, vs, h1, m _ _ h2 (fun _ z => nomatch z) (by simp), pd_imp (fun _ _ ⟨t, e1, e2⟩ => ⟨t, e1, m _ _ e2 (fun _ z => nomatch z) (by simp)⟩) h3⟩
/-- tables stay where only lists are written -/
theorem tabs_mod {T : List (Addr × Str)} {ms : List Addr} {H H' : Hp} (m : Mod ms H H') (hm : ∀ a ∈ ms, ∃ xs, H a = some (.lst xs)) (t : Tabs T H) : Tabs T H' := fun p hp => by
  obtain ⟨ps, h1, h2, h3⟩ := t p hp
  have ni : ∀ {b : Addr} {o : HO}, H b = some o → (∀ xs, o ≠ .lst xs) → b ∉ ms := fun h n z => by
    obtain ⟨xs, e⟩ := hm _ z
    rw [h] at e
    injection e with e
    exact n xs e
  refine ⟨ps, m.keep _ _ h1 (ni h1 fun _ z => by cases z), h2, fun pos cv hc => ?_⟩
  obtain ⟨c, e, hco⟩ := h3 pos cv hc
  exact ⟨c, e, m.keep _ _ hco (ni hco fun _ z => by unfold CodeO at z; cases z)⟩
theorem tabs_modH {T : List (Addr × Str)} {H H' : Hp} {h cl : Addr} (m : Mod [h] H H') (ha : HandAt H h cl) (t : Tabs T H) : Tabs T H' := tabs_mod m (fun a h => by
  rw [List.mem_singleton.mp h]
  obtain ⟨cs, i1, i2, i3, i4, h1, _⟩ := ha
  exact ⟨_, h1⟩) t
theorem tabs_modN {T : List (Addr × Str)} {H H' : Hp} (m : Mod [] H H') (t : Tabs T H) : Tabs T H' := tabs_mod m (fun a h => nomatch h) t
section
variable {P : Program} {w : World} {K : PySem.W.Frag} {mg : Str → Option Value} {base : Heap}
def lamQ : Str := "_law_is_right.<locals>.<lambda>"
def spRight (Pt : Addr) : Sp := fun vs H Q _ => ∃ (h cl : Addr), vs = [.ref h] ∧ HandAt H h cl ∧ Tabs [(Pt, lamQ)] H ∧ ∀ H', Kp [h] H H' → HandAt H' h cl → Tabs [(Pt, lamQ)] H' → Q (.bl true) H'
theorem has_law_is_right (T : Tx w K mg) {Pt : Addr} (TB : TabB base mg (He.codeOf K d_law_is_right.at_) Pt) : Has P w K mg base 11 "_law_is_right" ["hand"] (spRight Pt) := by
  have H_law_pattern := has_law_pattern (P := P) (base := base) T 4
  have H_law_text := has_law_text (P := P) (base := base) T
  have H_mend_price := has_mend_price (P := P) (base := base) T
  have H_mended := has_mended (P := P) (base := base) T
  have H_mend_row := has_mend_row (P := P) (base := base) T
  have H_law_done := has_law_done (P := P) (base := base) T
  have H_done_by := has_done_by (P := P) (base := base) T
  have H_done_byX := has_done_byX (P := P) (base := base) T
  have H_law_is_read := has_law_is_read (P := P) (base := base) T 6
  have H_law_price := has_law_price (P := P) (base := base) T
  have H_is_mending := has_is_mending (P := P) (base := base) T
  have H_law_best := has_law_best (P := P) (base := base) T 6
  have H_law_bent := has_law_bent (P := P) (base := base) T
  obtain ⟨oc, od, dV, kV, doc, pm, an, cdw, ct, osl, lkw, hcw, kpw, bw⟩ := (T.raw (d := d_law_word) 42 rfl rfl rfl rfl b_law_word)
  refine (T.hasC (d := d_law_is_right) 44 rfl rfl rfl rfl b_law_is_right sc_law_is_right (fun vs H Q E h => ?_) fun A outer s H vs Q E hr h => ?_)
  · obtain ⟨_, _, rfl, _⟩ := h; rfl
  obtain ⟨h, cl, rfl, ha, tb, q⟩ := h
  obtain ⟨tbs, etbs⟩ : ∃ tbs, tbs = [(Pt, lamQ)] := ⟨_, rfl⟩
  have hmT : (Pt, lamQ) ∈ tbs := by rw [etbs]; exact List.mem_singleton.mpr rfl
  have huT : ∀ p ∈ tbs, p.1 = Pt → p.2 = lamQ := fun p hp _ => by rw [etbs] at hp; rw [List.mem_singleton.mp hp]
  refine ⟨_, (pss_cons (ps_asg (pe_tup (pa_cons (pe_callH H_law_pattern (hr.mono (by decide)) (by rfl) (g__law_pattern T) (pa_cons (pv 0) (pa_cons pe_int pa_nil))) (pa_cons (pe_callH H_law_text (hr.mono (by decide)) (by rfl) (g__law_text T) (pa_cons (pv 0) (pa_cons pe_int pa_nil))) pa_nil))) (pg_tup rfl (pgs_cons (pg_name (i := 1) sc_law_is_right.nd rfl (Or.inl rfl)) (pgs_cons (pg_name (i := 9) sc_law_is_right.nd rfl (Or.inr rfl)) pgs_nil))))
      (pss_cons (ps_set (i := 2) sc_law_is_right.nd rfl (Or.inl rfl) (pe_callH H_mend_price (hr.mono (by decide)) (by rfl) (g_mend_price T) (pa_cons (pv 1) (pa_cons (pv 9) pa_nil))))
      (pss_cons (ps_if (pt_cmpR op_isN (pv 2) pe_non (nomark _)) (pss_one (ps_ret (pe_cmpR op_isN (pe_callH H_mended (hr.mono (by decide)) (by rfl) (g_mended T) (pa_cons (pv 1) (pa_cons (pv 9) pa_nil))) pe_non (nomark _)))) pss_nil)
      (pss_cons (ps_par (i := 3) (j := 4) rfl sc_law_is_right.nd rfl rfl (by decide) rfl rfl (pa_cons (pe_callH H_mend_row (hr.mono (by decide)) (by rfl) (g_mend_row T) (pa_cons (pv 1) (pa_cons (pv 9) pa_nil))) (pa_cons (pe_callH H_mended (hr.mono (by decide)) (by rfl) (g_mended T) (pa_cons (pv 1) (pa_cons (pv 9) pa_nil))) pa_nil)) (by rfl))
      (pss_cons (ps_if (PW.pt (pw_or (pt_cmpR (op_neD (hu64 hr)) (pe_callH H_law_done (hr.mono (by decide)) (by rfl) (g__law_done T) (pa_cons (pv 9) (pa_cons (pv 3) pa_nil))) (pe_tup (pa_cons (pv 4) (pa_cons (pv 2) pa_nil))) (nomark _)) (pw_or (pt_cmpR op_ne (pe_callH H_done_by (hr.mono (by decide)) (by rfl) (g_done_by T) (pa_cons (pv 9) (pa_cons (pv 3) pa_nil))) (pv 4) (nomark _)) (pw_or1 (pt_not (pt_val (pe_callH H_law_is_read (hr.mono (by decide)) (by rfl) (g__law_is_read T) (pa_cons (pv 1) (pa_cons (pv 4) pa_nil))))))))) (pss_one (ps_ret pe_bl)) pss_nil)
      (pss_cons (ps_if (PW.pt (pw_or (pt_cmpR op_ne (pe_callH H_law_price (hr.mono (by decide)) (by rfl) (g__law_price T) (pa_cons (pv 9) (pa_cons (pv 4) pa_nil))) (pv 2) (nomark _)) (pw_or1 (pt_cmpR op_isnot_bl (pe_callH H_is_mending (hr.mono (by decide)) (by rfl) (g_is_mending T) (pa_cons (pv 1) (pa_cons (pv 9) (pa_cons (pv 3) pa_nil)))) pe_bl (nomark _))))) (pss_one (ps_ret pe_bl)) pss_nil)
      (pss_cons (ps_set (i := 5) sc_law_is_right.nd rfl (Or.inl rfl) (pe_callH H_law_best (hr.mono (by decide)) (by rfl) (g__law_best T) (pa_cons (pv 1) (pa_cons (pv 9) pa_nil))))
      (pss_cons (ps_if (PW.pt (pw_and (pt_cmpR op_notN (pv 5) pe_non (nomark _)) (pw_and1 (pt_cmpR op_lt (pe_ix ix_seq (pv 5) pe_int (fun _ _ => rfl)) (pv 2) (nomark _))))) (pss_one (ps_ret pe_bl)) pss_nil)
      (pss_cons (ps_set (i := 8) sc_law_is_right.nd rfl (Or.inr rfl) (pe_callH H_law_bent (hr.mono (by decide)) (by rfl) (g__law_bent T) (pa_cons (pv 0) (pa_cons (pv 3) pa_nil))))
      (C8.pss_cut (ps_set (i := 6) sc_law_is_right.nd rfl (Or.inl rfl) (pe_ifExp (pt_val (pe_callB call_isiB (by rfl) (z_isinstance T) (by decide +kernel) (pa_cons (pv 8) (pa_cons (pe_bltn (v := .ty "tuple") (by rfl) (z_tuple T) (by decide +kernel) rfl) pa_nil)))) (pe_callH H_law_done (hr.mono (by decide)) (by rfl) (g__law_done T) (pa_cons (pv 9) (pa_cons (pv 8) pa_nil))) pe_non))
      (C8.pss_cut (ps_set (i := 7) sc_law_is_right.nd rfl (Or.inl rfl) (pe_or (pe_cmpR op_isN (pv 6) pe_non (nomark _)) (pe_or (pe_cmpR op_ne (pe_ix ix_seq (pv 6) pe_int (fun _ _ => rfl)) (pv 2) (nomark _)) (pe_one (pe_not (pe_callH H_law_is_read (hr.mono (by decide)) (by rfl) (g__law_is_read T) (pa_cons (pv 1) (pa_cons (pe_ix ix_seq (pv 6) pe_int (fun _ _ => rfl)) pa_nil))))))))
      (C8.pss_cut (ps_if (PW.pt (pw_and (pt_val (pv 7)) (pw_and1 (pt_cmpR op_isnot_bl (pe_callH H_is_mending (hr.mono (by decide)) (by rfl) (g_is_mending T) (pa_cons (pv 1) (pa_cons (pv 9) (pa_cons (pv 8) pa_nil)))) pe_bl (nomark _))))) (pss_one (ps_ret pe_bl)) pss_nil)
      (pss_cons (ps_if (pt_cmpR op_isN (pv 6) pe_non (nomark _)) (pss_one (ps_ret (pe_or (pe_callB call_isiB (by rfl) (z_isinstance T) (by decide +kernel) (pa_cons (pv 8) (pa_cons (pe_bltn (v := .ty "list") (by rfl) (z_list T) (by decide +kernel) rfl) pa_nil))) (pe_one (pe_cmpR op_eq (pe_lamcall (k := 5) (T := tbs) (TT := TTword K) (by rfl) (g__law_word T) kpw lkw hcw bw sc_law_word rfl (Or.inl rfl) (word_gives T) TB rfl hmT huT (hr.mono (by decide)) (lamS_by rfl) rfl (fun _ _ _ _ _ => rfl) (fun A outer s H E f c2 hr => (pe_callX H_done_byX (hr.mono (by decide)) (by rfl) (g_done_by T) (takes_of rfl rfl rfl rfl) (fun _ _ _ _ h => h) (pa_cons (pv 9) (pa_cons (pv 8) pa_nil))))) pe_str (nomark _)))))) pss_nil)
      (pss_one (ps_ret (pe_cmpR op_eq (pe_callH H_done_by (hr.mono (by decide)) (by rfl) (g_done_by T) (pa_cons (pv 9) (pa_cons (pv 8) pa_nil))) (pe_ix ix_seq (pv 6) pe_int (fun _ _ => rfl)) (nomark _))))))))))))))))), ?_⟩
  refine ⟨_, rfl, h, cl, rfl, ha, by decide, fun H1 v p m1 ha1 hp ok sz dp sg => ⟨_, rfl, h, cl, 4, rfl, ha1, by decide, fun H2 z m2 ha2 hzl hzo => ⟨ln2, fun tt htt => ⟨tt, _, rfl, SqT.of upd_same, rfl, _, _, rfl, _, _, rfl, rfl, ?_⟩⟩⟩⟩
  have ntt := Mod.refl (ms := []).new (o := .tup [v, .str z]) htt
  have tb2 := tabs_modN ntt (tabs_modH m2 ha1 (tabs_modH m1 ha tb))
  have kp2 : Kp [h] H _ := ((m1.trans m2).trans ntt.nil).kp
  have ha2 := ha2.mod ntt
  have hp := (hp.mod m2).mod ntt
  generalize upd H2 tt (.tup [v, .str z]) = H3 at *
  have tz : IsText z := ⟨by omega, hzo⟩
  have ezl : z.cps.toList.length = z.length := Array.length_toList
  have sz : p.size ≤ 60 := Nat.le_trans sz (by decide)
  have sg : p.sg ≤ 8 := sg
  have dp : p.deep ≤ 7 := dp
  have h64 : (z.length + 1) * (p.sg + 1) ≤ 5 * 9 := Nat.mul_le_mul (by omega) (by omega)
  refine ⟨_, rfl, _, rfl, v, p, z, rfl, hp, ok, sz, by omega, tz, fun H4 o m4 ho => ?_⟩
  have hp4 := hp.mod m4
  cases o with
  | none =>
    refine ⟨_, rfl, rfl, _, rfl, iteTe rfl ?_⟩
    refine ⟨_, rfl, _, rfl, v, p, z, rfl, hp4, ok, sz, by omega, tz, by omega, by omega, by omega, fun H5 m5 _ => ⟨rfl, ?_⟩, fun H5 u c m5 best _ _ _ => absurd best.reads (Reads.none ho u)⟩
    have m35 := m4.trans m5
    exact q _ (kp2.trans m35.nil.kp) (ha2.mod m35) (by rw [← etbs] at *; exact tabs_modN m35 tb2)
  | some c =>
    refine ⟨_, rfl, rfl, _, rfl, iteFe rfl ?_⟩
    refine ⟨_, rfl, _, rfl, v, p, z, rfl, hp4, ok, sz, by omega, tz, by omega, by omega, by omega, fun H5 m5 hn => ?_, fun H5 r vs es u c' m5 er hes best mn hprc htold hpath hok hul => ?_⟩
    · cases hn.uniq ho
    obtain rfl : c = c' := by have e := ho.uniq mn; injection e
    obtain ⟨tf_, hpath⟩ := hpath
    refine ⟨_, rfl, _, rfl, v, p, z, rfl, hp4.mod m5, ok, sz, by omega, tz, by omega, by omega, by omega, fun H6 m6 hn => ?_, fun H6 u' c2 m6 best' _ _ _ => ⟨_, _, rfl, ?_⟩⟩
    · cases hn.uniq ho
    obtain ⟨rfl, rfl⟩ := best.uniq best'
    have m36 := (m4.trans m5).trans m6
    have hp6 := hp.mod m36
    have hul2 := best.len
    have rE : RowE H6 (.ref r) es := ⟨r, vs, rfl, m6.tup _ _ er, pd_imp (fun _ _ h => h.mod m6) hes⟩
    have hpo := path_ok (F := FolS p) (lot := p.lotN) hzo (fun s t f => (lotN_ok ok f).ok) hpath
    have heo : ∀ e ∈ es, e.args.all okSign = true := fun e he => (hpo e he).1
    have heb : es.all edB = true := List.all_eq_true.mpr fun e he => by unfold edB; rw [(hpo e he).1, (hpo e he).2]; rfl
    have hraw : rawD z.cps.toList es = some u := by unfold rawD; rw [if_pos heb, path_done hpath ezl.symm, htold]
    have hell := path_len hpath
    rw [htold] at hell
    have hel : es.length ≤ 20 := by omega
    -- the row does it
    refine ⟨_, rfl, _, rfl, z, .ref r, es, rfl, by omega, rE, by omega, heo, fun H7 v7 m7 hv7 => ?_⟩
    rw [hraw] at hv7
    obtain ⟨t7, rfl, et7⟩ := hv7
    rw [hprc] at et7
    refine ⟨_, rfl, _, rfl, ln2, fun t8 ht8 => ?_⟩
    have n8 := Mod.refl (ms := []).new (o := .tup [.str ⟨u.toArray⟩, .int (c : Nat)]) ht8
    refine ⟨.tuple [.str ⟨u.toArray⟩, .int (c : Nat)], .tuple [.str ⟨u.toArray⟩, .int (c : Nat)], .tup (SqT.of (n8.tup _ _ et7)) (.cons (.str _) (.cons (.int _) .nil)), .tup (SqT.of upd_same) (.cons (.str _) (.cons (.int _) .nil)), sh_pair hok, sh_pair hok, _, rfl, iteFe (by simp [PyData.eqv, PyData.eqvAll]) ?_⟩
    have m68 := m7.trans n8
    refine ⟨_, rfl, _, rfl, z, .ref r, es, u, rfl, tz, rE.mod m68, by omega, hraw, fun H9 m9 => ⟨_, rfl, rfl, _, rfl, iteFe (by simp) ?_⟩⟩
    have m69 := m68.trans m9
    refine ⟨_, rfl, _, rfl, v, p, ⟨u.toArray⟩, rfl, hp6.mod m69, dp, (by show u.length ≤ 30; omega), fun HA b mA hb => ?_⟩
    obtain rfl : b = true := hb.mpr best.reads
    refine ⟨_, rfl, iteFe rfl ?_⟩
    have m6A := m69.trans mA
    refine ⟨_, rfl, _, rfl, z, ⟨u.toArray⟩, rfl, by omega, (by show u.length ≤ 1000; omega), fun HB mB => ⟨_, rfl, rfl, _, rfl, iteFe ?_ ?_⟩⟩
    · rw [ed_edT, best.price]; show (!decide (V.int (c : Nat) = V.int (c : Nat))) = false; simp
    have m6B := m6A.trans mB
    refine ⟨_, rfl, _, rfl, _, rfl, v, p, z, .ref r, some u, es, rfl, hp6.mod m6B, ok, sz, by omega, tz, by omega, by omega, by omega, .inl ⟨rE.mod m6B, by omega, hraw⟩, fun HC b mC hb => ?_⟩
    obtain rfl : b = true := hb.mpr ⟨u, c, rfl, best, hprc⟩
    refine ⟨_, _, rfl, rfl, _, rfl, iteFe rfl ?_⟩
    have m6C := m6B.trans mC
    -- best
    refine ⟨_, rfl, _, rfl, v, p, z, rfl, hp6.mod m6C, dp, by omega, fun HD y mD hbest => ?_⟩
    have m6D := m6C.trans mD
    refine ⟨_, rfl, rfl, _, rfl, iteK ?r fun hb R => ?h⟩
    case h =>
      rcases hbest with ⟨rfl, _⟩ | ⟨t, u', rfl, hin, et⟩
      · cases hb
      · have hle := best.least u' hin.reads
        exact ⟨_, rfl, .inr (.inl ⟨t, _, 0, _, rfl, rfl, SqT.of et, at_of (j := 0) rfl rfl, _, rfl, _, _, rfl, rfl, _, rfl, iteFe (decide_eq_false (by omega)) R⟩)⟩
    have m3D := m36.trans m6D
    have haD := ha2.mod m3D
    refine ⟨_, rfl, _, rfl, h, cl, .ref r, es, rfl, haD, rE.mod m6D, by omega, heo, fun HE bv mE haE hbent => ?_⟩
    have tbE := tabs_modH mE haD (tabs_modN m3D tb2)
    have kpE : Kp [h] H HE := (kp2.trans m3D.nil.kp).trans mE.kp
    have hpE := hp.mod (m3D.nil.trans mE)
    refine ⟨fun σ' H' => ∃ (dv : V) (es' : List Edit) (o : Option (List Nat)) (y7 : Option V), σ' = [some (.ref h), some v, some (.int (c : Nat)), some (.ref r), some (.str ⟨u.toArray⟩), some y, some dv, y7, some bv, some (.str z)] ∧ Mod [] HE H' ∧
      DoneV H' dv (o.map fun u => (u, prices es')) ∧ RowO H' z bv es' o ∧ es'.length ≤ 30, ?_, ?_⟩
    · rcases hbent with ⟨es', r', hl', ho'⟩ | ⟨t', xs', rfl, et'⟩
      · obtain ⟨tr, vr, rfl, etr, hpr⟩ := r'
        refine ⟨_, rfl, _, _, true, rfl, isb_tup etr, true, rfl, iteT ?_⟩
        refine ⟨_, rfl, _, rfl, z, .ref tr, es', rfl, by omega, ⟨tr, vr, rfl, etr, hpr⟩, by omega, ho', fun HF dv mF hdv => ?_⟩
        exact ⟨dv, es', rawD z.cps.toList es', none, rfl, mF, hdv, .inl ⟨RowE.mod mF ⟨tr, vr, rfl, etr, hpr⟩, by omega, rfl⟩, by omega⟩
      · refine ⟨_, rfl, _, _, false, rfl, ⟨"list", .base (.lst et'), by decide +kernel⟩, false, rfl, iteF ?_⟩
        exact ⟨.non, [], none, none, rfl, Mod.refl, rfl, .inr ⟨rfl, t', xs', rfl, et'⟩, by simp⟩
    rintro _ HF ⟨dv, es', o, y7, rfl, mF, hdv, hro, hl'⟩
    have hpF := hpE.mod mF
    refine ⟨fun σ' H' => ∃ nb : Bool, σ' = [some (.ref h), some v, some (.int (c : Nat)), some (.ref r), some (.str ⟨u.toArray⟩), some y, some dv, some (.bl nb), some bv, some (.str z)] ∧ Mod [] HF H' ∧ (nb = true → ∀ u', o = some u' → ¬ (prices es' = c ∧ Reads p u')), ?_, ?_⟩
    · cases o with
      | none =>
        obtain rfl : dv = .non := hdv
        exact ⟨_, rfl, rfl, true, rfl, iteT ⟨true, rfl, Mod.refl, fun _ _ h => by cases h⟩⟩
      | some u' =>
        obtain ⟨td, rfl, etd⟩ := hdv
        refine ⟨_, rfl, rfl, false, rfl, iteF ?_⟩
        refine ⟨_, rfl, .inr (.inl ⟨td, _, 1, _, rfl, rfl, SqT.of etd, at_of (j := 1) rfl rfl, _, rfl, rfl, _, rfl, ?_⟩)⟩
        have hul' : u'.length ≤ 30 := by
          rcases hro with ⟨_, _, hr'⟩ | ⟨h, _⟩
          · have := rawD_len hr'; omega
          · cases h
        by_cases hpc : prices es' = c
        · refine iteFe (by simp [hpc]) ?_
          refine ⟨_, rfl, _, rfl, .inr (.inl ⟨td, _, 0, _, rfl, rfl, SqT.of etd, at_of (j := 0) rfl rfl, v, p, ⟨u'.toArray⟩, rfl, hpF, dp, hul', fun HH b mH hb => ⟨b, rfl, !b, rfl, mH, fun h u'' e k => ?_⟩⟩)⟩
          injection e with e
          subst e
          rw [hb.mpr k.2] at h
          cases h
        · exact iteTe (by simp; omega) ⟨true, rfl, Mod.refl, fun _ _ _ h => hpc h.1⟩
    rintro _ HG ⟨nb, rfl, mG, hnb⟩
    have mEG := mF.trans mG
    refine ⟨fun σ' H' => σ' = [some (.ref h), some v, some (.int (c : Nat)), some (.ref r), some (.str ⟨u.toArray⟩), some y, some dv, some (.bl nb), some bv, some (.str z)] ∧ Mod [] HG H', ?_, ?_⟩
    · refine ⟨_, rfl, nb, rfl, ?_⟩
      cases nb with
      | false => exact iteF ⟨rfl, Mod.refl⟩
      | true =>
        refine iteT ?_
        refine ⟨_, rfl, _, rfl, _, rfl, v, p, z, bv, o, es', rfl, hpE.mod mEG, ok, sz, by omega, tz, by omega, by omega, by omega, hro.mod mG, fun HI b mI hb => ?_⟩
        have eb : b = false := by
          cases b with
          | false => rfl
          | true =>
            obtain ⟨u', c', e1, e2, e3⟩ := hb.mp rfl
            obtain ⟨h1, h2⟩ := e2.uniq best
            exact absurd ⟨by rw [e3, h2], by rw [h1]; exact best.reads⟩ (hnb rfl u' e1)
        subst eb
        exact ⟨_, _, rfl, rfl, _, rfl, iteFe rfl ⟨rfl, mI⟩⟩
    rintro _ HI ⟨rfl, mI⟩
    have mEI := mEG.trans mI
    have tbI := tabs_modN mEI tbE
    have haI := haE.mod mEI
    have kpI : Kp [h] H HI := kpE.trans mEI.nil.kp
    have fin : ∀ H', Kp [] HI H' → Tabs tbs H' → Q (.bl true) H' := fun H' k t => q _ (kpI.trans k.nil) (haI.kp k) (by rw [← etbs]; exact t)
    have tbI' : Tabs tbs HI := by rw [etbs]; exact tbI
    have hroI := (hro.mod mG).mod mI
    have hdvI := (hdv.mod mG).mod mI
    cases o with
    | none =>
      obtain rfl : dv = .non := hdv
      refine ⟨_, rfl, rfl, _, rfl, iteTe rfl ?_⟩
      rcases hroI with ⟨⟨tr, vr, rfl, etr, hpr⟩, hl2, hr2⟩ | ⟨_, tl, xl, rfl, etl⟩
      · refine ⟨_, rfl, _, _, false, rfl, ⟨"tuple", .base (.tup etr), by decide +kernel⟩, false, rfl, iteF ?_⟩
        refine ⟨tbI', fun HJ eJ tJ Qn hQn => ⟨_, rfl, _, rfl, z, .ref tr, es', rfl, tz, RowE.kp (kp_ext eJ) ⟨tr, vr, rfl, etr, hpr⟩, hl2, hr2, fun HK mK => ⟨rfl, rfl, fun HL mL => ⟨rfl, ?_⟩⟩⟩⟩
        rw [decide_eq_true rfl]
        exact fin _ ((kp_ext eJ).trans (mK.trans mL).kp) (tabs_modN (mK.trans mL) tJ)
      · exact ⟨_, rfl, _, _, true, rfl, ⟨"list", .base (.lst etl), by decide +kernel⟩, true, rfl, iteT (fin _ (fun _ _ h _ _ => h) tbI')⟩
    | some u' =>
      obtain ⟨td, rfl, etd⟩ := hdvI
      refine ⟨_, rfl, rfl, _, rfl, iteFe rfl ?_⟩
      rcases hroI with ⟨rEI, hl2, hr2⟩ | ⟨h, _⟩
      case inr => cases h
      refine ⟨_, rfl, _, rfl, z, bv, es', u', rfl, tz, rEI, hl2, hr2, fun HJ mJ => ⟨_, rfl, .inr (.inl ⟨td, _, 0, _, rfl, rfl, SqT.of (mJ.tup _ _ etd), at_of (j := 0) rfl rfl, rfl, ?_⟩)⟩⟩
      rw [decide_eq_true rfl]
      exact fin _ mJ.kp (tabs_modN mJ tbI')
end
end Fr

set_option maxHeartbeats 4000000
/-! The law itself, its code object known. -/
namespace Fr
open PySem PySem.Spec PyProof.Rows L2 LamX
section
variable {fa : List He.Fa} {fn : List He.DefD} {ts : List He.Tab} {ex : PySem.W.Frag → Bool} {P : Program} {w : World} {K : PySem.W.Frag} {mg : Str → Option Value}
theorem TxB.has1BC (T : TxB fa fn ts ex w K mg) {B : Heap → Prop} {d : He.DefD} (i : Nat) {x : Str} {N ps : List Str} {k : Nat} {sp : Sp} (hd : fn[i]? = some d) (hf : He.fAd K d.at_ = He.ga K x) (h0 : d.dfl = []) (h1 : d.kwd = []) (hb : BindH d ps) (S : FnScope N ps d.scope)
    (len : ∀ vs H Q E, sp vs H Q E → vs.length = ps.length)
    (hbody : ∀ (base : Heap), B base → ∀ (A : Around) (outer : List Env) (s : Shared) (H : Hp) (vs : List V) (Q : VK) (E : XK), Room k (A.deeper (envOfC d.qual d.scope s.heap.objs.size (He.ga K x) (.ref (He.codeOf K d.at_)))) → sp vs H Q E →
      ∃ t, PSs (cxOf CX0 P w K mg base N d.qual d.scope (He.ga K x) (.ref (He.codeOf K d.at_)) A outer s H E).nox d.body t ∧ t { nx := fun _ H' => Q .non H', rt := Q } (start N vs) H) :
    ∃ fd, (∀ (s : Shared) (us : List Value), us.length = ps.length → BindsTo s fd ⟨us, []⟩ (ps.zip us)) ∧ ∀ base : Heap, B base → FnOk P w K mg base CX0 (k + 1) (He.ga K x) fd ps sp := by
  obtain ⟨fd, F⟩ := T.c.d.def_ i hd
  have e0 : He.DefD.dvs K d = [] := by unfold He.DefD.dvs; rw [h0]; rfl
  have e1 : He.DefD.kws K d = [] := by unfold He.DefD.kws; rw [h1]; rfl
  rw [e0, e1] at F
  refine ⟨fd, by rw [hf] at F; exact F.bindsA hb, fun base hB => ?_⟩
  obtain ⟨oc, od, dV, kV, doc, pm, an, cdv, ct, osl, rfl, lk, hcd, _, _⟩ := F.ex
  obtain ⟨c, rfl⟩ := He.codeIn_ref hcd
  have ec : He.codeOf K d.at_ = c := He.codeOf_eq lk rfl
  rw [hf] at lk
  refine fn_of lk hcd S len fun A outer s H vs Q E hr h => ?_
  have := hbody base hB A outer s H vs Q E
  rw [ec] at this
  obtain ⟨t, ht, q⟩ := this hr h
  exact ⟨t, ht.nox, q⟩
end
end Fr

set_option maxHeartbeats 4000000
namespace Fr
open PySem PySem.Spec PyProof.Rows L2 LamX
theorem rep_all : ∀ n : Nat, (List.replicate n true).all id = true
  | 0 => rfl
  | n + 1 => by rw [List.replicate_succ, List.all_cons, rep_all n]; rfl
theorem text_ab : IsText ("ab" : Str) := ⟨by decide +kernel, by decide +kernel⟩
theorem text_a : IsText ("a" : Str) := ⟨by decide +kernel, by decide +kernel⟩
section
variable {P : Program} {w : World} {K : PySem.W.Frag} {mg : Str → Option Value}
def lamL : Str := "law.<locals>.<lambda>"
def spLaw (K : PySem.W.Frag) (Pt Pl : Addr) : Sp := fun vs H Q _ => ∃ (a : Addr) (ns : List Int), vs = [.ref a] ∧ SqL K H a (ns.map V.int) ∧ ns.length ≤ 63 ∧ Tabs [(Pt, lamQ), (Pl, lamL)] H ∧ ∀ H', Q (.bl true) H'
theorem has_law (T : Tx w K mg) {Pt Pl : Addr} (hne : Pt ≠ Pl) : ∃ fd, (∀ (s : Shared) (us : List Value), us.length = (["script"] : List Str).length → BindsTo s fd ⟨us, []⟩ ((["script"] : List Str).zip us)) ∧
    ∀ base : Heap, (TabB base mg (He.codeOf K d_law_is_right.at_) Pt ∧ TabB base mg (He.codeOf K d_law.at_) Pl) → FnOk P w K mg base CX0 12 (He.ga K "law") fd ["script"] (spLaw K Pt Pl) := by
  obtain ⟨oc, od, dV, kV, doc, pm, an, cdw, ct, osl, lkw, hcw, kpw, bw⟩ := (T.raw (d := d_law_word) 42 rfl rfl rfl rfl b_law_word)
  refine (T.has1BC (d := d_law) 45 rfl rfl rfl rfl b_law sc_law (fun vs H Q E h => ?_) fun base TB2 A outer s H vs Q E hr h => ?_)
  · obtain ⟨_, _, rfl, _⟩ := h; rfl
  obtain ⟨TBr, TB⟩ := TB2
  obtain ⟨a, ns, rfl, hS, hn, tb, q⟩ := h
  have H_law_hand := has_law_hand (P := P) (base := base) T
  have H_done_by := has_done_by (P := P) (base := base) T
  have H_done_byX := has_done_byX (P := P) (base := base) T
  have H_law_is_right := has_law_is_right (P := P) (base := base) T TBr
  obtain ⟨tbs, etbs⟩ : ∃ tbs, tbs = [(Pt, lamQ), (Pl, lamL)] := ⟨_, rfl⟩
  have hmT : (Pl, lamL) ∈ tbs := by rw [etbs]; simp
  have huT : ∀ p ∈ tbs, p.1 = Pl → p.2 = lamL := fun p hp e => by
    rw [etbs] at hp
    simp only [List.mem_cons, List.not_mem_nil, or_false] at hp
    rcases hp with rfl | rfl
    · exact absurd e hne
    · rfl
  refine ⟨_, (pss_cons (ps_set (i := 1) sc_law.nd rfl (Or.inr rfl) (pe_callH H_law_hand (hr.mono (by decide)) (by rfl) (g__law_hand T) (pa_cons (pv 0) pa_nil)))
      (pss_cons (ps_if (PW.pt (pw_or (pt_cmpR op_ne (pe_callH H_done_by (hr.mono (by decide)) (by rfl) (g_done_by T) (pa_cons pe_str (pa_cons (pe_tup (pa_cons (pe_tup (pa_cons pe_str (pa_cons pe_str pa_nil))) (pa_cons (pe_tup (pa_cons pe_str (pa_cons pe_str (pa_cons pe_str pa_nil)))) pa_nil))) pa_nil))) pe_str (nomark _)) (pw_or1 (pt_cmpR op_ne (pe_lamcall (k := 5) (T := tbs) (TT := TTword K) (by rfl) (g__law_word T) kpw lkw hcw bw sc_law_word rfl (Or.inl rfl) (word_gives T) TB rfl hmT huT (hr.mono (by decide)) (lamS_by rfl) rfl (fun _ _ _ _ _ => rfl) (fun A outer s H E f c2 hr => (pe_callX H_done_byX (hr.mono (by decide)) (by rfl) (g_done_by T) (takes_of rfl rfl rfl rfl) (fun _ _ _ _ h => h) (pa_cons pe_str (pa_cons (pe_tup pa_nil) pa_nil))))) pe_str (nomark _))))) (pss_one (ps_ret pe_bl)) pss_nil)
      (pss_one (ps_ret (pe_callB (cr_all rfl) (by rfl) (z_all T) (by decide +kernel) (pa_cons (pe_lc (own := [("turn", 2)]) (g := (gName 2)) (tt := tYes) rfl sc_law.nd (pi_range1 (by rfl) (z_range T) (pa_cons pe_int pa_nil)) (blkOk_by (own := [("turn", 2)]) (N := ["script", "hand", "turn"]) (sc := defScope s_law) (by decide +kernel)) (fun _ _ _ _ _ => (pg_name (i := 2) sc_law.nd rfl (Or.inl rfl))) (fun _ _ _ _ _ => pts_nil) (fun _ _ _ _ _ => (pe_callH H_law_is_right (hr.mono (by decide)) (by rfl) (g__law_is_right T) (pa_cons (pv 1) pa_nil)))) pa_nil)))))), ?_⟩
  refine ⟨_, rfl, a, ns, rfl, hS, hn, fun H1 h cl m1 hh ha => ?_⟩
  have tb1 := tabs_modN m1 tb
  refine ⟨ln2, fun t1 ht1 => ⟨ln3, fun t2 ht2 => ⟨ln2, fun t3 ht3 => ?_⟩⟩⟩
  have n1 := Mod.refl (ms := []).new (o := .tup [.str "keep", .str "a"]) ht1
  have n2 := Mod.refl (ms := []).new (o := .tup [.str "change", .str "b", .str "c"]) ht2
  have n3 := Mod.refl (ms := []).new (o := .tup [.ref t1, .ref t2]) ht3
  refine ⟨"ab", .ref t3, [.keep 97, .chg 98 99], [97, 99], rfl, text_ab, ⟨t3, _, rfl, upd_same, .cons ⟨t1, rfl, n3.tup _ _ (n2.tup _ _ upd_same)⟩ (.cons ⟨t2, rfl, n3.tup _ _ upd_same⟩ .nil)⟩, by decide, by decide +kernel, fun H2 m2 => ⟨rfl, _, rfl, iteFe (by decide +kernel) ?_⟩⟩
  have m12 := ((n1.trans n2).trans n3).trans m2
  have tb2 := tabs_modN m12 tb1
  have ha2 := ha.mod m12
  refine ⟨by rw [etbs]; exact tb2, fun H3 e3 tb3 Qn hQn => ⟨le_line (by simp), fun t4 ht4 => ⟨"a", .ref t4, [], rfl, text_a, ⟨t4, [], rfl, upd_same, .nil⟩, by decide, by decide +kernel, fun H4 m4 => ⟨rfl, rfl, fun H5 m5 => ⟨rfl, _, rfl, iteFe (by decide +kernel) ?_⟩⟩⟩⟩⟩
  have m35 := ((Mod.refl (ms := []).new (o := .tup []) ht4).trans m4).trans m5
  have ha5 := (ha2.kp (kp_ext e3)).mod m35
  have tb5 := tabs_modN m35 tb3
  rw [etbs] at tb5
  have tb5 : Tabs [(Pt, lamQ)] H5 := fun p hp => tb5 p (by rw [List.mem_singleton.mp hp]; simp)
  refine ⟨_, rfl, by decide, by decide, ?_⟩
  rw [show (4 : Int).toNat = 4 from rfl]
  intro D hD
  have nD := ha5.ne hD
  refine lc_it walk_range (fun i H' => HandAt H' h cl ∧ Tabs [(Pt, lamQ)] H' ∧ H' D = some (.lst ((List.replicate i true).map V.bl)))
    ⟨ha5.other nD.1 nD.2, tabs_modN (Mod.refl.new hD) tb5, upd_same⟩ (fun _ _ _ _ => trivial) ?_ ?_
  · rintro i _ _ H6 hi ⟨ha6, tb6, eD⟩ ⟨rfl, rfl⟩
    refine ⟨rfl, _, rfl, h, cl, rfl, ha6, tb6, fun H7 k7 ha7 tb7 => ?_⟩
    have eD7 := k7 _ _ eD (fun _ z => nomatch z) (by simp [nD.1])
    have mD : Mod [D] H7 (upd H7 D (.lst ((List.replicate i true).map V.bl ++ [.bl true]))) := Mod.refl.put eD7 (fun _ z => nomatch z) (List.mem_singleton.mpr rfl)
    refine ⟨_, eD7, lt_line (by rw [List.length_map, List.length_replicate]; omega), ha7.other nD.1 nD.2, tabs_mod mD (fun b hb => ⟨(List.replicate i true).map V.bl, by rw [List.mem_singleton.mp hb]; exact eD7⟩) tb7, ?_⟩
    rw [upd_same, List.replicate_succ', List.map_append]
    rfl
  · rintro H6 ⟨ha6, tb6, eD⟩
    refine ⟨D, _, rfl, SqL.of eD, ?_⟩
    rw [rep_all]
    exact q H6
theorem law_end (T : Tx w K mg) {Pt Pl : Addr} (hne : Pt ≠ Pl) {fa : Addr} (h : mg "law" = some (.ref fa)) : ∃ fd, (∀ (s : Shared) (u : Value), BindsTo s fd ⟨[u], []⟩ [("script", u)]) ∧
    ∀ base : Heap, (TabB base mg (He.codeOf K d_law_is_right.at_) Pt ∧ TabB base mg (He.codeOf K d_law.at_) Pl) → FnOk P w K mg base CX0 12 fa fd ["script"] (spLaw K Pt Pl) := by
  obtain ⟨fd, hb, hF⟩ := has_law (P := P) T hne
  have e := h.symm.trans (g_law T)
  injection e with e
  injection e with e
  subst e
  exact ⟨fd, fun s u => hb s [u] rfl, hF⟩
end
end Fr

set_option maxHeartbeats 0
open PySem PySem.W PySem.Calls PyProof.Rows
theorem PySem.Challenge.cw_firstreads_k80_whole_rows_of_edits_that_holds : PySem.Challenge.rw_firstreads_k80_whole_rows_of_edits_that.Holds := by
  w_on; o_law
  refine HandSHeadRun.head_any (r := OpenLaw.row PySem.Challenge.rw_firstreads_k80_whole_rows_of_edits_that) (q := view (OpenLaw.row PySem.Challenge.rw_firstreads_k80_whole_rows_of_edits_that).prog [56]) (H := Fr.hk) (ob := Fr.ob) (M := 6000) (loose := Fr.loose) (d := HandSHeadRun.topDef (OpenLaw.row PySem.Challenge.rw_firstreads_k80_whole_rows_of_edits_that).prog 56) (kwd := []) Fr.ob_eq
    (by kernel_rfl) (fun s => by kernel_rfl) Fr.run (by kernel_rfl) (by kernel_rfl) (by kernel_rfl) (by rfl) (by first | assumption | decide +kernel) (by decide +kernel) ⟨rfl, rfl, rfl, rfl, rfl, by decide +kernel⟩ ?hw ?hc
  case hw => w_witness2
  case hc =>
    refine Fr.walk_ofTE (l := PySem.Challenge.rw_firstreads_k80_whole_rows_of_edits_that) (n := 63) (k := 12) (x := "script") (CX := L2.CX0) rfl (by decide) (by kernel_rfl) ⟨rfl, by decide, by decide⟩ ?F (fun _ _ _ _ z => z)
    intro w mg fa h Y G hmg0
    obtain ⟨K, KX, c⟩ := Y
    have T : Fr.Tx w K mg := ⟨c.t, c.more, ⟨h, KX, G⟩⟩
    have hmg : mg ("law" : PySem.Str) = some (.ref fa) := by
      have e : (HandSHeadRun.topDef (OpenLaw.row PySem.Challenge.rw_firstreads_k80_whole_rows_of_edits_that).prog 56).name = ("law" : PySem.Str) := by kernel_rfl
      rw [← e]
      exact hmg0
    have hsub : ∀ x ∈ ([("_law_is_right", none), ("law", none)] : List He.Defn), x ∈ Fr.tf := fun x hx => hx
    obtain ⟨fd, hb, hF⟩ := Fr.law_end (P := (PySem.Challenge.rw_firstreads_k80_whole_rows_of_edits_that).prog) T (Pt := (He.cT K ("_law_is_right", none)).2) (Pl := (He.cT K ("law", none)).2) (Fr.t_law_is_right_law T) hmg
    refine ⟨K, fd, Fr.spLaw K (He.cT K ("_law_is_right", none)).2 (He.cT K ("law", none)).2, ([("_law_is_right", none), ("law", none)] : List He.Defn).map (He.cT K), KX, ?_, ?_, ?_, hb, ?_, ?_⟩
    · intro p hp; obtain ⟨x, hx, rfl⟩ := List.mem_map.mp hp; exact c.empty _ (hsub x hx)
    · intro p hp; obtain ⟨x, hx, rfl⟩ := List.mem_map.mp hp; exact c.out _ (hsub x hx)
    · intro p hp; obtain ⟨x, hx, rfl⟩ := List.mem_map.mp hp; exact codeHd_of_K KX (c.hd _ (hsub x hx))
    · intro H a ns hl hT hS
      refine ⟨a, ns, rfl, hS, hl, fun p hp => ?_, fun _ => rfl⟩
      have key : ∀ x ∈ ([("_law_is_right", none), ("law", none)] : List He.Defn), H (He.cT K x).2 = some (.tbl #[]) := fun x hx => hT _ (List.mem_map.mpr ⟨x, hx, rfl⟩)
      simp only [List.mem_cons, List.not_mem_nil, or_false] at hp
      rcases hp with rfl | rfl <;> exact LamX.TabS.nil (key _ (by simp))
    · intro base _ _ hB
      have key : ∀ x ∈ ([("_law_is_right", none), ("law", none)] : List He.Defn), LamX.TabB base mg (He.cT K x).1 (He.cT K x).2 := fun x hx => hB _ (List.mem_map.mpr ⟨x, hx, rfl⟩)
      exact hF base ⟨key ("_law_is_right", none) (List.mem_cons_self ..), key ("law", none) (List.mem_cons_of_mem _ (List.mem_cons_self ..))⟩

