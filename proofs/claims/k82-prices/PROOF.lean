import PyProof.Rows.All
import Wide.All
import OpenK.AllK
import Wide.FinOn
import HandS.ForMost
import HandS.ForExc
import HandS.Style
import HandS.TupLe
import HandS.IsInst
import HandS.Wide
import HandS.WordsExc
import HandS.Zip
import HandS.Walk
import HandS.Small
import HandS.WrittenGet
import HandS.Flow
import HandS.Conv
import KE.GoesEnum
import KE.GoesMore
import PySem.Challenge.RW_firstreads_k82_whole_prices_of_ors_and_t
import HandS.HeadHook2
section
set_option Elab.async false
set_option linter.all false
set_option maxRecDepth 100000
set_option maxHeartbeats 2000000
/-! Rules that the hand layer lacks, for the firstreads program. -/
namespace FL
open PySem PySem.Spec PyProof.Rows L2

/-! ### module constants -/
theorem pe_gS {X : Cx} {x z : Str} {pos : Pos} (hg : Gl X x) (hm : ∃ t, X.mg x = some (.str z t)) (hd : (x == ("__debug__" : Str)) = false := by decide) : PE X (.Name x pos) (tC (.str z)) := by
  obtain ⟨t, hm⟩ := hm
  exact pe_glob hg hm ⟨t, rfl⟩ hd
theorem pe_gI {X : Cx} {x : Str} {z : Int} {pos : Pos} (hg : Gl X x) (hm : ∃ t, X.mg x = some (.int z t)) (hd : (x == ("__debug__" : Str)) = false := by decide) : PE X (.Name x pos) (tC (.int z)) := by
  obtain ⟨t, hm⟩ := hm
  exact pe_glob hg hm ⟨t, rfl⟩ hd

/-! ### a def, a method, a class of the program, by what it promises -/
structure Df (P : Program) (w : World) (K : PySem.W.Frag) (mg : Str → Option Value) (base : Heap) (k : Nat) (x : Str) (ps : List Str) (sp : Sp) : Prop where
  ex : ∃ (f : Addr) (fd : FuncData), FnOk P w K mg base (L2.CX P w) k f fd ps sp ∧ mg x = some (.ref f) ∧ PySem.W.keepIn K (.ref f) = true ∧ Binds K fd ps []
structure DfM (P : Program) (w : World) (K : PySem.W.Frag) (mg : Str → Option Value) (base : Heap) (k : Nat) (C : Addr) (m : Str) (ps : List Str) (sp : Sp) : Prop where
  ex : ∃ (f : Addr) (fd : FuncData), FnOk P w K mg base (L2.CX P w) k f fd ps sp ∧ Meth K C m f ∧ Binds K fd ps []
  cl : Cls K C
structure DfC (P : Program) (w : World) (K : PySem.W.Frag) (mg : Str → Option Value) (base : Heap) (k : Nat) (C : Addr) (x : Str) (ps : List Str) (sp : Sp) : Prop where
  ex : ∃ (f : Addr) (fd : FuncData), FnOk P w K mg base (L2.CX P w) k f fd ps sp ∧ Mk K C f ∧ mg x = some (.ref C) ∧ Binds K fd ps []
section
variable {X : Cx} {k : Nat} {C : Addr} {ps : List Str} {sp : Sp} {E : XK} {x m : Str} {p pos apos : Pos} {e o : Expr} {es : List Expr} {ta : TE} {t : TA}
theorem pe_callD (D : Df X.prog X.w X.K X.mg X.base k x ps sp) (hr : Room k X.A) (hx : Passes (L2.CX X.prog X.w) X E) (ha : PA X (e :: es) t) (hg : Gl X x := by rfl)
    (hdb : (x == ("__debug__" : Str)) = false := by decide) (he : starEach (e :: es) X.env = (false, eval e X.env) :: starEach es X.env := by rfl) (hpl : (backTo pos (starEach es X.env)).any (·.1) = false := by rfl) :
    PE X (.Call (.Name x p) (e :: es) [] pos) (tCall sp [] E t) := by
  obtain ⟨f, fd, F, hm, hk, hb⟩ := D.ex
  exact pe_call F hr hg hm hk hb .nil hx ha hdb he hpl
theorem pe_callD0 (D : Df X.prog X.w X.K X.mg X.base k x ps sp) (hr : Room k X.A) (hx : Passes (L2.CX X.prog X.w) X E) (hg : Gl X x := by rfl)
    (hdb : (x == ("__debug__" : Str)) = false := by decide) : PE X (.Call (.Name x p) [] [] pos) (tCall sp [] E tNil) := by
  obtain ⟨f, fd, F, hm, hk, hb⟩ := D.ex
  exact pe_call0 F hr hg hm hk hb .nil hx hdb
theorem pe_methD {pl : Sem Bool} (he : PE X o ta) (D : DfM X.prog X.w X.K X.mg X.base k C m ps sp) (hr : Room k X.A) (hx : Passes (L2.CX X.prog X.w) X E) (ha : PA X (e :: es) t)
    (hst : starEach (e :: es) X.env = (false, eval e X.env) :: starEach es X.env := by rfl) (hpl : (backTo pos (starEach es X.env)).any (·.1) = false := by rfl)
    (ht : eval (.Call (.Attribute o m apos) (e :: es) [] pos) X.env = (do
      let ov ← eval o X.env
      standAt apos.atName
      let (f, first) ← holding [ov] (getMethod ov m pl)
      callWith pos f first (backTo pos (starEach (e :: es) X.env)) (backToKw pos (keywordEach [] X.env))) := by rfl) :
    PE X (.Call (.Attribute o m apos) (e :: es) [] pos) (tMeth C m sp [] E ta t) := by
  obtain ⟨f, fd, F, hm, hb⟩ := D.ex
  exact pe_meth he D.cl hm F hr hb .nil hx ha hst hpl ht
theorem pe_methD0 {pl : Sem Bool} (he : PE X o ta) (D : DfM X.prog X.w X.K X.mg X.base k C m ps sp) (hr : Room k X.A) (hx : Passes (L2.CX X.prog X.w) X E)
    (ht : eval (.Call (.Attribute o m apos) [] [] pos) X.env = (do
      let ov ← eval o X.env
      standAt apos.atName
      let (f, first) ← holding [ov] (getMethod ov m pl)
      callWith pos f first (backTo pos (starEach [] X.env)) (backToKw pos (keywordEach [] X.env))) := by rfl) :
    PE X (.Call (.Attribute o m apos) [] [] pos) (tMeth C m sp [] E ta tNil) := by
  obtain ⟨f, fd, F, hm, hb⟩ := D.ex
  exact pe_meth0 he D.cl hm F hr hb .nil hx ht
theorem pe_makeD (D : DfC X.prog X.w X.K X.mg X.base k C x ps sp) (hr : Room (k + 1) X.A) (hx : Passes (L2.CX X.prog X.w) X E) (ha : PA X (e :: es) t) (hg : Gl X x := by rfl)
    (hdb : (x == ("__debug__" : Str)) = false := by decide) (he : starEach (e :: es) X.env = (false, eval e X.env) :: starEach es X.env := by rfl) (hpl : (backTo pos (starEach es X.env)).any (·.1) = false := by rfl) :
    PE X (.Call (.Name x p) (e :: es) [] pos) (tMake C sp [] E t) := by
  obtain ⟨f, fd, F, M, hm, hb⟩ := D.ex
  exact pe_make M F hr hg hm hb .nil hx ha hdb he hpl
theorem pe_makeD0 (D : DfC X.prog X.w X.K X.mg X.base k C x ps sp) (hr : Room (k + 1) X.A) (hx : Passes (L2.CX X.prog X.w) X E) (hg : Gl X x := by rfl)
    (hdb : (x == ("__debug__" : Str)) = false := by decide) : PE X (.Call (.Name x p) [] [] pos) (tMake C sp [] E tNil) := by
  obtain ⟨f, fd, F, M, hm, hb⟩ := D.ex
  exact pe_make0 M F hr hg hm hb .nil hx hdb
end

/-! ### an own exception class over ValueError, raised without arguments -/
structure ExcC (K : PySem.W.Frag) (mg : Str → Option Value) (x : Str) (C : Addr) : Prop where
  ex : PySem.W.excIn K C [.type "ValueError", .type "Exception", .type "BaseException", .type "object"] "ValueError.__new__" = true
  g : mg x = some (.ref C)
  kp : PySem.W.keepIn K (.ref C) = true
  sub : PySem.W.subIn K (.ref C) (.type "BaseException") = some true
  ty : PySem.W.typeIn K (.ref C) = some (.type "type")
theorem pmk_own0 {X : Cx} {C : Addr} {x : Str} {p pos : Pos} (T : ExcC X.K X.mg x C) (hg : Gl X x) (hdb : (x == ("__debug__" : Str)) = false := by decide) :
    PMk X (.Call (.Name x p) [] [] pos) (fun _ H Q => Q (.ref C) none H) := by
  intro pins s σ H Q I h
  refine wpAny_Call_Name_kw (ld_glob I hg T.g ?_ hdb)
  refine PySem.W.callWith_K0 I.kIn T.kp ?_
  obtain ⟨bm, N, nm, qn, bs, hdct, sn, sub, ab, col, dd, k0, k1, k2, k3, k5, mN, hC, hN, hni, T'⟩ := exc_obj I.kIn T.ex
  refine wpAny_call_exc_subT PySem.F.excBase_ValueError T' hC hN hni (fun h' e hm => ?_) (by show 0 ≤ sizeLine; exact Nat.zero_le _)
  exact mk_of I hm (raises_own T.sub T.ty) h (I.hok.gone hm.new)

/-! ### dict(d), d.update(e) -/
theorem call_dict_of {X : Cx} : CallR X (.type "dict") (fun xs H Q => ∃ (a : Addr) (kvs : List (Key × V)), xs = [.ref a] ∧ Rd H a (.dK kvs) ∧ ∀ p, H p = none → Q (.ref p) (upd H p (.dK kvs))) := by
  intro pins s σ H xs us Q I r h
  obtain ⟨a, kvs, rfl, hq, q⟩ := h
  obtain rfl := Vals.ref1 r
  exact d_copyOf I hq fun p s' hp I' => ⟨.ref p, _, I', rfl, q p hp⟩

/-! ### enumerate(text) -/
def Itex (x : Str) : It :=
  ⟨fun i _ => i < x.cps.size, fun i H v H' => ∃ T c, v = .ref T ∧ H T = none ∧ H' = upd H T (.tup [.int (i : Nat), .str ⟨#[c]⟩]) ∧ x.cps[i]? = some c, fun i _ => x.cps.size ≤ i⟩
theorem turn_enumS {P : Program} {w : World} {K : PySem.W.Frag} {elts : List Expr} {kk : Nat} {tpos : Pos} (e it : Addr) (x : Str) (t : Tok) (hne : e ≠ it) :
    Turn P w K (.Tuple elts kk tpos) (Itex x) [e, it] e (fun i h => i ≤ x.cps.size ∧ (∃ old, IsEnum h e it ((i : Nat) : Int) old) ∧ h.IsStrIter it (strIterType x) x t i) where
  mem := by simp
  obj := fun i h st b hb => by
    obtain ⟨_, ⟨old, he⟩, ⟨o, ho, hc, hd⟩⟩ := st
    have e' : b = e ∨ b = it := by simpa using hb
    rcases e' with z | z
    · rw [z]; exact ⟨_, he, fun v q => nomatch q⟩
    · rw [z]; exact ⟨o, ho, fun v q => by rw [hd] at q; cases q⟩
  keep := fun i h h' st k => by
    obtain ⟨hi, ⟨old, he⟩, ⟨o, ho, hc, hd⟩⟩ := st
    exact ⟨hi, ⟨old, k e (by simp) _ he⟩, ⟨o, k it (by simp) o ho, hc, hd⟩⟩
  item := by
    intro X hP hw hK hc i pins s σ H E I hf st hg
    subst hP hw hK
    obtain ⟨_, ⟨old, he⟩, hit⟩ := st
    have hel : e < s.heap.objs.size := Heap.lt_size he
    have hil : it < s.heap.objs.size := by obtain ⟨_, q, _⟩ := hit; exact Heap.lt_size q
    have D := Draws.text (prog := X.prog) (w := X.w) (A := X.A.in1) (by exact I.ok.hd hc) it x t
    refine wpAny_pyNext_enum_itemC D he hit hg hne (by simpa using hne) fun u h' tk hu ho hit' hT hsz hk => ?_
    obtain ⟨c, tu, hcx, rfl⟩ := hu
    refine ⟨_, rfl, wpAny_letOwnedTupleGo_enum (s := { s with heap := h', toks := tk + 1 }) ho fun h'' he' sb => ?_⟩
    have hT2 : h''.get? s.heap.objs.size = some { cls := .type "tuple", data := .seq #[.int i tk, .str ⟨#[c]⟩ tu] } := (sb.2 _ (Nat.ne_of_gt hel)).trans hT
    have new : ObjOk X.prog X.w (upd H s.heap.objs.size (.tup [.int (i : Nat), .str ⟨#[c]⟩])) h'' s.heap.objs.size (.tup [.int (i : Nat), .str ⟨#[c]⟩]) :=
      ⟨by show 2 ≤ sizeLine; decide, [.int i tk, .str ⟨#[c]⟩ tu], .cons ⟨_, rfl⟩ (.cons ⟨_, rfl⟩ .nil), ⟨_, hT2, rfl, _, rfl⟩⟩
    have I1 : Inv X pins σ (upd H s.heap.objs.size (.tup [.int (i : Nat), .str ⟨#[c]⟩])) { s with heap := h'', toks := tk + 1 } :=
      I.turnedNew (ch := [e, it]) (fun b ob hb q => (sb.2 b (fun z => hb (by simp [z]))).trans (hk b ob (fun z => hb (by simp [z])) (fun z => hb (by simp [z])) q)) hf (Nat.le_refl _) new
    obtain ⟨oi, hoi, hci, hdi⟩ := hit'
    refine ⟨.ref s.heap.objs.size, _, I1, rfl, ⟨_, c, rfl, I.hok.fresh (Nat.le_refl _), rfl, hcx⟩, ⟨hg, ⟨.str ⟨#[c]⟩ tu, ?_⟩, ⟨oi, (sb.2 it (Ne.symm hne)).trans hoi, hci, hdi⟩⟩, fun b hb => ?_⟩
    · have e1 : ((i + 1 : Nat) : Int) = (i : Int) + 1 := by omega
      rw [e1]; exact he'
    · have hb' : b < s.heap.objs.size := by
        have e' : b = e ∨ b = it := by simpa using hb
        rcases e' with z | z
        · rw [z]; exact hel
        · rw [z]; exact hil
      rw [upd_ne (Nat.ne_of_lt hb')]
      exact (hf b hb).1
  done := by
    intro X hP hw hK hc i pins s σ H E I hf st hg
    subst hP hw hK
    obtain ⟨hi, ⟨old, he⟩, hit⟩ := st
    have e1 : i = x.cps.size := Nat.le_antisymm hi hg
    obtain ⟨f0, f1, f2, f3, f4, f5⟩ := hf it (by simp)
    have D := Draws.text (prog := X.prog) (w := X.w) (A := X.A.in1) (by exact I.ok.hd hc) it x t
    rw [e1] at hit he
    exact wpAny_pyNext_enum_endD D he hit fun h' eb => ⟨rfl, I.turned (t' := s.toks) (fun b o hb q => eb b o hb q) f0 f1 f3 f4 f5⟩
  self := fun A i s Q E st h => let ⟨_, ⟨_, he⟩, _⟩ := st; wpAny_pyIter_enum he h
def iEnumS (ta : TA) : TI := fun σ H R => ta σ H fun vs H1 => ∃ x, vs = [.str x] ∧ R (Itex x) H1
theorem pi_enumS {X : Cx} {e : Expr} {ta : TA} {p pos tpos : Pos} {elts : List Expr} {kk : Nat} (hg : Gl X "enumerate") (hm : X.mg "enumerate" = none) (ha : PA X [e] ta) (hs : starEach [e] X.env = [(false, eval e X.env)] := by rfl) :
    PI X (.Tuple elts kk tpos) (.Call (.Name "enumerate" p) [e] [] pos) (iEnumS ta) := by
  refine ⟨fun pins s σ H R I h => ?_⟩
  refine Call_ (ld_blt I hg hm boot_enumerate (PyProof.Rows.callWith_type1 (thn (ha.run pos pins s σ H _ I h) fun us s1 ⟨vs, H1, I1, r1, q1⟩ => ?_) hs rfl))
  obtain ⟨x, ex, q⟩ := q1
  subst ex
  cases r1 with
  | cons r rr =>
    cases rr
    obtain ⟨t, rfl⟩ := r
    refine call_enumerate_str fun h' he hit hsz hk => wpAny_pyIter_enum he ?_
    have I2 : Inv X pins σ H1 { s1 with heap := h' } := I1.kept (t' := s1.toks) hk
    refine ⟨s1.heap.objs.size + 1, [s1.heap.objs.size + 1, s1.heap.objs.size], _, _, H1, rfl, I2, turn_enumS (s1.heap.objs.size + 1) s1.heap.objs.size x t (Nat.succ_ne_self _), ⟨Nat.zero_le _, ⟨.none, he⟩, hit⟩, fun b hb => ?_, q⟩
    have e' : b = s1.heap.objs.size + 1 ∨ b = s1.heap.objs.size := by simpa using hb
    have hle : s1.heap.objs.size ≤ b := by
      rcases e' with z | z
      · rw [z]; exact Nat.le_add_right _ _
      · rw [z]; exact Nat.le_refl _
    exact I1.fpOk hle (I1.hok.fresh hle)

/-! ### d.update(e) -/
def rUpd : V → List V → Hp → VK → Prop := fun x xs H Q => ∃ (d o : Addr) (kvs more : List (Key × V)), x = .ref d ∧ xs = [.ref o] ∧ H d = some (.dK kvs) ∧ Rd H o (.dK more) ∧ d ≠ o ∧ kvs.length + more.length ≤ sizeLine ∧
  Q .non (upd H d (.dK (mergeK kvs more)))
theorem mt_update {X : Cx} : MtR X "dict.update" rUpd := by
  intro pins s σ H x xs v us Q I rx rxs h
  obtain ⟨d, o, kvs, more, rfl, rfl, hd, ho, hne, hz, q⟩ := h
  cases rx
  obtain rfl := Vals.ref1 rxs
  obtain ⟨z1, b1, vs, rel, dd⟩ := dk_of I.hok hd
  obtain ⟨z2, b2, ws, rel2, dd2⟩ := dk_rd I.hok ho
  refine call_meetsIn PySem.F.slot_dict_update dd.typeIs PySem.F.entry_dict_update (PySem.F.args_dict_update_2 _ _) (meets_dict_update (mixKind X.prog X.w) d o hne b2) ⟨vs, ws, dd, dd2, ?_, fun h' hd' ho' hs => ?_⟩
  · rw [← rel.length, ← rel2.length]; exact hz
  · have hl := length_mergeK more kvs
    have he : ∃ q, h'.get? d = some q := by
      obtain ⟨q, _, _, e, _⟩ := hd'
      exact ⟨q, e⟩
    have I1 : Inv X pins σ (upd H d (.dK (mergeK kvs more))) { s with heap := h', toks := s.toks } :=
      d_write (t' := s.toks) I (by rw [hd]; trivial) hs he (dk_new (by omega) b1 (rel2.merge rel) hd')
    exact ⟨.non, _, I1, rfl, q⟩

/-! ### zip(text, tuple) -/
def Itzst (K : PySem.W.Frag) (x : Str) (b : Addr) : It :=
  ⟨fun i H => i < x.cps.size ∧ ∃ (ys : List V) (y : V), SqT K H b ys ∧ ys[i]? = some y,
    fun i H v H' => ∃ T c y, v = .ref T ∧ H T = none ∧ H' = upd H T (.tup [.str ⟨#[c]⟩, y]) ∧ x.cps[i]? = some c ∧ ∀ ys, SqT K H b ys → ys[i]? = some y,
    fun i H => i ≤ x.cps.size ∧ ∃ ys : List V, SqT K H b ys ∧ i ≤ ys.length ∧ (i = x.cps.size ∨ i = ys.length)⟩
theorem turn_zipST {P : Program} {w : World} {K : PySem.W.Frag} {elts : List Expr} {kk : Nat} {tpos : Pos} {b z TI TO i1 i2 : Addr} {x : Str} {t : Tok} (D : ZipSep2 z TI TO i1 i2 [i1] [i2, b]) :
    Turn P w K (.Tuple elts kk tpos) (Itzst K x b) [z, TI, TO, i1, i2] z (fun i h => IsZip h z TI TO .none ∧ IsTupOf2 h TI (.ref i1) (.ref i2) ∧ (∃ a1 a2, IsTupOf2 h TO a1 a2) ∧ h.IsStrIter i1 (strIterType x) x t i ∧ h.IsTupleIter i2 b i) where
  mem := by simp
  obj := fun i h st c hc => by
    obtain ⟨hz, hTI, ⟨x, y, hTO⟩, ⟨o1, e1, _, d1⟩, ⟨o2, e2, _, d2⟩⟩ := st
    have e' : c = z ∨ c = TI ∨ c = TO ∨ c = i1 ∨ c = i2 := by simpa using hc
    rcases e' with q | q | q | q | q
    · rw [q]; exact ⟨_, hz, fun v q => nomatch q⟩
    · rw [q]; exact ⟨_, hTI, fun v q => nomatch q⟩
    · rw [q]; exact ⟨_, hTO, fun v q => nomatch q⟩
    · rw [q]; exact ⟨o1, e1, fun v q => by rw [d1] at q; cases q⟩
    · rw [q]; exact ⟨o2, e2, fun v q => by rw [d2] at q; cases q⟩
  keep := fun i h h' st k => by
    obtain ⟨hz, hTI, ⟨x, y, hTO⟩, ⟨o1, e1, c1, d1⟩, h2⟩ := st
    exact ⟨k z (by simp) _ hz, k TI (by simp) _ hTI, ⟨x, y, k TO (by simp) _ hTO⟩, ⟨o1, k i1 (by simp) o1 e1, c1, d1⟩, h2.at fun o q => k i2 (by simp) o q⟩
  item := by
    intro X hP hw hK hc i pins s σ H E I hf st hg
    subst hP hw hK
    obtain ⟨hz, hTI, ⟨x0, y0, hTO⟩, h1, h2⟩ := st
    obtain ⟨hlt, ys, y, hqy, hy⟩ := hg
    obtain ⟨its2, rv2, p2, _⟩ := I.tuple hqy
    obtain ⟨u2, hu2, ru2⟩ := rv2.get hy
    have hzl : z < s.heap.objs.size := Heap.lt_size hz
    have hb : b ≠ i2 := fun e => by
      obtain ⟨o2, e2, c2, _⟩ := h2
      obtain ⟨ob, e3, c3, _⟩ := p2
      rw [e, e2] at e3
      cases e3
      rw [c2] at c3
      injection c3 with q
      exact absurd q (by decide)
    have D1 := Draws.text (prog := X.prog) (w := X.w) (A := X.A.in1) (by exact I.ok.hd hc) i1 x t
    have D2 := Draws.tuple (prog := X.prog) (w := X.w) (A := X.A.in1) (by exact I.ok.hd hc) i2 b hb its2.toArray
    have hlt2 : i < its2.toArray.size := by
      have := (List.getElem?_eq_some_iff.mp hu2).1
      simpa using this
    refine wpAny_pyNext_zipD2_item D D1 D2 hz hTI hTO h1 ⟨h2, p2⟩ hlt hlt2 fun v1 v2 h' tk y1 y2 z' TO' d1 d2 hT hsz hk => ?_
    obtain ⟨c, tu, hcx, rfl⟩ := y1
    refine ⟨_, rfl, wpAny_letOwnedTupleGo_zip (s := { s with heap := h', toks := tk }) z' fun h'' z'' sb => ?_⟩
    have hT2 : h''.get? s.heap.objs.size = some { cls := .type "tuple", data := .seq #[.str ⟨#[c]⟩ tu, v2] } := (sb.2 _ (Nat.ne_of_gt hzl)).trans hT
    have ev : v2 = u2 := by
      have q : its2.toArray[i]? = some v2 := y2
      have q2 : its2[i]? = some v2 := by simpa using q
      rw [hu2] at q2
      exact (Option.some.inj q2).symm
    have ru : RelV y v2 := ev ▸ ru2
    have new : ObjOk X.prog X.w (upd H s.heap.objs.size (.tup [.str ⟨#[c]⟩, y])) h'' s.heap.objs.size (.tup [.str ⟨#[c]⟩, y]) :=
      ⟨by show 2 ≤ sizeLine; decide, [.str ⟨#[c]⟩ tu, v2], .cons ⟨_, rfl⟩ (.cons ru .nil), ⟨_, hT2, rfl, _, rfl⟩⟩
    have I1 : Inv X pins σ (upd H s.heap.objs.size (.tup [.str ⟨#[c]⟩, y])) { s with heap := h'', toks := tk } :=
      I.turnedNew (t' := tk) (ch := [z, TI, TO, i1, i2]) (fun c o hb q => (sb.2 c (fun q' => hb (by simp [q']))).trans (hk c o (fun q' => hb (by simp [q'])) (fun q' => hb (by simp [q'])) (fun q' => hb (by simp [q'])) (fun q' => hb (by simp [q'])) q)) hf (Nat.le_refl _) new
    refine ⟨.ref s.heap.objs.size, _, I1, rfl, ⟨_, c, y, rfl, I.hok.fresh (Nat.le_refl _), rfl, hcx, fun l hl => by rw [I.tuple_inj hl hqy]; exact hy⟩, ⟨z'', ?_, ⟨.str ⟨#[c]⟩ tu, v2, ?_⟩, ?_, ?_⟩, fun c hcm => ?_⟩
    · exact (sb.2 _ D.TIz).trans (hk _ _ D.TIz D.TITO D.TIi1 D.TIi2 hTI)
    · exact (sb.2 _ D.TOz).trans TO'
    · obtain ⟨o1, e1, c1, d1⟩ := d1
      exact ⟨o1, (sb.2 _ (Ne.symm D.zi1)).trans e1, c1, d1⟩
    · exact d2.1.at fun o q => (sb.2 _ (Ne.symm D.zi2)).trans q
    · have hlt : c < s.heap.objs.size := by
        have e' : c = z ∨ c = TI ∨ c = TO ∨ c = i1 ∨ c = i2 := by simpa using hcm
        rcases e' with q | q | q | q | q
        · rw [q]; exact hzl
        · rw [q]; exact Heap.lt_size hTI
        · rw [q]; exact Heap.lt_size hTO
        · rw [q]; obtain ⟨_, e1, _⟩ := h1; exact Heap.lt_size e1
        · rw [q]; obtain ⟨_, e2, _⟩ := h2; exact Heap.lt_size e2
      rw [upd_ne (Nat.ne_of_lt hlt)]
      exact (hf c hcm).1
  done := by
    intro X hP hw hK hc i pins s σ H E I hf st hg
    subst hP hw hK
    obtain ⟨hz, hTI, ⟨x0, y0, hTO⟩, h1, h2⟩ := st
    obtain ⟨hle, ys, hqy, hle2, hend⟩ := hg
    obtain ⟨its2, rv2, p2, _⟩ := I.tuple hqy
    have l2 := rv2.length
    have hb : b ≠ i2 := fun e => by
      obtain ⟨o2, e2, c2, _⟩ := h2
      obtain ⟨ob, e3, c3, _⟩ := p2
      rw [e, e2] at e3
      cases e3
      rw [c2] at c3
      injection c3 with q
      exact absurd q (by decide)
    have D1 := Draws.text (prog := X.prog) (w := X.w) (A := X.A.in1) (by exact I.ok.hd hc) i1 x t
    have D2 := Draws.tuple (prog := X.prog) (w := X.w) (A := X.A.in1) (by exact I.ok.hd hc) i2 b hb its2.toArray
    have es : its2.toArray.size = ys.length := by simp [l2]
    exact wpAny_pyNext_zipD2_end D D1 D2 hz hTI hTO h1 ⟨h2, p2⟩ hle (by omega) (by omega) fun h' tk hk => ⟨rfl, I.turnedL (t' := tk) (ch := [z, TI, TO, i1, i2]) (fun c o hb q =>
      hk c o (fun q' => hb (by simp [q'])) (fun q' => hb (by simp [q'])) (fun q' => hb (by simp [q'])) (fun q' => hb (by simp [q'])) q) hf⟩
  self := fun A i s Q E st h => wpAny_pyIter_zip st.1 h
def iZipST (K : PySem.W.Frag) (ta : TA) : TI := fun σ H R => ta σ H fun vs H1 => ∃ x b ys, vs = [.str x, .ref b] ∧ SqT K H1 b ys ∧ R (Itzst K x b) H1
theorem pi_zipST {X : Cx} {e e2 : Expr} {ta : TA} {p pos tpos : Pos} {elts : List Expr} {kk : Nat} (hg : Gl X "zip") (hm : X.mg "zip" = none) (ha : PA X [e, e2] ta)
    (hs : starEach [e, e2] X.env = (false, eval e X.env) :: starEach [e2] X.env := by rfl) (hpl : (backTo pos (starEach [e2] X.env)).any (·.1) = false := by rfl) :
    PI X (.Tuple elts kk tpos) (.Call (.Name "zip" p) [e, e2] [] pos) (iZipST X.K ta) := by
  refine ⟨fun pins s σ H R I h => ?_⟩
  refine Call_ (ld_blt I hg hm PyProof.Rows.boot_zip (PyProof.Rows.callWith_type1 (thn (ha.run pos pins s σ H _ I h) fun us s1 ⟨vs, H1, I1, r1, q1⟩ => ?_) hs hpl))
  obtain ⟨x, b, ys, ex, hqy, q⟩ := q1
  subst ex
  cases r1 with
  | cons r rr =>
    cases rr with
    | cons r' rr =>
      cases rr
      obtain ⟨t, rfl⟩ := r
      cases r'
      obtain ⟨its2, rv2, p2, _⟩ := I1.tuple hqy
      have lb : b < s1.heap.objs.size := p2.lt
      refine zip_begins2 (begins_text x t) (begins_tuple b its2.toArray) trivial p2 fun h' hz hTI hTO h1 h2 hsz hk => wpAny_pyIter_zip hz ?_
      have I2 : Inv X pins σ H1 { s1 with heap := h' } := I1.kept (t' := s1.toks) hk
      refine ⟨s1.heap.objs.size + 4, [s1.heap.objs.size + 4, s1.heap.objs.size + 2, s1.heap.objs.size + 3, s1.heap.objs.size, s1.heap.objs.size + 1], _, _, H1, rfl, I2, turn_zipST (t := t) (zip_sep2 (N := s1.heap.objs.size) (fp1 := []) (fp2 := [b]) (fun _ z => nomatch z) (fun c z => by
        have e : c = b := by simpa using z
        rw [e]; exact lb)), ⟨hz, hTI, ⟨_, _, hTO⟩, ⟨_, h1, rfl, rfl⟩, ⟨_, h2, rfl, rfl⟩⟩, fun c hcm => ?_, q⟩
      have e' : c = s1.heap.objs.size + 4 ∨ c = s1.heap.objs.size + 2 ∨ c = s1.heap.objs.size + 3 ∨ c = s1.heap.objs.size ∨ c = s1.heap.objs.size + 1 := by simpa using hcm
      have hle : s1.heap.objs.size ≤ c := by
        rcases e' with z | z | z | z | z
        · rw [z]; exact Nat.le_add_right _ _
        · rw [z]; exact Nat.le_add_right _ _
        · rw [z]; exact Nat.le_add_right _ _
        · rw [z]; exact Nat.le_refl _
        · rw [z]; exact Nat.le_add_right _ _
      exact I1.fpOk hle (I1.hok.fresh hle)
end FL
end
section
set_option Elab.async false
set_option linter.all false
set_option maxRecDepth 100000
set_option maxHeartbeats 2000000
/-! Readings by equations: what a rule asks is told by what stands in the tracked heap. -/
namespace FL
open PySem PySem.Spec PyProof.Rows L2
/-- an equation that is shown by hand -/
structure Eqs {α : Sort _} (a b : α) : Prop where
  e : a = b
section
variable {X : Cx} {r r' : R2} {f : Value → Value → Sem Value}
theorem OpR.weak (h : OpR X f r) (k : ∀ x y H Q, r' x y H Q → r x y H Q) : OpR X f r' := fun pins s σ H x y v u Q I rx ry q => h pins s σ H x y v u Q I rx ry (k x y H Q q)
theorem IxR.weak (h : IxR X r) (k : ∀ x y H Q, r' x y H Q → r x y H Q) : IxR X r' := fun value slice pins s σ H x y v u Q I rx ry q hs => h value slice pins s σ H x y v u Q I rx ry (k x y H Q q) hs
theorem CallR.weak {v : Value} {r r' : List V → Hp → VK → Prop} (h : CallR X v r) (k : ∀ xs H Q, r' xs H Q → r xs H Q) : CallR X v r' := fun pins s σ H xs us Q I rx q => h pins s σ H xs us Q I rx (k xs H Q q)
theorem MtR.weak {id : String} {r r' : V → List V → Hp → VK → Prop} (h : MtR X id r) (k : ∀ x xs H Q, r' x xs H Q → r x xs H Q) : MtR X id r' := fun pins s σ H x xs v us Q I rx rs q => h pins s σ H x xs v us Q I rx rs (k x xs H Q q)
end
section
variable {X : Cx}
/-- xs[i], t[i] of what is tracked -/
def rIx : R2 := fun x y H Q => ∃ p, x = .ref p ∧ ∃ i, y = .int i ∧ ∃ xs, H p = some (.lst xs) ∧ ∃ v, atI xs i = some v ∧ Q v H
def rIxU : R2 := fun x y H Q => ∃ p, x = .ref p ∧ ∃ i, y = .int i ∧ ∃ xs, H p = some (.tup xs) ∧ ∃ v, atI xs i = some v ∧ Q v H
theorem ixl : IxR X rIx := IxR.weak ix_list fun x y H Q ⟨p, a, i, b, xs, c, v, d, e⟩ => ⟨p, xs, i, v, a, b, SqL.of c, d, e⟩
theorem ixt : IxR X rIxU := IxR.weak ix_tup fun x y H Q ⟨p, a, i, b, xs, c, v, d, e⟩ => ⟨p, xs, i, v, a, b, SqT.of c, d, e⟩
/-- the same at an index that is shown by hand -/
def rIxV : R2 := fun x y H Q => ∃ p, x = .ref p ∧ ∃ i, y = .int i ∧ ∃ xs, H p = some (.lst xs) ∧ ∃ v, Eqs (atI xs i) (some v) ∧ Q v H
def rIxUV : R2 := fun x y H Q => ∃ p, x = .ref p ∧ ∃ i, y = .int i ∧ ∃ xs, H p = some (.tup xs) ∧ ∃ v, Eqs (atI xs i) (some v) ∧ Q v H
theorem ixlv : IxR X rIxV := IxR.weak ix_list fun x y H Q ⟨p, a, i, b, xs, c, v, ⟨d⟩, e⟩ => ⟨p, xs, i, v, a, b, SqL.of c, d, e⟩
theorem ixtv : IxR X rIxUV := IxR.weak ix_tup fun x y H Q ⟨p, a, i, b, xs, c, v, ⟨d⟩, e⟩ => ⟨p, xs, i, v, a, b, SqT.of c, d, e⟩
/-- len -/
def rLenL : List V → Hp → VK → Prop := fun vs H Q => ∃ p, vs = [.ref p] ∧ ∃ xs, H p = some (.lst xs) ∧ Q (.int xs.length) H
def rLenU : List V → Hp → VK → Prop := fun vs H Q => ∃ p, vs = [.ref p] ∧ ∃ xs, H p = some (.tup xs) ∧ Q (.int xs.length) H
theorem cl_lenL : CallR X (.builtin "len") rLenL := CallR.weak call_len_seq fun vs H Q ⟨p, a, xs, b, c⟩ => ⟨p, xs, a, .inl (SqL.of b), c⟩
theorem cl_lenU : CallR X (.builtin "len") rLenU := CallR.weak call_len_seq fun vs H Q ⟨p, a, xs, b, c⟩ => ⟨p, xs, a, .inr (SqT.of b), c⟩
/-- xs[i] = v -/
def rSet : V → V → V → Hp → (Hp → Prop) → Prop := fun o i v H Q => ∃ p, o = .ref p ∧ ∃ k, i = .int k ∧ ∃ xs, H p = some (.lst xs) ∧ ∃ j, ixN xs.length k = some j ∧ Q (upd H p (.lst (xs.set j v)))
theorem set_l : PSet X rSet := fun pins s σ H o i v ov iv u Q I ro ri rv h => by
  obtain ⟨p, a, k, b, xs, c, j, d, e⟩ := h
  exact set_list pins s σ H o i v ov iv u Q I ro ri rv ⟨p, xs, k, j, a, b, c, d, e⟩
/-- int operators -/
def rII (g : Int → Int → V) : R2 := fun x y H Q => ∃ i, x = .int i ∧ ∃ j, y = .int j ∧ Q (g i j) H
def rIC (C : Int → Int → Prop) (g : Int → Int → V) : R2 := fun x y H Q => ∃ i, x = .int i ∧ ∃ j, y = .int j ∧ C i j ∧ Q (g i j) H
theorem rII.to {g : Int → Int → V} : ∀ x y H Q, rII g x y H Q → rI0 g x y H Q := fun x y H Q ⟨i, a, j, b, c⟩ => ⟨i, j, a, b, c⟩
theorem rIC.to {C : Int → Int → Prop} {g : Int → Int → V} : ∀ x y H Q, rIC C g x y H Q → rI C g x y H Q := fun x y H Q ⟨i, a, j, b, c, d⟩ => ⟨i, j, a, b, c, d⟩
theorem oadd : OpR X (binaryOp .Add) (rII fun i j => .int (i + j)) := OpR.weak op_add rII.to
theorem osub : OpR X (binaryOp .Sub) (rII fun i j => .int (i - j)) := OpR.weak op_sub rII.to
theorem omul : OpR X (binaryOp .Mult) (rIC CMul fun i j => .int (i * j)) := OpR.weak op_mul rIC.to
theorem omod : OpR X (binaryOp .Mod) (rIC (fun _ j => 0 < j) fun i j => .int (i % j)) := OpR.weak op_mod rIC.to
theorem odiv : OpR X (binaryOp .FloorDiv) (rIC CDiv fun i j => .int (i / j)) := OpR.weak op_fdiv rIC.to
theorem opow : OpR X (binaryOp .Pow) (rIC CPow fun i j => .int (i ^ j.toNat)) := OpR.weak op_pow rIC.to
theorem olt : OpR X (compareOp .Lt) (rII fun i j => .bl (decide (i < j))) := OpR.weak op_lt rII.to
theorem ole : OpR X (compareOp .LtE) (rII fun i j => .bl (decide (i ≤ j))) := OpR.weak op_le rII.to
theorem ogt : OpR X (compareOp .Gt) (rII fun i j => .bl (decide (j < i))) := OpR.weak op_gt rII.to
theorem oge : OpR X (compareOp .GtE) (rII fun i j => .bl (decide (j ≤ i))) := OpR.weak op_ge rII.to
theorem oeqI : OpR X (compareOp .Eq) (rII fun i j => .bl (decide (i = j))) := OpR.weak op_eq fun x y H Q ⟨i, a, j, b, c⟩ => by
  subst a b
  exact ⟨rfl, by rw [show decide (V.int i = V.int j) = decide (i = j) by simp only [V.int.injEq]]; exact c⟩
theorem oneI : OpR X (compareOp .NotEq) (rII fun i j => .bl (!decide (i = j))) := OpR.weak op_ne fun x y H Q ⟨i, a, j, b, c⟩ => by
  subst a b
  exact ⟨rfl, by rw [show decide (V.int i = V.int j) = decide (i = j) by simp only [V.int.injEq]]; exact c⟩
/-- int(n) of an int, of a bool -/
theorem cl_intI : CallR X (.type "int") (fun vs H Q => ∃ i, vs = [.int i] ∧ Q (.int i) H) := CallR.weak call_int1 fun _ _ _ h => .inl h
theorem cl_intB : CallR X (.type "int") (fun vs H Q => ∃ k, vs = [.bl k] ∧ Q (.int (if k then 1 else 0)) H) := CallR.weak call_int1 fun _ _ _ h => .inr h
end
theorem upd_old {H : Hp} {p a : Addr} {o u : HO} (hp : H p = none) (h : H a = some o) : upd H p u a = some o := (upd_ne (ne_of_none h hp)).trans h
/-- what stands apart from one address -/
def But (a : Addr) (H H' : Hp) : Prop := ∀ b o, H b = some o → b ≠ a → H' b = some o
theorem But.refl (a : Addr) (H : Hp) : But a H H := fun _ _ h _ => h
theorem But.trans {a : Addr} {H H1 H2 : Hp} (x : But a H H1) (y : But a H1 H2) : But a H H2 := fun b o h n => y b o (x b o h n) n
theorem But.upd {a : Addr} {H H1 : Hp} {o : HO} (x : But a H H1) : But a H (upd H1 a o) := fun b u h n => (upd_ne n).trans (x b u h n)
theorem But.new {a p : Addr} {H H1 : Hp} {o : HO} (x : But a H H1) (hp : H1 p = none) : But a H (L2.upd H1 p o) := fun b u h n => upd_old hp (x b u h n)
theorem But.of {a : Addr} {H H' : Hp} (s : Same H H') : But a H H' := fun b o h _ => s b o h
/-- a statement, then the rest, with a word between them: what follows is shown once, from Mid -/
def tCut (t u : TS) : TS := fun D σ H => ∃ Mid : L2.St → Hp → Prop, t { D with nx := Mid } σ H ∧ ∀ σ' H', Mid σ' H' → u D σ' H'
theorem pss_cut {X : Cx} {st : Stmt} {rest : List Stmt} {t u : TS} (h1 : PS X st t) (h2 : PSs X rest u) : PSs X (st :: rest) (tCut t u) := by
  refine ⟨fun pins s σ H D I h => ?_⟩
  obtain ⟨Mid, hm, hu⟩ := h
  refine wpAny_execs_cons (thn (h1.run pins s σ H { D with nx := Mid } I hm) fun f s1 q => ?_)
  cases f with
  | next =>
    obtain ⟨σ', H', I', q⟩ := q
    exact h2.run pins s1 σ' H' D I' (hu σ' H' q)
  | ret v => exact q
  | brk => exact q
  | cont => exact q
theorem getD_of {α : Type} {l : List α} {i : Nat} {d : α} (h : i < l.length) : l.getD i d = l[i] := by
  rw [List.getD_eq_getElem?_getD, List.getElem?_eq_getElem h]
  rfl
theorem atI_0 {α : Type} {a : α} {xs : List α} : atI (a :: xs) 0 = some a := atI_nat (j := 0) rfl
theorem atI_1 {α : Type} {a b : α} {xs : List α} : atI (a :: b :: xs) 1 = some b := atI_nat (j := 1) rfl
theorem atI_2 {α : Type} {a b c : α} {xs : List α} : atI (a :: b :: c :: xs) 2 = some c := atI_nat (j := 2) rfl
theorem cutV_tail (a : V) (xs : List V) : cutV (a :: xs) (some 1) none = xs := by
  unfold cutV
  rw [show HT.sIx (a :: xs).length 0 (some 1) = min 1 (a :: xs).length from HT.sIx_nat _ 0 1, HT.sIx_none, show min 1 (a :: xs).length = 1 by simp only [List.length_cons]; omega]
  simp
theorem not_whole (a : V) (xs : List V) : ¬ (HT.sIx (a :: xs).length 0 (some 1) = 0 ∧ HT.sIx (a :: xs).length (a :: xs).length none = (a :: xs).length) := by
  rw [show HT.sIx (a :: xs).length 0 (some 1) = min 1 (a :: xs).length from HT.sIx_nat _ 0 1, show min 1 (a :: xs).length = 1 by simp only [List.length_cons]; omega]
  omega
/-! ### lists that go together -/
section
variable {α β : Type} {F G : α → β → Prop}
theorem pd_append : ∀ {a : List α} {b : List β} {c : List α} {d : List β}, Paired F a b → Paired F c d → Paired F (a ++ c) (b ++ d)
  | _, _, _, _, .nil, h => h
  | _, _, _, _, .cons x r, h => .cons x (pd_append r h)
theorem pd_one {x : α} {y : β} (h : F x y) : Paired F [x] [y] := .cons h .nil
theorem pd_snoc : ∀ {vs : List α} {ts : List β} {t : β}, Paired F vs (ts ++ [t]) → ∃ vs' v, vs = vs' ++ [v] ∧ Paired F vs' ts ∧ F v t
  | _, [], _, .cons x .nil => ⟨[], _, rfl, .nil, x⟩
  | _, _ :: _, _, .cons x r => by
    obtain ⟨vs', v, e, h1, h2⟩ := pd_snoc r
    exact ⟨_ :: vs', v, by rw [e]; rfl, .cons x h1, h2⟩
theorem pd_rev : ∀ {a : List α} {b : List β}, Paired F a b → Paired F a.reverse b.reverse
  | _, _, .nil => .nil
  | _, _, .cons h r => by
    rw [List.reverse_cons, List.reverse_cons]
    exact pd_append (pd_rev r) (pd_one h)
theorem pd_get : ∀ {a : List α} {b : List β} {i : Nat} {y : β}, Paired F a b → b[i]? = some y → ∃ x, a[i]? = some x ∧ F x y
  | _, _, 0, _, .cons x _, h => ⟨_, rfl, by simp only [List.getElem?_cons_zero, Option.some.injEq] at h; exact h ▸ x⟩
  | _, _, i + 1, _, .cons _ r, h => by
    simp only [List.getElem?_cons_succ] at h
    obtain ⟨x, h1, h2⟩ := pd_get r h
    exact ⟨x, by simpa using h1, h2⟩
  | _, _, _, _, .nil, h => by simp at h
theorem pd_map {γ : Type} {f : γ → β} : ∀ {a : List α} {c : List γ}, Paired (fun x z => F x (f z)) a c → Paired F a (c.map f)
  | _, _, .nil => .nil
  | _, _, .cons h r => .cons h (pd_map r)
theorem pd_trans {γ : Type} {H : β → γ → Prop} {R : α → γ → Prop} (k : ∀ x y z, F x y → H y z → R x z) : ∀ {a : List α} {b : List β} {c : List γ}, Paired F a b → Paired H b c → Paired R a c
  | _, _, _, .nil, .nil => .nil
  | _, _, _, .cons h r, .cons h2 r2 => .cons (k _ _ _ h h2) (pd_trans k r r2)
end
theorem iteD {c A B : Prop} [Decidable c] (h1 : c → A) (h2 : ¬ c → B) : if decide c = true then A else B := by
  by_cases h : c
  · rw [if_pos (decide_eq_true h)]; exact h1 h
  · rw [if_neg (by rw [decide_eq_false h]; decide)]; exact h2 h
theorem iteDn {c A B : Prop} [Decidable c] (h1 : ¬ c → A) (h2 : c → B) : if (!decide c) = true then A else B := by
  by_cases h : c
  · rw [if_neg (by rw [decide_eq_true h]; decide)]; exact h2 h
  · rw [if_pos (by rw [decide_eq_false h]; decide)]; exact h1 h
theorem iteDT {c A B : Prop} [Decidable c] (h : c) (h1 : A) : if decide c = true then A else B := by
  rw [if_pos (decide_eq_true h)]; exact h1
theorem iteDF {c A B : Prop} [Decidable c] (h : ¬ c) (h1 : B) : if decide c = true then A else B := by
  rw [if_neg (by rw [decide_eq_false h]; decide)]; exact h1
theorem iteNF {c A B : Prop} [Decidable c] (h : c) (h1 : B) : if (!decide c) = true then A else B := by
  rw [if_neg (by rw [decide_eq_true h]; decide)]; exact h1
theorem iteNT {c A B : Prop} [Decidable c] (h : ¬ c) (h1 : A) : if (!decide c) = true then A else B := by
  rw [if_pos (by rw [decide_eq_false h]; decide)]; exact h1
theorem iteB {b : Bool} {A B : Prop} (h1 : b = true → A) (h2 : b = false → B) : if b = true then A else B := by
  cases b with
  | true => exact h1 rfl
  | false => exact h2 rfl

/-! ### texts as lists of code points -/
abbrev tx (l : List Nat) : V := .str ⟨l.toArray⟩
theorem tx_inj {a b : List Nat} (h : tx a = tx b) : a = b := by
  have e : (⟨a.toArray⟩ : Str) = ⟨b.toArray⟩ := V.str.inj h
  have e2 : a.toArray = b.toArray := congrArg Str.cps e
  simpa using congrArg Array.toList e2
theorem len_mk (l : List Nat) : (⟨l.toArray⟩ : Str).length = l.length := by simp [Str.length]

/-! ### what a walk gives, from a list -/
def YL {α : Type} (L : List α) (inj : α → V) : Nat → Hp → V → Hp → Prop := fun i H x H' => H' = H ∧ ∃ a, L[i]? = some a ∧ x = inj a
theorem wk_text (l : List Nat) : Walk (Its ⟨l.toArray⟩) l.length (fun _ => True) (YL l fun c => tx [c]) :=
  ⟨fun i _ hi _ => by show i < l.toArray.size; simpa using hi, fun _ _ => by show l.toArray.size ≤ l.length; simp, fun i H x H' _ _ y => by
    obtain ⟨e, c, hc, ex⟩ := y
    exact ⟨e, c, by simpa using hc, ex⟩⟩
theorem wk_list {K : PySem.W.Frag} {a : Addr} {α : Type} (L : List α) (inj : α → V) : Walk (Itl K a) L.length (fun H => SqL K H a (L.map inj)) (YL L inj) :=
  ⟨fun i _ hi q => ⟨_, inj L[i], q, by simp [hi]⟩, fun _ q => ⟨_, q, by simp⟩, fun i H x H' hi q y => by
    have e := y.2 _ q
    rw [List.getElem?_map, List.getElem?_eq_getElem hi] at e
    exact ⟨y.1, L[i], List.getElem?_eq_getElem hi, (Option.some.inj e).symm⟩⟩
theorem wk_range {lo : Int} {n : Nat} : Walk (Itr lo n) (List.range n).length (fun _ => True) (YL (List.range n) fun i => .int (lo + (i : Int))) :=
  ⟨fun i _ hi _ => by show i < n; simpa using hi, fun _ _ => by show n ≤ _; simp, fun i H x H' hi _ y => ⟨y.1, i, by simp at hi; simp [hi], y.2⟩⟩
theorem wk_keys {d : Addr} {o : Obj} (kvs : List (Key × V)) : Walk (Itk d o kvs) kvs.length (fun H => H d = some (.frz o (.dK kvs))) (YL kvs fun kv => kV kv.1) :=
  ⟨fun _ _ hi q => ⟨q, hi⟩, fun _ q => ⟨q, Nat.le_refl _⟩, fun i H x H' _ _ y => by
    obtain ⟨e, k, v, h1, h2⟩ := y
    exact ⟨e, (k, v), h1, h2⟩⟩
theorem wk_enumS (l : List Nat) : Walk (Itex ⟨l.toArray⟩) l.length (fun _ => True) (fun i H v H' => ∃ T c, v = .ref T ∧ H T = none ∧ H' = upd H T (.tup [.int (i : Nat), tx [c]]) ∧ l[i]? = some c) :=
  ⟨fun i _ hi _ => by show i < l.toArray.size; simpa using hi, fun _ _ => by show l.toArray.size ≤ l.length; simp, fun i H x H' _ _ y => by
    obtain ⟨T, c, h1, h2, h3, h4⟩ := y
    exact ⟨T, c, h1, h2, h3, by simpa using h4⟩⟩
theorem wk_zipST {K : PySem.W.Frag} {b : Addr} (l : List Nat) (ys : List V) (hl : l.length = ys.length) : Walk (Itzst K ⟨l.toArray⟩ b) l.length (fun H => SqT K H b ys)
    (fun i H v H' => ∃ T c y, v = .ref T ∧ H T = none ∧ H' = upd H T (.tup [tx [c], y]) ∧ l[i]? = some c ∧ ys[i]? = some y) :=
  ⟨fun i _ hi q => ⟨by show i < l.toArray.size; simpa using hi, ys, ys[i]'(by omega), q, by simp⟩, fun _ q => ⟨by show _ ≤ l.toArray.size; simp, ys, q, by omega, .inl (by show _ = l.toArray.size; simp)⟩, fun i H x H' _ q y => by
    obtain ⟨T, c, z, h1, h2, h3, h4, h5⟩ := y
    exact ⟨T, c, z, h1, h2, h3, by simpa using h4, h5 ys q⟩⟩

/-! ### comprehensions -/
section
variable {J : It} {α : Type} {L : List α} {inj : α → V} {G : Hp → Prop}
/-- an element and a test that leave the heap as it is -/
theorem lcP {σ : L2.St} {H1 : Hp} {j : Nat} {tt : TT} {te : TE} {vs : List Nat} {Qd : Hp → Prop} {D : Addr} (hD : H1 D = none) (w : Walk J L.length G (YL L inj)) (f : α → V) (b : α → Bool) (hn : L.length ≤ 1000000) (hG : ∀ H', Same H1 H' → G H')
    (hw : ∀ x, wipe ((wipe σ vs).set j (some x)) vs = wipe σ vs)
    (ht : ∀ a ∈ L, ∀ H', Same H1 H' → ∀ Q' : Bool → Hp → Prop, Q' (b a) H' → tt ((wipe σ vs).set j (some (inj a))) H' Q')
    (he : ∀ a ∈ L, b a = true → ∀ H', Same H1 H' → ∀ Q' : VK, Q' (f a) H' → te ((wipe σ vs).set j (some (inj a))) H' Q')
    (k : Qd (upd H1 D (.lst ((L.filter b).map f)))) :
    ∃ W : Nat → Nat → Hp → Prop, (∃ m, W 0 m (upd H1 D (.lst []))) ∧ ∀ i m H, W i m H →
      (J.stop i H ∧ Qd H) ∨ (J.go i H ∧ ∃ Nx : Hp → Prop, (∀ H', Nx H' → ∃ m', m' < m ∧ W (i + 1) m' H') ∧ ∀ x H', J.yld i H x H' → gName j x (wipe σ vs) H' fun σ2 H2 => wipe σ2 vs = wipe σ vs ∧ tt σ2 H2 fun b H3 =>
        if b = true then te σ2 H3 fun y H4 => ∃ acc, H4 D = some (.lst acc) ∧ acc.length < sizeLine ∧ Nx (upd H4 D (.lst (acc ++ [y]))) else Nx H3) := by
  have sm : ∀ xs, Same H1 (upd H1 D (.lst xs)) := fun xs a o h => upd_old hD h
  refine lc_it w (fun i H => H = upd H1 D (.lst (((L.take i).filter b).map f))) (by simp) (fun i H _ e => by subst e; exact hG _ (sm _)) ?_ (fun H e => ?_)
  · rintro i x H H' hi rfl ⟨rfl, a, ha, rfl⟩
    have hm : a ∈ L := List.mem_of_getElem? ha
    have et : L.take (i + 1) = L.take i ++ [a] := by rw [List.take_add_one, ha]; rfl
    refine ⟨hw _, ht a hm _ (sm _) _ ?_⟩
    cases hb : b a with
    | true =>
      rw [if_pos rfl]
      refine he a hm hb _ (sm _) _ ⟨_, upd_same, ?_, ?_⟩
      · have := List.length_filter_le b (L.take i)
        rw [List.length_map]
        rw [List.length_take] at this
        exact Nat.lt_of_le_of_lt (Nat.le_trans this (Nat.le_trans (Nat.min_le_right _ _) hn)) (by decide)
      · rw [upd_upd, et, List.filter_append, List.map_append, List.filter_cons, if_pos hb]
        rfl
    | false =>
      rw [if_neg Bool.false_ne_true]
      rw [et, List.filter_append, List.filter_cons, if_neg (by rw [hb]; decide)]
      simp
  · subst e
    rw [List.take_length]
    exact k
theorem lcM {σ : L2.St} {H1 : Hp} {j : Nat} {te : TE} {vs : List Nat} {Qd : Hp → Prop} {D : Addr} (hD : H1 D = none) (w : Walk J L.length G (YL L inj)) (f : α → V) (hn : L.length ≤ 1000000) (hG : ∀ H', Same H1 H' → G H')
    (hw : ∀ x, wipe ((wipe σ vs).set j (some x)) vs = wipe σ vs)
    (he : ∀ a ∈ L, ∀ H', Same H1 H' → ∀ Q' : VK, Q' (f a) H' → te ((wipe σ vs).set j (some (inj a))) H' Q')
    (k : Qd (upd H1 D (.lst (L.map f)))) :
    ∃ W : Nat → Nat → Hp → Prop, (∃ m, W 0 m (upd H1 D (.lst []))) ∧ ∀ i m H, W i m H →
      (J.stop i H ∧ Qd H) ∨ (J.go i H ∧ ∃ Nx : Hp → Prop, (∀ H', Nx H' → ∃ m', m' < m ∧ W (i + 1) m' H') ∧ ∀ x H', J.yld i H x H' → gName j x (wipe σ vs) H' fun σ2 H2 => wipe σ2 vs = wipe σ vs ∧ tYes σ2 H2 fun b H3 =>
        if b = true then te σ2 H3 fun y H4 => ∃ acc, H4 D = some (.lst acc) ∧ acc.length < sizeLine ∧ Nx (upd H4 D (.lst (acc ++ [y]))) else Nx H3) :=
  lcP hD w f (fun _ => true) hn hG hw (fun a _ H' _ Q' q => q) (fun a h _ => he a h) (by
    have e : L.filter (fun _ => true) = L := List.filter_eq_self.mpr fun _ _ => rfl
    rw [e]
    exact k)
/-- an element that makes new things: I tells of what is done, the new list's items, the heap -/
theorem lcI {σ : L2.St} {H1 : Hp} {j : Nat} {tt : TT} {te : TE} {vs : List Nat} {Qd : Hp → Prop} {D : Addr} (hD : H1 D = none) (w : Walk J L.length G (YL L inj)) (b : α → Bool) (I : List α → List V → Hp → Prop) (hn : L.length ≤ 1000000) (hG : ∀ H', Same H1 H' → G H')
    (hw : ∀ x, wipe ((wipe σ vs).set j (some x)) vs = wipe σ vs) (h0 : I [] [] (upd H1 D (.lst [])))
    (ht : ∀ a ∈ L, ∀ H', Same H1 H' → ∀ Q' : Bool → Hp → Prop, Q' (b a) H' → tt ((wipe σ vs).set j (some (inj a))) H' Q')
    (he : ∀ (a : α) (l : List α) (ys : List V) (H' : Hp), a ∈ L → b a = true → Same H1 H' → H' D = some (.lst ys) → I l ys H' → ∀ Q' : VK,
      (∀ y H2, Same H' H2 → I (l ++ [a]) (ys ++ [y]) (upd H2 D (.lst (ys ++ [y]))) → Q' y H2) → te ((wipe σ vs).set j (some (inj a))) H' Q')
    (k : ∀ ys H', Same H1 H' → H' D = some (.lst ys) → I (L.filter b) ys H' → Qd H') :
    ∃ W : Nat → Nat → Hp → Prop, (∃ m, W 0 m (upd H1 D (.lst []))) ∧ ∀ i m H, W i m H →
      (J.stop i H ∧ Qd H) ∨ (J.go i H ∧ ∃ Nx : Hp → Prop, (∀ H', Nx H' → ∃ m', m' < m ∧ W (i + 1) m' H') ∧ ∀ x H', J.yld i H x H' → gName j x (wipe σ vs) H' fun σ2 H2 => wipe σ2 vs = wipe σ vs ∧ tt σ2 H2 fun b H3 =>
        if b = true then te σ2 H3 fun y H4 => ∃ acc, H4 D = some (.lst acc) ∧ acc.length < sizeLine ∧ Nx (upd H4 D (.lst (acc ++ [y]))) else Nx H3) := by
  refine lc_it w (fun i H => ∃ ys, Same H1 H ∧ ys.length ≤ i ∧ H D = some (.lst ys) ∧ I ((L.take i).filter b) ys H) ⟨[], fun a o h => upd_old hD h, Nat.le_refl _, upd_same, h0⟩ (fun i H _ ⟨_, s, _⟩ => hG _ s) ?_ (fun H ⟨ys, s, hl, hy, hi⟩ => ?_)
  · rintro i x H H' hi ⟨ys, s, hl, hy, hI⟩ ⟨rfl, a, ha, rfl⟩
    have hm : a ∈ L := List.mem_of_getElem? ha
    have et : L.take (i + 1) = L.take i ++ [a] := by rw [List.take_add_one, ha]; rfl
    refine ⟨hw _, ht a hm _ s _ ?_⟩
    cases hb : b a with
    | true =>
      rw [if_pos rfl]
      refine he a _ ys H' hm hb s hy hI _ fun y H2 s2 hI2 => ⟨ys, s2 _ _ hy, Nat.lt_of_le_of_lt (Nat.le_trans hl (Nat.le_trans (Nat.le_of_lt hi) hn)) (by decide), ys ++ [y], fun c o h => ?_, by simp; exact hl, upd_same, ?_⟩
      · have h2 := s2 _ _ (s c o h)
        exact (upd_ne (ne_of_none h hD)).trans h2
      · rw [et, List.filter_append, List.filter_cons, if_pos hb]
        exact hI2
    | false =>
      rw [if_neg Bool.false_ne_true]
      refine ⟨ys, s, Nat.le_succ_of_le hl, hy, ?_⟩
      rw [et, List.filter_append, List.filter_cons, if_neg (by rw [hb]; decide)]
      simpa using hI
  · rw [List.take_length] at hi
    exact k ys H s hy hi
/-- a for over what a list gives: P by what is done -/
theorem forP (w : Walk J L.length G (YL L inj)) {g : TG} {tb : TS} {D : Ends} {σ : L2.St} {H : Hp} (P : List α → L2.St → Hp → Prop) (h0 : P [] σ H) (hG : ∀ l σ H, P l σ H → G H)
    (hs : ∀ l a r σ H, L = l ++ a :: r → P l σ H → g (inj a) σ H fun σ2 H2 => tb { D with nx := P (l ++ [a]), ct := P (l ++ [a]), bk := D.nx } σ2 H2) (hd : ∀ σ H, P L σ H → D.nx σ H) :
    ∃ W : Nat → Nat → L2.St → Hp → Prop, (∃ m, W 0 m σ H) ∧ ∀ i m σ H, W i m σ H →
      (J.stop i H ∧ D.nx σ H) ∨ (J.go i H ∧ ∃ N : L2.St → Hp → Prop, (∀ σ' H', N σ' H' → ∃ m', m' < m ∧ W (i + 1) m' σ' H') ∧ ∀ x H', J.yld i H x H' → g x σ H' fun σ2 H2 => tb { D with nx := N, ct := N, bk := D.nx } σ2 H2) := by
  refine for_it w (fun i σ H => P (L.take i) σ H) (by simpa using h0) (fun i σ H _ p => hG _ σ H p) ?_ (fun σ H p => hd σ H (by simpa using p))
  rintro i x σ H H' hi p ⟨rfl, a, ha, rfl⟩
  have et : L.take (i + 1) = L.take i ++ [a] := by rw [List.take_add_one, ha]; rfl
  have el : L = L.take i ++ a :: L.drop (i + 1) := by
    have h2 : L.drop i = a :: L.drop (i + 1) := by
      obtain ⟨h3, h4⟩ := List.getElem?_eq_some_iff.mp ha
      rw [List.drop_eq_getElem_cons h3, h4]
    rw [← h2, List.take_append_drop]
  have h := hs (L.take i) a _ σ H' el p
  rw [et]
  exact h
end

/-! ### isinstance of built-in classes -/
/-- the class of a tracked value -/
def clsOf (H : Hp) : V → Option String
  | .non => some "NoneType"
  | .bl _ => some "bool"
  | .int _ => some "int"
  | .str _ => some "str"
  | .ref a => match H a with
    | some (.lst _) => some "list"
    | some (.tup _) => some "tuple"
    | some (.dK _) => some "dict"
    | some (.dT _) => some "dict"
    | _ => none
  | _ => none
def rIsiB : List V → Hp → VK → Prop := fun vs H Q => ∃ x T, vs = [x, .ty T] ∧ ∃ t, clsOf H x = some t ∧ ∃ b, kitB t T = some b ∧ Q (.bl b) H
theorem cl_isi {X : Cx} : CallR X (.builtin "isinstance") rIsiB := CallR.weak call_isi fun vs H Q ⟨x, T, e, t, ht, b, hb, q⟩ => by
  refine ⟨x, .ty T, .type t, .type T, b, e, .ty T, ?_, kit_ty hb, q⟩
  unfold clsOf at ht
  cases x with
  | non => cases ht; exact .base .non
  | bl c => cases ht; exact .base (.bl c)
  | int i => cases ht; exact .base (.int i)
  | str z => cases ht; exact .base (.str z)
  | byt _ => cases ht
  | flt _ => cases ht
  | ty _ => cases ht
  | ref a =>
    cases h : H a with
    | none => simp [h] at ht
    | some o =>
      cases o with
      | lst xs => simp [h] at ht; subst ht; exact .base (.lst h)
      | tup xs => simp [h] at ht; subst ht; exact .base (.tup h)
      | dK xs => simp [h] at ht; subst ht; exact .base (.dK h)
      | dT xs => simp [h] at ht; subst ht; exact .base (.dT h)
      | _ => simp [h] at ht
/-- one sign in a text -/
def rInC : R2 := fun x y H Q => ∃ c, x = tx [c] ∧ ∃ l, y = tx l ∧ Q (.bl (decide (c ∈ l))) H
def rNotInC : R2 := fun x y H Q => ∃ c, x = tx [c] ∧ ∃ l, y = tx l ∧ Q (.bl (!decide (c ∈ l))) H
theorem oinC {X : Cx} : OpR X (compareOp .In) rInC := OpR.weak op_in_sign fun x y H Q ⟨c, a, l, b, q⟩ => ⟨c, ⟨l.toArray⟩, a, b, q⟩
theorem oninC {X : Cx} : OpR X (compareOp .NotIn) rNotInC := OpR.weak op_notIn_sign fun x y H Q ⟨c, a, l, b, q⟩ => ⟨c, ⟨l.toArray⟩, a, b, q⟩
/-- len of a text -/
def rLenS : List V → Hp → VK → Prop := fun vs H Q => ∃ l, vs = [tx l] ∧ l.length ≤ sizeLine ∧ Q (.int l.length) H
theorem cl_lenS {X : Cx} : CallR X (.builtin "len") rLenS := CallR.weak call_len_str fun vs H Q ⟨l, a, b, q⟩ => ⟨⟨l.toArray⟩, a, by rw [len_mk]; exact b, by rw [len_mk]; exact q⟩
def rAllL : List V → Hp → VK → Prop := fun vs H Q => ∃ a, vs = [V.ref a] ∧ ∃ xs, H a = some (.lst xs) ∧ ∃ bs : List Bool, Eqs xs (bs.map V.bl) ∧ Q (.bl (bs.all id)) H
theorem cl_all {X : Cx} (hc : X.calm = true) : CallR X (.builtin "all") rAllL := CallR.weak (cr_all hc) fun vs H Q ⟨a, e, xs, h, bs, ⟨e2⟩, q⟩ => ⟨a, bs, e, SqL.of (e2 ▸ h), q⟩
/-! ### all texts as lists of code points -/
theorem pe_strL {X : Cx} {l : List Nat} {x : Str} {j pos} (h : x = ⟨l.toArray⟩) : PE X (.Constant (.str x) j pos) (tC (tx l)) := h ▸ pe_str
theorem pe_gSL {X : Cx} {x : Str} {l : List Nat} {pos : Pos} (hg : Gl X x) (hm : ∃ t, X.mg x = some (.str ⟨l.toArray⟩ t)) (hd : (x == ("__debug__" : Str)) = false := by decide) : PE X (.Name x pos) (tC (tx l)) := pe_gS hg hm hd
def rEqS : R2 := fun x y H Q => ∃ a, x = tx a ∧ ∃ b, y = tx b ∧ Q (.bl (decide (a = b))) H
def rNeS : R2 := fun x y H Q => ∃ a, x = tx a ∧ ∃ b, y = tx b ∧ Q (.bl (!decide (a = b))) H
theorem dec_tx (a b : List Nat) : decide (tx a = tx b) = decide (a = b) := by
  by_cases h : a = b
  · subst h; simp
  · rw [decide_eq_false h, decide_eq_false (fun e => h (tx_inj e))]
theorem oeqS {X : Cx} : OpR X (compareOp .Eq) rEqS := OpR.weak op_eq fun x y H Q ⟨a, ea, b, eb, q⟩ => by
  subst ea eb
  exact ⟨rfl, by rw [dec_tx]; exact q⟩
theorem oneS {X : Cx} : OpR X (compareOp .NotEq) rNeS := OpR.weak op_ne fun x y H Q ⟨a, ea, b, eb, q⟩ => by
  subst ea eb
  exact ⟨rfl, by rw [dec_tx]; exact q⟩
/-! ### a written dict of texts -/
structure WDict (K : PySem.W.Frag) (w : World) (d : Addr) : Prop where
  ex : ∃ es n, KDict K w d es n
def WHas (K : PySem.W.Frag) (d : Addr) (k v : List Nat) : Prop := ∃ t, PySem.W.nsIn K d ⟨k.toArray⟩ = some (some (.str ⟨v.toArray⟩ t))
def WNot (K : PySem.W.Frag) (d : Addr) (k : List Nat) : Prop := PySem.W.nsIn K d ⟨k.toArray⟩ = some none
def rNinW (K : PySem.W.Frag) (d : Addr) : R2 := fun x y H Q => y = .ref d ∧ ∃ k, x = tx k ∧ (((∃ v, WHas K d k v) ∧ Q (.bl false) H) ∨ (WNot K d k ∧ Q (.bl true) H))
theorem oninW {X : Cx} {d : Addr} (D : WDict X.K X.w d) : OpR X (compareOp .NotIn) (rNinW X.K d) := by
  obtain ⟨es, n, D⟩ := D.ex
  refine OpR.weak (op_notIn_kd D) fun x y H Q ⟨e, k, ek, h⟩ => ?_
  rcases h with ⟨⟨v, t, h⟩, q⟩ | ⟨h, q⟩
  · exact ⟨_, _, ek, e, h, q⟩
  · exact ⟨_, _, ek, e, h, q⟩
def rIxW (K : PySem.W.Frag) (d : Addr) : R2 := fun x y H Q => x = .ref d ∧ ∃ k, y = tx k ∧ ∃ v, WHas K d k v ∧ Q (tx v) H
theorem ixW {X : Cx} {d : Addr} (D : WDict X.K X.w d) : IxR X (rIxW X.K d) := by
  obtain ⟨es, n, D⟩ := D.ex
  exact IxR.weak ix_kdict fun x y H Q ⟨e, k, ek, v, ⟨t, h⟩, q⟩ => ⟨d, ⟨k.toArray⟩, tx v, e, ek, ⟨es, n, _, D.at_, D.lit, h, ⟨t, rfl⟩⟩, q⟩
theorem ite_not {b : Bool} {A B : Prop} (h1 : b = false → A) (h2 : b = true → B) : if (!b) = true then A else B := by
  cases b with
  | true => exact h2 rfl
  | false => exact h1 rfl
/-! ### lists by their methods -/
def fAppend : V → List V → Hp → VK → Prop := fun x vs H Q => ∃ l, x = .ref l ∧ ∃ y, vs = [y] ∧ ∃ xs, H l = some (.lst xs) ∧ xs.length < sizeLine ∧ Q .non (upd H l (.lst (xs ++ [y])))
def fExtend : V → List V → Hp → VK → Prop := fun x vs H Q => ∃ l, x = .ref l ∧ ∃ b, vs = [.ref b] ∧ ∃ xs, H l = some (.lst xs) ∧ ∃ zs, H b = some (.lst zs) ∧ xs.length + zs.length ≤ sizeLine ∧ Q .non (upd H l (.lst (xs ++ zs)))
def fPop : V → List V → Hp → VK → Prop := fun x vs H Q => ∃ l, x = .ref l ∧ vs = [] ∧ ∃ zs, H l = some (.lst zs) ∧ ∃ xs y, Eqs zs (xs ++ [y]) ∧ Q y (upd H l (.lst xs))
theorem mappend {X : Cx} : MtR X "list.append" fAppend := MtR.weak mt_append fun x vs H Q ⟨l, a, y, b, xs, c, d, q⟩ => ⟨l, xs, y, a, b, c, d, q⟩
theorem mextend {X : Cx} : MtR X "list.extend" fExtend := MtR.weak mt_extend fun x vs H Q ⟨l, a, y, b, xs, c, zs, d, e, q⟩ => ⟨l, y, xs, zs, a, b, c, d, e, q⟩
theorem mpop {X : Cx} : MtR X "list.pop" fPop := MtR.weak mt_pop fun x vs H Q ⟨l, a, b, zs, c, xs, y, ⟨e⟩, q⟩ => by
  subst e
  exact ⟨l, _, y, a, b, c, by simp, by simpa using q⟩
/-- a, b = t -/
def gTupF (n : Nat) (t : TGs) : TG := fun v σ H Q => ∃ a, v = .ref a ∧ ∃ xs, H a = some (.tup xs) ∧ xs.length = n ∧ t xs σ H Q
theorem pg_tupF {X : Cx} {es : List Expr} {k : Nat} {t : TGs} {n : Nat} {pos : Pos} (hc : X.calm = true) (h : PGs X es t) (hn : (assignEach es X.env).length = n := by rfl) (hst : (assignEach es X.env).findIdx? (·.1) = none := by rfl) : PG X (.Tuple es k pos) (gTupF n t) :=
  ⟨fun pins s σ H v u Q I r ⟨a, e, xs, hx, hl, q⟩ => (pg_tup hc h hn hst).run pins s σ H v u Q I r ⟨a, xs, e, SqT.of hx, hl, q⟩⟩
/-- slices of texts -/
def cutL (l : List Nat) (lo hi : Option Int) : List Nat := (l.drop (HT.sIx l.length 0 lo)).take (HT.sIx l.length l.length hi - HT.sIx l.length 0 lo)
def rSlTx : V → Option Int → Option Int → Hp → VK → Prop := fun x lo hi H Q => ∃ l, x = tx l ∧ l.length ≤ sizeLine ∧ Q (tx (cutL l lo hi)) H
theorem sl_tx {X : Cx} : SlR X rSlTx := by
  intro pins s σ H x v vl vu lo hi sl Q I rx hs pl pu ⟨l, e, hl, q⟩
  refine sl_str pins s σ H x v vl vu lo hi sl Q I rx hs pl pu ⟨⟨l.toArray⟩, e, by rw [len_mk]; exact hl, ?_⟩
  have e2 : cutS ⟨l.toArray⟩ lo hi = ⟨(cutL l lo hi).toArray⟩ := by
    unfold cutS cutL
    rw [len_mk]
  rw [e2]
  exact q
/-- s[i] -/
def rIxTx : R2 := fun x y H Q => ∃ l, x = tx l ∧ ∃ i, y = .int i ∧ l.length ≤ sizeLine ∧ ∃ c, Eqs (atI l i) (some c) ∧ Q (tx [c]) H
theorem ixtx {X : Cx} : IxR X rIxTx := IxR.weak ix_str fun x y H Q ⟨l, a, i, b, hl, c, ⟨d⟩, q⟩ => ⟨⟨l.toArray⟩, i, c, a, b, by rw [len_mk]; exact hl, d, q⟩
/-- s < t -/
def rLtS : R2 := fun x y H Q => ∃ a, x = tx a ∧ ∃ b, y = tx b ∧ Q (.bl (decide (a < b))) H
theorem oltS {X : Cx} : OpR X (compareOp .Lt) rLtS := OpR.weak op_lt_str fun x y H Q ⟨a, ea, b, eb, q⟩ => ⟨⟨a.toArray⟩, ⟨b.toArray⟩, ea, eb, q⟩
end FL
end
section
set_option Elab.async false
set_option linter.all false
set_option maxRecDepth 100000
set_option maxHeartbeats 2000000
/-! Patterns, and what stands in the heap of one. -/
namespace FR
open PySem L2 FL
inductive Pat where
  | none | empty
  | sign (l : List Nat)
  | thn (p q : Pat) | or (p q : Pat)
  | many (p : Pat) | few (p : Pat)
  | mark (m : List Nat) (p : Pat)
  deriving DecidableEq
abbrev wNone : List Nat := [110, 111, 110, 101]
abbrev wEmpty : List Nat := [101, 109, 112, 116, 121]
abbrev wSign : List Nat := [115, 105, 103, 110]
abbrev wThen : List Nat := [116, 104, 101, 110]
abbrev wOr : List Nat := [111, 114]
abbrev wMany : List Nat := [109, 97, 110, 121]
abbrev wFew : List Nat := [102, 101, 119]
abbrev wMark : List Nat := [109, 97, 114, 107]
abbrev sgs : List Nat := [97, 98, 99, 100]
abbrev letters : List Nat := [97, 98, 99, 100, 101, 102, 103, 104, 105, 106, 107, 108, 109, 110, 111, 112, 113, 114, 115, 116, 117, 118, 119, 120, 121, 122]
namespace Pat
def kids : Pat → List Pat
  | none => [] | empty => [] | sign _ => []
  | thn p q => [p, q] | or p q => [p, q]
  | many p => [p] | few p => [p] | mark _ p => [p]
def size : Pat → Nat
  | none => 1 | empty => 1 | sign _ => 1
  | thn p q => 1 + p.size + q.size | or p q => 1 + p.size + q.size
  | many p => 1 + p.size | few p => 1 + p.size | mark _ p => 1 + p.size
def deep : Pat → Nat
  | none => 1 | empty => 1 | sign _ => 1
  | thn p q => 1 + max p.deep q.deep | or p q => 1 + max p.deep q.deep
  | many p => 1 + p.deep | few p => 1 + p.deep | mark _ p => 1 + p.deep
/-- lots and marks as they must be -/
def ok : Pat → Bool
  | none => true | empty => true
  | sign l => l.all (fun c => decide (c ∈ sgs)) && decide (l.length ≤ 4) && decide (l ≠ []) && decide (l.Pairwise (· < ·))
  | thn p q => p.ok && q.ok | or p q => p.ok && q.ok
  | many p => p.ok | few p => p.ok
  | mark m p => m.all (fun c => decide (c ∈ letters)) && decide (1 ≤ m.length) && decide (m.length ≤ 6) && p.ok
end Pat
/-- every tuple stays -/
def Tups (H H' : Hp) : Prop := ∀ a xs, H a = some (.tup xs) → H' a = some (.tup xs)
theorem Tups.refl (H : Hp) : Tups H H := fun _ _ h => h
theorem Tups.trans {H H1 H2 : Hp} (a : Tups H H1) (b : Tups H1 H2) : Tups H H2 := fun c xs h => b c xs (a c xs h)
theorem Tups.of {H H' : Hp} (s : Same H H') : Tups H H' := fun a xs h => s a _ h
theorem Tups.but {H H' : Hp} {a : Addr} {o : HO} (b : But a H H') (h : H a = some o) (hn : ∀ xs, o ≠ .tup xs) : Tups H H' := fun c xs hc => b c _ hc (fun e => by
  subst e
  rw [h] at hc
  exact hn xs (Option.some.inj hc))
theorem Tups.upd {H : Hp} {a : Addr} {o u : HO} (h : H a = some o) (hn : ∀ xs, o ≠ .tup xs) : Tups H (L2.upd H a u) := Tups.but ((But.refl a H).upd) h hn
theorem Tups.new {H : Hp} {a : Addr} {u : HO} (h : H a = none) : Tups H (L2.upd H a u) := fun c xs hc => upd_old h hc
/-- the pattern that stands at a value -/
def PatAt (H : Hp) : V → Pat → Prop
  | v, .none => ∃ a, v = .ref a ∧ H a = some (.tup [tx wNone])
  | v, .empty => ∃ a, v = .ref a ∧ H a = some (.tup [tx wEmpty])
  | v, .sign l => ∃ a, v = .ref a ∧ H a = some (.tup [tx wSign, tx l])
  | v, .thn p q => ∃ a x y, v = .ref a ∧ H a = some (.tup [tx wThen, x, y]) ∧ PatAt H x p ∧ PatAt H y q
  | v, .or p q => ∃ a x y, v = .ref a ∧ H a = some (.tup [tx wOr, x, y]) ∧ PatAt H x p ∧ PatAt H y q
  | v, .many p => ∃ a x, v = .ref a ∧ H a = some (.tup [tx wMany, x]) ∧ PatAt H x p
  | v, .few p => ∃ a x, v = .ref a ∧ H a = some (.tup [tx wFew, x]) ∧ PatAt H x p
  | v, .mark m p => ∃ a x, v = .ref a ∧ H a = some (.tup [tx wMark, tx m, x]) ∧ PatAt H x p
theorem PatAt.mono {H H' : Hp} (t : Tups H H') : ∀ {p : Pat} {v : V}, PatAt H v p → PatAt H' v p
  | .none, _, ⟨a, e, h⟩ => ⟨a, e, t _ _ h⟩
  | .empty, _, ⟨a, e, h⟩ => ⟨a, e, t _ _ h⟩
  | .sign _, _, ⟨a, e, h⟩ => ⟨a, e, t _ _ h⟩
  | .thn _ _, _, ⟨a, x, y, e, h, hp, hq⟩ => ⟨a, x, y, e, t _ _ h, hp.mono t, hq.mono t⟩
  | .or _ _, _, ⟨a, x, y, e, h, hp, hq⟩ => ⟨a, x, y, e, t _ _ h, hp.mono t, hq.mono t⟩
  | .many _, _, ⟨a, x, e, h, hp⟩ => ⟨a, x, e, t _ _ h, hp.mono t⟩
  | .few _, _, ⟨a, x, e, h, hp⟩ => ⟨a, x, e, t _ _ h, hp.mono t⟩
  | .mark _ _, _, ⟨a, x, e, h, hp⟩ => ⟨a, x, e, t _ _ h, hp.mono t⟩
/-- a node's word -/
def Pat.word : Pat → List Nat
  | .none => wNone | .empty => wEmpty | .sign _ => wSign | .thn _ _ => wThen | .or _ _ => wOr | .many _ => wMany | .few _ => wFew | .mark _ _ => wMark
/-- what its parts are, by its row of signs -/
def Pat.form : Pat → List Nat
  | .none => [] | .empty => [] | .sign _ => [108] | .thn _ _ => [112, 112] | .or _ _ => [112, 112] | .many _ => [112] | .few _ => [112] | .mark _ _ => [109, 112]
/-- the items behind the word -/
def TailAt (H : Hp) : List V → Pat → Prop
  | xs, .none => xs = [] | xs, .empty => xs = []
  | xs, .sign l => xs = [tx l]
  | xs, .thn p q => ∃ x y, xs = [x, y] ∧ PatAt H x p ∧ PatAt H y q
  | xs, .or p q => ∃ x y, xs = [x, y] ∧ PatAt H x p ∧ PatAt H y q
  | xs, .many p => ∃ x, xs = [x] ∧ PatAt H x p
  | xs, .few p => ∃ x, xs = [x] ∧ PatAt H x p
  | xs, .mark m p => ∃ x, xs = [tx m, x] ∧ PatAt H x p
theorem PatAt.open_ {H : Hp} {p : Pat} {v : V} (h : PatAt H v p) : ∃ a xs, v = .ref a ∧ H a = some (.tup (tx p.word :: xs)) ∧ TailAt H xs p := by
  cases p with
  | none => obtain ⟨a, e, h⟩ := h; exact ⟨a, _, e, h, rfl⟩
  | empty => obtain ⟨a, e, h⟩ := h; exact ⟨a, _, e, h, rfl⟩
  | sign l => obtain ⟨a, e, h⟩ := h; exact ⟨a, _, e, h, rfl⟩
  | thn p q => obtain ⟨a, x, y, e, h, hp, hq⟩ := h; exact ⟨a, _, e, h, x, y, rfl, hp, hq⟩
  | or p q => obtain ⟨a, x, y, e, h, hp, hq⟩ := h; exact ⟨a, _, e, h, x, y, rfl, hp, hq⟩
  | many p => obtain ⟨a, x, e, h, hp⟩ := h; exact ⟨a, _, e, h, x, rfl, hp⟩
  | few p => obtain ⟨a, x, e, h, hp⟩ := h; exact ⟨a, _, e, h, x, rfl, hp⟩
  | mark m p => obtain ⟨a, x, e, h, hp⟩ := h; exact ⟨a, _, e, h, x, rfl, hp⟩
end FR
end
section
set_option Elab.async false
set_option linter.all false
set_option maxRecDepth 20000
set_option maxHeartbeats 2000000
/-! Rows of nodes: what node_rows makes, and in closed form. -/
namespace FR
open PySem L2 FL
theorem size_pos (p : Pat) : 0 < p.size := by cases p <;> simp only [Pat.size] <;> omega
theorem size_kids (p : Pat) : (p.kids.map Pat.size).sum + 1 = p.size := by cases p <;> simp [Pat.kids, Pat.size] <;> omega
def tsize (ts : List (Pat × Int)) : Nat := (ts.map fun t => t.1.size).sum
theorem tsize_snoc (ts : List (Pat × Int)) (t : Pat × Int) : tsize (ts ++ [t]) = tsize ts + t.1.size := by simp [tsize]
theorem tsize_app (ts us : List (Pat × Int)) : tsize (ts ++ us) = tsize ts + tsize us := by simp [tsize]
theorem tsize_kids (q : Pat) (n : Int) : tsize (q.kids.map fun r => (r, n)) + 1 = q.size := by
  have := size_kids q
  have e : tsize (q.kids.map fun r => (r, n)) = (q.kids.map Pat.size).sum := by simp [tsize, Function.comp_def]
  omega
theorem len_tsize : ∀ l : List (Pat × Int), l.length ≤ tsize l
  | [] => by simp
  | a :: l => by
    have := size_pos a.1
    have ih := len_tsize l
    simp only [List.length_cons, tsize, List.map_cons, List.sum_cons] at ih ⊢
    omega
theorem kids_le (q : Pat) : q.kids.length ≤ 2 := by cases q <;> simp [Pat.kids]
abbrev Rows := List (Pat × List Nat)
/-- a number put behind those of row i -/
def addAt : Rows → Nat → Nat → Rows
  | [], _, _ => []
  | (q, ns) :: r, 0, n => (q, ns ++ [n]) :: r
  | x :: r, i + 1, n => x :: addAt r i n
theorem addAt_len : ∀ (f : Rows) (i n : Nat), (addAt f i n).length = f.length
  | [], _, _ => rfl
  | (_, _) :: _, 0, _ => rfl
  | _ :: r, i + 1, n => congrArg (· + 1) (addAt_len r i n)
theorem addAt_app : ∀ (f g : Rows) (i n : Nat), i < f.length → addAt (f ++ g) i n = addAt f i n ++ g
  | [], _, _, _, h => absurd h (by simp)
  | (_, _) :: _, _, 0, _, _ => rfl
  | x :: r, g, i + 1, n, h => by
    show x :: addAt (r ++ g) i n = x :: (addAt r i n ++ g)
    rw [addAt_app r g i n (by simpa using h)]
theorem addAt_mid : ∀ (f : Rows) (q : Pat) (ns : List Nat) (g : Rows) (n : Nat), addAt (f ++ (q, ns) :: g) f.length n = f ++ (q, ns ++ [n]) :: g
  | [], _, _, _, _ => rfl
  | x :: r, q, ns, g, n => by
    show x :: addAt (r ++ (q, ns) :: g) r.length n = x :: (r ++ (q, ns ++ [n]) :: g)
    rw [addAt_mid r q ns g n]
theorem addAt_get : ∀ (f : Rows) (i n j : Nat), (addAt f i n)[j]? = (f[j]?).map fun r => if j = i then (r.1, r.2 ++ [n]) else r
  | [], _, _, _ => by simp [addAt]
  | (q, ns) :: r, 0, n, 0 => by simp [addAt]
  | (q, ns) :: r, 0, n, j + 1 => by simp [addAt]
  | x :: r, i + 1, n, 0 => by simp [addAt]
  | x :: r, i + 1, n, j + 1 => by
    show (addAt r i n)[j]? = _
    rw [addAt_get r i n j]
    simp
def Bd (n : Nat) (f : Rows) : Prop := ∀ (i : Nat) (r : Pat × List Nat), f[i]? = some r → r.2.length ≤ n
theorem Bd.nil {n : Nat} : Bd n [] := fun i r h => by simp at h
theorem Bd.snoc {n m : Nat} {f : Rows} {q : Pat} (h : Bd n f) (hm : n ≤ m) : Bd m (f ++ [(q, [])]) := fun i r e => by
  by_cases hi : i < f.length
  · rw [List.getElem?_append_left hi] at e
    exact Nat.le_trans (h i r e) hm
  · have hl : i < (f ++ [(q, [])]).length := (List.getElem?_eq_some_iff.mp e).1
    have ei : i = f.length := by simp at hl; omega
    subst ei
    simp only [List.getElem?_append_right (Nat.le_refl _), Nat.sub_self, List.getElem?_cons_zero, Option.some.injEq] at e
    subst e
    simp
theorem Bd.add {n i k : Nat} {f : Rows} (h : Bd n f) : Bd (n + 1) (addAt f i k) := fun j r e => by
  rw [addAt_get] at e
  cases hj : f[j]? with
  | none => rw [hj] at e; simp at e
  | some r0 =>
    rw [hj] at e
    have := h j r0 hj
    simp only [Option.map_some, Option.some.injEq] at e
    subst e
    by_cases hji : j = i
    · rw [if_pos hji]; simp; omega
    · rw [if_neg hji]; omega
def addI (f : Rows) (a : Int) (n : Nat) : Rows := if 0 ≤ a then addAt f a.toNat n else f
theorem addI_len (f : Rows) (a : Int) (n : Nat) : (addI f a n).length = f.length := by unfold addI; split <;> simp [addAt_len]
theorem Bd.addI {n k : Nat} {f : Rows} {a : Int} (h : Bd n f) : Bd (n + 1) (addI f a k) := by
  unfold FR.addI
  split
  · exact h.add
  · exact fun i r e => Nat.le_succ_of_le (h i r e)
/-- the loop of node_rows: the stack from its top on -/
def run : List (Pat × Int) → Rows → Rows
  | [], f => f
  | (q, a) :: st, f => run ((q.kids.map fun r => (r, (f.length : Int))) ++ st) (addI f a f.length ++ [(q, [])])
termination_by ts => tsize ts
decreasing_by
  rw [tsize_app]
  have := tsize_kids q (f.length : Int)
  show _ < tsize ([(q, a)] ++ st)
  rw [tsize_app]
  simp only [tsize, List.map_cons, List.map_nil, List.sum_cons, List.sum_nil] at this ⊢
  omega
theorem run_cons (q : Pat) (a : Int) (st : List (Pat × Int)) (f : Rows) : run ((q, a) :: st) f = run ((q.kids.map fun r => (r, (f.length : Int))) ++ st) (addI f a f.length ++ [(q, [])]) := by
  rw [run]
/-- the rows of a pattern whose root is number k -/
def nrows : Nat → Pat → Rows
  | _, .none => [(.none, [])]
  | _, .empty => [(.empty, [])]
  | _, .sign l => [(.sign l, [])]
  | k, .thn p q => (.thn p q, [k + 1, k + 1 + p.size]) :: (nrows (k + 1) p ++ nrows (k + 1 + p.size) q)
  | k, .or p q => (.or p q, [k + 1, k + 1 + p.size]) :: (nrows (k + 1) p ++ nrows (k + 1 + p.size) q)
  | k, .many p => (.many p, [k + 1]) :: nrows (k + 1) p
  | k, .few p => (.few p, [k + 1]) :: nrows (k + 1) p
  | k, .mark m p => (.mark m p, [k + 1]) :: nrows (k + 1) p
theorem nrows_len : ∀ (p : Pat) (k : Nat), (nrows k p).length = p.size
  | .none, _ => rfl
  | .empty, _ => rfl
  | .sign _, _ => rfl
  | .thn p q, k => by simp only [nrows, List.length_cons, List.length_append, nrows_len p, nrows_len q, Pat.size]; omega
  | .or p q, k => by simp only [nrows, List.length_cons, List.length_append, nrows_len p, nrows_len q, Pat.size]; omega
  | .many p, k => by simp only [nrows, List.length_cons, nrows_len p, Pat.size]; omega
  | .few p, k => by simp only [nrows, List.length_cons, nrows_len p, Pat.size]; omega
  | .mark _ p, k => by simp only [nrows, List.length_cons, nrows_len p, Pat.size]; omega
theorem addI_mid (f : Rows) (q : Pat) (ns : List Nat) (g : Rows) (n : Nat) : addI (f ++ (q, ns) :: g) (f.length : Int) n = f ++ (q, ns ++ [n]) :: g := by
  unfold addI
  rw [if_pos (by omega), Int.toNat_natCast, addAt_mid]
theorem run_one (p : Pat) (f : Rows) (st : List (Pat × Int)) (q : Pat) (ih : ∀ (f : Rows) (a : Int) (st : List (Pat × Int)), run ((p, a) :: st) f = run st (addI f a f.length ++ nrows f.length p)) (a : Int) (hk : q.kids = [p]) :
    run ((q, a) :: st) f = run st (addI f a f.length ++ (q, [f.length + 1]) :: nrows (f.length + 1) p) := by
  rw [run_cons, hk, List.map_cons, List.map_nil, List.singleton_append, ih]
  have e : (addI f a f.length).length = f.length := addI_len ..
  rw [show (f.length : Int) = ((addI f a f.length).length : Int) by rw [e], addI_mid]
  simp [e]
theorem run_two (p r : Pat) (f : Rows) (st : List (Pat × Int)) (q : Pat) (ih : ∀ (f : Rows) (a : Int) (st : List (Pat × Int)), run ((p, a) :: st) f = run st (addI f a f.length ++ nrows f.length p))
    (ih2 : ∀ (f : Rows) (a : Int) (st : List (Pat × Int)), run ((r, a) :: st) f = run st (addI f a f.length ++ nrows f.length r)) (a : Int) (hk : q.kids = [p, r]) :
    run ((q, a) :: st) f = run st (addI f a f.length ++ (q, [f.length + 1, f.length + 1 + p.size]) :: (nrows (f.length + 1) p ++ nrows (f.length + 1 + p.size) r)) := by
  rw [run_cons, hk, List.map_cons, List.map_cons, List.map_nil, List.cons_append, List.cons_append, List.nil_append, ih, ih2]
  have e : (addI f a f.length).length = f.length := addI_len ..
  rw [show (f.length : Int) = ((addI f a f.length).length : Int) by rw [e], addI_mid]
  rw [List.append_assoc, List.cons_append, addI_mid]
  simp [e, nrows_len]
  rw [show f.length + (p.size + 1) = f.length + 1 + p.size by omega]
theorem run_nrows : ∀ (p : Pat) (f : Rows) (a : Int) (st : List (Pat × Int)), run ((p, a) :: st) f = run st (addI f a f.length ++ nrows f.length p)
  | .none, f, a, st => by rw [run_cons]; rfl
  | .empty, f, a, st => by rw [run_cons]; rfl
  | .sign _, f, a, st => by rw [run_cons]; rfl
  | .thn p q, f, a, st => run_two p q f st _ (run_nrows p) (run_nrows q) a rfl
  | .or p q, f, a, st => run_two p q f st _ (run_nrows p) (run_nrows q) a rfl
  | .many p, f, a, st => run_one p f st _ (run_nrows p) a rfl
  | .few p, f, a, st => run_one p f st _ (run_nrows p) a rfl
  | .mark _ p, f, a, st => run_one p f st _ (run_nrows p) a rfl
theorem run_all (p : Pat) : run [(p, -1)] [] = nrows 0 p := by
  rw [run_nrows, run]
  rfl
end FR
end
section
set_option Elab.async false
set_option linter.all false
set_option maxRecDepth 20000
set_option maxHeartbeats 2000000
/-! Rules for fields, dicts by equations. -/
namespace FL
open PySem PySem.Spec PyProof.Rows L2
/-! ### fields -/
/-- what the walk does not enter -/
@[irreducible] def Stop (p : Prop) : Prop := p
theorem Stop.i {p : Prop} (h : p) : Stop p := by
  unfold Stop
  exact h
theorem Stop.o {p : Prop} (h : Stop p) : p := by
  unfold Stop at h
  exact h
/-- a while: the invariant by a measure -/
theorem while_s {c : TT} {tb : TS} {D : Ends} {σ : L2.St} {H : Hp} (W : Nat → L2.St → Hp → Prop) (m0 : Nat) (h0 : W m0 σ H)
    (hs : ∀ m σ H, W m σ H → c σ H fun b H1 => if b = true then tb { D with nx := fun σ' H' => Stop (∃ m', m' < m ∧ W m' σ' H'), ct := fun σ' H' => Stop (∃ m', m' < m ∧ W m' σ' H'), bk := D.nx } σ H1 else D.nx σ H1)
    (mono : ∀ σ H Q Q', (∀ b H1, Q b H1 → Q' b H1) → c σ H Q → c σ H Q') : tWhile c tb D σ H := by
  refine ⟨W, ⟨m0, h0⟩, fun m σ H w => mono σ H _ _ (fun b H1 q => ?_) (hs m σ H w)⟩
  cases b with
  | false => exact q
  | true => exact ⟨_, fun σ' H' h => h.o, q⟩
/-- the instance at a, its dict and fields -/
structure Ins (H : Hp) (a C : Addr) (d : Addr × List (Str × V)) : Prop where
  e : H a = some (.ins C d.1 d.2)
theorem Ins.of {H : Hp} {a C dx : Addr} {fs : List (Str × V)} (h : H a = some (.ins C dx fs)) : Ins H a C (dx, fs) := ⟨h⟩
/-- what a field holds; the fields behind a store; no field of that name -/
structure Lk (fs : List (Str × V)) (f : Str) (v : V) : Prop where
  e : fs.lookup f = some v
structure Pf (f : Str) (y : V) (fs gs : List (Str × V)) : Prop where
  e : putF f y fs = gs
structure NoL (fs : List (Str × V)) (f : Str) : Prop where
  e : fs.lookup f = none
structure Fd (K : PySem.W.Frag) (C : Addr) (f : Str) : Prop where
  cl : Cls K C
  no : NoAttr K C f
def tFd (C : Addr) (f : Str) (ta : TE) : TE := fun σ H Q => ta σ H fun x H1 => ∃ a, x = .ref a ∧ ∃ d, Ins H1 a C d ∧ ∃ v, Lk d.2 f v ∧ Q v H1
def sFd (C : Addr) (f : Str) (ta tv : TE) : TS := fun D σ H => tv σ H fun y H1 => ta σ H1 fun x H2 => ∃ a, x = .ref a ∧ ∃ d, Ins H2 a C d ∧ d.2.length < 1000 ∧ ∃ gs, Pf f y d.2 gs ∧ D.nx σ (upd H2 a (.ins C d.1 gs))
def sFdAug (C : Addr) (f : Str) (ta tv : TE) (rd : V → V → Hp → VK → Prop) : TS := fun D σ H => ta σ H fun x H1 => ∃ a, x = .ref a ∧ ∃ d, Ins H1 a C d ∧ ∃ v, Lk d.2 f v ∧
  tv σ H1 fun y H2 => rd v y H2 fun z H3 => ∃ d', Ins H3 a C d' ∧ d'.2.length < 1000 ∧ ∃ gs, Pf f z d'.2 gs ∧ D.nx σ (upd H3 a (.ins C d'.1 gs))
section
variable {X : Cx} {C : Addr} {f : Str} {e o value : Expr} {pos pos' tpos : Pos} {ta tv : TE}
theorem pe_fd (he : PE X e ta) (T : Fd X.K C f) (hb : attributeBase e f X.env (eval e X.env) = eval e X.env) : PE X (.Attribute e f pos) (tFd C f ta) := by
  refine ⟨fun pins s σ H Q I h => ?_⟩
  refine attr_of hb (thn (he.run pins s σ H _ I h) fun u s1 ⟨x, H1, I1, rx, a, ex, ⟨dx, fs⟩, ⟨ea⟩, v, ⟨l⟩, q⟩ => ?_)
  subst ex
  obtain rfl : u = Value.ref a := rx
  exact getattr_ok I1 ea T.cl T.no l fun u' s2 I2 ru => ⟨v, H1, I2, ru, q⟩
theorem ps_fd (ha : PE X o ta) (hv : PE X value tv) (T : Fd X.K C f) (hs : swapsWith value (some (.Attribute o f pos')) pos.line X.env = pure false) : PS X (.Assign [.Attribute o f pos'] value pos) (sFd C f ta tv) := by
  refine ⟨fun pins s σ H D I h => ?_⟩
  refine plainObj_wpAny_Assign_Attribute (thn (hv.run pins s σ H _ I h) fun u s1 ⟨y, H1, I1, ry, q⟩ => thn (ha.run pins s1 σ H1 _ I1 q) fun ov s2 ⟨x, H2, I2, rx, a, ex, ⟨dx, fs⟩, ⟨ea⟩, l, gs, ⟨eg⟩, q2⟩ => ?_) hs
  subst ex eg
  obtain rfl : ov = Value.ref a := rx
  exact setattr_ok I2 ea T.cl T.no l ry fun s3 I3 => ⟨σ, _, I3, q2⟩
theorem ps_fdaug {op : Operator} {rd : V → V → Hp → VK → Prop} (ha : PE X o ta) (hv : PE X value tv) (T : Fd X.K C f) (hop : InOp X op rd) : PS X (.AugAssign (.Attribute o f tpos) op value pos) (sFdAug C f ta tv rd) := by
  refine ⟨fun pins s σ H D I h => ?_⟩
  refine wpAny_AugAssign_AttributeAny (thn (ha.run pins s σ H _ I h) fun ov s1 ⟨x, H1, I1, rx, a, ex, ⟨dx, fs⟩, ⟨ea⟩, v, ⟨l⟩, q⟩ => ?_)
  subst ex
  obtain rfl : ov = Value.ref a := rx
  refine getattr_ok I1 ea T.cl T.no l fun u s2 I2 ru => thn (hv.run pins s2 σ H1 _ I2 q) fun w3 s3 ⟨y, H2, I3, ry, q3⟩ => thn (hop pins s3 σ H2 v y u w3 _ I3 ru ry q3) fun w4 s4 ⟨z, H3, I4, rz, ⟨dx', fs'⟩, ⟨ea'⟩, l', gs, ⟨eg⟩, q4⟩ => ?_
  subst eg
  exact setattr_ok I4 ea' T.cl T.no l' rz fun s5 I5 => ⟨σ, _, I5, q4⟩
end
/-- o.m(e, ..) -/
def tMethF (C : Addr) (m : Str) (sp : Sp) (E : XK) (ta : TE) (t : TA) : TE := fun σ H Q => ta σ H fun x H1 => ∃ a, x = .ref a ∧ ∃ d, Ins H1 a C d ∧ NoL d.2 m ∧ t σ H1 fun vs H2 => sp (.ref a :: vs) H2 Q E
section
variable {X : Cx} {k : Nat} {C : Addr} {ps : List Str} {sp : Sp} {E : XK} {m : Str} {pos apos : Pos} {e o : Expr} {es : List Expr} {ta : TE} {t : TA}
theorem pe_methF {pl : Sem Bool} (he : PE X o ta) (D : DfM X.prog X.w X.K X.mg X.base k C m ps sp) (hr : Room k X.A) (hx : Passes (L2.CX X.prog X.w) X E) (ha : PA X (e :: es) t)
    (hst : starEach (e :: es) X.env = (false, eval e X.env) :: starEach es X.env := by rfl) (hpl : (backTo pos (starEach es X.env)).any (·.1) = false := by rfl)
    (ht : eval (.Call (.Attribute o m apos) (e :: es) [] pos) X.env = (do
      let ov ← eval o X.env
      standAt apos.atName
      let (f, first) ← holding [ov] (getMethod ov m pl)
      callWith pos f first (backTo pos (starEach (e :: es) X.env)) (backToKw pos (keywordEach [] X.env))) := by rfl) :
    PE X (.Call (.Attribute o m apos) (e :: es) [] pos) (tMethF C m sp E ta t) := by
  obtain ⟨f, fd, F, hm, hb⟩ := D.ex
  refine ⟨fun pins s σ H Q I h => ?_⟩
  refine PySem.W.methodCall_KW (pl := pl) (thn (he.run pins s σ H _ I h) fun u s1 ⟨x, H1, I1, rx, a, ex, ⟨dx, fs⟩, ⟨ea⟩, ⟨l⟩, q⟩ => ?_) ht
  subst ex
  obtain rfl : u = Value.ref a := rx
  refine getmeth_ok I1 ea D.cl hm l ?_
  refine PySem.W.callWith_K (first := [.ref a]) (h₀ := X.base) I.ok.mod.kin hm.kp (thn (ha.run pos pins s1 σ H1 _ I1 q) fun us s2 ⟨vs, H2, I2, r, q2⟩ => ⟨I2.kIn, ?_⟩) hst hpl
  exact run_fn (us := .ref a :: us) (vs := .ref a :: vs) (dvs := []) F hr hb .nil hx I2 (.cons rfl r) (by rw [List.append_nil]; exact q2)
theorem pe_methF0 {pl : Sem Bool} (he : PE X o ta) (D : DfM X.prog X.w X.K X.mg X.base k C m ps sp) (hr : Room k X.A) (hx : Passes (L2.CX X.prog X.w) X E)
    (ht : eval (.Call (.Attribute o m apos) [] [] pos) X.env = (do
      let ov ← eval o X.env
      standAt apos.atName
      let (f, first) ← holding [ov] (getMethod ov m pl)
      callWith pos f first (backTo pos (starEach [] X.env)) (backToKw pos (keywordEach [] X.env))) := by rfl) :
    PE X (.Call (.Attribute o m apos) [] [] pos) (tMethF C m sp E ta tNil) := by
  obtain ⟨f, fd, F, hm, hb⟩ := D.ex
  refine ⟨fun pins s σ H Q I h => ?_⟩
  refine PySem.W.methodCall_KW (pl := pl) (thn (he.run pins s σ H _ I h) fun u s1 ⟨x, H1, I1, rx, a, ex, ⟨dx, fs⟩, ⟨ea⟩, ⟨l⟩, q⟩ => ?_) ht
  subst ex
  obtain rfl : u = Value.ref a := rx
  refine getmeth_ok I1 ea D.cl hm l ?_
  exact PySem.W.callWith_K0 (first := [.ref a]) I1.kIn hm.kp (run_fn (us := [.ref a]) (vs := [.ref a]) (dvs := []) F hr hb .nil hx I1 (.cons rfl .nil) q)
end
/-- self.x += e, -= e, of ints -/
def rAddI : V → V → Hp → VK → Prop := fun x y H Q => ∃ i, x = .int i ∧ ∃ j, y = .int j ∧ Q (.int (i + j)) H
def rSubI : V → V → Hp → VK → Prop := fun x y H Q => ∃ i, x = .int i ∧ ∃ j, y = .int j ∧ Q (.int (i - j)) H
theorem InOp.weak {X : Cx} {op : Operator} {r r' : V → V → Hp → VK → Prop} (h : InOp X op r) (k : ∀ x y H Q, r' x y H Q → r x y H Q) : InOp X op r' := fun pins s σ H x y u v Q I rx ry q => h pins s σ H x y u v Q I rx ry (k _ _ _ _ q)
theorem inadd {X : Cx} : InOp X .Add rAddI := InOp.weak in_add fun x y H Q ⟨i, a, j, b, q⟩ => ⟨i, j, a, b, q⟩
theorem insub {X : Cx} : InOp X .Sub rSubI := InOp.weak in_sub fun x y H Q ⟨i, a, j, b, q⟩ => ⟨i, j, a, b, q⟩

/-! ### dicts -/
section
variable {X : Cx} {o i e f value : Expr} {pos pos' cpos apos : Pos} {td ty tv tx : TE}
/-- d[y], y in d, y not in d, d[y] = v, d.get(y, x), by values -/
theorem pe_dgetR {r : R2} (hu : X.A.units + 1 < cLine) (hr : ∀ x y H Q, r x y H Q → ∃ a v, x = .ref a ∧ DGet H a y (some v) ∧ Q v H) (ho : PE X o td) (hi : PE X i ty) (hs : NoSl i) : PE X (.Subscript o i pos) (tOp r td ty) := by
  refine ⟨fun pins s σ H Q I h => ?_⟩
  refine subD_of PySem.F.slot_dict_getitem.lookup hs (thn (ho.run pins s σ H _ I h) fun u s1 ⟨x, H1, I1, rx, q1⟩ => thn (hi.run pins s1 σ H1 _ I1 q1) fun iv s2 ⟨y, H2, I2, ry, q2⟩ => ?_)
  obtain ⟨a, v, ex, g, q9⟩ := hr _ _ _ _ q2
  subst ex
  obtain rfl : u = Value.ref a := rx
  exact ⟨dict_typeIs I2 g, d_getItem hu I2 g ry fun w' s3 I3 rw' => ⟨v, H2, I3, rw', q9⟩⟩
theorem odinR {r : R2} (hu : X.A.units + 1 < cLine) (hr : ∀ x y H Q, r x y H Q → ∃ a o, y = .ref a ∧ DGet H a x o ∧ Q (.bl o.isSome) H) : OpR X (compareOp .In) r := fun pins s σ H x y v u Q I rx ry q => by
  obtain ⟨a, ov, ey, g, q9⟩ := hr _ _ _ _ q
  subst ey
  obtain rfl : u = Value.ref a := ry
  exact d_in hu I g rx fun s3 I3 => ⟨.bl ov.isSome, H, I3, rfl, q9⟩
theorem odninR {r : R2} (hu : X.A.units + 1 < cLine) (hr : ∀ x y H Q, r x y H Q → ∃ a o, y = .ref a ∧ DGet H a x o ∧ Q (.bl (!o.isSome)) H) : OpR X (compareOp .NotIn) r := fun pins s σ H x y v u Q I rx ry q => by
  obtain ⟨a, ov, ey, g, q9⟩ := hr _ _ _ _ q
  subst ey
  obtain rfl : u = Value.ref a := ry
  exact d_notIn hu I g rx fun s3 I3 => ⟨.bl (!ov.isSome), H, I3, rfl, q9⟩
abbrev R3 := V → V → V → Hp → (Hp → Prop) → Prop
def sDPutR (r : R3) (td ty tv : TE) : TS := fun D σ H => tv σ H fun v H1 => td σ H1 fun x H2 => ty σ H2 fun y H3 => r x y v H3 fun H4 => D.nx σ H4
theorem ps_dputR {r : R3} (hu : X.A.units + 1 < cLine) (hr : ∀ x y v H (Q : Hp → Prop), r x y v H Q → ∃ a H', x = .ref a ∧ DPut H a y v H' ∧ Q H') (ho : PE X o td) (hi : PE X i ty) (hv : PE X value tv) (hs : swapsWith value (some (.Subscript o i pos')) pos.line X.env = pure false) :
    PS X (.Assign [.Subscript o i pos'] value pos) (sDPutR r td ty tv) := by
  refine ⟨fun pins s σ H D I h => ?_⟩
  refine wpAny_Assign_Subscript (thn (hv.run pins s σ H _ I h) fun rr s1 ⟨v, H1, I1, rv, q1⟩ => thn (ho.run pins s1 σ H1 _ I1 q1) fun u s2 ⟨x, H2, I2, rx, q2⟩ => thn (hi.run pins s2 σ H2 _ I2 q2) fun iv s3 ⟨y, H3, I3, ry, q3⟩ => ?_) hs
  obtain ⟨a, H4, ex, g, q9⟩ := hr _ _ _ _ _ q3
  subst ex
  obtain rfl : u = Value.ref a := rx
  exact d_setItem hu I3 g ry rv fun s4 I4 => ⟨σ, H4, I4, q9⟩
def tDGet2R (r : V → V → V → Hp → VK → Prop) (td ty tx : TE) : TE := fun σ H Q => td σ H fun x H1 => ∃ a, x = .ref a ∧ ∃ u, H1 a = some u ∧ DictO u ∧ ty σ H1 fun y H2 => tx σ H2 fun z H3 => r x y z H3 Q
where DictO : HO → Prop
  | .dK _ => True
  | .dT _ => True
  | _ => False
theorem pe_dget2R {r : V → V → V → Hp → VK → Prop} (hu : X.A.units + 1 < cLine) (hr : ∀ x y z H Q, r x y z H Q → ∃ a o, x = .ref a ∧ DGet H a y o ∧ Q (o.getD z) H) (ho : PE X o td) (he : PE X e ty) (hf : PE X f tx) (m : M2 X o "get" apos e f cpos) : PE X (.Call (.Attribute o "get" apos) [e, f] [] cpos) (tDGet2R r td ty tx) := by
  refine ⟨fun pins s σ H Q I h => ?_⟩
  refine wpAny_Call_method m.base m.few m.line PySem.F.plainAttrs_dict PySem.F.slot_dict_get PySem.F.type_dict_get (thn (ho.run pins s σ H _ I h) fun u s1 ⟨x, H1, I1, rx, a, ex, ob, d, dd, q1⟩ => ?_)
  subst ex
  obtain rfl : u = Value.ref a := rx
  have d : IsD H1 a := by
    cases ob with
    | dK kvs => exact .inl ⟨kvs, .inl d⟩
    | dT kvs => exact .inr ⟨kvs, .inl d⟩
    | _ => exact dd.elim
  obtain ⟨t1, t2, _⟩ := isD_at I1 d
  refine ⟨t1, t2, ?_⟩
  rw [m.trees]
  refine Calls.callWith_builtin rfl (Calls.evalArgs_plain (Calls.spliced_cons (thn (he.run pins s1 σ H1 _ I1 q1) fun iv s2 ⟨y, H2, I2, ry, q2⟩ =>
    Calls.spliced_cons (thn (hf.run pins s2 σ H2 _ I2 q2) fun fv s3 ⟨z, H3, I3, rz, q3⟩ => Calls.spliced_nil ?_))))
  obtain ⟨a', ov, ex, g, q9⟩ := hr _ _ _ _ _ q3
  obtain rfl := V.ref.inj ex
  exact d_get2 hu I3 g ry rz fun w' s4 I4 rw' => ⟨_, H3, I4, rw', q9⟩
end
/-- int keys -/
def rGetI : R2 := fun x y H Q => ∃ a, x = .ref a ∧ ∃ n, y = .int n ∧ ∃ kvs, H a = some (.dK kvs) ∧ ∃ v, Eqs (valV kvs (Sum.inl n : Key)) (some v) ∧ Q v H
def rInI : R2 := fun x y H Q => ∃ n, x = .int n ∧ ∃ a, y = .ref a ∧ ∃ kvs, H a = some (.dK kvs) ∧ Q (.bl (valV kvs (Sum.inl n : Key)).isSome) H
def rNinI : R2 := fun x y H Q => ∃ n, x = .int n ∧ ∃ a, y = .ref a ∧ ∃ kvs, H a = some (.dK kvs) ∧ Q (.bl (!(valV kvs (Sum.inl n : Key)).isSome)) H
def rPutI : R3 := fun x y v H Q => ∃ a, x = .ref a ∧ ∃ n, y = .int n ∧ ∃ kvs, H a = some (.dK kvs) ∧ kvs.length < sizeLine ∧ Q (upd H a (.dK (putK kvs (Sum.inl n : Key) v)))
/-- pairs of ints as keys -/
def rGetP : R2 := fun x y H Q => ∃ a, x = .ref a ∧ ∃ b, y = .ref b ∧ ∃ xs, H b = some (.tup xs) ∧ ∃ i j, xs = [.int i, .int j] ∧ ∃ kvs, H a = some (.dT kvs) ∧ ∃ v, Eqs (valV kvs [(Sum.inl i : Key), Sum.inl j]) (some v) ∧ Q v H
def rInP : R2 := fun x y H Q => ∃ b, x = .ref b ∧ ∃ xs, H b = some (.tup xs) ∧ ∃ i j, xs = [.int i, .int j] ∧ ∃ a, y = .ref a ∧ ∃ kvs, H a = some (.dT kvs) ∧ Q (.bl (valV kvs [(Sum.inl i : Key), Sum.inl j]).isSome) H
def rNinP : R2 := fun x y H Q => ∃ b, x = .ref b ∧ ∃ xs, H b = some (.tup xs) ∧ ∃ i j, xs = [.int i, .int j] ∧ ∃ a, y = .ref a ∧ ∃ kvs, H a = some (.dT kvs) ∧ Q (.bl (!(valV kvs [(Sum.inl i : Key), Sum.inl j]).isSome)) H
def rPutP : R3 := fun x y v H Q => ∃ a, x = .ref a ∧ ∃ b, y = .ref b ∧ ∃ xs, H b = some (.tup xs) ∧ ∃ i j, xs = [.int i, .int j] ∧ ∃ kvs, H a = some (.dT kvs) ∧ kvs.length < sizeLine ∧ Q (upd H a (.dT (putK kvs [(Sum.inl i : Key), Sum.inl j] v)))
def rGet2P : V → V → V → Hp → VK → Prop := fun x y z H Q => ∃ a, x = .ref a ∧ ∃ b, y = .ref b ∧ ∃ xs, H b = some (.tup xs) ∧ ∃ i j, xs = [.int i, .int j] ∧ ∃ kvs, H a = some (.dT kvs) ∧ Q ((valV kvs [(Sum.inl i : Key), Sum.inl j]).getD z) H
theorem rGetI.to : ∀ x y H Q, rGetI x y H Q → ∃ a v, x = .ref a ∧ DGet H a y (some v) ∧ Q v H := fun x y H Q ⟨a, ex, n, ey, kvs, h, v, ⟨e⟩, q⟩ => ⟨a, v, ex, by subst ey; rw [← e]; exact DGet.k (k := Sum.inl n) h, q⟩
theorem rInI.to : ∀ x y H Q, rInI x y H Q → ∃ a o, y = .ref a ∧ DGet H a x o ∧ Q (.bl o.isSome) H := fun x y H Q ⟨n, ex, a, ey, kvs, h, q⟩ => ⟨a, _, ey, by subst ex; exact DGet.k (k := Sum.inl n) h, q⟩
theorem rNinI.to : ∀ x y H Q, rNinI x y H Q → ∃ a o, y = .ref a ∧ DGet H a x o ∧ Q (.bl (!o.isSome)) H := fun x y H Q ⟨n, ex, a, ey, kvs, h, q⟩ => ⟨a, _, ey, by subst ex; exact DGet.k (k := Sum.inl n) h, q⟩
theorem rPutI.to : ∀ x y v H (Q : Hp → Prop), rPutI x y v H Q → ∃ a H', x = .ref a ∧ DPut H a y v H' ∧ Q H' := fun x y v H Q ⟨a, ex, n, ey, kvs, h, l, q⟩ => ⟨a, _, ex, by subst ey; exact DPut.k (k := Sum.inl n) h l, q⟩
theorem pk2 (i j : Int) : ([.int i, .int j] : List V) = ([(Sum.inl i : Key), Sum.inl j] : List Key).map kV := rfl
theorem rGetP.to : ∀ x y H Q, rGetP x y H Q → ∃ a v, x = .ref a ∧ DGet H a y (some v) ∧ Q v H := fun x y H Q ⟨a, ex, b, ey, xs, hb, i, j, exs, kvs, h, v, ⟨e⟩, q⟩ => ⟨a, v, ex, by subst ey exs; rw [← e]; exact DGet.t h hb, q⟩
theorem rInP.to : ∀ x y H Q, rInP x y H Q → ∃ a o, y = .ref a ∧ DGet H a x o ∧ Q (.bl o.isSome) H := fun x y H Q ⟨b, ex, xs, hb, i, j, exs, a, ey, kvs, h, q⟩ => ⟨a, _, ey, by subst ex exs; exact DGet.t h hb, q⟩
theorem rNinP.to : ∀ x y H Q, rNinP x y H Q → ∃ a o, y = .ref a ∧ DGet H a x o ∧ Q (.bl (!o.isSome)) H := fun x y H Q ⟨b, ex, xs, hb, i, j, exs, a, ey, kvs, h, q⟩ => ⟨a, _, ey, by subst ex exs; exact DGet.t h hb, q⟩
theorem rPutP.to : ∀ x y v H (Q : Hp → Prop), rPutP x y v H Q → ∃ a H', x = .ref a ∧ DPut H a y v H' ∧ Q H' := fun x y v H Q ⟨a, ex, b, ey, xs, hb, i, j, exs, kvs, h, l, q⟩ => ⟨a, _, ex, by subst ey exs; exact DPut.t h hb l, q⟩
theorem rGet2P.to : ∀ x y z H Q, rGet2P x y z H Q → ∃ a o, x = .ref a ∧ DGet H a y o ∧ Q (o.getD z) H := fun x y z H Q ⟨a, ex, b, ey, xs, hb, i, j, exs, kvs, h, q⟩ => ⟨a, _, ex, by subst ey exs; exact DGet.t h hb, q⟩
/-- dict(d), d.update(e) -/
def fDictOf : List V → Hp → VK → Prop := fun xs H Q => ∃ a, xs = [.ref a] ∧ ∃ kvs, H a = some (.dK kvs) ∧ ∀ p, H p = none → Q (.ref p) (upd H p (.dK kvs))
theorem cl_dict {X : Cx} : CallR X (.type "dict") fDictOf := CallR.weak call_dict_of fun xs H Q ⟨a, e, kvs, h, q⟩ => ⟨a, kvs, e, .inl h, q⟩
def fUpd : V → List V → Hp → VK → Prop := fun x xs H Q => ∃ d, x = .ref d ∧ ∃ o, xs = [.ref o] ∧ ∃ kvs, H d = some (.dK kvs) ∧ ∃ more, H o = some (.dK more) ∧ d ≠ o ∧ kvs.length + more.length ≤ sizeLine ∧ Q .non (upd H d (.dK (mergeK kvs more)))
theorem mupdate {X : Cx} : MtR X "dict.update" fUpd := MtR.weak mt_update fun x xs H Q ⟨d, e1, o, e2, kvs, h1, more, h2, hne, hz, q⟩ => ⟨d, o, kvs, more, e1, e2, h1, .inl h2, hne, hz, q⟩
theorem m2_of {X : Cx} {o : Expr} {m : Str} {apos : Pos} {e f : Expr} {cpos : Pos} (base : attributeBase o m X.env (eval o X.env) = eval o X.env)
    (few : ((backTo cpos (starEach [e, f] X.env)).all (fun x => !x.1) && (backToKw cpos (keywordEach [] X.env)).all (fun x => x.1.isSome) && decide (([e, f] : List Expr).length + ([] : List Keyword).length + (if ([] : List Keyword).isEmpty then 0 else 1) < 30)) = true)
    (line : (apos.endLine == cpos.line) = true) (trees : backTo cpos (starEach [e, f] X.env) = [(false, eval e X.env), (false, eval f X.env)]) : M2 X o m apos e f cpos := ⟨base, few, line, trees⟩
theorem lk_eq {f : Str} {v : V} {r : List (Str × V)} : Lk ((f, v) :: r) f v := ⟨by simp [List.lookup]⟩
theorem lkn {f g : Str} {v : V} {r : List (Str × V)} {o : Option V} (h : ¬ g = f) (e : r.lookup f = o) : ((g, v) :: r).lookup f = o := by
  have h2 : (f == g) = false := by simp; exact fun e => h e.symm
  simp only [List.lookup, h2]
  exact e
theorem lk_ne {f g : Str} {v y : V} {r : List (Str × V)} (h : ¬ g = f) (e : Lk r f y) : Lk ((g, v) :: r) f y := ⟨lkn h e.e⟩
theorem no_nil {f : Str} : NoL [] f := ⟨rfl⟩
theorem no_ne {f g : Str} {v : V} {r : List (Str × V)} (h : ¬ g = f) (e : NoL r f) : NoL ((g, v) :: r) f := ⟨lkn h e.e⟩
theorem pf_eq {f : Str} {v y : V} {r : List (Str × V)} : Pf f y ((f, v) :: r) ((f, y) :: r) := ⟨by simp [putF]⟩
theorem pf_nil {f : Str} {y : V} : Pf f y [] [(f, y)] := ⟨rfl⟩
theorem pf_ne {f g : Str} {v y : V} {r r' : List (Str × V)} (h : ¬ g = f) (e : Pf f y r r') : Pf f y ((g, v) :: r) ((g, v) :: r') := ⟨by
  show (if g = f then _ else _) = _
  rw [if_neg h, e.e]⟩
end FL
end
section
set_option Elab.async false
set_option linter.all false
set_option maxRecDepth 20000
set_option maxHeartbeats 2000000
/-! The states of a pattern, as statesets.Sets makes them: a mirror, and its shape by the pattern. -/
namespace FR
open PySem L2 FL
abbrev TVal := Bool × List Nat × List Nat
def addKey (a : List Nat) (k : Nat) : List Nat := if k ∈ a then a else a ++ [k]
def addKeys (a b : List Nat) : List Nat := b.foldl addKey a
def modAt : List (List Nat) → Nat → List Nat → List (List Nat)
  | [], _, _ => []
  | x :: r, 0, fs => addKeys x fs :: r
  | x :: r, i + 1, fs => x :: modAt r i fs
def joinF (fol : List (List Nat)) (ls fs : List Nat) : List (List Nat) := ls.foldl (fun f l => modAt f l fs) fol
theorem modAt_len : ∀ (f : List (List Nat)) (i : Nat) (fs : List Nat), (modAt f i fs).length = f.length
  | [], _, _ => rfl
  | _ :: _, 0, _ => rfl
  | _ :: r, i + 1, fs => congrArg (· + 1) (modAt_len r i fs)
theorem modAt_get : ∀ (f : List (List Nat)) (i j : Nat) (fs : List Nat), (modAt f i fs)[j]? = (f[j]?).map fun a => if j = i then addKeys a fs else a
  | [], _, _, _ => by simp [modAt]
  | x :: r, 0, 0, fs => by simp [modAt]
  | x :: r, 0, j + 1, fs => by simp [modAt]
  | x :: r, i + 1, 0, fs => by simp [modAt]
  | x :: r, i + 1, j + 1, fs => by
    show (modAt r i fs)[j]? = _
    rw [modAt_get r i j fs]
    simp
theorem joinF_len : ∀ (ls : List Nat) (f : List (List Nat)) (fs : List Nat), (joinF f ls fs).length = f.length
  | [], _, _ => rfl
  | l :: ls, f, fs => by
    show (joinF (modAt f l fs) ls fs).length = _
    rw [joinF_len ls, modAt_len]
theorem joinF_snoc (f : List (List Nat)) (ls : List Nat) (l : Nat) (fs : List Nat) : joinF f (ls ++ [l]) fs = modAt (joinF f ls fs) l fs := by simp [joinF]
/-! keys -/
theorem mem_addKey {a : List Nat} {k x : Nat} : x ∈ addKey a k ↔ x ∈ a ∨ x = k := by
  unfold addKey
  split
  · rename_i h
    exact ⟨.inl, fun h' => h'.elim id fun e => e ▸ h⟩
  · simp
theorem mem_addKeys : ∀ {b a : List Nat} {x : Nat}, x ∈ addKeys a b ↔ x ∈ a ∨ x ∈ b
  | [], a, x => by simp [addKeys]
  | k :: b, a, x => by
    show x ∈ addKeys (addKey a k) b ↔ _
    rw [mem_addKeys, mem_addKey]
    simp only [List.mem_cons]
    exact or_assoc
theorem nd_addKey {a : List Nat} {k : Nat} (h : a.Nodup) : (addKey a k).Nodup := by
  unfold addKey
  split
  · exact h
  · rename_i hn
    rw [List.nodup_append]
    exact ⟨h, by simp, fun x hx y hy e => hn (by simp at hy; subst hy; exact e ▸ hx)⟩
theorem nd_addKeys : ∀ {b a : List Nat}, a.Nodup → (addKeys a b).Nodup
  | [], _, h => h
  | k :: b, a, h => nd_addKeys (b := b) (nd_addKey h)
theorem nodup_len : ∀ (n : Nat) {l : List Nat}, l.Nodup → (∀ x ∈ l, x < n) → l.length ≤ n
  | 0, l, _, h => by
    cases l with
    | nil => simp
    | cons x l => exact absurd (h x (List.mem_cons_self ..)) (by omega)
  | n + 1, l, hd, h => by
    have h1 : (l.erase n).length ≤ n := nodup_len n (hd.erase n) (fun x hx => by
      have h2 := h x (List.mem_of_mem_erase hx)
      have h3 : x ≠ n := fun e => by
        rw [e] at hx
        exact (List.Nodup.mem_erase_iff hd).mp hx |>.1 rfl
      omega)
    have h4 := List.length_erase_le (a := n) (l := l)
    by_cases hm : n ∈ l
    · have := List.length_erase_of_mem hm
      omega
    · rw [List.erase_of_not_mem hm] at h1
      omega
/-- keys that are no more than so many -/
def KOk (n : Nat) (ks : List Nat) : Prop := ks.Nodup ∧ ∀ k ∈ ks, k < n
theorem KOk.len {n : Nat} {ks : List Nat} (h : KOk n ks) : ks.length ≤ n := nodup_len n h.1 h.2
theorem KOk.add {n : Nat} {a b : List Nat} (ha : KOk n a) (hb : KOk n b) : KOk n (addKeys a b) := ⟨nd_addKeys ha.1, fun k hk => (mem_addKeys.mp hk).elim (ha.2 k) (hb.2 k)⟩
theorem KOk.nil {n : Nat} : KOk n [] := ⟨List.nodup_nil, by simp⟩
def FOk (n : Nat) (fol : List (List Nat)) : Prop := ∀ (i : Nat) (ks : List Nat), fol[i]? = some ks → KOk n ks
theorem FOk.mod {n : Nat} {fol : List (List Nat)} {i : Nat} {fs : List Nat} (h : FOk n fol) (hf : KOk n fs) : FOk n (modAt fol i fs) := fun j ks e => by
  rw [modAt_get] at e
  cases hj : fol[j]? with
  | none => rw [hj] at e; simp at e
  | some r0 =>
    rw [hj] at e
    have := h j r0 hj
    simp only [Option.map_some, Option.some.injEq] at e
    subst e
    by_cases hji : j = i
    · rw [if_pos hji]; exact this.add hf
    · rw [if_neg hji]; exact this
theorem FOk.join {n : Nat} {fs : List Nat} (hf : KOk n fs) : ∀ {ls : List Nat} {fol : List (List Nat)}, FOk n fol → FOk n (joinF fol ls fs)
  | [], _, h => h
  | l :: ls, fol, h => FOk.join hf (ls := ls) (h.mod hf)
/-! the mirror -/
structure MS where
  fol : List (List Nat)
  pos : Nat
def dT : TVal := (false, [], [])
/-- a node's row, of what is told of its parts -/
def tOf : Pat → TVal → TVal → MS → TVal × MS
  | .none, _, _, s => ((false, [], []), s)
  | .empty, _, _, s => ((true, [], []), s)
  | .sign _, _, _, s => ((false, [s.pos], [s.pos]), ⟨s.fol, s.pos - 1⟩)
  | .mark _ _, a, _, s => (a, s)
  | .many _, a, _, s => ((true, a.2.1, a.2.2), ⟨joinF s.fol a.2.2 a.2.1, s.pos⟩)
  | .few _, a, _, s => ((true, a.2.1, a.2.2), ⟨joinF s.fol a.2.2 a.2.1, s.pos⟩)
  | .or _ _, a, b, s => ((a.1 || b.1, addKeys a.2.1 b.2.1, addKeys b.2.2 a.2.2), s)
  | .thn _ _, a, b, s => ((a.1 && b.1, if a.1 then addKeys a.2.1 b.2.1 else a.2.1, if b.1 then addKeys b.2.2 a.2.2 else b.2.2), ⟨joinF s.fol a.2.2 b.2.1, s.pos⟩)
/-- the same by the pattern, its last part first -/
def ev : Pat → MS → TVal × MS
  | .none, s => tOf .none dT dT s
  | .empty, s => tOf .empty dT dT s
  | .sign l, s => tOf (.sign l) dT dT s
  | .mark m p, s => let a := ev p s; tOf (.mark m p) a.1 dT a.2
  | .many p, s => let a := ev p s; tOf (.many p) a.1 dT a.2
  | .few p, s => let a := ev p s; tOf (.few p) a.1 dT a.2
  | .or p q, s => let b := ev q s; let a := ev p b.2; tOf (.or p q) a.1 b.1 a.2
  | .thn p q, s => let b := ev q s; let a := ev p b.2; tOf (.thn p q) a.1 b.1 a.2
abbrev ST := (Nat → TVal) × MS
def putT (f : Nat → TVal) (i : Nat) (v : TVal) : Nat → TVal := fun j => if j = i then v else f j
def kid (f : Nat → TVal) (ns : List Nat) (i : Nat) : TVal := match ns[i]? with
  | some n => f n
  | none => dT
def stepM (rows : Rows) (st : ST) (i : Nat) : ST := match rows[i]? with
  | some (q, ns) => let r := tOf q (kid st.1 ns 0) (kid st.1 ns 1) st.2; (putT st.1 i r.1, r.2)
  | none => st
def proc (rows : Rows) : Nat → Nat → ST → ST
  | _, 0, st => st
  | k, n + 1, st => stepM rows (proc rows (k + 1) n st) k
theorem proc_app (rows : Rows) : ∀ (a k b : Nat) (st : ST), proc rows k (a + b) st = proc rows k a (proc rows (k + a) b st)
  | 0, k, b, st => by simp [proc]
  | a + 1, k, b, st => by
    rw [show a + 1 + b = (a + b) + 1 by omega]
    show stepM rows (proc rows (k + 1) (a + b) st) k = stepM rows (proc rows (k + 1) a (proc rows (k + (a + 1)) b st)) k
    rw [proc_app rows a (k + 1) b st, show k + (a + 1) = k + 1 + a by omega]
def Seg (rows : Rows) (k : Nat) (p : Pat) : Prop := ∀ j, j < p.size → rows[k + j]? = (nrows k p)[j]?
theorem Seg.two {rows : Rows} {k : Nat} {p q r : Pat} (hs : r.size = 1 + p.size + q.size) (hr : ∃ ns, nrows k r = (r, ns) :: (nrows (k + 1) p ++ nrows (k + 1 + p.size) q)) (h : Seg rows k r) : Seg rows (k + 1) p ∧ Seg rows (k + 1 + p.size) q := by
  obtain ⟨ns, e⟩ := hr
  refine ⟨fun j hj => ?_, fun j hj => ?_⟩
  · have h1 := h (1 + j) (by omega)
    rw [e, show 1 + j = j + 1 by omega, List.getElem?_cons_succ, List.getElem?_append_left (by rw [nrows_len]; exact hj)] at h1
    rw [show k + 1 + j = k + (j + 1) by omega]
    exact h1
  · have h1 := h (1 + p.size + j) (by omega)
    rw [e, show 1 + p.size + j = (p.size + j) + 1 by omega, List.getElem?_cons_succ, List.getElem?_append_right (by rw [nrows_len]; omega), nrows_len, show p.size + j - p.size = j by omega] at h1
    rw [show k + 1 + p.size + j = k + (p.size + j + 1) by omega]
    exact h1
theorem Seg.one {rows : Rows} {k : Nat} {p r : Pat} (hs : r.size = 1 + p.size) (hr : ∃ ns, nrows k r = (r, ns) :: nrows (k + 1) p) (h : Seg rows k r) : Seg rows (k + 1) p := fun j hj => by
  obtain ⟨ns, e⟩ := hr
  have h1 := h (1 + j) (by omega)
  rw [e, show 1 + j = j + 1 by omega, List.getElem?_cons_succ] at h1
  rw [show k + 1 + j = k + (j + 1) by omega]
  exact h1
def EvSpec (rows : Rows) (p : Pat) : Prop := ∀ (k : Nat) (st : ST), Seg rows k p → (proc rows k p.size st).1 k = (ev p st.2).1 ∧ (proc rows k p.size st).2 = (ev p st.2).2 ∧ ∀ j, (j < k ∨ k + p.size ≤ j) → (proc rows k p.size st).1 j = st.1 j
theorem ev_leaf {rows : Rows} {r : Pat} (hs : r.size = 1) (hr : ∀ k, nrows k r = [(r, [])]) (he : ∀ s, ev r s = tOf r dT dT s) : EvSpec rows r := fun k st h => by
  have h0 := h 0 (by omega)
  rw [hr] at h0
  rw [hs, he]
  have e : proc rows k 1 st = (putT st.1 k (tOf r dT dT st.2).1, (tOf r dT dT st.2).2) := by
    show stepM rows st k = _
    unfold stepM
    rw [show rows[k]? = some (r, []) from h0]
    rfl
  rw [e]
  refine ⟨by simp [putT], rfl, fun j hj => ?_⟩
  show putT st.1 k _ j = _
  unfold putT
  rw [if_neg (by omega)]
theorem ev_one {rows : Rows} {p r : Pat} (hs : r.size = 1 + p.size) (hr : ∀ k, nrows k r = (r, [k + 1]) :: nrows (k + 1) p) (he : ∀ s, ev r s = tOf r (ev p s).1 dT (ev p s).2) (ih : EvSpec rows p) : EvSpec rows r := fun k st h => by
  have h0 := h 0 (by omega)
  rw [hr] at h0
  obtain ⟨i1, i2, i3⟩ := ih (k + 1) st (h.one hs ⟨_, hr k⟩)
  rw [hs, he, Nat.add_comm 1 p.size]
  have e : proc rows k (p.size + 1) st = (putT (proc rows (k + 1) p.size st).1 k (tOf r (ev p st.2).1 dT (ev p st.2).2).1, (tOf r (ev p st.2).1 dT (ev p st.2).2).2) := by
    show stepM rows (proc rows (k + 1) p.size st) k = _
    unfold stepM
    rw [show rows[k]? = some (r, [k + 1]) from h0]
    simp only [kid, List.getElem?_cons_zero, List.getElem?_cons_succ, List.getElem?_nil, i1, i2]
  rw [e]
  refine ⟨by simp [putT], rfl, fun j hj => ?_⟩
  show putT _ k _ j = _
  unfold putT
  rw [if_neg (by omega), i3 j (by omega)]
theorem ev_two {rows : Rows} {p q r : Pat} (hs : r.size = 1 + p.size + q.size) (hr : ∀ k, nrows k r = (r, [k + 1, k + 1 + p.size]) :: (nrows (k + 1) p ++ nrows (k + 1 + p.size) q)) (he : ∀ s, ev r s = tOf r (ev p (ev q s).2).1 (ev q s).1 (ev p (ev q s).2).2)
    (ih : EvSpec rows p) (ih2 : EvSpec rows q) : EvSpec rows r := fun k st h => by
  have h0 := h 0 (by omega)
  rw [hr] at h0
  obtain ⟨g1, g2⟩ := h.two hs ⟨_, hr k⟩
  obtain ⟨j1, j2, j3⟩ := ih2 (k + 1 + p.size) st g2
  obtain ⟨i1, i2, i3⟩ := ih (k + 1) (proc rows (k + 1 + p.size) q.size st) g1
  rw [j2] at i1 i2
  rw [hs, he, show 1 + p.size + q.size = (p.size + q.size) + 1 by omega]
  have e : proc rows k (p.size + q.size + 1) st = (putT (proc rows (k + 1) (p.size + q.size) st).1 k (tOf r (ev p (ev q st.2).2).1 (ev q st.2).1 (ev p (ev q st.2).2).2).1, (tOf r (ev p (ev q st.2).2).1 (ev q st.2).1 (ev p (ev q st.2).2).2).2) := by
    show stepM rows (proc rows (k + 1) (p.size + q.size) st) k = _
    unfold stepM
    rw [show rows[k]? = some (r, [k + 1, k + 1 + p.size]) from h0, proc_app]
    have e2 : (proc rows (k + 1) p.size (proc rows (k + 1 + p.size) q.size st)).1 (k + 1 + p.size) = (ev q st.2).1 := by rw [i3 _ (by omega), j1]
    simp only [kid, List.getElem?_cons_zero, List.getElem?_cons_succ, i1, i2, e2]
  rw [e]
  refine ⟨by simp [putT], rfl, fun j hj => ?_⟩
  show putT _ k _ j = _
  unfold putT
  rw [if_neg (by omega), proc_app, i3 j (by omega), j3 j (by omega)]
theorem proc_ev (rows : Rows) : ∀ p : Pat, EvSpec rows p
  | .none => ev_leaf rfl (fun _ => rfl) (fun _ => rfl)
  | .empty => ev_leaf rfl (fun _ => rfl) (fun _ => rfl)
  | .sign _ => ev_leaf rfl (fun _ => rfl) (fun _ => rfl)
  | .mark _ p => ev_one rfl (fun _ => rfl) (fun _ => rfl) (proc_ev rows p)
  | .many p => ev_one rfl (fun _ => rfl) (fun _ => rfl) (proc_ev rows p)
  | .few p => ev_one rfl (fun _ => rfl) (fun _ => rfl) (proc_ev rows p)
  | .or p q => ev_two rfl (fun _ => rfl) (fun _ => rfl) (proc_ev rows p) (proc_ev rows q)
  | .thn p q => ev_two rfl (fun _ => rfl) (fun _ => rfl) (proc_ev rows p) (proc_ev rows q)
/-! what the rows are -/
def isSign : Pat → Bool
  | .sign _ => true
  | _ => false
def lotOf : Pat → List Nat
  | .sign l => l
  | _ => []
/-- the lots of the sign nodes of rows -/
def rlots (rows : Rows) : List (List Nat) := (rows.filter fun r => isSign r.1).map fun r => lotOf r.1
def lots : Pat → List (List Nat)
  | .none => [] | .empty => []
  | .sign l => [l]
  | .thn p q => lots p ++ lots q | .or p q => lots p ++ lots q
  | .many p => lots p | .few p => lots p | .mark _ p => lots p
theorem rlots_app (a b : Rows) : rlots (a ++ b) = rlots a ++ rlots b := by simp [rlots]
theorem rlots_cons (r : Pat × List Nat) (b : Rows) : rlots (r :: b) = (if isSign r.1 then [lotOf r.1] else []) ++ rlots b := by
  unfold rlots
  rw [List.filter_cons]
  split <;> simp
theorem rlots_nrows : ∀ (p : Pat) (k : Nat), rlots (nrows k p) = lots p
  | .none, _ => rfl
  | .empty, _ => rfl
  | .sign _, _ => rfl
  | .thn p q, k => by simp only [nrows, rlots_cons, rlots_app, rlots_nrows p, rlots_nrows q, isSign, lots]; simp
  | .or p q, k => by simp only [nrows, rlots_cons, rlots_app, rlots_nrows p, rlots_nrows q, isSign, lots]; simp
  | .many p, k => by simp only [nrows, rlots_cons, rlots_nrows p, isSign, lots]; simp
  | .few p, k => by simp only [nrows, rlots_cons, rlots_nrows p, isSign, lots]; simp
  | .mark _ p, k => by simp only [nrows, rlots_cons, rlots_nrows p, isSign, lots]; simp
/-- a row's numbers are those of its parts, further on -/
theorem nrows_nums : ∀ (p : Pat) (k j : Nat) (q : Pat) (ns : List Nat), (nrows k p)[j]? = some (q, ns) → ns.length = q.kids.length ∧ ∀ m ∈ ns, k + j < m ∧ m < k + p.size := by
  have leaf : ∀ (r : Pat) (k j : Nat) (q : Pat) (ns : List Nat), nrows k r = [(r, [])] → r.kids = [] → (nrows k r)[j]? = some (q, ns) → ns.length = q.kids.length ∧ ∀ m ∈ ns, k + j < m ∧ m < k + r.size := by
    intro r k j q ns e hk h
    rw [e] at h
    cases j with
    | zero => simp at h; obtain ⟨rfl, rfl⟩ := h; simp [hk]
    | succ j => simp at h
  have one : ∀ (p r : Pat) (k j : Nat) (q : Pat) (ns : List Nat), nrows k r = (r, [k + 1]) :: nrows (k + 1) p → r.kids = [p] → r.size = 1 + p.size →
      (∀ (k j : Nat) (q : Pat) (ns : List Nat), (nrows k p)[j]? = some (q, ns) → ns.length = q.kids.length ∧ ∀ m ∈ ns, k + j < m ∧ m < k + p.size) →
      (nrows k r)[j]? = some (q, ns) → ns.length = q.kids.length ∧ ∀ m ∈ ns, k + j < m ∧ m < k + r.size := by
    intro p r k j q ns e hk hs ih h
    rw [e] at h
    have hp := size_pos p
    cases j with
    | zero => simp at h; obtain ⟨rfl, rfl⟩ := h; simp [hk]; omega
    | succ j =>
      rw [List.getElem?_cons_succ] at h
      obtain ⟨h1, h2⟩ := ih _ _ _ _ h
      exact ⟨h1, fun m hm => by have := h2 m hm; omega⟩
  have two : ∀ (p p2 r : Pat) (k j : Nat) (q : Pat) (ns : List Nat), nrows k r = (r, [k + 1, k + 1 + p.size]) :: (nrows (k + 1) p ++ nrows (k + 1 + p.size) p2) → r.kids = [p, p2] → r.size = 1 + p.size + p2.size →
      (∀ (k j : Nat) (q : Pat) (ns : List Nat), (nrows k p)[j]? = some (q, ns) → ns.length = q.kids.length ∧ ∀ m ∈ ns, k + j < m ∧ m < k + p.size) →
      (∀ (k j : Nat) (q : Pat) (ns : List Nat), (nrows k p2)[j]? = some (q, ns) → ns.length = q.kids.length ∧ ∀ m ∈ ns, k + j < m ∧ m < k + p2.size) →
      (nrows k r)[j]? = some (q, ns) → ns.length = q.kids.length ∧ ∀ m ∈ ns, k + j < m ∧ m < k + r.size := by
    intro p p2 r k j q ns e hk hs ih ih2 h
    rw [e] at h
    have hp := size_pos p
    have hp2 := size_pos p2
    cases j with
    | zero => simp at h; obtain ⟨rfl, rfl⟩ := h; simp [hk]; omega
    | succ j =>
      rw [List.getElem?_cons_succ] at h
      by_cases hj : j < p.size
      · rw [List.getElem?_append_left (by rw [nrows_len]; exact hj)] at h
        obtain ⟨h1, h2⟩ := ih _ _ _ _ h
        exact ⟨h1, fun m hm => by have := h2 m hm; omega⟩
      · rw [List.getElem?_append_right (by rw [nrows_len]; omega), nrows_len] at h
        obtain ⟨h1, h2⟩ := ih2 _ _ _ _ h
        exact ⟨h1, fun m hm => by have := h2 m hm; omega⟩
  intro p
  induction p with
  | none => intro k j q ns; exact leaf _ k j q ns rfl rfl
  | empty => intro k j q ns; exact leaf _ k j q ns rfl rfl
  | sign l => intro k j q ns; exact leaf _ k j q ns rfl rfl
  | thn p q ihp ihq => intro k j r ns; exact two p q _ k j r ns rfl rfl rfl ihp ihq
  | or p q ihp ihq => intro k j r ns; exact two p q _ k j r ns rfl rfl rfl ihp ihq
  | many p ih => intro k j q ns; exact one p _ k j q ns rfl rfl rfl ih
  | few p ih => intro k j q ns; exact one p _ k j q ns rfl rfl rfl ih
  | mark m p ih => intro k j q ns; exact one p _ k j q ns rfl rfl rfl ih
/-- what is told is in bounds -/
def VOk (n : Nat) (v : TVal) : Prop := KOk n v.2.1 ∧ KOk n v.2.2
theorem VOk.dT {n : Nat} : VOk n dT := ⟨KOk.nil, KOk.nil⟩
theorem tOf_ok {n : Nat} {q : Pat} {a b : TVal} {s : MS} (ha : VOk n a) (hb : VOk n b) (hs : FOk n s.fol) (hp : s.pos < n) : VOk n (tOf q a b s).1 ∧ FOk n (tOf q a b s).2.fol ∧ (tOf q a b s).2.fol.length = s.fol.length := by
  have one : KOk n [s.pos] := ⟨by simp, by simp [hp]⟩
  cases q <;> simp only [tOf]
  · exact ⟨VOk.dT, hs, by simp⟩
  · exact ⟨VOk.dT, hs, by simp⟩
  · exact ⟨⟨one, one⟩, hs, by simp⟩
  · refine ⟨⟨?_, ?_⟩, FOk.join hb.1 hs, joinF_len ..⟩
    · show KOk n (if a.1 then _ else _)
      split
      · exact ha.1.add hb.1
      · exact ha.1
    · show KOk n (if b.1 then _ else _)
      split
      · exact hb.2.add ha.2
      · exact hb.2
  · exact ⟨⟨ha.1.add hb.1, hb.2.add ha.2⟩, hs, by simp⟩
  · exact ⟨⟨ha.1, ha.2⟩, FOk.join ha.1 hs, joinF_len ..⟩
  · exact ⟨⟨ha.1, ha.2⟩, FOk.join ha.1 hs, joinF_len ..⟩
  · exact ⟨ha, hs, by simp⟩
theorem tOf_pos (q : Pat) (a b : TVal) (s : MS) : (tOf q a b s).2.pos = if isSign q then s.pos - 1 else s.pos := by cases q <;> rfl
end FR
end
section
set_option Elab.async false
set_option linter.all false
set_option maxRecDepth 20000
set_option maxHeartbeats 1000000
namespace FR
open PySem PySem.Spec PyProof.Rows L2 FL
def top (i : Nat) : Stmt := PySem.Challenge.pw_firstreads_k82_whole_prices_of_ors_and_t.main.body.getD i (.Pass ⟨0, 0, 0, 0⟩)
abbrev s__wall : Stmt := top 0
abbrev s_are_signs : Stmt := top 13
abbrev s_is_text : Stmt := top 14
abbrev s_check_text : Stmt := top 15
abbrev s_is_lot : Stmt := top 16
abbrev s_is_mark : Stmt := top 17
abbrev s_has_form : Stmt := top 18
abbrev s_parts_of : Stmt := top 19
abbrev s_is_pattern : Stmt := top 20
abbrev s_check_pattern : Stmt := top 21
abbrev s_node_rows : Stmt := top 22
abbrev s_Sets___init__ : Stmt := inClass (top 24) 0
abbrev s_Sets_join : Stmt := inClass (top 24) 1
abbrev s_Sets_told_of : Stmt := inClass (top 24) 2
abbrev s_Sets_moved : Stmt := inClass (top 24) 3
abbrev s_Sets_can_stop : Stmt := inClass (top 24) 4
abbrev s_price_between : Stmt := top 30
abbrev s_Mender___init__ : Stmt := inClass (top 31) 0
abbrev s_Mender_fill_last : Stmt := inClass (top 31) 1
abbrev s_Mender_spread : Stmt := inClass (top 31) 2
abbrev s_Mender_lessened : Stmt := inClass (top 31) 3
abbrev s_Mender_fill : Stmt := inClass (top 31) 4
abbrev s_Mender_least : Stmt := inClass (top 31) 5
abbrev s_Mender_steps_from : Stmt := inClass (top 31) 6
abbrev s_Mender_later : Stmt := inClass (top 31) 7
abbrev s_Mender_closed : Stmt := inClass (top 31) 8
abbrev s_mend_price : Stmt := top 32
abbrev s__law_hand : Stmt := top 34
abbrev s__law_draw : Stmt := top 35
abbrev s__law_any : Stmt := top 36
abbrev s__law_pattern : Stmt := top 37
abbrev s__law_text : Stmt := top 38
abbrev s__law_least : Stmt := top 39
abbrev s__law_is_right : Stmt := top 40
abbrev s_law : Stmt := top 41
abbrev fl_Sets_0 : List (Str × V) := []
abbrev fl_Sets_1 (v0 : V) : List (Str × V) := [("rows", v0)]
abbrev fl_Sets_2 (v0 v1 : V) : List (Str × V) := [("rows", v0), ("lots", v1)]
abbrev fl_Sets_3 (v0 v1 v2 : V) : List (Str × V) := [("rows", v0), ("lots", v1), ("follows", v2)]
abbrev fl_Sets_4 (v0 v1 v2 v3 : V) : List (Str × V) := [("rows", v0), ("lots", v1), ("follows", v2), ("position", v3)]
abbrev fl_Sets_5 (v0 v1 v2 v3 v4 : V) : List (Str × V) := [("rows", v0), ("lots", v1), ("follows", v2), ("position", v3), ("enders", v4)]
theorem ne_Sets_0_1 : ¬ (("rows" : Str) = "lots") := by decide +kernel
theorem ne_Sets_0_2 : ¬ (("rows" : Str) = "follows") := by decide +kernel
theorem ne_Sets_1_2 : ¬ (("lots" : Str) = "follows") := by decide +kernel
theorem ne_Sets_0_3 : ¬ (("rows" : Str) = "position") := by decide +kernel
theorem ne_Sets_1_3 : ¬ (("lots" : Str) = "position") := by decide +kernel
theorem ne_Sets_2_3 : ¬ (("follows" : Str) = "position") := by decide +kernel
theorem ne_Sets_0_4 : ¬ (("rows" : Str) = "enders") := by decide +kernel
theorem ne_Sets_1_4 : ¬ (("lots" : Str) = "enders") := by decide +kernel
theorem ne_Sets_2_4 : ¬ (("follows" : Str) = "enders") := by decide +kernel
theorem ne_Sets_3_4 : ¬ (("position" : Str) = "enders") := by decide +kernel
theorem lk_Sets_1_0 {v0 : V} : Lk (fl_Sets_1 v0) ("rows" : Str) v0 := lk_eq
theorem pf_Sets_1_0 {v0 y : V} : Pf ("rows" : Str) y (fl_Sets_1 v0) (fl_Sets_1 y) := pf_eq
theorem lk_Sets_2_0 {v0 v1 : V} : Lk (fl_Sets_2 v0 v1) ("rows" : Str) v0 := lk_eq
theorem pf_Sets_2_0 {v0 v1 y : V} : Pf ("rows" : Str) y (fl_Sets_2 v0 v1) (fl_Sets_2 y v1) := pf_eq
theorem lk_Sets_2_1 {v0 v1 : V} : Lk (fl_Sets_2 v0 v1) ("lots" : Str) v1 := (lk_ne ne_Sets_0_1 lk_eq)
theorem pf_Sets_2_1 {v0 v1 y : V} : Pf ("lots" : Str) y (fl_Sets_2 v0 v1) (fl_Sets_2 v0 y) := (pf_ne ne_Sets_0_1 pf_eq)
theorem lk_Sets_3_0 {v0 v1 v2 : V} : Lk (fl_Sets_3 v0 v1 v2) ("rows" : Str) v0 := lk_eq
theorem pf_Sets_3_0 {v0 v1 v2 y : V} : Pf ("rows" : Str) y (fl_Sets_3 v0 v1 v2) (fl_Sets_3 y v1 v2) := pf_eq
theorem lk_Sets_3_1 {v0 v1 v2 : V} : Lk (fl_Sets_3 v0 v1 v2) ("lots" : Str) v1 := (lk_ne ne_Sets_0_1 lk_eq)
theorem pf_Sets_3_1 {v0 v1 v2 y : V} : Pf ("lots" : Str) y (fl_Sets_3 v0 v1 v2) (fl_Sets_3 v0 y v2) := (pf_ne ne_Sets_0_1 pf_eq)
theorem lk_Sets_3_2 {v0 v1 v2 : V} : Lk (fl_Sets_3 v0 v1 v2) ("follows" : Str) v2 := (lk_ne ne_Sets_0_2 (lk_ne ne_Sets_1_2 lk_eq))
theorem pf_Sets_3_2 {v0 v1 v2 y : V} : Pf ("follows" : Str) y (fl_Sets_3 v0 v1 v2) (fl_Sets_3 v0 v1 y) := (pf_ne ne_Sets_0_2 (pf_ne ne_Sets_1_2 pf_eq))
theorem lk_Sets_4_0 {v0 v1 v2 v3 : V} : Lk (fl_Sets_4 v0 v1 v2 v3) ("rows" : Str) v0 := lk_eq
theorem pf_Sets_4_0 {v0 v1 v2 v3 y : V} : Pf ("rows" : Str) y (fl_Sets_4 v0 v1 v2 v3) (fl_Sets_4 y v1 v2 v3) := pf_eq
theorem lk_Sets_4_1 {v0 v1 v2 v3 : V} : Lk (fl_Sets_4 v0 v1 v2 v3) ("lots" : Str) v1 := (lk_ne ne_Sets_0_1 lk_eq)
theorem pf_Sets_4_1 {v0 v1 v2 v3 y : V} : Pf ("lots" : Str) y (fl_Sets_4 v0 v1 v2 v3) (fl_Sets_4 v0 y v2 v3) := (pf_ne ne_Sets_0_1 pf_eq)
theorem lk_Sets_4_2 {v0 v1 v2 v3 : V} : Lk (fl_Sets_4 v0 v1 v2 v3) ("follows" : Str) v2 := (lk_ne ne_Sets_0_2 (lk_ne ne_Sets_1_2 lk_eq))
theorem pf_Sets_4_2 {v0 v1 v2 v3 y : V} : Pf ("follows" : Str) y (fl_Sets_4 v0 v1 v2 v3) (fl_Sets_4 v0 v1 y v3) := (pf_ne ne_Sets_0_2 (pf_ne ne_Sets_1_2 pf_eq))
theorem lk_Sets_4_3 {v0 v1 v2 v3 : V} : Lk (fl_Sets_4 v0 v1 v2 v3) ("position" : Str) v3 := (lk_ne ne_Sets_0_3 (lk_ne ne_Sets_1_3 (lk_ne ne_Sets_2_3 lk_eq)))
theorem pf_Sets_4_3 {v0 v1 v2 v3 y : V} : Pf ("position" : Str) y (fl_Sets_4 v0 v1 v2 v3) (fl_Sets_4 v0 v1 v2 y) := (pf_ne ne_Sets_0_3 (pf_ne ne_Sets_1_3 (pf_ne ne_Sets_2_3 pf_eq)))
theorem lk_Sets_5_0 {v0 v1 v2 v3 v4 : V} : Lk (fl_Sets_5 v0 v1 v2 v3 v4) ("rows" : Str) v0 := lk_eq
theorem pf_Sets_5_0 {v0 v1 v2 v3 v4 y : V} : Pf ("rows" : Str) y (fl_Sets_5 v0 v1 v2 v3 v4) (fl_Sets_5 y v1 v2 v3 v4) := pf_eq
theorem lk_Sets_5_1 {v0 v1 v2 v3 v4 : V} : Lk (fl_Sets_5 v0 v1 v2 v3 v4) ("lots" : Str) v1 := (lk_ne ne_Sets_0_1 lk_eq)
theorem pf_Sets_5_1 {v0 v1 v2 v3 v4 y : V} : Pf ("lots" : Str) y (fl_Sets_5 v0 v1 v2 v3 v4) (fl_Sets_5 v0 y v2 v3 v4) := (pf_ne ne_Sets_0_1 pf_eq)
theorem lk_Sets_5_2 {v0 v1 v2 v3 v4 : V} : Lk (fl_Sets_5 v0 v1 v2 v3 v4) ("follows" : Str) v2 := (lk_ne ne_Sets_0_2 (lk_ne ne_Sets_1_2 lk_eq))
theorem pf_Sets_5_2 {v0 v1 v2 v3 v4 y : V} : Pf ("follows" : Str) y (fl_Sets_5 v0 v1 v2 v3 v4) (fl_Sets_5 v0 v1 y v3 v4) := (pf_ne ne_Sets_0_2 (pf_ne ne_Sets_1_2 pf_eq))
theorem lk_Sets_5_3 {v0 v1 v2 v3 v4 : V} : Lk (fl_Sets_5 v0 v1 v2 v3 v4) ("position" : Str) v3 := (lk_ne ne_Sets_0_3 (lk_ne ne_Sets_1_3 (lk_ne ne_Sets_2_3 lk_eq)))
theorem pf_Sets_5_3 {v0 v1 v2 v3 v4 y : V} : Pf ("position" : Str) y (fl_Sets_5 v0 v1 v2 v3 v4) (fl_Sets_5 v0 v1 v2 y v4) := (pf_ne ne_Sets_0_3 (pf_ne ne_Sets_1_3 (pf_ne ne_Sets_2_3 pf_eq)))
theorem lk_Sets_5_4 {v0 v1 v2 v3 v4 : V} : Lk (fl_Sets_5 v0 v1 v2 v3 v4) ("enders" : Str) v4 := (lk_ne ne_Sets_0_4 (lk_ne ne_Sets_1_4 (lk_ne ne_Sets_2_4 (lk_ne ne_Sets_3_4 lk_eq))))
theorem pf_Sets_5_4 {v0 v1 v2 v3 v4 y : V} : Pf ("enders" : Str) y (fl_Sets_5 v0 v1 v2 v3 v4) (fl_Sets_5 v0 v1 v2 v3 y) := (pf_ne ne_Sets_0_4 (pf_ne ne_Sets_1_4 (pf_ne ne_Sets_2_4 (pf_ne ne_Sets_3_4 pf_eq))))
theorem pn_Sets_0 {y : V} : Pf ("rows" : Str) y (fl_Sets_0 ) (fl_Sets_1  y) := pf_nil
theorem pn_Sets_1 {v0 y : V} : Pf ("lots" : Str) y (fl_Sets_1 v0) (fl_Sets_2 v0 y) := (pf_ne ne_Sets_0_1 pf_nil)
theorem pn_Sets_2 {v0 v1 y : V} : Pf ("follows" : Str) y (fl_Sets_2 v0 v1) (fl_Sets_3 v0 v1 y) := (pf_ne ne_Sets_0_2 (pf_ne ne_Sets_1_2 pf_nil))
theorem pn_Sets_3 {v0 v1 v2 y : V} : Pf ("position" : Str) y (fl_Sets_3 v0 v1 v2) (fl_Sets_4 v0 v1 v2 y) := (pf_ne ne_Sets_0_3 (pf_ne ne_Sets_1_3 (pf_ne ne_Sets_2_3 pf_nil)))
theorem pn_Sets_4 {v0 v1 v2 v3 y : V} : Pf ("enders" : Str) y (fl_Sets_4 v0 v1 v2 v3) (fl_Sets_5 v0 v1 v2 v3 y) := (pf_ne ne_Sets_0_4 (pf_ne ne_Sets_1_4 (pf_ne ne_Sets_2_4 (pf_ne ne_Sets_3_4 pf_nil))))
theorem nm_Sets___init___0 : ¬ (("rows" : Str) = "__init__") := by decide +kernel
theorem nm_Sets___init___1 : ¬ (("lots" : Str) = "__init__") := by decide +kernel
theorem nm_Sets___init___2 : ¬ (("follows" : Str) = "__init__") := by decide +kernel
theorem nm_Sets___init___3 : ¬ (("position" : Str) = "__init__") := by decide +kernel
theorem nm_Sets___init___4 : ¬ (("enders" : Str) = "__init__") := by decide +kernel
theorem no_Sets_0___init__ : NoL (fl_Sets_0 ) ("__init__" : Str) := no_nil
theorem no_Sets_1___init__ {v0 : V} : NoL (fl_Sets_1 v0) ("__init__" : Str) := (no_ne nm_Sets___init___0 no_nil)
theorem no_Sets_2___init__ {v0 v1 : V} : NoL (fl_Sets_2 v0 v1) ("__init__" : Str) := (no_ne nm_Sets___init___0 (no_ne nm_Sets___init___1 no_nil))
theorem no_Sets_3___init__ {v0 v1 v2 : V} : NoL (fl_Sets_3 v0 v1 v2) ("__init__" : Str) := (no_ne nm_Sets___init___0 (no_ne nm_Sets___init___1 (no_ne nm_Sets___init___2 no_nil)))
theorem no_Sets_4___init__ {v0 v1 v2 v3 : V} : NoL (fl_Sets_4 v0 v1 v2 v3) ("__init__" : Str) := (no_ne nm_Sets___init___0 (no_ne nm_Sets___init___1 (no_ne nm_Sets___init___2 (no_ne nm_Sets___init___3 no_nil))))
theorem no_Sets_5___init__ {v0 v1 v2 v3 v4 : V} : NoL (fl_Sets_5 v0 v1 v2 v3 v4) ("__init__" : Str) := (no_ne nm_Sets___init___0 (no_ne nm_Sets___init___1 (no_ne nm_Sets___init___2 (no_ne nm_Sets___init___3 (no_ne nm_Sets___init___4 no_nil)))))
theorem nm_Sets_join_0 : ¬ (("rows" : Str) = "join") := by decide +kernel
theorem nm_Sets_join_1 : ¬ (("lots" : Str) = "join") := by decide +kernel
theorem nm_Sets_join_2 : ¬ (("follows" : Str) = "join") := by decide +kernel
theorem nm_Sets_join_3 : ¬ (("position" : Str) = "join") := by decide +kernel
theorem nm_Sets_join_4 : ¬ (("enders" : Str) = "join") := by decide +kernel
theorem no_Sets_0_join : NoL (fl_Sets_0 ) ("join" : Str) := no_nil
theorem no_Sets_1_join {v0 : V} : NoL (fl_Sets_1 v0) ("join" : Str) := (no_ne nm_Sets_join_0 no_nil)
theorem no_Sets_2_join {v0 v1 : V} : NoL (fl_Sets_2 v0 v1) ("join" : Str) := (no_ne nm_Sets_join_0 (no_ne nm_Sets_join_1 no_nil))
theorem no_Sets_3_join {v0 v1 v2 : V} : NoL (fl_Sets_3 v0 v1 v2) ("join" : Str) := (no_ne nm_Sets_join_0 (no_ne nm_Sets_join_1 (no_ne nm_Sets_join_2 no_nil)))
theorem no_Sets_4_join {v0 v1 v2 v3 : V} : NoL (fl_Sets_4 v0 v1 v2 v3) ("join" : Str) := (no_ne nm_Sets_join_0 (no_ne nm_Sets_join_1 (no_ne nm_Sets_join_2 (no_ne nm_Sets_join_3 no_nil))))
theorem no_Sets_5_join {v0 v1 v2 v3 v4 : V} : NoL (fl_Sets_5 v0 v1 v2 v3 v4) ("join" : Str) := (no_ne nm_Sets_join_0 (no_ne nm_Sets_join_1 (no_ne nm_Sets_join_2 (no_ne nm_Sets_join_3 (no_ne nm_Sets_join_4 no_nil)))))
theorem nm_Sets_told_of_0 : ¬ (("rows" : Str) = "told_of") := by decide +kernel
theorem nm_Sets_told_of_1 : ¬ (("lots" : Str) = "told_of") := by decide +kernel
theorem nm_Sets_told_of_2 : ¬ (("follows" : Str) = "told_of") := by decide +kernel
theorem nm_Sets_told_of_3 : ¬ (("position" : Str) = "told_of") := by decide +kernel
theorem nm_Sets_told_of_4 : ¬ (("enders" : Str) = "told_of") := by decide +kernel
theorem no_Sets_0_told_of : NoL (fl_Sets_0 ) ("told_of" : Str) := no_nil
theorem no_Sets_1_told_of {v0 : V} : NoL (fl_Sets_1 v0) ("told_of" : Str) := (no_ne nm_Sets_told_of_0 no_nil)
theorem no_Sets_2_told_of {v0 v1 : V} : NoL (fl_Sets_2 v0 v1) ("told_of" : Str) := (no_ne nm_Sets_told_of_0 (no_ne nm_Sets_told_of_1 no_nil))
theorem no_Sets_3_told_of {v0 v1 v2 : V} : NoL (fl_Sets_3 v0 v1 v2) ("told_of" : Str) := (no_ne nm_Sets_told_of_0 (no_ne nm_Sets_told_of_1 (no_ne nm_Sets_told_of_2 no_nil)))
theorem no_Sets_4_told_of {v0 v1 v2 v3 : V} : NoL (fl_Sets_4 v0 v1 v2 v3) ("told_of" : Str) := (no_ne nm_Sets_told_of_0 (no_ne nm_Sets_told_of_1 (no_ne nm_Sets_told_of_2 (no_ne nm_Sets_told_of_3 no_nil))))
theorem no_Sets_5_told_of {v0 v1 v2 v3 v4 : V} : NoL (fl_Sets_5 v0 v1 v2 v3 v4) ("told_of" : Str) := (no_ne nm_Sets_told_of_0 (no_ne nm_Sets_told_of_1 (no_ne nm_Sets_told_of_2 (no_ne nm_Sets_told_of_3 (no_ne nm_Sets_told_of_4 no_nil)))))
theorem nm_Sets_moved_0 : ¬ (("rows" : Str) = "moved") := by decide +kernel
theorem nm_Sets_moved_1 : ¬ (("lots" : Str) = "moved") := by decide +kernel
theorem nm_Sets_moved_2 : ¬ (("follows" : Str) = "moved") := by decide +kernel
theorem nm_Sets_moved_3 : ¬ (("position" : Str) = "moved") := by decide +kernel
theorem nm_Sets_moved_4 : ¬ (("enders" : Str) = "moved") := by decide +kernel
theorem no_Sets_0_moved : NoL (fl_Sets_0 ) ("moved" : Str) := no_nil
theorem no_Sets_1_moved {v0 : V} : NoL (fl_Sets_1 v0) ("moved" : Str) := (no_ne nm_Sets_moved_0 no_nil)
theorem no_Sets_2_moved {v0 v1 : V} : NoL (fl_Sets_2 v0 v1) ("moved" : Str) := (no_ne nm_Sets_moved_0 (no_ne nm_Sets_moved_1 no_nil))
theorem no_Sets_3_moved {v0 v1 v2 : V} : NoL (fl_Sets_3 v0 v1 v2) ("moved" : Str) := (no_ne nm_Sets_moved_0 (no_ne nm_Sets_moved_1 (no_ne nm_Sets_moved_2 no_nil)))
theorem no_Sets_4_moved {v0 v1 v2 v3 : V} : NoL (fl_Sets_4 v0 v1 v2 v3) ("moved" : Str) := (no_ne nm_Sets_moved_0 (no_ne nm_Sets_moved_1 (no_ne nm_Sets_moved_2 (no_ne nm_Sets_moved_3 no_nil))))
theorem no_Sets_5_moved {v0 v1 v2 v3 v4 : V} : NoL (fl_Sets_5 v0 v1 v2 v3 v4) ("moved" : Str) := (no_ne nm_Sets_moved_0 (no_ne nm_Sets_moved_1 (no_ne nm_Sets_moved_2 (no_ne nm_Sets_moved_3 (no_ne nm_Sets_moved_4 no_nil)))))
theorem nm_Sets_can_stop_0 : ¬ (("rows" : Str) = "can_stop") := by decide +kernel
theorem nm_Sets_can_stop_1 : ¬ (("lots" : Str) = "can_stop") := by decide +kernel
theorem nm_Sets_can_stop_2 : ¬ (("follows" : Str) = "can_stop") := by decide +kernel
theorem nm_Sets_can_stop_3 : ¬ (("position" : Str) = "can_stop") := by decide +kernel
theorem nm_Sets_can_stop_4 : ¬ (("enders" : Str) = "can_stop") := by decide +kernel
theorem no_Sets_0_can_stop : NoL (fl_Sets_0 ) ("can_stop" : Str) := no_nil
theorem no_Sets_1_can_stop {v0 : V} : NoL (fl_Sets_1 v0) ("can_stop" : Str) := (no_ne nm_Sets_can_stop_0 no_nil)
theorem no_Sets_2_can_stop {v0 v1 : V} : NoL (fl_Sets_2 v0 v1) ("can_stop" : Str) := (no_ne nm_Sets_can_stop_0 (no_ne nm_Sets_can_stop_1 no_nil))
theorem no_Sets_3_can_stop {v0 v1 v2 : V} : NoL (fl_Sets_3 v0 v1 v2) ("can_stop" : Str) := (no_ne nm_Sets_can_stop_0 (no_ne nm_Sets_can_stop_1 (no_ne nm_Sets_can_stop_2 no_nil)))
theorem no_Sets_4_can_stop {v0 v1 v2 v3 : V} : NoL (fl_Sets_4 v0 v1 v2 v3) ("can_stop" : Str) := (no_ne nm_Sets_can_stop_0 (no_ne nm_Sets_can_stop_1 (no_ne nm_Sets_can_stop_2 (no_ne nm_Sets_can_stop_3 no_nil))))
theorem no_Sets_5_can_stop {v0 v1 v2 v3 v4 : V} : NoL (fl_Sets_5 v0 v1 v2 v3 v4) ("can_stop" : Str) := (no_ne nm_Sets_can_stop_0 (no_ne nm_Sets_can_stop_1 (no_ne nm_Sets_can_stop_2 (no_ne nm_Sets_can_stop_3 (no_ne nm_Sets_can_stop_4 no_nil)))))
abbrev fl_Mender_0 : List (Str × V) := []
abbrev fl_Mender_1 (v0 : V) : List (Str × V) := [("sets", v0)]
abbrev fl_Mender_2 (v0 v1 : V) : List (Str × V) := [("sets", v0), ("begun_text", v1)]
abbrev fl_Mender_3 (v0 v1 v2 : V) : List (Str × V) := [("sets", v0), ("begun_text", v1), ("states", v2)]
abbrev fl_Mender_4 (v0 v1 v2 v3 : V) : List (Str × V) := [("sets", v0), ("begun_text", v1), ("states", v2), ("best", v3)]
theorem ne_Mender_0_1 : ¬ (("sets" : Str) = "begun_text") := by decide +kernel
theorem ne_Mender_0_2 : ¬ (("sets" : Str) = "states") := by decide +kernel
theorem ne_Mender_1_2 : ¬ (("begun_text" : Str) = "states") := by decide +kernel
theorem ne_Mender_0_3 : ¬ (("sets" : Str) = "best") := by decide +kernel
theorem ne_Mender_1_3 : ¬ (("begun_text" : Str) = "best") := by decide +kernel
theorem ne_Mender_2_3 : ¬ (("states" : Str) = "best") := by decide +kernel
theorem lk_Mender_1_0 {v0 : V} : Lk (fl_Mender_1 v0) ("sets" : Str) v0 := lk_eq
theorem pf_Mender_1_0 {v0 y : V} : Pf ("sets" : Str) y (fl_Mender_1 v0) (fl_Mender_1 y) := pf_eq
theorem lk_Mender_2_0 {v0 v1 : V} : Lk (fl_Mender_2 v0 v1) ("sets" : Str) v0 := lk_eq
theorem pf_Mender_2_0 {v0 v1 y : V} : Pf ("sets" : Str) y (fl_Mender_2 v0 v1) (fl_Mender_2 y v1) := pf_eq
theorem lk_Mender_2_1 {v0 v1 : V} : Lk (fl_Mender_2 v0 v1) ("begun_text" : Str) v1 := (lk_ne ne_Mender_0_1 lk_eq)
theorem pf_Mender_2_1 {v0 v1 y : V} : Pf ("begun_text" : Str) y (fl_Mender_2 v0 v1) (fl_Mender_2 v0 y) := (pf_ne ne_Mender_0_1 pf_eq)
theorem lk_Mender_3_0 {v0 v1 v2 : V} : Lk (fl_Mender_3 v0 v1 v2) ("sets" : Str) v0 := lk_eq
theorem pf_Mender_3_0 {v0 v1 v2 y : V} : Pf ("sets" : Str) y (fl_Mender_3 v0 v1 v2) (fl_Mender_3 y v1 v2) := pf_eq
theorem lk_Mender_3_1 {v0 v1 v2 : V} : Lk (fl_Mender_3 v0 v1 v2) ("begun_text" : Str) v1 := (lk_ne ne_Mender_0_1 lk_eq)
theorem pf_Mender_3_1 {v0 v1 v2 y : V} : Pf ("begun_text" : Str) y (fl_Mender_3 v0 v1 v2) (fl_Mender_3 v0 y v2) := (pf_ne ne_Mender_0_1 pf_eq)
theorem lk_Mender_3_2 {v0 v1 v2 : V} : Lk (fl_Mender_3 v0 v1 v2) ("states" : Str) v2 := (lk_ne ne_Mender_0_2 (lk_ne ne_Mender_1_2 lk_eq))
theorem pf_Mender_3_2 {v0 v1 v2 y : V} : Pf ("states" : Str) y (fl_Mender_3 v0 v1 v2) (fl_Mender_3 v0 v1 y) := (pf_ne ne_Mender_0_2 (pf_ne ne_Mender_1_2 pf_eq))
theorem lk_Mender_4_0 {v0 v1 v2 v3 : V} : Lk (fl_Mender_4 v0 v1 v2 v3) ("sets" : Str) v0 := lk_eq
theorem pf_Mender_4_0 {v0 v1 v2 v3 y : V} : Pf ("sets" : Str) y (fl_Mender_4 v0 v1 v2 v3) (fl_Mender_4 y v1 v2 v3) := pf_eq
theorem lk_Mender_4_1 {v0 v1 v2 v3 : V} : Lk (fl_Mender_4 v0 v1 v2 v3) ("begun_text" : Str) v1 := (lk_ne ne_Mender_0_1 lk_eq)
theorem pf_Mender_4_1 {v0 v1 v2 v3 y : V} : Pf ("begun_text" : Str) y (fl_Mender_4 v0 v1 v2 v3) (fl_Mender_4 v0 y v2 v3) := (pf_ne ne_Mender_0_1 pf_eq)
theorem lk_Mender_4_2 {v0 v1 v2 v3 : V} : Lk (fl_Mender_4 v0 v1 v2 v3) ("states" : Str) v2 := (lk_ne ne_Mender_0_2 (lk_ne ne_Mender_1_2 lk_eq))
theorem pf_Mender_4_2 {v0 v1 v2 v3 y : V} : Pf ("states" : Str) y (fl_Mender_4 v0 v1 v2 v3) (fl_Mender_4 v0 v1 y v3) := (pf_ne ne_Mender_0_2 (pf_ne ne_Mender_1_2 pf_eq))
theorem lk_Mender_4_3 {v0 v1 v2 v3 : V} : Lk (fl_Mender_4 v0 v1 v2 v3) ("best" : Str) v3 := (lk_ne ne_Mender_0_3 (lk_ne ne_Mender_1_3 (lk_ne ne_Mender_2_3 lk_eq)))
theorem pf_Mender_4_3 {v0 v1 v2 v3 y : V} : Pf ("best" : Str) y (fl_Mender_4 v0 v1 v2 v3) (fl_Mender_4 v0 v1 v2 y) := (pf_ne ne_Mender_0_3 (pf_ne ne_Mender_1_3 (pf_ne ne_Mender_2_3 pf_eq)))
theorem pn_Mender_0 {y : V} : Pf ("sets" : Str) y (fl_Mender_0 ) (fl_Mender_1  y) := pf_nil
theorem pn_Mender_1 {v0 y : V} : Pf ("begun_text" : Str) y (fl_Mender_1 v0) (fl_Mender_2 v0 y) := (pf_ne ne_Mender_0_1 pf_nil)
theorem pn_Mender_2 {v0 v1 y : V} : Pf ("states" : Str) y (fl_Mender_2 v0 v1) (fl_Mender_3 v0 v1 y) := (pf_ne ne_Mender_0_2 (pf_ne ne_Mender_1_2 pf_nil))
theorem pn_Mender_3 {v0 v1 v2 y : V} : Pf ("best" : Str) y (fl_Mender_3 v0 v1 v2) (fl_Mender_4 v0 v1 v2 y) := (pf_ne ne_Mender_0_3 (pf_ne ne_Mender_1_3 (pf_ne ne_Mender_2_3 pf_nil)))
theorem nm_Mender___init___0 : ¬ (("sets" : Str) = "__init__") := by decide +kernel
theorem nm_Mender___init___1 : ¬ (("begun_text" : Str) = "__init__") := by decide +kernel
theorem nm_Mender___init___2 : ¬ (("states" : Str) = "__init__") := by decide +kernel
theorem nm_Mender___init___3 : ¬ (("best" : Str) = "__init__") := by decide +kernel
theorem no_Mender_0___init__ : NoL (fl_Mender_0 ) ("__init__" : Str) := no_nil
theorem no_Mender_1___init__ {v0 : V} : NoL (fl_Mender_1 v0) ("__init__" : Str) := (no_ne nm_Mender___init___0 no_nil)
theorem no_Mender_2___init__ {v0 v1 : V} : NoL (fl_Mender_2 v0 v1) ("__init__" : Str) := (no_ne nm_Mender___init___0 (no_ne nm_Mender___init___1 no_nil))
theorem no_Mender_3___init__ {v0 v1 v2 : V} : NoL (fl_Mender_3 v0 v1 v2) ("__init__" : Str) := (no_ne nm_Mender___init___0 (no_ne nm_Mender___init___1 (no_ne nm_Mender___init___2 no_nil)))
theorem no_Mender_4___init__ {v0 v1 v2 v3 : V} : NoL (fl_Mender_4 v0 v1 v2 v3) ("__init__" : Str) := (no_ne nm_Mender___init___0 (no_ne nm_Mender___init___1 (no_ne nm_Mender___init___2 (no_ne nm_Mender___init___3 no_nil))))
theorem nm_Mender_fill_last_0 : ¬ (("sets" : Str) = "fill_last") := by decide +kernel
theorem nm_Mender_fill_last_1 : ¬ (("begun_text" : Str) = "fill_last") := by decide +kernel
theorem nm_Mender_fill_last_2 : ¬ (("states" : Str) = "fill_last") := by decide +kernel
theorem nm_Mender_fill_last_3 : ¬ (("best" : Str) = "fill_last") := by decide +kernel
theorem no_Mender_0_fill_last : NoL (fl_Mender_0 ) ("fill_last" : Str) := no_nil
theorem no_Mender_1_fill_last {v0 : V} : NoL (fl_Mender_1 v0) ("fill_last" : Str) := (no_ne nm_Mender_fill_last_0 no_nil)
theorem no_Mender_2_fill_last {v0 v1 : V} : NoL (fl_Mender_2 v0 v1) ("fill_last" : Str) := (no_ne nm_Mender_fill_last_0 (no_ne nm_Mender_fill_last_1 no_nil))
theorem no_Mender_3_fill_last {v0 v1 v2 : V} : NoL (fl_Mender_3 v0 v1 v2) ("fill_last" : Str) := (no_ne nm_Mender_fill_last_0 (no_ne nm_Mender_fill_last_1 (no_ne nm_Mender_fill_last_2 no_nil)))
theorem no_Mender_4_fill_last {v0 v1 v2 v3 : V} : NoL (fl_Mender_4 v0 v1 v2 v3) ("fill_last" : Str) := (no_ne nm_Mender_fill_last_0 (no_ne nm_Mender_fill_last_1 (no_ne nm_Mender_fill_last_2 (no_ne nm_Mender_fill_last_3 no_nil))))
theorem nm_Mender_spread_0 : ¬ (("sets" : Str) = "spread") := by decide +kernel
theorem nm_Mender_spread_1 : ¬ (("begun_text" : Str) = "spread") := by decide +kernel
theorem nm_Mender_spread_2 : ¬ (("states" : Str) = "spread") := by decide +kernel
theorem nm_Mender_spread_3 : ¬ (("best" : Str) = "spread") := by decide +kernel
theorem no_Mender_0_spread : NoL (fl_Mender_0 ) ("spread" : Str) := no_nil
theorem no_Mender_1_spread {v0 : V} : NoL (fl_Mender_1 v0) ("spread" : Str) := (no_ne nm_Mender_spread_0 no_nil)
theorem no_Mender_2_spread {v0 v1 : V} : NoL (fl_Mender_2 v0 v1) ("spread" : Str) := (no_ne nm_Mender_spread_0 (no_ne nm_Mender_spread_1 no_nil))
theorem no_Mender_3_spread {v0 v1 v2 : V} : NoL (fl_Mender_3 v0 v1 v2) ("spread" : Str) := (no_ne nm_Mender_spread_0 (no_ne nm_Mender_spread_1 (no_ne nm_Mender_spread_2 no_nil)))
theorem no_Mender_4_spread {v0 v1 v2 v3 : V} : NoL (fl_Mender_4 v0 v1 v2 v3) ("spread" : Str) := (no_ne nm_Mender_spread_0 (no_ne nm_Mender_spread_1 (no_ne nm_Mender_spread_2 (no_ne nm_Mender_spread_3 no_nil))))
theorem nm_Mender_lessened_0 : ¬ (("sets" : Str) = "lessened") := by decide +kernel
theorem nm_Mender_lessened_1 : ¬ (("begun_text" : Str) = "lessened") := by decide +kernel
theorem nm_Mender_lessened_2 : ¬ (("states" : Str) = "lessened") := by decide +kernel
theorem nm_Mender_lessened_3 : ¬ (("best" : Str) = "lessened") := by decide +kernel
theorem no_Mender_0_lessened : NoL (fl_Mender_0 ) ("lessened" : Str) := no_nil
theorem no_Mender_1_lessened {v0 : V} : NoL (fl_Mender_1 v0) ("lessened" : Str) := (no_ne nm_Mender_lessened_0 no_nil)
theorem no_Mender_2_lessened {v0 v1 : V} : NoL (fl_Mender_2 v0 v1) ("lessened" : Str) := (no_ne nm_Mender_lessened_0 (no_ne nm_Mender_lessened_1 no_nil))
theorem no_Mender_3_lessened {v0 v1 v2 : V} : NoL (fl_Mender_3 v0 v1 v2) ("lessened" : Str) := (no_ne nm_Mender_lessened_0 (no_ne nm_Mender_lessened_1 (no_ne nm_Mender_lessened_2 no_nil)))
theorem no_Mender_4_lessened {v0 v1 v2 v3 : V} : NoL (fl_Mender_4 v0 v1 v2 v3) ("lessened" : Str) := (no_ne nm_Mender_lessened_0 (no_ne nm_Mender_lessened_1 (no_ne nm_Mender_lessened_2 (no_ne nm_Mender_lessened_3 no_nil))))
theorem nm_Mender_fill_0 : ¬ (("sets" : Str) = "fill") := by decide +kernel
theorem nm_Mender_fill_1 : ¬ (("begun_text" : Str) = "fill") := by decide +kernel
theorem nm_Mender_fill_2 : ¬ (("states" : Str) = "fill") := by decide +kernel
theorem nm_Mender_fill_3 : ¬ (("best" : Str) = "fill") := by decide +kernel
theorem no_Mender_0_fill : NoL (fl_Mender_0 ) ("fill" : Str) := no_nil
theorem no_Mender_1_fill {v0 : V} : NoL (fl_Mender_1 v0) ("fill" : Str) := (no_ne nm_Mender_fill_0 no_nil)
theorem no_Mender_2_fill {v0 v1 : V} : NoL (fl_Mender_2 v0 v1) ("fill" : Str) := (no_ne nm_Mender_fill_0 (no_ne nm_Mender_fill_1 no_nil))
theorem no_Mender_3_fill {v0 v1 v2 : V} : NoL (fl_Mender_3 v0 v1 v2) ("fill" : Str) := (no_ne nm_Mender_fill_0 (no_ne nm_Mender_fill_1 (no_ne nm_Mender_fill_2 no_nil)))
theorem no_Mender_4_fill {v0 v1 v2 v3 : V} : NoL (fl_Mender_4 v0 v1 v2 v3) ("fill" : Str) := (no_ne nm_Mender_fill_0 (no_ne nm_Mender_fill_1 (no_ne nm_Mender_fill_2 (no_ne nm_Mender_fill_3 no_nil))))
theorem nm_Mender_least_0 : ¬ (("sets" : Str) = "least") := by decide +kernel
theorem nm_Mender_least_1 : ¬ (("begun_text" : Str) = "least") := by decide +kernel
theorem nm_Mender_least_2 : ¬ (("states" : Str) = "least") := by decide +kernel
theorem nm_Mender_least_3 : ¬ (("best" : Str) = "least") := by decide +kernel
theorem no_Mender_0_least : NoL (fl_Mender_0 ) ("least" : Str) := no_nil
theorem no_Mender_1_least {v0 : V} : NoL (fl_Mender_1 v0) ("least" : Str) := (no_ne nm_Mender_least_0 no_nil)
theorem no_Mender_2_least {v0 v1 : V} : NoL (fl_Mender_2 v0 v1) ("least" : Str) := (no_ne nm_Mender_least_0 (no_ne nm_Mender_least_1 no_nil))
theorem no_Mender_3_least {v0 v1 v2 : V} : NoL (fl_Mender_3 v0 v1 v2) ("least" : Str) := (no_ne nm_Mender_least_0 (no_ne nm_Mender_least_1 (no_ne nm_Mender_least_2 no_nil)))
theorem no_Mender_4_least {v0 v1 v2 v3 : V} : NoL (fl_Mender_4 v0 v1 v2 v3) ("least" : Str) := (no_ne nm_Mender_least_0 (no_ne nm_Mender_least_1 (no_ne nm_Mender_least_2 (no_ne nm_Mender_least_3 no_nil))))
theorem nm_Mender_steps_from_0 : ¬ (("sets" : Str) = "steps_from") := by decide +kernel
theorem nm_Mender_steps_from_1 : ¬ (("begun_text" : Str) = "steps_from") := by decide +kernel
theorem nm_Mender_steps_from_2 : ¬ (("states" : Str) = "steps_from") := by decide +kernel
theorem nm_Mender_steps_from_3 : ¬ (("best" : Str) = "steps_from") := by decide +kernel
theorem no_Mender_0_steps_from : NoL (fl_Mender_0 ) ("steps_from" : Str) := no_nil
theorem no_Mender_1_steps_from {v0 : V} : NoL (fl_Mender_1 v0) ("steps_from" : Str) := (no_ne nm_Mender_steps_from_0 no_nil)
theorem no_Mender_2_steps_from {v0 v1 : V} : NoL (fl_Mender_2 v0 v1) ("steps_from" : Str) := (no_ne nm_Mender_steps_from_0 (no_ne nm_Mender_steps_from_1 no_nil))
theorem no_Mender_3_steps_from {v0 v1 v2 : V} : NoL (fl_Mender_3 v0 v1 v2) ("steps_from" : Str) := (no_ne nm_Mender_steps_from_0 (no_ne nm_Mender_steps_from_1 (no_ne nm_Mender_steps_from_2 no_nil)))
theorem no_Mender_4_steps_from {v0 v1 v2 v3 : V} : NoL (fl_Mender_4 v0 v1 v2 v3) ("steps_from" : Str) := (no_ne nm_Mender_steps_from_0 (no_ne nm_Mender_steps_from_1 (no_ne nm_Mender_steps_from_2 (no_ne nm_Mender_steps_from_3 no_nil))))
theorem nm_Mender_later_0 : ¬ (("sets" : Str) = "later") := by decide +kernel
theorem nm_Mender_later_1 : ¬ (("begun_text" : Str) = "later") := by decide +kernel
theorem nm_Mender_later_2 : ¬ (("states" : Str) = "later") := by decide +kernel
theorem nm_Mender_later_3 : ¬ (("best" : Str) = "later") := by decide +kernel
theorem no_Mender_0_later : NoL (fl_Mender_0 ) ("later" : Str) := no_nil
theorem no_Mender_1_later {v0 : V} : NoL (fl_Mender_1 v0) ("later" : Str) := (no_ne nm_Mender_later_0 no_nil)
theorem no_Mender_2_later {v0 v1 : V} : NoL (fl_Mender_2 v0 v1) ("later" : Str) := (no_ne nm_Mender_later_0 (no_ne nm_Mender_later_1 no_nil))
theorem no_Mender_3_later {v0 v1 v2 : V} : NoL (fl_Mender_3 v0 v1 v2) ("later" : Str) := (no_ne nm_Mender_later_0 (no_ne nm_Mender_later_1 (no_ne nm_Mender_later_2 no_nil)))
theorem no_Mender_4_later {v0 v1 v2 v3 : V} : NoL (fl_Mender_4 v0 v1 v2 v3) ("later" : Str) := (no_ne nm_Mender_later_0 (no_ne nm_Mender_later_1 (no_ne nm_Mender_later_2 (no_ne nm_Mender_later_3 no_nil))))
theorem nm_Mender_closed_0 : ¬ (("sets" : Str) = "closed") := by decide +kernel
theorem nm_Mender_closed_1 : ¬ (("begun_text" : Str) = "closed") := by decide +kernel
theorem nm_Mender_closed_2 : ¬ (("states" : Str) = "closed") := by decide +kernel
theorem nm_Mender_closed_3 : ¬ (("best" : Str) = "closed") := by decide +kernel
theorem no_Mender_0_closed : NoL (fl_Mender_0 ) ("closed" : Str) := no_nil
theorem no_Mender_1_closed {v0 : V} : NoL (fl_Mender_1 v0) ("closed" : Str) := (no_ne nm_Mender_closed_0 no_nil)
theorem no_Mender_2_closed {v0 v1 : V} : NoL (fl_Mender_2 v0 v1) ("closed" : Str) := (no_ne nm_Mender_closed_0 (no_ne nm_Mender_closed_1 no_nil))
theorem no_Mender_3_closed {v0 v1 v2 : V} : NoL (fl_Mender_3 v0 v1 v2) ("closed" : Str) := (no_ne nm_Mender_closed_0 (no_ne nm_Mender_closed_1 (no_ne nm_Mender_closed_2 no_nil)))
theorem no_Mender_4_closed {v0 v1 v2 v3 : V} : NoL (fl_Mender_4 v0 v1 v2 v3) ("closed" : Str) := (no_ne nm_Mender_closed_0 (no_ne nm_Mender_closed_1 (no_ne nm_Mender_closed_2 (no_ne nm_Mender_closed_3 no_nil))))
structure Txt (w : World) (K : PySem.W.Frag) (mg : Str → Option Value) : Type where
  b_abs : mg "abs" = none
  b_all : mg "all" = none
  b_dict : mg "dict" = none
  b_enumerate : mg "enumerate" = none
  b_int : mg "int" = none
  b_isinstance : mg "isinstance" = none
  b_len : mg "len" = none
  b_list : mg "list" = none
  b_min : mg "min" = none
  b_range : mg "range" = none
  b_str : mg "str" = none
  b_sum : mg "sum" = none
  b_tuple : mg "tuple" = none
  b_zip : mg "zip" = none
  g_SIGNS : ∃ t, mg "SIGNS" = some (.str ⟨([97, 98, 99, 100] : List Nat).toArray⟩ t)
  g_LETTERS : ∃ t, mg "LETTERS" = some (.str ⟨([97, 98, 99, 100, 101, 102, 103, 104, 105, 106, 107, 108, 109, 110, 111, 112, 113, 114, 115, 116, 117, 118, 119, 120, 121, 122] : List Nat).toArray⟩ t)
  g_MOST_TEXT : ∃ t, mg "MOST_TEXT" = some (.int 300 t)
  g_MOST_MARK : ∃ t, mg "MOST_MARK" = some (.int 6 t)
  g_MOST_NODES : ∃ t, mg "MOST_NODES" = some (.int 60 t)
  g_MOST_DEEP : ∃ t, mg "MOST_DEEP" = some (.int 15 t)
  a_FORMS : Addr
  g_FORMS : mg "FORMS" = some (.ref a_FORMS)
  d_FORMS : WDict K w a_FORMS
  k_FORMS_none : WHas K a_FORMS [110, 111, 110, 101] []
  k_FORMS_empty : WHas K a_FORMS [101, 109, 112, 116, 121] []
  k_FORMS_sign : WHas K a_FORMS [115, 105, 103, 110] [108]
  k_FORMS_then : WHas K a_FORMS [116, 104, 101, 110] [112, 112]
  k_FORMS_or : WHas K a_FORMS [111, 114] [112, 112]
  k_FORMS_many : WHas K a_FORMS [109, 97, 110, 121] [112]
  k_FORMS_few : WHas K a_FORMS [102, 101, 119] [112]
  k_FORMS_mark : WHas K a_FORMS [109, 97, 114, 107] [109, 112]
  g_KEEP : ∃ t, mg "KEEP" = some (.str ⟨([107, 101, 101, 112] : List Nat).toArray⟩ t)
  g_PUT : ∃ t, mg "PUT" = some (.str ⟨([112, 117, 116] : List Nat).toArray⟩ t)
  g_TAKE : ∃ t, mg "TAKE" = some (.str ⟨([116, 97, 107, 101] : List Nat).toArray⟩ t)
  g_CHANGE : ∃ t, mg "CHANGE" = some (.str ⟨([99, 104, 97, 110, 103, 101] : List Nat).toArray⟩ t)
  a_Sets : Addr
  c_Sets : Cls K a_Sets
  g_Sets : mg "Sets" = some (.ref a_Sets)
  f_Sets_rows : Fd K a_Sets "rows"
  f_Sets_lots : Fd K a_Sets "lots"
  f_Sets_follows : Fd K a_Sets "follows"
  f_Sets_position : Fd K a_Sets "position"
  f_Sets_enders : Fd K a_Sets "enders"
  a_Mender : Addr
  c_Mender : Cls K a_Mender
  g_Mender : mg "Mender" = some (.ref a_Mender)
  f_Mender_sets : Fd K a_Mender "sets"
  f_Mender_begun_text : Fd K a_Mender "begun_text"
  f_Mender_states : Fd K a_Mender "states"
  f_Mender_best : Fd K a_Mender "best"
  a_ReadError : Addr
  e_ReadError : ExcC K mg "ReadError" a_ReadError
  a_NoPattern : Addr
  e_NoPattern : ExcC K mg "NoPattern" a_NoPattern
  a_NoText : Addr
  e_NoText : ExcC K mg "NoText" a_NoText
end FR
end
section
set_option Elab.async false
set_option linter.all false
set_option maxRecDepth 20000
set_option maxHeartbeats 1000000
namespace FR
open PySem PySem.Spec PyProof.Rows L2 FL
local macro_rules | `(tactic| walk_at "ne") => `(tactic| first | assumption | exact Ne.symm (by assumption))
local macro_rules | `(tactic| walk_at "hl") => `(tactic| first | assumption | exact upd_same | exact upd_old (by assumption) (by walk_at "hl") | exact (upd_ne (by walk_at "ne")).trans (by walk_at "hl"))
local macro_rules | `(tactic| walk_at "side") => `(tactic| first | rfl | assumption | omega | decide | exact Or.inl ⟨rfl, _, SqL.of (by walk_at "hl")⟩ | exact Or.inr (Or.inr (Or.inl ⟨rfl, Or.inl ⟨_, by walk_at "hl"⟩⟩)) | exact Or.inr (Or.inr (Or.inl ⟨rfl, Or.inr ⟨_, by walk_at "hl"⟩⟩)) | exact Or.inr ⟨by decide, by decide⟩ | exact Or.inl ⟨by omega, by omega⟩ | exact ⟨by decide, by decide, by decide⟩ | exact ⟨by first | omega | decide, by first | omega | decide⟩ | exact Nat.le_of_ble_eq_true rfl | exact Nat.le_trans (m := 1000000) (by omega) (by decide) | exact Nat.lt_of_le_of_lt (m := 1000000) (by omega) (by decide) | exact ⟨by omega, by omega, by omega, by omega⟩)
local macro_rules | `(tactic| walk_at "lk") => `(tactic| with_reducible first | exact lk_Sets_1_0 | exact lk_Sets_2_0 | exact lk_Sets_2_1 | exact lk_Sets_3_0 | exact lk_Sets_3_1 | exact lk_Sets_3_2 | exact lk_Sets_4_0 | exact lk_Sets_4_1 | exact lk_Sets_4_2 | exact lk_Sets_4_3 | exact lk_Sets_5_0 | exact lk_Sets_5_1 | exact lk_Sets_5_2 | exact lk_Sets_5_3 | exact lk_Sets_5_4 | exact lk_Mender_1_0 | exact lk_Mender_2_0 | exact lk_Mender_2_1 | exact lk_Mender_3_0 | exact lk_Mender_3_1 | exact lk_Mender_3_2 | exact lk_Mender_4_0 | exact lk_Mender_4_1 | exact lk_Mender_4_2 | exact lk_Mender_4_3)
local macro_rules | `(tactic| walk_at "pf") => `(tactic| with_reducible first | exact pf_Sets_1_0 | exact pf_Sets_2_0 | exact pf_Sets_2_1 | exact pf_Sets_3_0 | exact pf_Sets_3_1 | exact pf_Sets_3_2 | exact pf_Sets_4_0 | exact pf_Sets_4_1 | exact pf_Sets_4_2 | exact pf_Sets_4_3 | exact pf_Sets_5_0 | exact pf_Sets_5_1 | exact pf_Sets_5_2 | exact pf_Sets_5_3 | exact pf_Sets_5_4 | exact pn_Sets_0 | exact pn_Sets_1 | exact pn_Sets_2 | exact pn_Sets_3 | exact pn_Sets_4 | exact pf_Mender_1_0 | exact pf_Mender_2_0 | exact pf_Mender_2_1 | exact pf_Mender_3_0 | exact pf_Mender_3_1 | exact pf_Mender_3_2 | exact pf_Mender_4_0 | exact pf_Mender_4_1 | exact pf_Mender_4_2 | exact pf_Mender_4_3 | exact pn_Mender_0 | exact pn_Mender_1 | exact pn_Mender_2 | exact pn_Mender_3)
local macro_rules | `(tactic| walk_at "no") => `(tactic| with_reducible first | exact no_Sets_0___init__ | exact no_Sets_1___init__ | exact no_Sets_2___init__ | exact no_Sets_3___init__ | exact no_Sets_4___init__ | exact no_Sets_5___init__ | exact no_Sets_0_join | exact no_Sets_1_join | exact no_Sets_2_join | exact no_Sets_3_join | exact no_Sets_4_join | exact no_Sets_5_join | exact no_Sets_0_told_of | exact no_Sets_1_told_of | exact no_Sets_2_told_of | exact no_Sets_3_told_of | exact no_Sets_4_told_of | exact no_Sets_5_told_of | exact no_Sets_0_moved | exact no_Sets_1_moved | exact no_Sets_2_moved | exact no_Sets_3_moved | exact no_Sets_4_moved | exact no_Sets_5_moved | exact no_Sets_0_can_stop | exact no_Sets_1_can_stop | exact no_Sets_2_can_stop | exact no_Sets_3_can_stop | exact no_Sets_4_can_stop | exact no_Sets_5_can_stop | exact no_Mender_0___init__ | exact no_Mender_1___init__ | exact no_Mender_2___init__ | exact no_Mender_3___init__ | exact no_Mender_4___init__ | exact no_Mender_0_fill_last | exact no_Mender_1_fill_last | exact no_Mender_2_fill_last | exact no_Mender_3_fill_last | exact no_Mender_4_fill_last | exact no_Mender_0_spread | exact no_Mender_1_spread | exact no_Mender_2_spread | exact no_Mender_3_spread | exact no_Mender_4_spread | exact no_Mender_0_lessened | exact no_Mender_1_lessened | exact no_Mender_2_lessened | exact no_Mender_3_lessened | exact no_Mender_4_lessened | exact no_Mender_0_fill | exact no_Mender_1_fill | exact no_Mender_2_fill | exact no_Mender_3_fill | exact no_Mender_4_fill | exact no_Mender_0_least | exact no_Mender_1_least | exact no_Mender_2_least | exact no_Mender_3_least | exact no_Mender_4_least | exact no_Mender_0_steps_from | exact no_Mender_1_steps_from | exact no_Mender_2_steps_from | exact no_Mender_3_steps_from | exact no_Mender_4_steps_from | exact no_Mender_0_later | exact no_Mender_1_later | exact no_Mender_2_later | exact no_Mender_3_later | exact no_Mender_4_later | exact no_Mender_0_closed | exact no_Mender_1_closed | exact no_Mender_2_closed | exact no_Mender_3_closed | exact no_Mender_4_closed)
local macro_rules | `(tactic| walk_at "s") => `(tactic| first
   | refine ⟨_, rfl, ?_⟩
   | refine ⟨_, _, rfl, rfl, ?_⟩
   | refine ⟨_, _, rfl, ?_⟩
   | refine iteT ?_
   | refine iteF ?_
   | refine ⟨_, (show _ = some _ by walk_at "hl"), ?_⟩
   | refine ⟨_, (show Ins _ _ _ _ from Ins.of (by walk_at "hl")), ?_⟩
   | refine ⟨_, (show Lk _ _ _ by walk_at "lk"), ?_⟩
   | refine ⟨_, (show Pf _ _ _ _ by walk_at "pf"), ?_⟩
   | refine And.intro (show NoL _ _ by walk_at "no") ?_
   | refine ⟨_, _, rfl, SqL.of (by walk_at "hl"), ?_⟩
   | refine ⟨_, _, rfl, SqT.of (by walk_at "hl"), ?_⟩
   | refine And.intro ⟨_, SqL.of (by walk_at "hl")⟩ ?_
   | refine And.intro (by walk_at "side") ?_)
local macro_rules | `(tactic| walk_at "si") => `(tactic| first
   | walk_at "s"
   | refine iteD (fun _ => ?_) (fun _ => ?_)
   | refine iteDn (fun _ => ?_) (fun _ => ?_))
local macro_rules | `(tactic| walk_at "r") => `(tactic| repeat walk_at "s")
local macro_rules | `(tactic| walk_at "ri") => `(tactic| repeat walk_at "si")

abbrev N_are_signs : List Str := ["thing", "most", "sign"]
theorem sc_are_signs : FnScope N_are_signs ["thing", "most"] (defScope s_are_signs) := ⟨rfl, rfl, rfl, by decide +kernel, rfl, by decide +kernel, by decide +kernel⟩
abbrev N_is_text : List Str := ["thing"]
theorem sc_is_text : FnScope N_is_text ["thing"] (defScope s_is_text) := ⟨rfl, rfl, rfl, by decide +kernel, rfl, by decide +kernel, by decide +kernel⟩
abbrev N_check_text : List Str := ["thing"]
theorem sc_check_text : FnScope N_check_text ["thing"] (defScope s_check_text) := ⟨rfl, rfl, rfl, by decide +kernel, rfl, by decide +kernel, by decide +kernel⟩
section
variable {P : Program} {w : World} {K : PySem.W.Frag} {mg : Str → Option Value} {base : Heap}
theorem all_map {α : Type} (l : List α) (b : α → Bool) : (l.map b).all id = l.all b := by simp [List.all_map]
/-- a value that is no text, by its class -/
def NoStr (H : Hp) (x : V) : Prop := ∃ t, clsOf H x = some t ∧ kitB t "str" = some false
def spAreSigns : Sp := fun vs H Q _ => ∃ (x : V) (m : Int), vs = [x, .int m] ∧
  ((∃ l, x = tx l ∧ l.length ≤ 100000 ∧ ∀ b H', Same H H' → b = (decide ((l.length : Int) ≤ m) && l.all fun c => decide (c ∈ sgs)) → Q (.bl b) H') ∨ (NoStr H x ∧ Q (.bl false) H))
theorem ok_are_signs {f : Addr} {fd : FuncData} (F : Fun K "are_signs" "are_signs" s_are_signs f fd) (T : Txt w K mg) : FnOk P w K mg base (L2.CX P w) 1 f fd ["thing", "most"] spAreSigns := by
  refine F.okX sc_are_signs (fun vs H Q E h => ?_) (fun cdv A outer s H vs Q E hr h => ?_)
  · obtain ⟨x, m, rfl, _⟩ := h
    rfl
  · obtain ⟨x, m, rfl, h⟩ := h
    refine ⟨_, PSs.nox (pss_one (ps_ret (pe_and (pe_callB (cl_isi) (by rfl) T.b_isinstance (by decide +kernel) (pa_cons (pv 0) (pa_cons (pe_bltn (v := .ty "str") (u := .type "str") rfl T.b_str (by decide +kernel) rfl) pa_nil))) (pe_and (pe_cmpR ole (pe_callB (cl_lenS) (by rfl) T.b_len (by decide +kernel) (pa_cons (pv 0) pa_nil)) (pv 1) (nomark _)) (pe_one (pe_callB (cl_all rfl) (by rfl) T.b_all (by decide +kernel) (pa_cons (pe_lc (own := [("sign", 2)]) (g := gName 2) (tt := tYes) (by rfl) sc_are_signs.nd (pi_str (pv 0)) (blkOk_by (N := N_are_signs) (sc := defScope s_are_signs) (by decide +kernel)) (fun _ _ _ _ _ => (pg_name (i := 2) sc_are_signs.nd rfl (by first | exact Or.inl rfl | exact Or.inr rfl))) (fun _ _ _ _ _ => pts_nil) (fun _ _ _ _ _ => (pe_cmpR oinC (pv 2) (pe_gSL (l := [97, 98, 99, 100]) rfl T.g_SIGNS) (by rfl)))) pa_nil))))))), ?_⟩
    rw [show L2.start N_are_signs [x, V.int m] = [some (x), some (V.int m), none] from rfl]
    rcases h with ⟨l, rfl, hl, k⟩ | ⟨⟨t, h1, h2⟩, q⟩
    · walk_at "r"
      refine iteD (fun hm => ?_) (fun hm => ?_)
      · walk_at "r"
        intro D hD
        refine lcM hD (wk_text l) (fun c => .bl (decide (c ∈ sgs))) (by omega) (fun _ _ => trivial) (fun _ => rfl) (fun a _ H' _ Q' q => ?_) ?_
        · walk_at "r"
          exact q
        · walk_at "r"
          refine ⟨l.map fun c => decide (c ∈ sgs), ⟨by simp⟩, ?_⟩
          rw [all_map]
          exact k _ _ (fun a o h => upd_old (u := .lst (l.map fun c => V.bl (decide (c ∈ sgs)))) hD h) (by rw [decide_eq_true hm, Bool.true_and])
      · exact k _ H (Same.refl H) (by rw [decide_eq_false hm, Bool.false_and])
    · walk_at "r"
      exact q
/-! is_text, check_text -/
/-- texts that are let -/
def isTx (l : List Nat) : Bool := decide (l.length ≤ 300) && l.all fun c => decide (c ∈ sgs)
def spIsText : Sp := fun vs H Q _ => ∃ x : V, vs = [x] ∧
  ((∃ l, x = tx l ∧ l.length ≤ 100000 ∧ ∀ b H', Same H H' → b = isTx l → Q (.bl b) H') ∨ (NoStr H x ∧ Q (.bl false) H))
theorem ok_is_text {f : Addr} {fd : FuncData} (F : Fun K "is_text" "is_text" s_is_text f fd) (T : Txt w K mg) (D_are_signs : Df P w K mg base 1 "are_signs" ["thing", "most"] spAreSigns) : FnOk P w K mg base (L2.CX P w) 2 f fd ["thing"] spIsText := by
  refine F.okX sc_is_text (fun vs H Q E h => ?_) (fun cdv A outer s H vs Q E hr h => ?_)
  · obtain ⟨x, rfl, _⟩ := h
    rfl
  · obtain ⟨x, rfl, h⟩ := h
    refine ⟨_, PSs.nox (pss_one (ps_ret (pe_callD D_are_signs (hr.mono (by decide)) passL (pa_cons (pv 0) (pa_cons (pe_gI rfl T.g_MOST_TEXT) pa_nil))))), ?_⟩
    rw [show L2.start N_is_text [x] = [some (x)] from rfl]
    walk_at "r"
    rcases h with ⟨l, rfl, hl, k⟩ | ⟨h, q⟩
    · refine .inl ⟨l, rfl, hl, fun b H' s e => k b H' s ?_⟩
      rw [e, isTx, show decide (l.length ≤ 300) = decide ((l.length : Int) ≤ 300) by simp only [decide_eq_decide]; omega]
    · exact .inr ⟨h, q⟩
def spCheckText (T : Txt w K mg) : Sp := fun vs H Q E => ∃ x : V, vs = [x] ∧
  ((∃ l, x = tx l ∧ l.length ≤ 100000 ∧ ∀ H', Same H H' → (isTx l = true → Q .non H') ∧ (isTx l = false → E (.ref T.a_NoText) none H')) ∨ (NoStr H x ∧ E (.ref T.a_NoText) none H))
theorem ok_check_text {f : Addr} {fd : FuncData} (F : Fun K "check_text" "check_text" s_check_text f fd) (T : Txt w K mg) (D_is_text : Df P w K mg base 2 "is_text" ["thing"] spIsText) : FnOk P w K mg base (L2.CX P w) 3 f fd ["thing"] (spCheckText T) := by
  refine F.okX sc_check_text (fun vs H Q E h => ?_) (fun cdv A outer s H vs Q E hr h => ?_)
  · obtain ⟨x, rfl, _⟩ := h
    rfl
  · obtain ⟨x, rfl, h⟩ := h
    refine ⟨_, (pss_one (ps_if (pt_not (pt_val (pe_callD D_is_text (hr.mono (by decide)) passL (pa_cons (pv 0) pa_nil)))) (pss_one (ps_raise rfl (takes_of rfl rfl rfl rfl) (pmk_own0 T.e_NoText rfl))) pss_nil)), ?_⟩
    rw [show L2.start N_check_text [x] = [some (x)] from rfl]
    walk_at "r"
    rcases h with ⟨l, rfl, hl, k⟩ | ⟨h, q⟩
    · refine .inl ⟨l, rfl, hl, fun b H' s e => ?_⟩
      subst e
      walk_at "r"
      obtain ⟨k1, k2⟩ := k H' s
      refine ite_not ?_ ?_
      · intro e
        exact k2 e
      · intro e
        exact k1 e
    · refine .inr ⟨h, ?_⟩
      walk_at "r"
      exact q
end
end FR
end
section
set_option Elab.async false
set_option linter.all false
set_option maxRecDepth 20000
set_option maxHeartbeats 1000000
namespace FR
open PySem PySem.Spec PyProof.Rows L2 FL
local macro_rules | `(tactic| walk_at "ne") => `(tactic| first | assumption | exact Ne.symm (by assumption))
local macro_rules | `(tactic| walk_at "hl") => `(tactic| first | assumption | exact upd_same | exact upd_old (by assumption) (by walk_at "hl") | exact (upd_ne (by walk_at "ne")).trans (by walk_at "hl"))
local macro_rules | `(tactic| walk_at "side") => `(tactic| first | rfl | assumption | omega | decide | exact Or.inl ⟨rfl, _, SqL.of (by walk_at "hl")⟩ | exact Or.inr (Or.inr (Or.inl ⟨rfl, Or.inl ⟨_, by walk_at "hl"⟩⟩)) | exact Or.inr (Or.inr (Or.inl ⟨rfl, Or.inr ⟨_, by walk_at "hl"⟩⟩)) | exact Or.inr ⟨by decide, by decide⟩ | exact Or.inl ⟨by omega, by omega⟩ | exact ⟨by decide, by decide, by decide⟩ | exact ⟨by first | omega | decide, by first | omega | decide⟩ | exact Nat.le_of_ble_eq_true rfl | exact Nat.le_trans (m := 1000000) (by omega) (by decide) | exact Nat.lt_of_le_of_lt (m := 1000000) (by omega) (by decide) | exact ⟨by omega, by omega, by omega, by omega⟩)
local macro_rules | `(tactic| walk_at "lk") => `(tactic| with_reducible first | exact lk_Sets_1_0 | exact lk_Sets_2_0 | exact lk_Sets_2_1 | exact lk_Sets_3_0 | exact lk_Sets_3_1 | exact lk_Sets_3_2 | exact lk_Sets_4_0 | exact lk_Sets_4_1 | exact lk_Sets_4_2 | exact lk_Sets_4_3 | exact lk_Sets_5_0 | exact lk_Sets_5_1 | exact lk_Sets_5_2 | exact lk_Sets_5_3 | exact lk_Sets_5_4 | exact lk_Mender_1_0 | exact lk_Mender_2_0 | exact lk_Mender_2_1 | exact lk_Mender_3_0 | exact lk_Mender_3_1 | exact lk_Mender_3_2 | exact lk_Mender_4_0 | exact lk_Mender_4_1 | exact lk_Mender_4_2 | exact lk_Mender_4_3)
local macro_rules | `(tactic| walk_at "pf") => `(tactic| with_reducible first | exact pf_Sets_1_0 | exact pf_Sets_2_0 | exact pf_Sets_2_1 | exact pf_Sets_3_0 | exact pf_Sets_3_1 | exact pf_Sets_3_2 | exact pf_Sets_4_0 | exact pf_Sets_4_1 | exact pf_Sets_4_2 | exact pf_Sets_4_3 | exact pf_Sets_5_0 | exact pf_Sets_5_1 | exact pf_Sets_5_2 | exact pf_Sets_5_3 | exact pf_Sets_5_4 | exact pn_Sets_0 | exact pn_Sets_1 | exact pn_Sets_2 | exact pn_Sets_3 | exact pn_Sets_4 | exact pf_Mender_1_0 | exact pf_Mender_2_0 | exact pf_Mender_2_1 | exact pf_Mender_3_0 | exact pf_Mender_3_1 | exact pf_Mender_3_2 | exact pf_Mender_4_0 | exact pf_Mender_4_1 | exact pf_Mender_4_2 | exact pf_Mender_4_3 | exact pn_Mender_0 | exact pn_Mender_1 | exact pn_Mender_2 | exact pn_Mender_3)
local macro_rules | `(tactic| walk_at "no") => `(tactic| with_reducible first | exact no_Sets_0___init__ | exact no_Sets_1___init__ | exact no_Sets_2___init__ | exact no_Sets_3___init__ | exact no_Sets_4___init__ | exact no_Sets_5___init__ | exact no_Sets_0_join | exact no_Sets_1_join | exact no_Sets_2_join | exact no_Sets_3_join | exact no_Sets_4_join | exact no_Sets_5_join | exact no_Sets_0_told_of | exact no_Sets_1_told_of | exact no_Sets_2_told_of | exact no_Sets_3_told_of | exact no_Sets_4_told_of | exact no_Sets_5_told_of | exact no_Sets_0_moved | exact no_Sets_1_moved | exact no_Sets_2_moved | exact no_Sets_3_moved | exact no_Sets_4_moved | exact no_Sets_5_moved | exact no_Sets_0_can_stop | exact no_Sets_1_can_stop | exact no_Sets_2_can_stop | exact no_Sets_3_can_stop | exact no_Sets_4_can_stop | exact no_Sets_5_can_stop | exact no_Mender_0___init__ | exact no_Mender_1___init__ | exact no_Mender_2___init__ | exact no_Mender_3___init__ | exact no_Mender_4___init__ | exact no_Mender_0_fill_last | exact no_Mender_1_fill_last | exact no_Mender_2_fill_last | exact no_Mender_3_fill_last | exact no_Mender_4_fill_last | exact no_Mender_0_spread | exact no_Mender_1_spread | exact no_Mender_2_spread | exact no_Mender_3_spread | exact no_Mender_4_spread | exact no_Mender_0_lessened | exact no_Mender_1_lessened | exact no_Mender_2_lessened | exact no_Mender_3_lessened | exact no_Mender_4_lessened | exact no_Mender_0_fill | exact no_Mender_1_fill | exact no_Mender_2_fill | exact no_Mender_3_fill | exact no_Mender_4_fill | exact no_Mender_0_least | exact no_Mender_1_least | exact no_Mender_2_least | exact no_Mender_3_least | exact no_Mender_4_least | exact no_Mender_0_steps_from | exact no_Mender_1_steps_from | exact no_Mender_2_steps_from | exact no_Mender_3_steps_from | exact no_Mender_4_steps_from | exact no_Mender_0_later | exact no_Mender_1_later | exact no_Mender_2_later | exact no_Mender_3_later | exact no_Mender_4_later | exact no_Mender_0_closed | exact no_Mender_1_closed | exact no_Mender_2_closed | exact no_Mender_3_closed | exact no_Mender_4_closed)
local macro_rules | `(tactic| walk_at "s") => `(tactic| first
   | refine ⟨_, rfl, ?_⟩
   | refine ⟨_, _, rfl, rfl, ?_⟩
   | refine ⟨_, _, rfl, ?_⟩
   | refine iteT ?_
   | refine iteF ?_
   | refine ⟨_, (show _ = some _ by walk_at "hl"), ?_⟩
   | refine ⟨_, (show Ins _ _ _ _ from Ins.of (by walk_at "hl")), ?_⟩
   | refine ⟨_, (show Lk _ _ _ by walk_at "lk"), ?_⟩
   | refine ⟨_, (show Pf _ _ _ _ by walk_at "pf"), ?_⟩
   | refine And.intro (show NoL _ _ by walk_at "no") ?_
   | refine ⟨_, _, rfl, SqL.of (by walk_at "hl"), ?_⟩
   | refine ⟨_, _, rfl, SqT.of (by walk_at "hl"), ?_⟩
   | refine And.intro ⟨_, SqL.of (by walk_at "hl")⟩ ?_
   | refine And.intro (by walk_at "side") ?_)
local macro_rules | `(tactic| walk_at "si") => `(tactic| first
   | walk_at "s"
   | refine iteD (fun _ => ?_) (fun _ => ?_)
   | refine iteDn (fun _ => ?_) (fun _ => ?_))
local macro_rules | `(tactic| walk_at "r") => `(tactic| repeat walk_at "s")
local macro_rules | `(tactic| walk_at "ri") => `(tactic| repeat walk_at "si")

abbrev N_is_lot : List Str := ["thing", "at"]
theorem sc_is_lot : FnScope N_is_lot ["thing"] (defScope s_is_lot) := ⟨rfl, rfl, rfl, by decide +kernel, rfl, by decide +kernel, by decide +kernel⟩
abbrev N_is_mark : List Str := ["thing", "sign"]
theorem sc_is_mark : FnScope N_is_mark ["thing"] (defScope s_is_mark) := ⟨rfl, rfl, rfl, by decide +kernel, rfl, by decide +kernel, by decide +kernel⟩
section
variable {P : Program} {w : World} {K : PySem.W.Frag} {mg : Str → Option Value} {base : Heap}
theorem atI_get {α : Type} {l : List α} {i : Int} {n : Nat} (e : i = (n : Int)) (h : n < l.length) : atI l i = some l[n] := by
  subst e
  exact atI_nat (List.getElem?_eq_getElem h)
def spIsLot : Sp := fun vs H Q _ => ∃ l : List Nat, vs = [tx l] ∧ (Pat.sign l).ok = true ∧ ∀ H', Same H H' → Q (.bl true) H'
theorem ok_is_lot {f : Addr} {fd : FuncData} (F : Fun K "is_lot" "is_lot" s_is_lot f fd) (T : Txt w K mg) (D_are_signs : Df P w K mg base 1 "are_signs" ["thing", "most"] spAreSigns) : FnOk P w K mg base (L2.CX P w) 2 f fd ["thing"] spIsLot := by
  refine F.okX sc_is_lot (fun vs H Q E h => ?_) (fun cdv A outer s H vs Q E hr h => ?_)
  · obtain ⟨l, rfl, _⟩ := h
    rfl
  · obtain ⟨l, rfl, ho, k⟩ := h
    simp only [Pat.ok, Bool.and_eq_true, decide_eq_true_eq] at ho
    obtain ⟨⟨⟨h1, h2⟩, h3⟩, h4⟩ := ho
    refine ⟨_, PSs.nox (pss_cons (ps_if (PW.pt (pw_or (pt_not (pt_val (pe_callD D_are_signs (hr.mono (by decide)) passL (pa_cons (pv 0) (pa_cons (pe_callB (cl_lenS) (by rfl) T.b_len (by decide +kernel) (pa_cons (pe_gSL (l := [97, 98, 99, 100]) rfl T.g_SIGNS) pa_nil)) pa_nil))))) (pw_or1 (pt_cmpR oeqI (pe_callB (cl_lenS) (by rfl) T.b_len (by decide +kernel) (pa_cons (pv 0) pa_nil)) pe_int (nomark _))))) (pss_one (ps_ret pe_bl)) pss_nil)
    (pss_one (ps_ret (pe_callB (cl_all rfl) (by rfl) T.b_all (by decide +kernel) (pa_cons (pe_lc (own := [("at", 1)]) (g := gName 1) (tt := tYes) (by rfl) sc_is_lot.nd (pi_range2 rfl T.b_range (pa_cons pe_int (pa_cons (pe_callB (cl_lenS) (by rfl) T.b_len (by decide +kernel) (pa_cons (pv 0) pa_nil)) pa_nil))) (blkOk_by (N := N_is_lot) (sc := defScope s_is_lot) (by decide +kernel)) (fun _ _ _ _ _ => (pg_name (i := 1) sc_is_lot.nd rfl (by first | exact Or.inl rfl | exact Or.inr rfl))) (fun _ _ _ _ _ => pts_nil) (fun _ _ _ _ _ => (pe_cmpR oltS (pe_ix ixtx (pv 0) (pe_op osub (pv 1) pe_int) (fun _ _ => rfl)) (pe_ix ixtx (pv 0) (pv 1) (fun _ _ => rfl)) (nomark _)))) pa_nil))))), ?_⟩
    rw [show L2.start N_is_lot [tx l] = [some (tx l), none] from rfl]
    walk_at "r"
    refine .inl ⟨l, rfl, by omega, fun b H1 s1 eb => ?_⟩
    have hlen : l.length ≠ 0 := fun e => h3 (List.length_eq_zero_iff.mp e)
    obtain rfl : b = true := by rw [eb, h1, Bool.and_true]; exact decide_eq_true (by show (l.length : Int) ≤ 4; omega)
    walk_at "r"
    refine iteDF (by omega) ?_
    walk_at "r"
    intro D hD
    refine lcM hD (wk_range) (fun i => .bl (decide ([l.getD i 0] < [l.getD (i + 1) 0]))) (by simp; omega) (fun _ _ => trivial) (fun _ => rfl) (fun i hi H' _ Q' q => ?_) ?_
    · have hi2 : i + 1 < l.length := by simp at hi; omega
      walk_at "r"
      refine ⟨_, ⟨atI_get (n := i) (by omega) (by omega)⟩, ?_⟩
      walk_at "r"
      refine ⟨_, ⟨atI_get (n := i + 1) (by omega) (by omega)⟩, ?_⟩
      walk_at "r"
      rw [getD_of (show i < l.length by omega), getD_of hi2] at q
      exact q
    · walk_at "r"
      refine ⟨(List.range ((l.length : Int) - 1).toNat).map fun i => decide ([l.getD i 0] < [l.getD (i + 1) 0]), ⟨by simp⟩, ?_⟩
      rw [all_map, List.all_eq_true.mpr]
      · exact k _ fun a o h => upd_old hD (s1 a o h)
      · intro i hi
        have hi2 : i + 1 < l.length := by simp at hi; omega
        rw [getD_of (show i < l.length by omega), getD_of hi2]
        have h5 := List.pairwise_iff_getElem.mp h4 i (i + 1) (by omega) hi2 (by omega)
        simp [List.cons_lt_cons_iff, h5]
def spIsMark : Sp := fun vs H Q _ => ∃ l : List Nat, vs = [tx l] ∧ l.all (fun c => decide (c ∈ letters)) = true ∧ 1 ≤ l.length ∧ l.length ≤ 6 ∧ ∀ H', Same H H' → Q (.bl true) H'
theorem ok_is_mark {f : Addr} {fd : FuncData} (F : Fun K "is_mark" "is_mark" s_is_mark f fd) (T : Txt w K mg) : FnOk P w K mg base (L2.CX P w) 1 f fd ["thing"] spIsMark := by
  refine F.okX sc_is_mark (fun vs H Q E h => ?_) (fun cdv A outer s H vs Q E hr h => ?_)
  · obtain ⟨l, rfl, _⟩ := h
    rfl
  · obtain ⟨l, rfl, h1, h2, h3, k⟩ := h
    refine ⟨_, PSs.nox (pss_one (ps_ret (pe_and (pe_callB (cl_isi) (by rfl) T.b_isinstance (by decide +kernel) (pa_cons (pv 0) (pa_cons (pe_bltn (v := .ty "str") (u := .type "str") rfl T.b_str (by decide +kernel) rfl) pa_nil))) (pe_and (pe_chain ole ole pe_int (pe_callB (cl_lenS) (by rfl) T.b_len (by decide +kernel) (pa_cons (pv 0) pa_nil)) (pe_gI rfl T.g_MOST_MARK)) (pe_one (pe_callB (cl_all rfl) (by rfl) T.b_all (by decide +kernel) (pa_cons (pe_lc (own := [("sign", 1)]) (g := gName 1) (tt := tYes) (by rfl) sc_is_mark.nd (pi_str (pv 0)) (blkOk_by (N := N_is_mark) (sc := defScope s_is_mark) (by decide +kernel)) (fun _ _ _ _ _ => (pg_name (i := 1) sc_is_mark.nd rfl (by first | exact Or.inl rfl | exact Or.inr rfl))) (fun _ _ _ _ _ => pts_nil) (fun _ _ _ _ _ => (pe_cmpR oinC (pv 1) (pe_gSL (l := [97, 98, 99, 100, 101, 102, 103, 104, 105, 106, 107, 108, 109, 110, 111, 112, 113, 114, 115, 116, 117, 118, 119, 120, 121, 122]) rfl T.g_LETTERS) (by rfl)))) pa_nil))))))), ?_⟩
    rw [show L2.start N_is_mark [tx l] = [some (tx l), none] from rfl]
    walk_at "r"
    refine iteDT (by omega) ?_
    walk_at "r"
    refine iteDT (by omega) ?_
    walk_at "r"
    intro D hD
    refine lcM hD (wk_text l) (fun c => .bl (decide (c ∈ letters))) (by omega) (fun _ _ => trivial) (fun _ => rfl) (fun a _ H' _ Q' q => ?_) ?_
    · walk_at "r"
      exact q
    · walk_at "r"
      refine ⟨l.map fun c => decide (c ∈ letters), ⟨by simp⟩, ?_⟩
      rw [all_map, h1]
      exact k _ fun a o h => upd_old hD h
end
end FR
end
section
set_option Elab.async false
set_option linter.all false
set_option maxRecDepth 20000
set_option maxHeartbeats 1000000
namespace FR
open PySem PySem.Spec PyProof.Rows L2 FL
local macro_rules | `(tactic| walk_at "ne") => `(tactic| first | assumption | exact Ne.symm (by assumption))
local macro_rules | `(tactic| walk_at "hl") => `(tactic| first | assumption | exact upd_same | exact upd_old (by assumption) (by walk_at "hl") | exact (upd_ne (by walk_at "ne")).trans (by walk_at "hl"))
local macro_rules | `(tactic| walk_at "side") => `(tactic| first | rfl | assumption | omega | decide | exact Or.inl ⟨rfl, _, SqL.of (by walk_at "hl")⟩ | exact Or.inr (Or.inr (Or.inl ⟨rfl, Or.inl ⟨_, by walk_at "hl"⟩⟩)) | exact Or.inr (Or.inr (Or.inl ⟨rfl, Or.inr ⟨_, by walk_at "hl"⟩⟩)) | exact Or.inr ⟨by decide, by decide⟩ | exact Or.inl ⟨by omega, by omega⟩ | exact ⟨by decide, by decide, by decide⟩ | exact ⟨by first | omega | decide, by first | omega | decide⟩ | exact Nat.le_of_ble_eq_true rfl | exact Nat.le_trans (m := 1000000) (by omega) (by decide) | exact Nat.lt_of_le_of_lt (m := 1000000) (by omega) (by decide) | exact ⟨by omega, by omega, by omega, by omega⟩)
local macro_rules | `(tactic| walk_at "lk") => `(tactic| with_reducible first | exact lk_Sets_1_0 | exact lk_Sets_2_0 | exact lk_Sets_2_1 | exact lk_Sets_3_0 | exact lk_Sets_3_1 | exact lk_Sets_3_2 | exact lk_Sets_4_0 | exact lk_Sets_4_1 | exact lk_Sets_4_2 | exact lk_Sets_4_3 | exact lk_Sets_5_0 | exact lk_Sets_5_1 | exact lk_Sets_5_2 | exact lk_Sets_5_3 | exact lk_Sets_5_4 | exact lk_Mender_1_0 | exact lk_Mender_2_0 | exact lk_Mender_2_1 | exact lk_Mender_3_0 | exact lk_Mender_3_1 | exact lk_Mender_3_2 | exact lk_Mender_4_0 | exact lk_Mender_4_1 | exact lk_Mender_4_2 | exact lk_Mender_4_3)
local macro_rules | `(tactic| walk_at "pf") => `(tactic| with_reducible first | exact pf_Sets_1_0 | exact pf_Sets_2_0 | exact pf_Sets_2_1 | exact pf_Sets_3_0 | exact pf_Sets_3_1 | exact pf_Sets_3_2 | exact pf_Sets_4_0 | exact pf_Sets_4_1 | exact pf_Sets_4_2 | exact pf_Sets_4_3 | exact pf_Sets_5_0 | exact pf_Sets_5_1 | exact pf_Sets_5_2 | exact pf_Sets_5_3 | exact pf_Sets_5_4 | exact pn_Sets_0 | exact pn_Sets_1 | exact pn_Sets_2 | exact pn_Sets_3 | exact pn_Sets_4 | exact pf_Mender_1_0 | exact pf_Mender_2_0 | exact pf_Mender_2_1 | exact pf_Mender_3_0 | exact pf_Mender_3_1 | exact pf_Mender_3_2 | exact pf_Mender_4_0 | exact pf_Mender_4_1 | exact pf_Mender_4_2 | exact pf_Mender_4_3 | exact pn_Mender_0 | exact pn_Mender_1 | exact pn_Mender_2 | exact pn_Mender_3)
local macro_rules | `(tactic| walk_at "no") => `(tactic| with_reducible first | exact no_Sets_0___init__ | exact no_Sets_1___init__ | exact no_Sets_2___init__ | exact no_Sets_3___init__ | exact no_Sets_4___init__ | exact no_Sets_5___init__ | exact no_Sets_0_join | exact no_Sets_1_join | exact no_Sets_2_join | exact no_Sets_3_join | exact no_Sets_4_join | exact no_Sets_5_join | exact no_Sets_0_told_of | exact no_Sets_1_told_of | exact no_Sets_2_told_of | exact no_Sets_3_told_of | exact no_Sets_4_told_of | exact no_Sets_5_told_of | exact no_Sets_0_moved | exact no_Sets_1_moved | exact no_Sets_2_moved | exact no_Sets_3_moved | exact no_Sets_4_moved | exact no_Sets_5_moved | exact no_Sets_0_can_stop | exact no_Sets_1_can_stop | exact no_Sets_2_can_stop | exact no_Sets_3_can_stop | exact no_Sets_4_can_stop | exact no_Sets_5_can_stop | exact no_Mender_0___init__ | exact no_Mender_1___init__ | exact no_Mender_2___init__ | exact no_Mender_3___init__ | exact no_Mender_4___init__ | exact no_Mender_0_fill_last | exact no_Mender_1_fill_last | exact no_Mender_2_fill_last | exact no_Mender_3_fill_last | exact no_Mender_4_fill_last | exact no_Mender_0_spread | exact no_Mender_1_spread | exact no_Mender_2_spread | exact no_Mender_3_spread | exact no_Mender_4_spread | exact no_Mender_0_lessened | exact no_Mender_1_lessened | exact no_Mender_2_lessened | exact no_Mender_3_lessened | exact no_Mender_4_lessened | exact no_Mender_0_fill | exact no_Mender_1_fill | exact no_Mender_2_fill | exact no_Mender_3_fill | exact no_Mender_4_fill | exact no_Mender_0_least | exact no_Mender_1_least | exact no_Mender_2_least | exact no_Mender_3_least | exact no_Mender_4_least | exact no_Mender_0_steps_from | exact no_Mender_1_steps_from | exact no_Mender_2_steps_from | exact no_Mender_3_steps_from | exact no_Mender_4_steps_from | exact no_Mender_0_later | exact no_Mender_1_later | exact no_Mender_2_later | exact no_Mender_3_later | exact no_Mender_4_later | exact no_Mender_0_closed | exact no_Mender_1_closed | exact no_Mender_2_closed | exact no_Mender_3_closed | exact no_Mender_4_closed)
local macro_rules | `(tactic| walk_at "s") => `(tactic| first
   | refine ⟨_, rfl, ?_⟩
   | refine ⟨_, _, rfl, rfl, ?_⟩
   | refine ⟨_, _, rfl, ?_⟩
   | refine iteT ?_
   | refine iteF ?_
   | refine ⟨_, (show _ = some _ by walk_at "hl"), ?_⟩
   | refine ⟨_, (show Ins _ _ _ _ from Ins.of (by walk_at "hl")), ?_⟩
   | refine ⟨_, (show Lk _ _ _ by walk_at "lk"), ?_⟩
   | refine ⟨_, (show Pf _ _ _ _ by walk_at "pf"), ?_⟩
   | refine And.intro (show NoL _ _ by walk_at "no") ?_
   | refine ⟨_, _, rfl, SqL.of (by walk_at "hl"), ?_⟩
   | refine ⟨_, _, rfl, SqT.of (by walk_at "hl"), ?_⟩
   | refine And.intro ⟨_, SqL.of (by walk_at "hl")⟩ ?_
   | refine And.intro (by walk_at "side") ?_)
local macro_rules | `(tactic| walk_at "si") => `(tactic| first
   | walk_at "s"
   | refine iteD (fun _ => ?_) (fun _ => ?_)
   | refine iteDn (fun _ => ?_) (fun _ => ?_))
local macro_rules | `(tactic| walk_at "r") => `(tactic| repeat walk_at "s")
local macro_rules | `(tactic| walk_at "ri") => `(tactic| repeat walk_at "si")

abbrev N_has_form : List Str := ["thing"]
theorem sc_has_form : FnScope N_has_form ["thing"] (defScope s_has_form) := ⟨rfl, rfl, rfl, by decide +kernel, rfl, by decide +kernel, by decide +kernel⟩
abbrev N_parts_of : List Str := ["pattern", "sign", "part"]
theorem sc_parts_of : FnScope N_parts_of ["pattern"] (defScope s_parts_of) := ⟨rfl, rfl, rfl, by decide +kernel, rfl, by decide +kernel, by decide +kernel⟩
section
variable {P : Program} {w : World} {K : PySem.W.Frag} {mg : Str → Option Value} {base : Heap}
theorem form_le (p : Pat) : p.form.length ≤ 2 := by cases p <;> simp [Pat.form]
theorem Txt.forms (T : Txt w K mg) : ∀ p : Pat, WHas K T.a_FORMS p.word p.form
  | .none => T.k_FORMS_none | .empty => T.k_FORMS_empty | .sign _ => T.k_FORMS_sign | .thn _ _ => T.k_FORMS_then | .or _ _ => T.k_FORMS_or | .many _ => T.k_FORMS_many | .few _ => T.k_FORMS_few | .mark _ _ => T.k_FORMS_mark
theorem tail_len {H : Hp} {p : Pat} {xs : List V} (h : TailAt H xs p) : xs.length = p.form.length := by
  cases p <;> simp only [TailAt] at h
  · subst h; rfl
  · subst h; rfl
  · subst h; rfl
  · obtain ⟨x, y, rfl, _⟩ := h; rfl
  · obtain ⟨x, y, rfl, _⟩ := h; rfl
  · obtain ⟨x, rfl, _⟩ := h; rfl
  · obtain ⟨x, rfl, _⟩ := h; rfl
  · obtain ⟨x, rfl, _⟩ := h; rfl
def spHasForm : Sp := fun vs H Q _ => ∃ (v : V) (p : Pat), vs = [v] ∧ PatAt H v p ∧ p.ok = true ∧ ∀ H', Same H H' → Q (.bl true) H'
theorem ok_has_form {f : Addr} {fd : FuncData} (F : Fun K "has_form" "has_form" s_has_form f fd) (T : Txt w K mg) (D_is_lot : Df P w K mg base 2 "is_lot" ["thing"] spIsLot) (D_is_mark : Df P w K mg base 1 "is_mark" ["thing"] spIsMark) : FnOk P w K mg base (L2.CX P w) 3 f fd ["thing"] spHasForm := by
  refine F.okX sc_has_form (fun vs H Q E h => ?_) (fun cdv A outer s H vs Q E hr h => ?_)
  · obtain ⟨l, p, rfl, _⟩ := h
    rfl
  · obtain ⟨v, p, rfl, hp, ho, k⟩ := h
    obtain ⟨a, xs, rfl, ha, ht⟩ := hp.open_
    have hl := tail_len ht
    refine ⟨_, PSs.nox (pss_cons (ps_if (PW.pt (pw_or (pt_not (pt_val (pe_callB (cl_isi) (by rfl) T.b_isinstance (by decide +kernel) (pa_cons (pv 0) (pa_cons (pe_bltn (v := .ty "tuple") (u := .type "tuple") rfl T.b_tuple (by decide +kernel) rfl) pa_nil))))) (pw_or (pt_cmpR oeqI (pe_callB (cl_lenU) (by rfl) T.b_len (by decide +kernel) (pa_cons (pv 0) pa_nil)) pe_int (nomark _)) (pw_or (pt_not (pt_val (pe_callB (cl_isi) (by rfl) T.b_isinstance (by decide +kernel) (pa_cons (pe_ix ixtv (pv 0) pe_int (fun _ _ => rfl)) (pa_cons (pe_bltn (v := .ty "str") (u := .type "str") rfl T.b_str (by decide +kernel) rfl) pa_nil))))) (pw_or1 (pt_cmpR (oninW T.d_FORMS) (pe_ix ixtv (pv 0) pe_int (fun _ _ => rfl)) (pe_glob (v := .ref T.a_FORMS) rfl T.g_FORMS rfl) (by rfl))))))) (pss_one (ps_ret pe_bl)) pss_nil)
    (pss_cons (ps_if (pt_cmpR oneI (pe_callB (cl_lenU) (by rfl) T.b_len (by decide +kernel) (pa_cons (pv 0) pa_nil)) (pe_op oadd pe_int (pe_callB (cl_lenS) (by rfl) T.b_len (by decide +kernel) (pa_cons (pe_ix (ixW T.d_FORMS) (pe_glob (v := .ref T.a_FORMS) rfl T.g_FORMS rfl) (pe_ix ixtv (pv 0) pe_int (fun _ _ => rfl)) (fun _ _ => rfl)) pa_nil))) (nomark _)) (pss_one (ps_ret pe_bl)) pss_nil)
    (pss_cons (ps_if (pt_cmpR oeqS (pe_ix ixtv (pv 0) pe_int (fun _ _ => rfl)) (pe_strL (l := [115, 105, 103, 110]) (by decide +kernel)) (nomark _)) (pss_one (ps_ret (pe_callD D_is_lot (hr.mono (by decide)) passL (pa_cons (pe_ix ixtv (pv 0) pe_int (fun _ _ => rfl)) pa_nil)))) pss_nil)
    (pss_one (ps_ret (pe_or (pe_cmpR oneS (pe_ix ixtv (pv 0) pe_int (fun _ _ => rfl)) (pe_strL (l := [109, 97, 114, 107]) (by decide +kernel)) (nomark _)) (pe_one (pe_callD D_is_mark (hr.mono (by decide)) passL (pa_cons (pe_ix ixtv (pv 0) pe_int (fun _ _ => rfl)) pa_nil))))))))), ?_⟩
    rw [show L2.start N_has_form [V.ref a] = [some (V.ref a)] from rfl]
    refine ⟨_, rfl, _, _, rfl, "tuple", by simp only [clsOf, ha], ?_⟩
    walk_at "r"
    refine ⟨_, ⟨atI_0⟩, ?_⟩
    walk_at "r"
    refine ⟨_, ⟨atI_0⟩, ?_⟩
    walk_at "r"
    refine .inl ⟨⟨_, T.forms p⟩, ?_⟩
    walk_at "r"
    refine ⟨_, ⟨atI_0⟩, ?_⟩
    walk_at "r"
    refine ⟨_, T.forms p, ?_⟩
    refine ⟨_, rfl, Nat.le_trans (form_le p) (by decide), ?_⟩
    walk_at "r"
    refine iteNF (by rw [List.length_cons]; omega) ?_
    walk_at "r"
    refine ⟨_, ⟨atI_0⟩, ?_⟩
    walk_at "r"
    cases p with
    | sign l =>
      obtain rfl := ht
      walk_at "r"
      refine ⟨_, ⟨atI_1⟩, ?_⟩
      exact ⟨l, rfl, ho, fun H' s => k H' s⟩
    | mark m p =>
      obtain ⟨x, rfl, hx⟩ := ht
      walk_at "r"
      refine ⟨_, ⟨atI_0⟩, ?_⟩
      walk_at "r"
      refine ⟨_, ⟨atI_1⟩, ?_⟩
      simp only [Pat.ok, Bool.and_eq_true, decide_eq_true_eq] at ho
      exact ⟨m, rfl, ho.1.1.1, ho.1.1.2, ho.1.2, fun H' s => k H' s⟩
    | _ =>
      walk_at "r"
      refine ⟨_, ⟨atI_0⟩, ?_⟩
      walk_at "r"
      exact k H (Same.refl H)
/-! parts_of -/
def PatsAt (H : Hp) : List V → List Pat → Prop
  | [], [] => True
  | v :: vs, p :: ps => PatAt H v p ∧ PatsAt H vs ps
  | _, _ => False
theorem PatsAt.mono {H H' : Hp} (t : Tups H H') : ∀ {vs : List V} {ps : List Pat}, PatsAt H vs ps → PatsAt H' vs ps
  | [], [], _ => trivial
  | _ :: _, _ :: _, ⟨a, b⟩ => ⟨a.mono t, b.mono t⟩
  | [], _ :: _, h => h.elim
  | _ :: _, [], h => h.elim
theorem PatsAt.len {H : Hp} : ∀ {vs : List V} {ps : List Pat}, PatsAt H vs ps → vs.length = ps.length
  | [], [], _ => rfl
  | _ :: _, _ :: _, ⟨_, b⟩ => congrArg (· + 1) b.len
  | [], _ :: _, h => h.elim
  | _ :: _, [], h => h.elim
/-- the items whose sign in the form is p -/
def pick : List Nat → List V → List V
  | c :: cs, x :: xs => if c = 112 then x :: pick cs xs else pick cs xs
  | _, _ => []
theorem pick_tail {H : Hp} {p : Pat} {xs : List V} (h : TailAt H xs p) : PatsAt H (pick p.form xs) p.kids := by
  cases p <;> simp only [TailAt] at h
  · subst h; trivial
  · subst h; trivial
  · subst h; trivial
  · obtain ⟨x, y, rfl, hx, hy⟩ := h; exact ⟨hx, hy, trivial⟩
  · obtain ⟨x, y, rfl, hx, hy⟩ := h; exact ⟨hx, hy, trivial⟩
  · obtain ⟨x, rfl, hx⟩ := h; exact ⟨hx, trivial⟩
  · obtain ⟨x, rfl, hx⟩ := h; exact ⟨hx, trivial⟩
  · obtain ⟨x, rfl, hx⟩ := h; exact ⟨hx, trivial⟩
theorem pick_take : ∀ {cs : List Nat} {xs : List V} {i : Nat} {c : Nat} {x : V}, cs[i]? = some c → xs[i]? = some x → pick (cs.take (i + 1)) (xs.take (i + 1)) = pick (cs.take i) (xs.take i) ++ (if c = 112 then [x] else [])
  | c :: cs, x :: xs, 0, d, y, h1, h2 => by
    simp only [List.getElem?_cons_zero, Option.some.injEq] at h1 h2
    subst h1 h2
    by_cases h : c = 112 <;> simp [pick, h]
  | c :: cs, x :: xs, i + 1, d, y, h1, h2 => by
    simp only [List.getElem?_cons_succ] at h1 h2
    have ih := pick_take h1 h2
    show pick (c :: cs.take (i + 1)) (x :: xs.take (i + 1)) = pick (c :: cs.take i) (x :: xs.take i) ++ _
    unfold pick
    rw [ih]
    by_cases h : c = 112 <;> simp [h]
  | [], _, _, _, _, h, _ => by simp at h
  | _ :: _, [], _, _, _, _, h => by simp at h
def spPartsOf : Sp := fun vs H Q _ => ∃ (v : V) (p : Pat), vs = [v] ∧ PatAt H v p ∧ ∀ l ys H', Same H H' → H l = none → H' l = some (.lst ys) → PatsAt H' ys p.kids → Q (.ref l) H'
theorem ok_parts_of {f : Addr} {fd : FuncData} (F : Fun K "parts_of" "parts_of" s_parts_of f fd) (T : Txt w K mg) : FnOk P w K mg base (L2.CX P w) 1 f fd ["pattern"] spPartsOf := by
  refine F.okX sc_parts_of (fun vs H Q E h => ?_) (fun cdv A outer s H vs Q E hr h => ?_)
  · obtain ⟨l, p, rfl, _⟩ := h
    rfl
  · obtain ⟨v, p, rfl, hp, k⟩ := h
    obtain ⟨a, xs, rfl, ha, ht⟩ := hp.open_
    have hl := tail_len ht
    refine ⟨_, PSs.nox (pss_one (ps_ret (pe_lc (own := [("sign", 1), ("part", 2)]) (g := gTupF 2 (gCons (gName 1) (gCons (gName 2) gNil))) (by rfl) sc_parts_of.nd (pi_zipST (by rfl) T.b_zip (pa_cons (pe_ix (ixW T.d_FORMS) (pe_glob (v := .ref T.a_FORMS) rfl T.g_FORMS rfl) (pe_ix ixtv (pv 0) pe_int (fun _ _ => rfl)) (fun _ _ => rfl)) (pa_cons (pe_slice sl_tup (pv 0) (po_some pe_int) po_none) pa_nil))) (blkOk_by (N := N_parts_of) (sc := defScope s_parts_of) (by decide +kernel)) (fun _ _ _ _ _ => (pg_tupF (n := 2) rfl (pgs_cons (pg_name (i := 1) sc_parts_of.nd rfl (by first | exact Or.inl rfl | exact Or.inr rfl)) (pgs_cons (pg_name (i := 2) sc_parts_of.nd rfl (by first | exact Or.inl rfl | exact Or.inr rfl)) pgs_nil)))) (fun _ _ _ _ _ => (pts_one (pt_cmpR oeqS (pv 1) (pe_strL (l := [112]) (by decide +kernel)) (nomark _)))) (fun _ _ _ _ _ => (pv 2))))), ?_⟩
    rw [show L2.start N_parts_of [V.ref a] = [some (V.ref a), none, none] from rfl]
    walk_at "r"
    refine ⟨_, ⟨atI_0⟩, ?_⟩
    walk_at "r"
    refine ⟨_, T.forms p, ?_⟩
    walk_at "r"
    refine ⟨not_whole _ _, fun z hz => ?_⟩
    rw [cutV_tail]
    refine ⟨_, _, _, rfl, SqT.of upd_same, ?_⟩
    have s1 : Same H (L2.upd H z (.tup xs)) := fun b o h => upd_old hz h
    intro D hD
    refine lc_it (wk_zipST p.form xs hl.symm) (fun i H' => Same (L2.upd H z (.tup xs)) H' ∧ H' D = some (.lst (pick (p.form.take i) (xs.take i)))) ⟨fun b o h => upd_old hD h, upd_same⟩ (fun i H' _ h => SqT.of (h.1 _ _ upd_same)) ?_ ?_
    · rintro i x H1 H2 hi ⟨s2, hD2⟩ ⟨t, c, y, rfl, ht1, rfl, hc, hy⟩
      have hD3 : (L2.upd H1 t (.tup [tx [c], y])) D = some (.lst (pick (p.form.take i) (xs.take i))) := upd_old ht1 hD2
      refine ⟨_, rfl, _, upd_same, rfl, ?_⟩
      walk_at "r"
      have hp2 := pick_take hc hy
      refine iteD (fun e => ?_) (fun e => ?_)
      · obtain rfl : c = 112 := by simpa using e
        walk_at "r"
        refine ⟨Nat.lt_of_le_of_lt (m := 2) ?_ (by decide), ?_, ?_⟩
        · have : ∀ (cs : List Nat) (xs : List V), (pick cs xs).length ≤ cs.length := by
            intro cs
            induction cs with
            | nil => intro xs; simp [pick]
            | cons c cs ih =>
              intro xs
              cases xs with
              | nil => simp [pick]
              | cons x xs =>
                unfold pick
                have := ih xs
                split <;> simp only [List.length_cons] <;> omega
          have h2 := this (p.form.take i) (xs.take i)
          have h3 := form_le p
          rw [List.length_take] at h2
          omega
        · intro b o h
          rw [upd_ne (ne_of_none h hD)]
          exact upd_old ht1 (s2 b o h)
        · rw [hp2, if_pos rfl]
          exact upd_same
      · refine ⟨fun b o h => upd_old ht1 (s2 b o h), ?_⟩
        rw [hp2, if_neg (by simpa using e), List.append_nil]
        exact hD3
    · rintro H' ⟨s2, hD2⟩
      rw [List.take_length, show p.form.length = xs.length from hl.symm, List.take_length] at hD2
      have s3 : Same H H' := fun b o h => s2 _ _ (s1 _ _ h)
      exact k D _ H' s3 (s1.free hD) hD2 ((pick_tail ht).mono (Tups.of s3))
end
end FR
end
section
set_option Elab.async false
set_option linter.all false
set_option maxRecDepth 20000
set_option maxHeartbeats 1000000
namespace FR
open PySem PySem.Spec PyProof.Rows L2 FL
local macro_rules | `(tactic| walk_at "ne") => `(tactic| first | assumption | exact Ne.symm (by assumption))
local macro_rules | `(tactic| walk_at "hl") => `(tactic| first | assumption | exact upd_same | exact upd_old (by assumption) (by walk_at "hl") | exact (upd_ne (by walk_at "ne")).trans (by walk_at "hl"))
local macro_rules | `(tactic| walk_at "side") => `(tactic| first | rfl | assumption | omega | decide | exact Or.inl ⟨rfl, _, SqL.of (by walk_at "hl")⟩ | exact Or.inr (Or.inr (Or.inl ⟨rfl, Or.inl ⟨_, by walk_at "hl"⟩⟩)) | exact Or.inr (Or.inr (Or.inl ⟨rfl, Or.inr ⟨_, by walk_at "hl"⟩⟩)) | exact Or.inr ⟨by decide, by decide⟩ | exact Or.inl ⟨by omega, by omega⟩ | exact ⟨by decide, by decide, by decide⟩ | exact ⟨by first | omega | decide, by first | omega | decide⟩ | exact Nat.le_of_ble_eq_true rfl | exact Nat.le_trans (m := 1000000) (by omega) (by decide) | exact Nat.lt_of_le_of_lt (m := 1000000) (by omega) (by decide) | exact ⟨by omega, by omega, by omega, by omega⟩)
local macro_rules | `(tactic| walk_at "lk") => `(tactic| with_reducible first | exact lk_Sets_1_0 | exact lk_Sets_2_0 | exact lk_Sets_2_1 | exact lk_Sets_3_0 | exact lk_Sets_3_1 | exact lk_Sets_3_2 | exact lk_Sets_4_0 | exact lk_Sets_4_1 | exact lk_Sets_4_2 | exact lk_Sets_4_3 | exact lk_Sets_5_0 | exact lk_Sets_5_1 | exact lk_Sets_5_2 | exact lk_Sets_5_3 | exact lk_Sets_5_4 | exact lk_Mender_1_0 | exact lk_Mender_2_0 | exact lk_Mender_2_1 | exact lk_Mender_3_0 | exact lk_Mender_3_1 | exact lk_Mender_3_2 | exact lk_Mender_4_0 | exact lk_Mender_4_1 | exact lk_Mender_4_2 | exact lk_Mender_4_3)
local macro_rules | `(tactic| walk_at "pf") => `(tactic| with_reducible first | exact pf_Sets_1_0 | exact pf_Sets_2_0 | exact pf_Sets_2_1 | exact pf_Sets_3_0 | exact pf_Sets_3_1 | exact pf_Sets_3_2 | exact pf_Sets_4_0 | exact pf_Sets_4_1 | exact pf_Sets_4_2 | exact pf_Sets_4_3 | exact pf_Sets_5_0 | exact pf_Sets_5_1 | exact pf_Sets_5_2 | exact pf_Sets_5_3 | exact pf_Sets_5_4 | exact pn_Sets_0 | exact pn_Sets_1 | exact pn_Sets_2 | exact pn_Sets_3 | exact pn_Sets_4 | exact pf_Mender_1_0 | exact pf_Mender_2_0 | exact pf_Mender_2_1 | exact pf_Mender_3_0 | exact pf_Mender_3_1 | exact pf_Mender_3_2 | exact pf_Mender_4_0 | exact pf_Mender_4_1 | exact pf_Mender_4_2 | exact pf_Mender_4_3 | exact pn_Mender_0 | exact pn_Mender_1 | exact pn_Mender_2 | exact pn_Mender_3)
local macro_rules | `(tactic| walk_at "no") => `(tactic| with_reducible first | exact no_Sets_0___init__ | exact no_Sets_1___init__ | exact no_Sets_2___init__ | exact no_Sets_3___init__ | exact no_Sets_4___init__ | exact no_Sets_5___init__ | exact no_Sets_0_join | exact no_Sets_1_join | exact no_Sets_2_join | exact no_Sets_3_join | exact no_Sets_4_join | exact no_Sets_5_join | exact no_Sets_0_told_of | exact no_Sets_1_told_of | exact no_Sets_2_told_of | exact no_Sets_3_told_of | exact no_Sets_4_told_of | exact no_Sets_5_told_of | exact no_Sets_0_moved | exact no_Sets_1_moved | exact no_Sets_2_moved | exact no_Sets_3_moved | exact no_Sets_4_moved | exact no_Sets_5_moved | exact no_Sets_0_can_stop | exact no_Sets_1_can_stop | exact no_Sets_2_can_stop | exact no_Sets_3_can_stop | exact no_Sets_4_can_stop | exact no_Sets_5_can_stop | exact no_Mender_0___init__ | exact no_Mender_1___init__ | exact no_Mender_2___init__ | exact no_Mender_3___init__ | exact no_Mender_4___init__ | exact no_Mender_0_fill_last | exact no_Mender_1_fill_last | exact no_Mender_2_fill_last | exact no_Mender_3_fill_last | exact no_Mender_4_fill_last | exact no_Mender_0_spread | exact no_Mender_1_spread | exact no_Mender_2_spread | exact no_Mender_3_spread | exact no_Mender_4_spread | exact no_Mender_0_lessened | exact no_Mender_1_lessened | exact no_Mender_2_lessened | exact no_Mender_3_lessened | exact no_Mender_4_lessened | exact no_Mender_0_fill | exact no_Mender_1_fill | exact no_Mender_2_fill | exact no_Mender_3_fill | exact no_Mender_4_fill | exact no_Mender_0_least | exact no_Mender_1_least | exact no_Mender_2_least | exact no_Mender_3_least | exact no_Mender_4_least | exact no_Mender_0_steps_from | exact no_Mender_1_steps_from | exact no_Mender_2_steps_from | exact no_Mender_3_steps_from | exact no_Mender_4_steps_from | exact no_Mender_0_later | exact no_Mender_1_later | exact no_Mender_2_later | exact no_Mender_3_later | exact no_Mender_4_later | exact no_Mender_0_closed | exact no_Mender_1_closed | exact no_Mender_2_closed | exact no_Mender_3_closed | exact no_Mender_4_closed)
local macro_rules | `(tactic| walk_at "s") => `(tactic| first
   | refine ⟨_, rfl, ?_⟩
   | refine ⟨_, _, rfl, rfl, ?_⟩
   | refine ⟨_, _, rfl, ?_⟩
   | refine iteT ?_
   | refine iteF ?_
   | refine ⟨_, (show _ = some _ by walk_at "hl"), ?_⟩
   | refine ⟨_, (show Ins _ _ _ _ from Ins.of (by walk_at "hl")), ?_⟩
   | refine ⟨_, (show Lk _ _ _ by walk_at "lk"), ?_⟩
   | refine ⟨_, (show Pf _ _ _ _ by walk_at "pf"), ?_⟩
   | refine And.intro (show NoL _ _ by walk_at "no") ?_
   | refine ⟨_, _, rfl, SqL.of (by walk_at "hl"), ?_⟩
   | refine ⟨_, _, rfl, SqT.of (by walk_at "hl"), ?_⟩
   | refine And.intro ⟨_, SqL.of (by walk_at "hl")⟩ ?_
   | refine And.intro (by walk_at "side") ?_)
local macro_rules | `(tactic| walk_at "si") => `(tactic| first
   | walk_at "s"
   | refine iteD (fun _ => ?_) (fun _ => ?_)
   | refine iteDn (fun _ => ?_) (fun _ => ?_))
local macro_rules | `(tactic| walk_at "r") => `(tactic| repeat walk_at "s")
local macro_rules | `(tactic| walk_at "ri") => `(tactic| repeat walk_at "si")

abbrev N_is_pattern : List Str := ["thing", "many", "waiting", "here", "depth", "part"]
theorem sc_is_pattern : FnScope N_is_pattern ["thing"] (defScope s_is_pattern) := ⟨rfl, rfl, rfl, by decide +kernel, rfl, by decide +kernel, by decide +kernel⟩
abbrev N_check_pattern : List Str := ["thing"]
theorem sc_check_pattern : FnScope N_check_pattern ["thing"] (defScope s_check_pattern) := ⟨rfl, rfl, rfl, by decide +kernel, rfl, by decide +kernel, by decide +kernel⟩
section
variable {P : Program} {w : World} {K : PySem.W.Frag} {mg : Str → Option Value} {base : Heap}
theorem PatsAt.pd {H : Hp} : ∀ {vs : List V} {ps : List Pat}, PatsAt H vs ps → Paired (PatAt H) vs ps
  | [], [], _ => .nil
  | _ :: _, _ :: _, ⟨a, b⟩ => .cons a b.pd
  | [], _ :: _, h => h.elim
  | _ :: _, [], h => h.elim
/-- a pair (pattern, depth) that waits -/
def Wt (H : Hp) (v : V) (t : Pat × Int) : Prop := ∃ a x, v = .ref a ∧ H a = some (.tup [x, .int t.2]) ∧ PatAt H x t.1
theorem Wt.mono {H H' : Hp} (t : Tups H H') {v : V} {q : Pat × Int} : Wt H v q → Wt H' v q := fun ⟨a, x, e, h, p⟩ => ⟨a, x, e, t _ _ h, p.mono t⟩
theorem deep_kids (p q : Pat) (h : q ∈ p.kids) : q.deep + 1 ≤ p.deep := by
  cases p <;> simp only [Pat.kids, List.mem_cons, List.not_mem_nil, or_false] at h <;> simp only [Pat.deep]
  · rcases h with rfl | rfl <;> omega
  · rcases h with rfl | rfl <;> omega
  · subst h; omega
  · subst h; omega
  · subst h; omega
theorem ok_kids (p q : Pat) (ho : p.ok = true) (h : q ∈ p.kids) : q.ok = true := by
  cases p <;> simp only [Pat.kids, List.mem_cons, List.not_mem_nil, or_false] at h <;> simp only [Pat.ok, Bool.and_eq_true] at ho
  · rcases h with rfl | rfl
    · exact ho.1
    · exact ho.2
  · rcases h with rfl | rfl
    · exact ho.1
    · exact ho.2
  · subst h; exact ho
  · subst h; exact ho
  · subst h; exact ho.2
theorem snoc_of {α : Type} {l : List α} (h : 0 < l.length) : ∃ xs x, l = xs ++ [x] := by
  refine ⟨l.dropLast, l.getLast (fun e => by rw [e] at h; simp at h), ?_⟩
  exact (List.dropLast_concat_getLast _).symm
def Small (p : Pat) : Prop := p.ok = true ∧ p.size ≤ 60 ∧ p.deep ≤ 15
def spIsPattern : Sp := fun vs H Q _ => ∃ (v : V) (p : Pat), vs = [v] ∧ PatAt H v p ∧ Small p ∧ ∀ H', Same H H' → Q (.bl true) H'
theorem ok_is_pattern {f : Addr} {fd : FuncData} (F : Fun K "is_pattern" "is_pattern" s_is_pattern f fd) (T : Txt w K mg) (D_has_form : Df P w K mg base 3 "has_form" ["thing"] spHasForm) (D_parts_of : Df P w K mg base 1 "parts_of" ["pattern"] spPartsOf) : FnOk P w K mg base (L2.CX P w) 4 f fd ["thing"] spIsPattern := by
  refine F.okX sc_is_pattern (fun vs H Q E h => ?_) (fun cdv A outer s H vs Q E hr h => ?_)
  · obtain ⟨l, p, rfl, _⟩ := h
    rfl
  · obtain ⟨v, p, rfl, hp, ⟨ho, hs, hd⟩, k⟩ := h
    refine ⟨_, PSs.nox (pss_cons (ps_par (i := 1) (j := 2) (by rfl) sc_is_pattern.nd rfl rfl (by decide) rfl rfl (pa_cons pe_int (pa_cons (pe_lst (pa_cons (pe_tup (pa_cons (pv 0) (pa_cons pe_int pa_nil))) pa_nil)) pa_nil)) (by rfl))
    (pss_cons (ps_while PassesOwn.never (pt_cmpR ogt (pe_callB (cl_lenL) (by rfl) T.b_len (by decide +kernel) (pa_cons (pv 2) pa_nil)) pe_int (nomark _)) (pss_cons (ps_asg (pe_bm0 PySem.F.plainAttrs_list PySem.F.slot_list_pop PySem.F.type_list_pop (mpop) (pv 2)) (pg_tupF (n := 2) rfl (pgs_cons (pg_name (i := 3) sc_is_pattern.nd rfl (by first | exact Or.inl rfl | exact Or.inr rfl)) (pgs_cons (pg_name (i := 4) sc_is_pattern.nd rfl (by first | exact Or.inl rfl | exact Or.inr rfl)) pgs_nil))))
      (pss_cons (ps_aug (i := 1) sc_is_pattern.nd rfl (by first | exact Or.inl rfl | exact Or.inr rfl) pe_int ip_add)
      (pss_cons (ps_if (PW.pt (pw_or (pt_cmpR ogt (pv 1) (pe_gI rfl T.g_MOST_NODES) (nomark _)) (pw_or (pt_cmpR ogt (pv 4) (pe_gI rfl T.g_MOST_DEEP) (nomark _)) (pw_or1 (pt_not (pt_val (pe_callD D_has_form (hr.mono (by decide)) passL (pa_cons (pv 3) pa_nil)))))))) (pss_one (ps_ret pe_bl)) pss_nil)
      (pss_one (ps_expr (pe_bm PySem.F.plainAttrs_list PySem.F.slot_list_extend PySem.F.type_list_extend (mextend) (pv 2) (pa_cons (pe_lc (own := [("part", 5)]) (g := gName 5) (tt := tYes) (by rfl) sc_is_pattern.nd (pi_list (pe_callD D_parts_of (hr.mono (by decide)) passL (pa_cons (pv 3) pa_nil))) (blkOk_by (N := N_is_pattern) (sc := defScope s_is_pattern) (by decide +kernel)) (fun _ _ _ _ _ => (pg_name (i := 5) sc_is_pattern.nd rfl (by first | exact Or.inl rfl | exact Or.inr rfl))) (fun _ _ _ _ _ => pts_nil) (fun _ _ _ _ _ => (pe_tup (pa_cons (pv 5) (pa_cons (pe_op oadd (pv 4) pe_int) pa_nil))))) pa_nil))))))))
    (pss_one (ps_ret pe_bl)))), ?_⟩
    rw [show L2.start N_is_pattern [v] = [some (v), none, none, none, none, none] from rfl]
    walk_at "r"
    intro t ht
    walk_at "r"
    intro l hl
    walk_at "r"
    have s0 : Same H (L2.upd (L2.upd H t (.tup [v, .int 1])) l (.lst [.ref t])) := fun b o h => upd_old hl (upd_old ht h)
    refine ⟨fun m σ H' => ∃ vs ts many h d, σ = [some v, some (.int many), some (.ref l), h, d, none] ∧ Same H H' ∧ H l = none ∧ H' l = some (.lst vs) ∧ Paired (Wt H') vs ts ∧ many = p.size - tsize ts ∧ tsize ts ≤ p.size ∧ (∀ q ∈ ts, q.1.ok = true ∧ q.2 + q.1.deep ≤ 16) ∧ m = tsize ts, ⟨p.size, ?_⟩, ?_⟩
    · exact ⟨[.ref t], [(p, 1)], 0, none, none, rfl, s0, (Same.free (H := H) (H' := L2.upd H t (.tup [v, .int 1])) (fun b o h => upd_old ht h) hl), upd_same, pd_one ⟨t, v, rfl, upd_old hl upd_same, hp.mono (Tups.of s0)⟩, by simp [tsize], by simp [tsize], by simp [ho]; omega, by simp [tsize]⟩
    · rintro m σ H1 ⟨vs, ts, many, h, d, rfl, s1, hl0, hl1, hpd, hm, hts, hall, rfl⟩
      walk_at "r"
      refine iteD (fun hne => ?_) (fun hz => ?_)
      · refine ⟨fun σ' H' => Stop _, fun σ' H' h => h.o, ?_⟩
        obtain ⟨ts', ⟨q, dq⟩, rfl⟩ := snoc_of (l := ts) (by rw [← Paired.length hpd]; omega)
        obtain ⟨vs', v', rfl, hpd', ⟨a, x, rfl, ha, hx⟩⟩ := pd_snoc hpd
        rw [tsize_snoc] at hts hm ⊢
        have hq := hall _ (List.mem_append_right _ (List.mem_singleton.mpr rfl))
        have hsz := size_pos q
        have hal : a ≠ l := ne_of ha hl1 (by simp)
        have hdp : 1 ≤ q.deep := by cases q <;> simp only [Pat.deep] <;> omega
        simp only at hts hm hq hall ha hx
        walk_at "r"
        refine ⟨_, _, ⟨rfl⟩, ?_⟩
        walk_at "r"
        refine iteDF (by first | omega | (dsimp only; omega)) ?_
        walk_at "r"
        refine iteDF (by first | omega | (dsimp only; omega)) ?_
        walk_at "r"
        have t1 : Tups H1 (L2.upd H1 l (.lst vs')) := Tups.upd hl1 (by simp)
        refine ⟨x, q, rfl, hx.mono t1, hq.1, fun H2 s2 => ?_⟩
        have hl2 : H2 l = some (.lst vs') := s2 _ _ upd_same
        walk_at "r"
        refine ⟨x, q, rfl, hx.mono (t1.trans (Tups.of s2)), fun p2 ys H3 s3 hp2 hy hys => ?_⟩
        walk_at "r"
        intro D hD
        refine lcI hD (wk_list ys id) (fun _ => true) (fun done zs H' => Paired (fun z y => ∃ t, z = V.ref t ∧ H' t = some (.tup [y, .int (dq + 1)])) zs done) ?_ (fun H' s' => ?_) (fun _ => rfl) .nil (fun a _ H' _ Q' q => q) ?_ ?_
        · have h1 := hys.len
          have h2 : q.kids.length ≤ 2 := by cases q <;> simp [Pat.kids]
          omega
        · rw [List.map_id]
          exact SqL.of (s' _ _ hy)
        · intro y done zs H' _ _ s' hzD hI Q' hQ'
          walk_at "r"
          intro tn htn
          refine hQ' _ _ (fun b o h => upd_old htn h) ?_
          have hDn : tn ≠ D := Ne.symm (ne_of_none hzD htn)
          have m1 : Tups H' (L2.upd (L2.upd H' tn (.tup [y, .int (dq + 1)])) D (.lst (zs ++ [.ref tn]))) := Tups.trans (Tups.new htn) (Tups.upd (upd_old htn hzD) (by simp))
          exact pd_append (Paired.mapP hI fun z y' ⟨t, e, h⟩ => ⟨t, e, m1 _ _ h⟩) (pd_one ⟨tn, rfl, by rw [upd_ne hDn]; exact upd_same⟩)
        · intro zs H4 s4 hz hI
          rw [List.filter_eq_self.mpr (fun _ _ => rfl)] at hI
          have hl4 : H4 l = some (.lst vs') := s4 _ _ (s3 _ _ (s2 _ _ upd_same))
          have hlD : l ≠ D := ne_of_none (s3 _ _ (s2 _ _ upd_same)) hD
          have hzl : zs.length = q.kids.length := by rw [Paired.length hI, hys.len]
          have hk2 : q.kids.length ≤ 2 := by cases q <;> simp [Pat.kids]
          have hvl : vs'.length = ts'.length := Paired.length hpd'
          have htl : ts'.length ≤ tsize ts' := by
            have : ∀ l : List (Pat × Int), l.length ≤ tsize l := by
              intro l
              induction l with
              | nil => simp
              | cons a l ih =>
                have := size_pos a.1
                simp only [List.length_cons, tsize, List.map_cons, List.sum_cons] at ih ⊢
                omega
            exact this ts'
          walk_at "r"
          have t4 : Tups H1 H4 := t1.trans ((Tups.of s2).trans ((Tups.of s3).trans (Tups.of s4)))
          have t5 : Tups H4 (L2.upd H4 l (.lst (vs' ++ zs))) := Tups.upd hl4 (by simp)
          refine Stop.i ?_
          refine ⟨tsize (ts' ++ q.kids.map fun r => (r, dq + 1)), ?_, vs' ++ zs, ts' ++ q.kids.map fun r => (r, dq + 1), _, _, _, rfl, ?_, hl0, upd_same, ?_, ?_, ?_, ?_, rfl⟩
          · rw [tsize_app]
            have := size_kids q
            have e : tsize (q.kids.map fun r => (r, dq + 1)) = (q.kids.map Pat.size).sum := by simp [tsize, Function.comp_def]
            dsimp only
            omega
          · intro b o hb
            rw [upd_ne (ne_of_none hb hl0)]
            refine s4 _ _ (s3 _ _ (s2 _ _ ?_))
            rw [upd_ne (ne_of_none hb hl0)]
            exact s1 _ _ hb
          · refine pd_append (Paired.mapP hpd' fun v t h => h.mono (t4.trans t5)) (pd_map (pd_trans (F := fun z y => ∃ t, z = V.ref t ∧ H4 t = some (.tup [y, .int (dq + 1)])) (H := PatAt H3) ?_ hI hys.pd))
            rintro z y r ⟨t, rfl, h1⟩ h2
            exact ⟨t, y, rfl, t5 _ _ h1, h2.mono ((Tups.of s4).trans t5)⟩
          · rw [tsize_app]
            have := size_kids q
            have e : tsize (q.kids.map fun r => (r, dq + 1)) = (q.kids.map Pat.size).sum := by simp [tsize, Function.comp_def]
            dsimp only
            omega
          · rw [tsize_app]
            have := size_kids q
            have e : tsize (q.kids.map fun r => (r, dq + 1)) = (q.kids.map Pat.size).sum := by simp [tsize, Function.comp_def]
            omega
          · intro r hr
            rcases List.mem_append.mp hr with hr | hr
            · exact hall r (List.mem_append_left _ hr)
            · obtain ⟨r', hr', rfl⟩ := List.mem_map.mp hr
              have := deep_kids q r' hr'
              exact ⟨ok_kids q r' hq.1 hr', by simp only; omega⟩
      · walk_at "r"
        exact k H1 s1
end
end FR
end
section
set_option Elab.async false
set_option linter.all false
set_option maxRecDepth 20000
set_option maxHeartbeats 1000000
namespace FR
open PySem PySem.Spec PyProof.Rows L2 FL
local macro_rules | `(tactic| walk_at "ne") => `(tactic| first | assumption | exact Ne.symm (by assumption))
local macro_rules | `(tactic| walk_at "hl") => `(tactic| first | assumption | exact upd_same | exact upd_old (by assumption) (by walk_at "hl") | exact (upd_ne (by walk_at "ne")).trans (by walk_at "hl"))
local macro_rules | `(tactic| walk_at "side") => `(tactic| first | rfl | assumption | omega | decide | exact Or.inl ⟨rfl, _, SqL.of (by walk_at "hl")⟩ | exact Or.inr (Or.inr (Or.inl ⟨rfl, Or.inl ⟨_, by walk_at "hl"⟩⟩)) | exact Or.inr (Or.inr (Or.inl ⟨rfl, Or.inr ⟨_, by walk_at "hl"⟩⟩)) | exact Or.inr ⟨by decide, by decide⟩ | exact Or.inl ⟨by omega, by omega⟩ | exact ⟨by decide, by decide, by decide⟩ | exact ⟨by first | omega | decide, by first | omega | decide⟩ | exact Nat.le_of_ble_eq_true rfl | exact Nat.le_trans (m := 1000000) (by omega) (by decide) | exact Nat.lt_of_le_of_lt (m := 1000000) (by omega) (by decide) | exact ⟨by omega, by omega, by omega, by omega⟩)
local macro_rules | `(tactic| walk_at "lk") => `(tactic| with_reducible first | exact lk_Sets_1_0 | exact lk_Sets_2_0 | exact lk_Sets_2_1 | exact lk_Sets_3_0 | exact lk_Sets_3_1 | exact lk_Sets_3_2 | exact lk_Sets_4_0 | exact lk_Sets_4_1 | exact lk_Sets_4_2 | exact lk_Sets_4_3 | exact lk_Sets_5_0 | exact lk_Sets_5_1 | exact lk_Sets_5_2 | exact lk_Sets_5_3 | exact lk_Sets_5_4 | exact lk_Mender_1_0 | exact lk_Mender_2_0 | exact lk_Mender_2_1 | exact lk_Mender_3_0 | exact lk_Mender_3_1 | exact lk_Mender_3_2 | exact lk_Mender_4_0 | exact lk_Mender_4_1 | exact lk_Mender_4_2 | exact lk_Mender_4_3)
local macro_rules | `(tactic| walk_at "pf") => `(tactic| with_reducible first | exact pf_Sets_1_0 | exact pf_Sets_2_0 | exact pf_Sets_2_1 | exact pf_Sets_3_0 | exact pf_Sets_3_1 | exact pf_Sets_3_2 | exact pf_Sets_4_0 | exact pf_Sets_4_1 | exact pf_Sets_4_2 | exact pf_Sets_4_3 | exact pf_Sets_5_0 | exact pf_Sets_5_1 | exact pf_Sets_5_2 | exact pf_Sets_5_3 | exact pf_Sets_5_4 | exact pn_Sets_0 | exact pn_Sets_1 | exact pn_Sets_2 | exact pn_Sets_3 | exact pn_Sets_4 | exact pf_Mender_1_0 | exact pf_Mender_2_0 | exact pf_Mender_2_1 | exact pf_Mender_3_0 | exact pf_Mender_3_1 | exact pf_Mender_3_2 | exact pf_Mender_4_0 | exact pf_Mender_4_1 | exact pf_Mender_4_2 | exact pf_Mender_4_3 | exact pn_Mender_0 | exact pn_Mender_1 | exact pn_Mender_2 | exact pn_Mender_3)
local macro_rules | `(tactic| walk_at "no") => `(tactic| with_reducible first | exact no_Sets_0___init__ | exact no_Sets_1___init__ | exact no_Sets_2___init__ | exact no_Sets_3___init__ | exact no_Sets_4___init__ | exact no_Sets_5___init__ | exact no_Sets_0_join | exact no_Sets_1_join | exact no_Sets_2_join | exact no_Sets_3_join | exact no_Sets_4_join | exact no_Sets_5_join | exact no_Sets_0_told_of | exact no_Sets_1_told_of | exact no_Sets_2_told_of | exact no_Sets_3_told_of | exact no_Sets_4_told_of | exact no_Sets_5_told_of | exact no_Sets_0_moved | exact no_Sets_1_moved | exact no_Sets_2_moved | exact no_Sets_3_moved | exact no_Sets_4_moved | exact no_Sets_5_moved | exact no_Sets_0_can_stop | exact no_Sets_1_can_stop | exact no_Sets_2_can_stop | exact no_Sets_3_can_stop | exact no_Sets_4_can_stop | exact no_Sets_5_can_stop | exact no_Mender_0___init__ | exact no_Mender_1___init__ | exact no_Mender_2___init__ | exact no_Mender_3___init__ | exact no_Mender_4___init__ | exact no_Mender_0_fill_last | exact no_Mender_1_fill_last | exact no_Mender_2_fill_last | exact no_Mender_3_fill_last | exact no_Mender_4_fill_last | exact no_Mender_0_spread | exact no_Mender_1_spread | exact no_Mender_2_spread | exact no_Mender_3_spread | exact no_Mender_4_spread | exact no_Mender_0_lessened | exact no_Mender_1_lessened | exact no_Mender_2_lessened | exact no_Mender_3_lessened | exact no_Mender_4_lessened | exact no_Mender_0_fill | exact no_Mender_1_fill | exact no_Mender_2_fill | exact no_Mender_3_fill | exact no_Mender_4_fill | exact no_Mender_0_least | exact no_Mender_1_least | exact no_Mender_2_least | exact no_Mender_3_least | exact no_Mender_4_least | exact no_Mender_0_steps_from | exact no_Mender_1_steps_from | exact no_Mender_2_steps_from | exact no_Mender_3_steps_from | exact no_Mender_4_steps_from | exact no_Mender_0_later | exact no_Mender_1_later | exact no_Mender_2_later | exact no_Mender_3_later | exact no_Mender_4_later | exact no_Mender_0_closed | exact no_Mender_1_closed | exact no_Mender_2_closed | exact no_Mender_3_closed | exact no_Mender_4_closed)
local macro_rules | `(tactic| walk_at "s") => `(tactic| first
   | refine ⟨_, rfl, ?_⟩
   | refine ⟨_, _, rfl, rfl, ?_⟩
   | refine ⟨_, _, rfl, ?_⟩
   | refine iteT ?_
   | refine iteF ?_
   | refine ⟨_, (show _ = some _ by walk_at "hl"), ?_⟩
   | refine ⟨_, (show Ins _ _ _ _ from Ins.of (by walk_at "hl")), ?_⟩
   | refine ⟨_, (show Lk _ _ _ by walk_at "lk"), ?_⟩
   | refine ⟨_, (show Pf _ _ _ _ by walk_at "pf"), ?_⟩
   | refine And.intro (show NoL _ _ by walk_at "no") ?_
   | refine ⟨_, _, rfl, SqL.of (by walk_at "hl"), ?_⟩
   | refine ⟨_, _, rfl, SqT.of (by walk_at "hl"), ?_⟩
   | refine And.intro ⟨_, SqL.of (by walk_at "hl")⟩ ?_
   | refine And.intro (by walk_at "side") ?_)
local macro_rules | `(tactic| walk_at "si") => `(tactic| first
   | walk_at "s"
   | refine iteD (fun _ => ?_) (fun _ => ?_)
   | refine iteDn (fun _ => ?_) (fun _ => ?_))
local macro_rules | `(tactic| walk_at "r") => `(tactic| repeat walk_at "s")
local macro_rules | `(tactic| walk_at "ri") => `(tactic| repeat walk_at "si")

abbrev N_node_rows : List Str := ["pattern", "found", "waiting", "here", "above", "number", "part"]
theorem sc_node_rows : FnScope N_node_rows ["pattern"] (defScope s_node_rows) := ⟨rfl, rfl, rfl, by decide +kernel, rfl, by decide +kernel, by decide +kernel⟩
section
variable {P : Program} {w : World} {K : PySem.W.Frag} {mg : Str → Option Value} {base : Heap}
def spCheckPattern (T : Txt w K mg) : Sp := fun vs H Q E => ∃ (v : V) (p : Pat), vs = [v] ∧ PatAt H v p ∧ Small p ∧ ∀ H', Same H H' → Q .non H'
theorem ok_check_pattern {f : Addr} {fd : FuncData} (F : Fun K "check_pattern" "check_pattern" s_check_pattern f fd) (T : Txt w K mg) (D_is_pattern : Df P w K mg base 4 "is_pattern" ["thing"] spIsPattern) : FnOk P w K mg base (L2.CX P w) 5 f fd ["thing"] (spCheckPattern T) := by
  refine F.okX sc_check_pattern (fun vs H Q E h => ?_) (fun cdv A outer s H vs Q E hr h => ?_)
  · obtain ⟨x, p, rfl, _⟩ := h
    rfl
  · obtain ⟨v, p, rfl, hp, hs, k⟩ := h
    refine ⟨_, (pss_one (ps_if (pt_not (pt_val (pe_callD D_is_pattern (hr.mono (by decide)) passL (pa_cons (pv 0) pa_nil)))) (pss_one (ps_raise rfl (takes_of rfl rfl rfl rfl) (pmk_own0 T.e_NoPattern rfl))) pss_nil)), ?_⟩
    rw [show L2.start N_check_pattern [v] = [some (v)] from rfl]
    walk_at "r"
    refine ⟨v, p, rfl, hp, hs, fun H' s' => ?_⟩
    walk_at "r"
    exact k H' s'
/-! node_rows -/
/-- the row (node, numbers of its parts) that stands at v, its list at b -/
def Rw (H : Hp) (v : V) (b : Addr) (r : Pat × List Nat) : Prop := ∃ a x, v = .ref a ∧ H a = some (.tup [x, .ref b]) ∧ PatAt H x r.1 ∧ H b = some (.lst (r.2.map fun (n : Nat) => V.int (n : Int)))
/-- all rows, their lists apart -/
structure RowsAt (H : Hp) (vs : List V) (bs : List Addr) (rows : Rows) : Prop where
  l1 : vs.length = rows.length
  l2 : bs.length = rows.length
  nd : bs.Nodup
  at_ : ∀ (i : Nat) (r : Pat × List Nat), rows[i]? = some r → ∃ v b, vs[i]? = some v ∧ bs[i]? = some b ∧ Rw H v b r
theorem RowsAt.nil {H : Hp} : RowsAt H [] [] [] := ⟨rfl, rfl, List.nodup_nil, fun i r h => by simp at h⟩
theorem RowsAt.same {H H' : Hp} {vs : List V} {bs : List Addr} {rows : Rows} (h : RowsAt H vs bs rows) (s : Same H H') : RowsAt H' vs bs rows :=
  ⟨h.l1, h.l2, h.nd, fun i r e => by
    obtain ⟨v, b, h1, h2, a, x, e1, e2, e3, e4⟩ := h.at_ i r e
    exact ⟨v, b, h1, h2, a, x, e1, s _ _ e2, e3.mono (Tups.of s), s _ _ e4⟩⟩
theorem nodup_get {α : Type} {l : List α} (h : l.Nodup) {i j : Nat} {x : α} (hi : l[i]? = some x) (hj : l[j]? = some x) : i = j := by
  obtain ⟨h1, e1⟩ := List.getElem?_eq_some_iff.mp hi
  obtain ⟨h2, e2⟩ := List.getElem?_eq_some_iff.mp hj
  exact (List.getElem_inj h).mp (e1.trans e2.symm)
/-- a thing that is none of the rows' lists changes -/
theorem RowsAt.other {H : Hp} {vs : List V} {bs : List Addr} {rows : Rows} {l : Addr} {o u : HO} (h : RowsAt H vs bs rows) (hl : H l = some o) (hn : ∀ xs, o ≠ .tup xs) (hb : l ∉ bs) : RowsAt (L2.upd H l u) vs bs rows :=
  ⟨h.l1, h.l2, h.nd, fun i r e => by
    obtain ⟨v, b, h1, h2, a, x, e1, e2, e3, e4⟩ := h.at_ i r e
    have t := Tups.upd (u := u) hl hn
    have nb : b ≠ l := fun e => hb (e ▸ List.mem_of_getElem? h2)
    exact ⟨v, b, h1, h2, a, x, e1, t _ _ e2, e3.mono t, (upd_ne nb).trans e4⟩⟩
/-- a number is put behind those of row i -/
theorem RowsAt.add {H : Hp} {vs : List V} {bs : List Addr} {rows : Rows} {i n : Nat} {b : Addr} {r : Pat × List Nat} (h : RowsAt H vs bs rows) (hi : rows[i]? = some r) (hb : bs[i]? = some b) (hl : H b = some (.lst (r.2.map fun (n : Nat) => V.int (n : Int)))) :
    RowsAt (L2.upd H b (.lst ((r.2.map fun (n : Nat) => V.int (n : Int)) ++ [.int (n : Int)]))) vs bs (addAt rows i n) :=
  ⟨h.l1.trans (addAt_len ..).symm, h.l2.trans (addAt_len ..).symm, h.nd, fun j r' e => by
    rw [addAt_get] at e
    cases hj : rows[j]? with
    | none => rw [hj] at e; simp at e
    | some r0 =>
      rw [hj] at e
      obtain ⟨v, b', h1, h2, a, x, e1, e2, e3, e4⟩ := h.at_ j r0 hj
      have t := Tups.upd (u := .lst ((r.2.map fun (n : Nat) => V.int (n : Int)) ++ [.int (n : Int)])) hl (by simp)
      by_cases hji : j = i
      · subst hji
        rw [hi] at hj
        obtain rfl := Option.some.inj hj
        rw [hb] at h2
        obtain rfl := Option.some.inj h2
        simp only [Option.map_some, if_pos rfl, Option.some.injEq] at e
        subst e
        refine ⟨v, b, h1, hb, a, x, e1, t _ _ e2, e3.mono t, ?_⟩
        rw [upd_same]
        simp
      · simp only [Option.map_some, if_neg hji, Option.some.injEq] at e
        subst e
        have nb : b' ≠ b := fun e => hji (nodup_get h.nd h2 (e ▸ hb))
        exact ⟨v, b', h1, h2, a, x, e1, t _ _ e2, e3.mono t, (upd_ne nb).trans e4⟩⟩
theorem RowsAt.snoc {H : Hp} {vs : List V} {bs : List Addr} {rows : Rows} {a b : Addr} {x : V} {q : Pat} (h : RowsAt H vs bs rows) (ha : H a = some (.tup [x, .ref b])) (hx : PatAt H x q) (hb : H b = some (.lst [])) (nb : b ∉ bs) : RowsAt H (vs ++ [.ref a]) (bs ++ [b]) (rows ++ [(q, [])]) :=
  ⟨by simp [h.l1], by simp [h.l2], by
    rw [List.nodup_append]
    exact ⟨h.nd, by simp, fun y hy z hz => by simp at hz; subst hz; exact fun e => nb (e ▸ hy)⟩, fun i r e => by
    by_cases hi : i < rows.length
    · rw [List.getElem?_append_left hi] at e
      obtain ⟨v, b', h1, h2, h3⟩ := h.at_ i r e
      exact ⟨v, b', by rw [List.getElem?_append_left (by rw [h.l1]; exact hi)]; exact h1, by rw [List.getElem?_append_left (by rw [h.l2]; exact hi)]; exact h2, h3⟩
    · have hl : i < (rows ++ [(q, [])]).length := (List.getElem?_eq_some_iff.mp e).1
      have ei : i = rows.length := by simp at hl; omega
      subst ei
      simp only [List.getElem?_append_right (Nat.le_refl _), Nat.sub_self, List.getElem?_cons_zero, Option.some.injEq] at e
      subst e
      exact ⟨.ref a, b, by rw [← h.l1]; simp, by rw [← h.l2]; simp, a, x, rfl, ha, hx, hb⟩⟩
/-- between two turns of node_rows -/
structure NR (H H' : Hp) (lf l : Addr) (vs : List V) (ts : List (Pat × Int)) (ys : List V) (bs : List Addr) (rows : Rows) : Prop where
  s : Same H H'
  nf : H lf = none
  nl : H l = none
  ne : lf ≠ l
  hl : H' l = some (.lst vs)
  hf : H' lf = some (.lst ys)
  wt : Paired (Wt H') vs ts.reverse
  ra : RowsAt H' ys bs rows
  b1 : lf ∉ bs
  b2 : l ∉ bs
  b3 : ∀ b ∈ bs, H b = none
theorem NR.same {H H' H2 : Hp} {lf l : Addr} {vs : List V} {ts : List (Pat × Int)} {ys : List V} {bs : List Addr} {rows : Rows} (h : NR H H' lf l vs ts ys bs rows) (s : Same H' H2) : NR H H2 lf l vs ts ys bs rows :=
  ⟨h.s.trans s, h.nf, h.nl, h.ne, s _ _ h.hl, s _ _ h.hf, Paired.mapP h.wt fun v t q => q.mono (Tups.of s), h.ra.same s, h.b1, h.b2, h.b3⟩
theorem NR.pop {H H' : Hp} {lf l : Addr} {vs vs' : List V} {ts ts' : List (Pat × Int)} {ys : List V} {bs : List Addr} {rows : Rows} (h : NR H H' lf l vs ts ys bs rows) (hw : Paired (Wt H') vs' ts'.reverse) : NR H (L2.upd H' l (.lst vs')) lf l vs' ts' ys bs rows :=
  ⟨fun b o hb => (upd_ne (ne_of_none hb h.nl)).trans (h.s b o hb), h.nf, h.nl, h.ne, upd_same, (upd_ne h.ne).trans h.hf, Paired.mapP hw fun v t q => q.mono (Tups.upd h.hl (by simp)), h.ra.other h.hl (by simp) h.b2, h.b1, h.b2, h.b3⟩
def spNodeRows : Sp := fun vs H Q _ => ∃ (v : V) (p : Pat), vs = [v] ∧ PatAt H v p ∧ p.size ≤ 1000 ∧ ∀ l ys bs H', Same H H' → H l = none → H' l = some (.lst ys) → RowsAt H' ys bs (nrows 0 p) → Q (.ref l) H'
theorem ok_node_rows {f : Addr} {fd : FuncData} (F : Fun K "node_rows" "node_rows" s_node_rows f fd) (T : Txt w K mg) (D_parts_of : Df P w K mg base 1 "parts_of" ["pattern"] spPartsOf) : FnOk P w K mg base (L2.CX P w) 2 f fd ["pattern"] spNodeRows := by
  refine F.okX sc_node_rows (fun vs H Q E h => ?_) (fun cdv A outer s H vs Q E hr h => ?_)
  · obtain ⟨l, p, rfl, _⟩ := h
    rfl
  · obtain ⟨v, p, rfl, hp, hs, k⟩ := h
    refine ⟨_, PSs.nox (pss_cons (ps_par (i := 1) (j := 2) (by rfl) sc_node_rows.nd rfl rfl (by decide) rfl rfl (pa_cons (pe_lst pa_nil) (pa_cons (pe_lst (pa_cons (pe_tup (pa_cons (pv 0) (pa_cons (pe_un un_neg pe_int) pa_nil))) pa_nil)) pa_nil)) (by rfl))
    (pss_cons (ps_while PassesOwn.never (pt_cmpR ogt (pe_callB (cl_lenL) (by rfl) T.b_len (by decide +kernel) (pa_cons (pv 2) pa_nil)) pe_int (nomark _)) (pss_cons (ps_asg (pe_bm0 PySem.F.plainAttrs_list PySem.F.slot_list_pop PySem.F.type_list_pop (mpop) (pv 2)) (pg_tupF (n := 2) rfl (pgs_cons (pg_name (i := 3) sc_node_rows.nd rfl (by first | exact Or.inl rfl | exact Or.inr rfl)) (pgs_cons (pg_name (i := 4) sc_node_rows.nd rfl (by first | exact Or.inl rfl | exact Or.inr rfl)) pgs_nil))))
      (pss_cut (ps_if (pt_cmpR oge (pv 4) pe_int (nomark _)) (pss_one (ps_expr (pe_bm PySem.F.plainAttrs_list PySem.F.slot_list_append PySem.F.type_list_append (mappend) (pe_ix ixt (pe_ix ixlv (pv 1) (pv 4) (fun _ _ => rfl)) pe_int (fun _ _ => rfl)) (pa_cons (pe_callB (cl_lenL) (by rfl) T.b_len (by decide +kernel) (pa_cons (pv 1) pa_nil)) pa_nil)))) pss_nil)
      (pss_cons (ps_set (i := 5) sc_node_rows.nd rfl (by first | exact Or.inl rfl | exact Or.inr rfl) (pe_callB (cl_lenL) (by rfl) T.b_len (by decide +kernel) (pa_cons (pv 1) pa_nil)))
      (pss_cons (ps_expr (pe_bm PySem.F.plainAttrs_list PySem.F.slot_list_append PySem.F.type_list_append (mappend) (pv 1) (pa_cons (pe_tup (pa_cons (pv 3) (pa_cons (pe_lst pa_nil) pa_nil))) pa_nil)))
      (pss_one (ps_expr (pe_bm PySem.F.plainAttrs_list PySem.F.slot_list_extend PySem.F.type_list_extend (mextend) (pv 2) (pa_cons (pe_revL (pe_lc (own := [("part", 6)]) (g := gName 6) (tt := tYes) (by rfl) sc_node_rows.nd (pi_list (pe_callD D_parts_of (hr.mono (by decide)) passL (pa_cons (pv 3) pa_nil))) (blkOk_by (N := N_node_rows) (sc := defScope s_node_rows) (by decide +kernel)) (fun _ _ _ _ _ => (pg_name (i := 6) sc_node_rows.nd rfl (by first | exact Or.inl rfl | exact Or.inr rfl))) (fun _ _ _ _ _ => pts_nil) (fun _ _ _ _ _ => (pe_tup (pa_cons (pv 6) (pa_cons (pv 5) pa_nil)))))) pa_nil)))))))))
    (pss_one (ps_ret (pv 1))))), ?_⟩
    rw [show L2.start N_node_rows [v] = [some (v), none, none, none, none, none, none] from rfl]
    walk_at "r"
    intro lf hlf
    walk_at "r"
    intro t ht
    walk_at "r"
    intro l hl
    walk_at "r"
    refine ⟨fun m σ H' => ∃ vs ts ys bs rows h d n, σ = [some v, some (.ref lf), some (.ref l), h, d, n, none] ∧ NR H H' lf l vs ts ys bs rows ∧ run ts rows = nrows 0 p ∧ tsize ts + rows.length = p.size ∧ (∀ q ∈ ts, q.2 < rows.length ∧ -1 ≤ q.2) ∧ Bd rows.length rows ∧ m = tsize ts, ⟨p.size, ?_⟩, ?_⟩
    · have s0 : Same H (L2.upd (L2.upd (L2.upd H lf (.lst [])) t (.tup [v, .int (-1)])) l (.lst [.ref t])) := fun b o h => upd_old hl (upd_old ht (upd_old hlf h))
      have s1 : Same H (L2.upd (L2.upd H lf (.lst [])) t (.tup [v, .int (-1)])) := fun b o h => upd_old ht (upd_old hlf h)
      have e1 : (L2.upd (L2.upd H lf (.lst [])) t (.tup [v, .int (-1)])) lf = some (.lst []) := upd_old ht upd_same
      exact ⟨[.ref t], [(p, -1)], [], [], [], none, none, none, rfl, ⟨s0, hlf, s1.free hl, ne_of_none e1 hl, upd_same, upd_old hl e1, pd_one ⟨t, v, rfl, upd_old hl upd_same, hp.mono (Tups.of s0)⟩, .nil, by simp, by simp, by simp⟩, run_all p, by simp [tsize], by simp, Bd.nil, by simp [tsize]⟩
    · rintro m σ H1 ⟨vs, ts, ys, bs, rows, h, d, n, rfl, N, hrun, hsz, hall, hbd, rfl⟩
      have hl1 := N.hl
      walk_at "r"
      have hvt : vs.length = ts.length := by rw [Paired.length N.wt, List.length_reverse]
      refine iteD (fun hne => ?_) (fun hz => ?_)
      · refine ⟨fun σ' H' => Stop _, fun σ' H' h => h.o, ?_⟩
        obtain ⟨⟨q, aq⟩, st, rfl⟩ : ∃ x st, ts = x :: st := by
          cases ts with
          | nil => simp only [List.length_nil] at hvt; omega
          | cons x st => exact ⟨x, st, rfl⟩
        have hw := N.wt
        rw [List.reverse_cons] at hw
        obtain ⟨vs', v', rfl, hpd', ⟨a, x, rfl, ha, hx⟩⟩ := pd_snoc hw
        have N2 := N.pop (ts' := st) hpd'
        have hq := hall _ (List.mem_cons_self ..)
        have hsq := size_pos q
        have etz : tsize ((q, aq) :: st) = q.size + tsize st := by simp [tsize]
        rw [etz] at hsz ⊢
        rw [run_cons] at hrun
        have hal : a ≠ l := ne_of ha hl1 (by simp)
        simp only at hq ha hx
        have ha2 : (L2.upd H1 l (.lst vs')) a = some (.tup [x, .int aq]) := (upd_ne hal).trans ha
        have hx2 : PatAt (L2.upd H1 l (.lst vs')) x q := hx.mono (Tups.upd hl1 (by simp))
        walk_at "r"
        refine ⟨_, _, ⟨rfl⟩, ?_⟩
        have hf2 := N2.hf
        walk_at "r"
        refine ⟨fun σ' H3 => Stop (σ' = [some v, some (.ref lf), some (.ref l), some x, some (.int aq), n, none] ∧ NR H H3 lf l vs' st ys bs (addI rows aq rows.length) ∧ PatAt H3 x q), ?_, ?_⟩
        · walk_at "r"
          refine iteD (fun hge => ?_) (fun hlt => ?_)
          · obtain ⟨i, rfl⟩ := Int.eq_ofNat_of_zero_le hge
            have hi : i < rows.length := by omega
            obtain ⟨vr, b, h1, h2, ar, xr, rfl, h3, h4, h5⟩ := N2.ra.at_ i _ (List.getElem?_eq_getElem hi)
            walk_at "r"
            refine ⟨_, ⟨atI_nat h1⟩, ?_⟩
            walk_at "r"
            have hb3 := hbd i _ (List.getElem?_eq_getElem hi)
            refine ⟨by rw [List.length_map]; exact Nat.lt_of_le_of_lt (m := 1000000) (by omega) (by decide), ?_⟩
            have nbl : l ≠ b := fun e => N2.b2 (e ▸ List.mem_of_getElem? h2)
            have nbf : lf ≠ b := fun e => N2.b1 (e ▸ List.mem_of_getElem? h2)
            have hyl : ys.length = rows.length := N2.ra.l1
            have t3 : Tups (L2.upd H1 l (.lst vs')) (L2.upd (L2.upd H1 l (.lst vs')) b (.lst ((rows[i].2.map fun (n : Nat) => V.int (n : Int)) ++ [.int (rows.length : Int)]))) := Tups.upd h5 (by simp)
            rw [hyl]
            refine Stop.i ⟨rfl, ⟨fun c o hc => (upd_ne (ne_of_none hc (N2.b3 b (List.mem_of_getElem? h2)))).trans (N2.s c o hc), N2.nf, N2.nl, N2.ne, (upd_ne nbl).trans N2.hl, (upd_ne nbf).trans N2.hf, Paired.mapP N2.wt fun v t q => q.mono t3, ?_, N2.b1, N2.b2, N2.b3⟩, hx2.mono t3⟩
            have e : addI rows (i : Int) rows.length = addAt rows i rows.length := by unfold addI; rw [if_pos (by omega), Int.toNat_natCast]
            rw [e]
            exact N2.ra.add (List.getElem?_eq_getElem hi) h2 h5
          · have e : addI rows aq rows.length = rows := by unfold addI; rw [if_neg (by omega)]
            rw [e]
            exact Stop.i ⟨rfl, N2, hx2⟩
        · intro σ' H3 hst
          obtain ⟨rfl, N3, hx3⟩ := hst.o
          have hf3 := N3.hf
          have hl3 := N3.hl
          have elen : (addI rows aq rows.length).length = rows.length := addI_len ..
          have hyl : ys.length = rows.length := N3.ra.l1.trans elen
          have hbd3 : Bd (rows.length + 1) (addI rows aq rows.length) := hbd.addI
          walk_at "r"
          intro b2 hb2
          walk_at "r"
          intro t2 ht2
          have s4 : Same H3 (L2.upd (L2.upd H3 b2 (.lst [])) t2 (.tup [x, .ref b2])) := fun b o h => upd_old ht2 (upd_old hb2 h)
          have N4 := N3.same s4
          have hf4 := N4.hf
          have hx4 := hx3.mono (Tups.of s4)
          have hnb2 : b2 ∉ bs := fun hm => by
            obtain ⟨i, hi⟩ := List.getElem?_of_mem hm
            obtain ⟨hlt, _⟩ := List.getElem?_eq_some_iff.mp hi
            obtain ⟨v0, b0, e1, e2, a0, x0, e3, e4, e5, e6⟩ := N3.ra.at_ i _ (List.getElem?_eq_getElem (by rw [← N3.ra.l2]; exact hlt))
            rw [hi] at e2
            obtain rfl := Option.some.inj e2
            rw [hb2] at e6
            cases e6
          have hfb2 : lf ≠ b2 := ne_of_none hf3 hb2
          have hlb2 : l ≠ b2 := ne_of_none hl3 hb2
          have hb24 : (L2.upd (L2.upd H3 b2 (.lst [])) t2 (.tup [x, .ref b2])) b2 = some (.lst []) := upd_old ht2 upd_same
          have hft2 : t2 ≠ lf := Ne.symm (ne_of_none hf3 ((Same.free (H := H3) (fun b o h => upd_old hb2 h)) ht2))
          walk_at "r"
          -- found has one row more
          have N5 : NR H (L2.upd (L2.upd (L2.upd H3 b2 (.lst [])) t2 (.tup [x, .ref b2])) lf (.lst (ys ++ [.ref t2]))) lf l vs' st (ys ++ [.ref t2]) (bs ++ [b2]) (addI rows aq rows.length ++ [(q, [])]) := by
            have t5 : Tups (L2.upd (L2.upd H3 b2 (.lst [])) t2 (.tup [x, .ref b2])) (L2.upd (L2.upd (L2.upd H3 b2 (.lst [])) t2 (.tup [x, .ref b2])) lf (.lst (ys ++ [.ref t2]))) := Tups.upd hf4 (by simp)
            refine ⟨fun c o hc => (upd_ne (ne_of_none hc N.nf)).trans (N4.s c o hc), N.nf, N.nl, N.ne, (upd_ne N.ne.symm).trans N4.hl, upd_same, Paired.mapP N4.wt fun v t q => q.mono t5, ?_, ?_, ?_, ?_⟩
            · exact (N4.ra.other hf4 (by simp) N4.b1).snoc (t5 _ _ upd_same) (hx4.mono t5) ((upd_ne hfb2.symm).trans hb24) hnb2
            · simp only [List.mem_append, List.mem_singleton, not_or]; exact ⟨N.b1, hfb2⟩
            · simp only [List.mem_append, List.mem_singleton, not_or]; exact ⟨N.b2, hlb2⟩
            · intro b hb
              rcases List.mem_append.mp hb with hb | hb
              · exact N.b3 b hb
              · rw [List.mem_singleton.mp hb]
                exact N3.s.free hb2
          have hx5 := hx4.mono (Tups.upd (u := .lst (ys ++ [.ref t2])) hf4 (by simp))
          have hl5 := N5.hl
          walk_at "r"
          refine ⟨x, q, rfl, hx5, fun p2 zs H6 s6 hp2 hzs hks => ?_⟩
          walk_at "r"
          intro D hD
          refine lcI hD (wk_list zs id) (fun _ => true) (fun done ws H' => Paired (fun z y => ∃ t, z = V.ref t ∧ H' t = some (.tup [y, .int (rows.length : Int)])) ws done) ?_ (fun H' s' => ?_) (fun _ => rfl) .nil (fun a _ H' _ Q' q => q) ?_ ?_
          · have h1 := hks.len
            have h2 := kids_le q
            omega
          · rw [List.map_id]
            exact SqL.of (s' _ _ hzs)
          · intro y done ws H' _ _ s' hzD hI Q' hQ'
            walk_at "r"
            intro tn htn
            refine hQ' _ _ (fun b o h => upd_old htn h) ?_
            have hDn : tn ≠ D := Ne.symm (ne_of_none hzD htn)
            rw [hyl]
            have m1 : Tups H' (L2.upd (L2.upd H' tn (.tup [y, .int (rows.length : Int)])) D (.lst (ws ++ [.ref tn]))) := Tups.trans (Tups.new htn) (Tups.upd (upd_old htn hzD) (by simp))
            exact pd_append (Paired.mapP hI fun z y' ⟨t, e, h⟩ => ⟨t, e, m1 _ _ h⟩) (pd_one ⟨tn, rfl, by rw [upd_ne hDn]; exact upd_same⟩)
          · intro ws H7 s7 hws hI
            rw [List.filter_eq_self.mpr (fun _ _ => rfl)] at hI
            have N7 := (N5.same s6).same s7
            have hl7 := N7.hl
            have hzl : ws.length = q.kids.length := by rw [Paired.length hI, hks.len]
            have hk2 := kids_le q
            have hvl : vs'.length = st.length := by rw [Paired.length hpd', List.length_reverse]
            have htl := len_tsize st
            walk_at "r"
            intro p3 hp3
            have s8 : Same H7 (L2.upd H7 p3 (.lst ws.reverse)) := fun b o h => upd_old hp3 h
            have N8 := N7.same s8
            have hl8 := N8.hl
            have hlp3 : l ≠ p3 := ne_of_none hl7 hp3
            walk_at "r"
            refine ⟨by rw [List.length_reverse]; exact Nat.le_trans (m := 1000000) (by omega) (by decide), ?_⟩
            have t9 : Tups (L2.upd H7 p3 (.lst ws.reverse)) (L2.upd (L2.upd H7 p3 (.lst ws.reverse)) l (.lst (vs' ++ ws.reverse))) := Tups.upd hl8 (by simp)
            refine Stop.i ?_
            refine ⟨tsize (q.kids.map (fun r => (r, (rows.length : Int))) ++ st), ?_, vs' ++ ws.reverse, q.kids.map (fun r => (r, (rows.length : Int))) ++ st, ys ++ [.ref t2], bs ++ [b2], addI rows aq rows.length ++ [(q, [])], _, _, _, rfl, ?_, hrun, ?_, ?_, ?_, rfl⟩
            · rw [tsize_app]
              have := tsize_kids q (rows.length : Int)
              omega
            · refine N8.pop ?_
              rw [List.reverse_append]
              refine pd_append N8.wt (pd_rev ?_)
              refine pd_map (pd_trans (F := fun z y => ∃ t, z = V.ref t ∧ H7 t = some (.tup [y, .int (rows.length : Int)])) (H := PatAt H6) ?_ hI hks.pd)
              rintro z y r ⟨t, rfl, h1⟩ h2
              exact ⟨t, y, rfl, s8 _ _ h1, h2.mono ((Tups.of s7).trans (Tups.of s8))⟩
            · rw [tsize_app, List.length_append, elen]
              have := tsize_kids q (rows.length : Int)
              simp only [List.length_singleton]
              omega
            · intro r hr
              rw [List.length_append, elen, List.length_singleton]
              rcases List.mem_append.mp hr with hr | hr
              · obtain ⟨r', _, rfl⟩ := List.mem_map.mp hr
                exact ⟨by show (rows.length : Int) < _; omega, by show -1 ≤ (rows.length : Int); omega⟩
              · have := hall r (List.mem_cons_of_mem _ hr)
                exact ⟨by omega, this.2⟩
            · rw [List.length_append, elen, List.length_singleton]
              exact hbd3.snoc (Nat.le_refl _)
      · walk_at "r"
        obtain rfl : ts = [] := by
          cases ts with
          | nil => rfl
          | cons x st => simp at hvt; omega
        rw [run] at hrun
        exact k lf ys bs H1 N.s N.nf N.hf (hrun ▸ N.ra)
end
end FR
end
section
set_option Elab.async false
set_option linter.all false
set_option maxRecDepth 20000
set_option maxHeartbeats 2000000
namespace FL
open PySem PySem.Spec PyProof.Rows L2
theorem inV_tx (a : List Nat) : ∀ ws : List (List Nat), inV (tx a) (ws.map tx) = decide (a ∈ ws)
  | [] => by simp [inV]
  | w :: ws => by
    have ih := inV_tx a ws
    unfold inV at ih ⊢
    rw [List.map_cons, List.any_cons, ih]
    have e : eqV (tx w) (tx a) = decide (w = a) := by
      show ((⟨w.toArray⟩ : Str) == ⟨a.toArray⟩) = _
      by_cases h : w = a
      · subst h; simp
      · rw [decide_eq_false h, beq_eq_false_iff_ne]
        intro e
        exact h (tx_inj (congrArg V.str e))
    rw [e]
    by_cases h : w = a
    · subst h; simp
    · have h2 : ¬ a = w := fun e => h e.symm
      simp [h, h2]
theorem flat_tx (ws : List (List Nat)) : (ws.map tx).all flatV = true := by simp [List.all_map, flatV]
/-- a text in a tuple of texts -/
def rInU : R2 := fun x y H Q => ∃ w, x = tx w ∧ ∃ p, y = .ref p ∧ ∃ xs, H p = some (.tup xs) ∧ ∃ ws : List (List Nat), Eqs xs (ws.map tx) ∧ Q (.bl (decide (w ∈ ws))) H
theorem oinU {X : Cx} : OpR X (compareOp .In) rInU := OpR.weak op_in_seq fun x y H Q ⟨w, a, p, b, xs, c, ws, ⟨d⟩, q⟩ => by
  subst a b d
  exact ⟨p, _, rfl, .inr (SqT.of c), rfl, flat_tx ws, by rw [inV_tx]; exact q⟩
/-- what stays but at some addresses -/
def Kp (S : List Addr) (H H' : Hp) : Prop := ∀ b o, H b = some o → b ∉ S → H' b = some o
theorem Kp.refl (S : List Addr) (H : Hp) : Kp S H H := fun _ _ h _ => h
theorem Kp.trans {S : List Addr} {H H1 H2 : Hp} (a : Kp S H H1) (b : Kp S H1 H2) : Kp S H H2 := fun c o h n => b c o (a c o h n) n
theorem Kp.of {S : List Addr} {H H' : Hp} (s : Same H H') : Kp S H H' := fun b o h _ => s b o h
theorem Kp.upd {S : List Addr} {H : Hp} {a : Addr} {o : HO} (h : a ∈ S) : Kp S H (L2.upd H a o) := fun b u hb n => (upd_ne (fun e => n (by rw [e]; exact h))).trans hb
theorem Kp.mono {S S' : List Addr} {H H' : Hp} (a : Kp S H H') (h : ∀ b ∈ S, b ∈ S') : Kp S' H H' := fun b o hb n => a b o hb (fun e => n (h b e))
/-- keys to True -/
def dk (ks : List Nat) : List (Key × V) := ks.map fun (k : Nat) => (Sum.inl (k : Int), V.bl true)
theorem dk_len (ks : List Nat) : (dk ks).length = ks.length := by simp [dk]
theorem valV_dk (ks : List Nat) (n : Nat) : valV (dk ks) (Sum.inl (n : Int) : Key) = if n ∈ ks then some (.bl true) else none := by
  induction ks with
  | nil => rfl
  | cons k ks ih =>
    by_cases h : k = n
    · subst h
      rw [show dk (k :: ks) = (Sum.inl (k : Int), V.bl true) :: dk ks from rfl, valV_pos rfl]
      simp
    · rw [show dk (k :: ks) = (Sum.inl (k : Int), V.bl true) :: dk ks from rfl, valV_neg (by simp; omega), ih]
      have h2 : ¬ n = k := fun e => h e.symm
      simp [h2]
theorem putK_dk (ks : List Nat) (n : Nat) : putK (dk ks) (Sum.inl (n : Int) : Key) (.bl true) = dk (FR.addKey ks n) := by
  unfold FR.addKey
  split
  · rename_i h
    have e : (dk ks).any (fun kv => decide (kv.1 = (Sum.inl (n : Int) : Key))) = true := by
      rw [valV_any, valV_dk, if_pos h]; rfl
    unfold putK
    rw [if_pos e]
    unfold dk
    rw [List.map_map]
    refine List.map_congr_left fun k _ => ?_
    simp only [Function.comp_apply]
    split <;> rename_i h2
    · rfl
    · rfl
  · rename_i h
    rw [putK_new _ (by rw [valV_dk, if_neg h])]
    simp [dk]
theorem mergeK_dk : ∀ (b a : List Nat), mergeK (dk a) (dk b) = dk (FR.addKeys a b)
  | [], _ => rfl
  | k :: b, a => by
    show mergeK (putK (dk a) (Sum.inl (k : Int) : Key) (.bl true)) (dk b) = dk (FR.addKeys (FR.addKey a k) b)
    rw [putK_dk, mergeK_dk b]
end FL
end
section
set_option Elab.async false
set_option linter.all false
set_option maxRecDepth 20000
set_option maxHeartbeats 1000000
namespace FR
open PySem PySem.Spec PyProof.Rows L2 FL
local macro_rules | `(tactic| walk_at "ne") => `(tactic| first | assumption | exact Ne.symm (by assumption))
local macro_rules | `(tactic| walk_at "hl") => `(tactic| first | assumption | exact upd_same | exact upd_old (by assumption) (by walk_at "hl") | exact (upd_ne (by walk_at "ne")).trans (by walk_at "hl"))
local macro_rules | `(tactic| walk_at "side") => `(tactic| first | rfl | assumption | omega | decide | exact Or.inl ⟨rfl, _, SqL.of (by walk_at "hl")⟩ | exact Or.inr (Or.inr (Or.inl ⟨rfl, Or.inl ⟨_, by walk_at "hl"⟩⟩)) | exact Or.inr (Or.inr (Or.inl ⟨rfl, Or.inr ⟨_, by walk_at "hl"⟩⟩)) | exact Or.inr ⟨by decide, by decide⟩ | exact Or.inl ⟨by omega, by omega⟩ | exact ⟨by decide, by decide, by decide⟩ | exact ⟨by first | omega | decide, by first | omega | decide⟩ | exact Nat.le_of_ble_eq_true rfl | exact Nat.le_trans (m := 1000000) (by omega) (by decide) | exact Nat.lt_of_le_of_lt (m := 1000000) (by omega) (by decide) | exact ⟨by omega, by omega, by omega, by omega⟩)
local macro_rules | `(tactic| walk_at "lk") => `(tactic| with_reducible first | exact lk_Sets_1_0 | exact lk_Sets_2_0 | exact lk_Sets_2_1 | exact lk_Sets_3_0 | exact lk_Sets_3_1 | exact lk_Sets_3_2 | exact lk_Sets_4_0 | exact lk_Sets_4_1 | exact lk_Sets_4_2 | exact lk_Sets_4_3 | exact lk_Sets_5_0 | exact lk_Sets_5_1 | exact lk_Sets_5_2 | exact lk_Sets_5_3 | exact lk_Sets_5_4 | exact lk_Mender_1_0 | exact lk_Mender_2_0 | exact lk_Mender_2_1 | exact lk_Mender_3_0 | exact lk_Mender_3_1 | exact lk_Mender_3_2 | exact lk_Mender_4_0 | exact lk_Mender_4_1 | exact lk_Mender_4_2 | exact lk_Mender_4_3)
local macro_rules | `(tactic| walk_at "pf") => `(tactic| with_reducible first | exact pf_Sets_1_0 | exact pf_Sets_2_0 | exact pf_Sets_2_1 | exact pf_Sets_3_0 | exact pf_Sets_3_1 | exact pf_Sets_3_2 | exact pf_Sets_4_0 | exact pf_Sets_4_1 | exact pf_Sets_4_2 | exact pf_Sets_4_3 | exact pf_Sets_5_0 | exact pf_Sets_5_1 | exact pf_Sets_5_2 | exact pf_Sets_5_3 | exact pf_Sets_5_4 | exact pn_Sets_0 | exact pn_Sets_1 | exact pn_Sets_2 | exact pn_Sets_3 | exact pn_Sets_4 | exact pf_Mender_1_0 | exact pf_Mender_2_0 | exact pf_Mender_2_1 | exact pf_Mender_3_0 | exact pf_Mender_3_1 | exact pf_Mender_3_2 | exact pf_Mender_4_0 | exact pf_Mender_4_1 | exact pf_Mender_4_2 | exact pf_Mender_4_3 | exact pn_Mender_0 | exact pn_Mender_1 | exact pn_Mender_2 | exact pn_Mender_3)
local macro_rules | `(tactic| walk_at "no") => `(tactic| with_reducible first | exact no_Sets_0___init__ | exact no_Sets_1___init__ | exact no_Sets_2___init__ | exact no_Sets_3___init__ | exact no_Sets_4___init__ | exact no_Sets_5___init__ | exact no_Sets_0_join | exact no_Sets_1_join | exact no_Sets_2_join | exact no_Sets_3_join | exact no_Sets_4_join | exact no_Sets_5_join | exact no_Sets_0_told_of | exact no_Sets_1_told_of | exact no_Sets_2_told_of | exact no_Sets_3_told_of | exact no_Sets_4_told_of | exact no_Sets_5_told_of | exact no_Sets_0_moved | exact no_Sets_1_moved | exact no_Sets_2_moved | exact no_Sets_3_moved | exact no_Sets_4_moved | exact no_Sets_5_moved | exact no_Sets_0_can_stop | exact no_Sets_1_can_stop | exact no_Sets_2_can_stop | exact no_Sets_3_can_stop | exact no_Sets_4_can_stop | exact no_Sets_5_can_stop | exact no_Mender_0___init__ | exact no_Mender_1___init__ | exact no_Mender_2___init__ | exact no_Mender_3___init__ | exact no_Mender_4___init__ | exact no_Mender_0_fill_last | exact no_Mender_1_fill_last | exact no_Mender_2_fill_last | exact no_Mender_3_fill_last | exact no_Mender_4_fill_last | exact no_Mender_0_spread | exact no_Mender_1_spread | exact no_Mender_2_spread | exact no_Mender_3_spread | exact no_Mender_4_spread | exact no_Mender_0_lessened | exact no_Mender_1_lessened | exact no_Mender_2_lessened | exact no_Mender_3_lessened | exact no_Mender_4_lessened | exact no_Mender_0_fill | exact no_Mender_1_fill | exact no_Mender_2_fill | exact no_Mender_3_fill | exact no_Mender_4_fill | exact no_Mender_0_least | exact no_Mender_1_least | exact no_Mender_2_least | exact no_Mender_3_least | exact no_Mender_4_least | exact no_Mender_0_steps_from | exact no_Mender_1_steps_from | exact no_Mender_2_steps_from | exact no_Mender_3_steps_from | exact no_Mender_4_steps_from | exact no_Mender_0_later | exact no_Mender_1_later | exact no_Mender_2_later | exact no_Mender_3_later | exact no_Mender_4_later | exact no_Mender_0_closed | exact no_Mender_1_closed | exact no_Mender_2_closed | exact no_Mender_3_closed | exact no_Mender_4_closed)
local macro_rules | `(tactic| walk_at "s") => `(tactic| first
   | refine ⟨_, rfl, ?_⟩
   | refine ⟨_, _, rfl, rfl, ?_⟩
   | refine ⟨_, _, rfl, ?_⟩
   | refine iteT ?_
   | refine iteF ?_
   | refine ⟨_, (show _ = some _ by walk_at "hl"), ?_⟩
   | refine ⟨_, (show Ins _ _ _ _ from Ins.of (by walk_at "hl")), ?_⟩
   | refine ⟨_, (show Lk _ _ _ by walk_at "lk"), ?_⟩
   | refine ⟨_, (show Pf _ _ _ _ by walk_at "pf"), ?_⟩
   | refine And.intro (show NoL _ _ by walk_at "no") ?_
   | refine ⟨_, _, rfl, SqL.of (by walk_at "hl"), ?_⟩
   | refine ⟨_, _, rfl, SqT.of (by walk_at "hl"), ?_⟩
   | refine And.intro ⟨_, SqL.of (by walk_at "hl")⟩ ?_
   | refine And.intro (by walk_at "side") ?_)
local macro_rules | `(tactic| walk_at "si") => `(tactic| first
   | walk_at "s"
   | refine iteD (fun _ => ?_) (fun _ => ?_)
   | refine iteDn (fun _ => ?_) (fun _ => ?_))
local macro_rules | `(tactic| walk_at "r") => `(tactic| repeat walk_at "s")
local macro_rules | `(tactic| walk_at "ri") => `(tactic| repeat walk_at "si")

abbrev N_Sets_join : List Str := ["self", "lasts", "firsts", "last"]
theorem sc_Sets_join : FnScope N_Sets_join ["self", "lasts", "firsts"] (defScope s_Sets_join) := ⟨rfl, rfl, rfl, by decide +kernel, rfl, by decide +kernel, by decide +kernel⟩
section
variable {P : Program} {w : World} {K : PySem.W.Frag} {mg : Str → Option Value} {base : Heap}
/-- the list of the dicts of what follows what -/
structure FolAt (H : Hp) (fl : Addr) (fds : List Addr) (fol : List (List Nat)) : Prop where
  l : H fl = some (.lst (fds.map V.ref))
  len : fds.length = fol.length
  nd : fds.Nodup
  at_ : ∀ (i : Nat) (d : Addr) (ks : List Nat), fds[i]? = some d → fol[i]? = some ks → H d = some (.dK (dk ks))
theorem FolAt.there {H : Hp} {fl : Addr} {fds : List Addr} {fol : List (List Nat)} (h : FolAt H fl fds fol) {d : Addr} (hd : d ∈ fds) : ∃ ks, H d = some (.dK (dk ks)) := by
  obtain ⟨i, hi⟩ := List.getElem?_of_mem hd
  have hl : i < fol.length := by rw [← h.len]; exact (List.getElem?_eq_some_iff.mp hi).1
  exact ⟨_, h.at_ i d _ hi (List.getElem?_eq_getElem hl)⟩
theorem FolAt.keep {H H' : Hp} {fl : Addr} {fds : List Addr} {fol : List (List Nat)} (h : FolAt H fl fds fol) (k1 : H' fl = H fl) (k : ∀ d ∈ fds, ∀ ks, H d = some (.dK ks) → H' d = some (.dK ks)) : FolAt H' fl fds fol :=
  ⟨k1.trans h.l, h.len, h.nd, fun i d ks e1 e2 => k d (List.mem_of_getElem? e1) _ (h.at_ i d ks e1 e2)⟩
theorem FolAt.same {H H' : Hp} {fl : Addr} {fds : List Addr} {fol : List (List Nat)} (h : FolAt H fl fds fol) (s : Same H H') : FolAt H' fl fds fol :=
  h.keep ((s _ _ h.l).trans h.l.symm) fun d _ ks e => s _ _ e
theorem FolAt.mod {H : Hp} {fl : Addr} {fds : List Addr} {fol : List (List Nat)} {i : Nat} {d : Addr} {ks fs : List Nat} (h : FolAt H fl fds fol) (hi : fds[i]? = some d) (hk : fol[i]? = some ks) : FolAt (L2.upd H d (.dK (dk (addKeys ks fs)))) fl fds (modAt fol i fs) := by
  have hd := h.at_ i d ks hi hk
  refine ⟨(upd_ne (ne_of h.l hd (by simp))).trans h.l, by rw [modAt_len]; exact h.len, h.nd, fun j d' ks' e1 e2 => ?_⟩
  rw [modAt_get] at e2
  cases hj : fol[j]? with
  | none => rw [hj] at e2; simp at e2
  | some r0 =>
    rw [hj] at e2
    simp only [Option.map_some, Option.some.injEq] at e2
    subst e2
    by_cases hji : j = i
    · subst hji
      rw [hi] at e1
      obtain rfl := Option.some.inj e1
      rw [hk] at hj
      obtain rfl := Option.some.inj hj
      rw [if_pos rfl]
      exact upd_same
    · rw [if_neg hji]
      have ne : d' ≠ d := fun e => hji (nodup_get h.nd e1 (e ▸ hi))
      exact (upd_ne ne).trans (h.at_ j d' r0 e1 hj)
def spJoin (C : Addr) : Sp := fun vs H Q _ => ∃ (x dx ld fd fl : Addr) (fds : List Addr) (fol : List (List Nat)) (ls fs : List Nat) (r lo po : V) (n : Nat), vs = [.ref x, .ref ld, .ref fd] ∧
  H x = some (.ins C dx (fl_Sets_4 r lo (.ref fl) po)) ∧ FolAt H fl fds fol ∧ H ld = some (.dK (dk ls)) ∧ H fd = some (.dK (dk fs)) ∧ ld ∉ fds ∧ fd ∉ fds ∧ FOk n fol ∧ KOk n fs ∧ (∀ l ∈ ls, l < fol.length) ∧ n ≤ 1000 ∧ ls.length ≤ 1000 ∧
  ∀ H', Kp fds H H' → FolAt H' fl fds (joinF fol ls fs) → Q .non H'
theorem ok_Sets_join {f : Addr} {fd : FuncData} (F : Fun K "join" "Sets.join" s_Sets_join f fd) (T : Txt w K mg) : FnOk P w K mg base (L2.CX P w) 1 f fd ["self", "lasts", "firsts"] (spJoin T.a_Sets) := by
  refine F.okX sc_Sets_join (fun vs H Q E h => ?_) (fun cdv A outer s H vs Q E hr h => ?_)
  · obtain ⟨_, _, _, _, _, _, _, _, _, _, _, _, _, rfl, _⟩ := h
    rfl
  · obtain ⟨x, dx, ld, fd, fl, fds, fol, ls, fs, r, lo, po, n, rfl, hx, hfo, hld, hfd, nld, nfd, hok, hfs, hls, hn, hll, k⟩ := h
    refine ⟨_, PSs.nox (pss_one (ps_lock (ps_for PassesOwn.never rfl (pi_keys (pv 1)) (pg_name (i := 3) sc_Sets_join.nd rfl (by first | exact Or.inl rfl | exact Or.inr rfl)) (pss_one (ps_expr (pe_bm PySem.F.plainAttrs_dict PySem.F.slot_dict_update PySem.F.type_dict_update (mupdate) (pe_ix ixlv (pe_fd (pv 0) T.f_Sets_follows rfl) (pv 3) (fun _ _ => rfl)) (pa_cons (pe_callTy (call_dict_of) (by rfl) T.b_dict (by decide +kernel) (pa_cons (pv 2) pa_nil)) pa_nil))))))), ?_⟩
    rw [show L2.start N_Sets_join [V.ref x, V.ref ld, V.ref fd] = [some (V.ref x), some (V.ref ld), some (V.ref fd), none] from rfl]
    refine ⟨ld, _, hld, trivial, fun od => ?_⟩
    have hxl : x ≠ ld := ne_of hx hld (by simp)
    have hfl : fl ≠ ld := ne_of hfo.l hld (by simp)
    refine ⟨_, rfl, ld, od, rfl, .inl ⟨dk ls, upd_same, ?_⟩⟩
    refine forP (wk_keys (d := ld) (o := od) (dk ls)) (fun done σ H' => Stop (∃ l, σ = [some (.ref x), some (.ref ld), some (.ref fd), l] ∧ Kp fds (L2.upd H ld (.frz od (.dK (dk ls)))) H' ∧ ∃ d, done = dk d ∧ FolAt H' fl fds (joinF fol d fs))) ?_ ?_ ?_ ?_
    · exact Stop.i ⟨_, rfl, Kp.refl _ _, [], rfl, hfo.keep (upd_ne hfl) fun d hd ks e => (upd_ne (fun e => nld (by rw [← e]; exact hd))).trans e⟩
    · intro l σ H' h
      obtain ⟨_, _, kp, _⟩ := h.o
      exact kp _ _ upd_same nld
    · intro l a rr σ H1 el h
      obtain ⟨v0, rfl, kp, d, rfl, hf⟩ := h.o
      obtain ⟨m, rfl, hm⟩ : ∃ m : Nat, a = ((Sum.inl (m : Int) : Key), V.bl true) ∧ m ∈ ls := by
        have ha : a ∈ dk ls := by rw [el]; simp
        unfold dk at ha
        obtain ⟨m, hm, rfl⟩ := List.mem_map.mp ha
        exact ⟨m, rfl, hm⟩
      have hmf : m < fol.length := hls m hm
      obtain ⟨dm, hdm⟩ : ∃ dm, fds[m]? = some dm := ⟨_, List.getElem?_eq_getElem (by rw [hfo.len]; exact hmf)⟩
      obtain ⟨km, hkm⟩ : ∃ km, (joinF fol d fs)[m]? = some km := ⟨_, List.getElem?_eq_getElem (by rw [joinF_len]; exact hmf)⟩
      have hx1 : H1 x = some (.ins T.a_Sets dx (fl_Sets_4 r lo (.ref fl) po)) := kp _ _ ((upd_ne hxl).trans hx) (fun e => by obtain ⟨_, q⟩ := hfo.there e; rw [hx] at q; cases q)
      have hfl1 := hf.l
      have hfd1 : Rd H1 fd (.dK (dk fs)) := by
        by_cases e : fd = ld
        · subst e
          rw [hld] at hfd
          obtain e2 := Option.some.inj hfd
          exact .inr ⟨od, by rw [← e2]; exact kp _ _ upd_same nld⟩
        · exact .inl (kp _ _ ((upd_ne e).trans hfd) nfd)
      have hdm1 := hf.at_ m dm km hdm hkm
      have hkl := (FOk.join (ls := d) hfs hok m km hkm).len
      have hfl2 := hfs.len
      show tDrop _ _ [some (V.ref x), some (V.ref ld), some (V.ref fd), some (V.int (m : Int))] _
      walk_at "r"
      refine ⟨_, ⟨atI_nat (by rw [List.getElem?_map, hdm]; rfl)⟩, ?_⟩
      walk_at "r"
      refine ⟨_, _, rfl, hfd1, ?_⟩
      intro p hp
      have hpd : dm ≠ p := ne_of_none hdm1 hp
      walk_at "r"
      refine ⟨by rw [dk_len, dk_len]; exact Nat.le_trans (m := 1000000) (by omega) (by decide), ?_⟩
      rw [mergeK_dk]
      refine Stop.i ⟨_, rfl, ?_, d ++ [m], by simp [dk], ?_⟩
      · exact kp.trans ((Kp.of fun b o h => upd_old hp h).trans (Kp.upd (List.mem_of_getElem? hdm)))
      · rw [joinF_snoc]
        exact (hf.same fun b o h => upd_old hp h).mod hdm hkm
    · intro σ H' h
      obtain ⟨v0, rfl, kp, d, ed, hf⟩ := h.o
      have hle : d = ls := by
        have := congrArg (List.map fun (kv : Key × V) => match kv.1 with | .inl i => i.toNat | .inr _ => 0) ed
        simpa [dk, Function.comp_def] using this.symm
      subst hle
      refine ⟨kp _ _ upd_same nld, ?_⟩
      refine k _ (fun b o hb nb => ?_) (hf.keep (upd_ne hfl) fun e he ks h => (upd_ne (fun q => nld (by rw [← q]; exact he))).trans h)
      by_cases hbl : b = ld
      · subst hbl
        rw [hld] at hb
        obtain rfl := Option.some.inj hb
        exact upd_same
      · rw [upd_ne hbl]
        exact kp _ _ ((upd_ne hbl).trans hb) nb
end
end FR
end
section
set_option Elab.async false
set_option linter.all false
set_option maxRecDepth 20000
set_option maxHeartbeats 1000000
namespace FR
open PySem PySem.Spec PyProof.Rows L2 FL
local macro_rules | `(tactic| walk_at "ne") => `(tactic| first | assumption | exact Ne.symm (by assumption))
local macro_rules | `(tactic| walk_at "hl") => `(tactic| first | assumption | exact upd_same | exact upd_old (by assumption) (by walk_at "hl") | exact (upd_ne (by walk_at "ne")).trans (by walk_at "hl"))
local macro_rules | `(tactic| walk_at "side") => `(tactic| first | rfl | assumption | omega | decide | exact Or.inl ⟨rfl, _, SqL.of (by walk_at "hl")⟩ | exact Or.inr (Or.inr (Or.inl ⟨rfl, Or.inl ⟨_, by walk_at "hl"⟩⟩)) | exact Or.inr (Or.inr (Or.inl ⟨rfl, Or.inr ⟨_, by walk_at "hl"⟩⟩)) | exact Or.inr ⟨by decide, by decide⟩ | exact Or.inl ⟨by omega, by omega⟩ | exact ⟨by decide, by decide, by decide⟩ | exact ⟨by first | omega | decide, by first | omega | decide⟩ | exact Nat.le_of_ble_eq_true rfl | exact Nat.le_trans (m := 1000000) (by omega) (by decide) | exact Nat.lt_of_le_of_lt (m := 1000000) (by omega) (by decide) | exact ⟨by omega, by omega, by omega, by omega⟩)
local macro_rules | `(tactic| walk_at "lk") => `(tactic| with_reducible first | exact lk_Sets_1_0 | exact lk_Sets_2_0 | exact lk_Sets_2_1 | exact lk_Sets_3_0 | exact lk_Sets_3_1 | exact lk_Sets_3_2 | exact lk_Sets_4_0 | exact lk_Sets_4_1 | exact lk_Sets_4_2 | exact lk_Sets_4_3 | exact lk_Sets_5_0 | exact lk_Sets_5_1 | exact lk_Sets_5_2 | exact lk_Sets_5_3 | exact lk_Sets_5_4 | exact lk_Mender_1_0 | exact lk_Mender_2_0 | exact lk_Mender_2_1 | exact lk_Mender_3_0 | exact lk_Mender_3_1 | exact lk_Mender_3_2 | exact lk_Mender_4_0 | exact lk_Mender_4_1 | exact lk_Mender_4_2 | exact lk_Mender_4_3)
local macro_rules | `(tactic| walk_at "pf") => `(tactic| with_reducible first | exact pf_Sets_1_0 | exact pf_Sets_2_0 | exact pf_Sets_2_1 | exact pf_Sets_3_0 | exact pf_Sets_3_1 | exact pf_Sets_3_2 | exact pf_Sets_4_0 | exact pf_Sets_4_1 | exact pf_Sets_4_2 | exact pf_Sets_4_3 | exact pf_Sets_5_0 | exact pf_Sets_5_1 | exact pf_Sets_5_2 | exact pf_Sets_5_3 | exact pf_Sets_5_4 | exact pn_Sets_0 | exact pn_Sets_1 | exact pn_Sets_2 | exact pn_Sets_3 | exact pn_Sets_4 | exact pf_Mender_1_0 | exact pf_Mender_2_0 | exact pf_Mender_2_1 | exact pf_Mender_3_0 | exact pf_Mender_3_1 | exact pf_Mender_3_2 | exact pf_Mender_4_0 | exact pf_Mender_4_1 | exact pf_Mender_4_2 | exact pf_Mender_4_3 | exact pn_Mender_0 | exact pn_Mender_1 | exact pn_Mender_2 | exact pn_Mender_3)
local macro_rules | `(tactic| walk_at "no") => `(tactic| with_reducible first | exact no_Sets_0___init__ | exact no_Sets_1___init__ | exact no_Sets_2___init__ | exact no_Sets_3___init__ | exact no_Sets_4___init__ | exact no_Sets_5___init__ | exact no_Sets_0_join | exact no_Sets_1_join | exact no_Sets_2_join | exact no_Sets_3_join | exact no_Sets_4_join | exact no_Sets_5_join | exact no_Sets_0_told_of | exact no_Sets_1_told_of | exact no_Sets_2_told_of | exact no_Sets_3_told_of | exact no_Sets_4_told_of | exact no_Sets_5_told_of | exact no_Sets_0_moved | exact no_Sets_1_moved | exact no_Sets_2_moved | exact no_Sets_3_moved | exact no_Sets_4_moved | exact no_Sets_5_moved | exact no_Sets_0_can_stop | exact no_Sets_1_can_stop | exact no_Sets_2_can_stop | exact no_Sets_3_can_stop | exact no_Sets_4_can_stop | exact no_Sets_5_can_stop | exact no_Mender_0___init__ | exact no_Mender_1___init__ | exact no_Mender_2___init__ | exact no_Mender_3___init__ | exact no_Mender_4___init__ | exact no_Mender_0_fill_last | exact no_Mender_1_fill_last | exact no_Mender_2_fill_last | exact no_Mender_3_fill_last | exact no_Mender_4_fill_last | exact no_Mender_0_spread | exact no_Mender_1_spread | exact no_Mender_2_spread | exact no_Mender_3_spread | exact no_Mender_4_spread | exact no_Mender_0_lessened | exact no_Mender_1_lessened | exact no_Mender_2_lessened | exact no_Mender_3_lessened | exact no_Mender_4_lessened | exact no_Mender_0_fill | exact no_Mender_1_fill | exact no_Mender_2_fill | exact no_Mender_3_fill | exact no_Mender_4_fill | exact no_Mender_0_least | exact no_Mender_1_least | exact no_Mender_2_least | exact no_Mender_3_least | exact no_Mender_4_least | exact no_Mender_0_steps_from | exact no_Mender_1_steps_from | exact no_Mender_2_steps_from | exact no_Mender_3_steps_from | exact no_Mender_4_steps_from | exact no_Mender_0_later | exact no_Mender_1_later | exact no_Mender_2_later | exact no_Mender_3_later | exact no_Mender_4_later | exact no_Mender_0_closed | exact no_Mender_1_closed | exact no_Mender_2_closed | exact no_Mender_3_closed | exact no_Mender_4_closed)
local macro_rules | `(tactic| walk_at "s") => `(tactic| first
   | refine ⟨_, rfl, ?_⟩
   | refine ⟨_, _, rfl, rfl, ?_⟩
   | refine ⟨_, _, rfl, ?_⟩
   | refine iteT ?_
   | refine iteF ?_
   | refine ⟨_, (show _ = some _ by walk_at "hl"), ?_⟩
   | refine ⟨_, (show Ins _ _ _ _ from Ins.of (by walk_at "hl")), ?_⟩
   | refine ⟨_, (show Lk _ _ _ by walk_at "lk"), ?_⟩
   | refine ⟨_, (show Pf _ _ _ _ by walk_at "pf"), ?_⟩
   | refine And.intro (show NoL _ _ by walk_at "no") ?_
   | refine ⟨_, _, rfl, SqL.of (by walk_at "hl"), ?_⟩
   | refine ⟨_, _, rfl, SqT.of (by walk_at "hl"), ?_⟩
   | refine And.intro ⟨_, SqL.of (by walk_at "hl")⟩ ?_
   | refine And.intro (by walk_at "side") ?_)
local macro_rules | `(tactic| walk_at "si") => `(tactic| first
   | walk_at "s"
   | refine iteD (fun _ => ?_) (fun _ => ?_)
   | refine iteDn (fun _ => ?_) (fun _ => ?_))
local macro_rules | `(tactic| walk_at "r") => `(tactic| repeat walk_at "s")
local macro_rules | `(tactic| walk_at "ri") => `(tactic| repeat walk_at "si")

abbrev N_Sets_told_of : List Str := ["self", "row", "told", "node", "parts", "word", "one", "other", "firsts", "lasts"]
theorem sc_Sets_told_of : FnScope N_Sets_told_of ["self", "row", "told"] (defScope s_Sets_told_of) := ⟨rfl, rfl, rfl, by decide +kernel, rfl, by decide +kernel, by decide +kernel⟩
section
variable {P : Program} {w : World} {K : PySem.W.Frag} {mg : Str → Option Value} {base : Heap}
/-- what is told of a node: (is empty read, firsts, lasts) -/
def TV (H : Hp) (fds : List Addr) (v : V) (t : TVal) : Prop := ∃ a fd ld, v = .ref a ∧ H a = some (.tup [.bl t.1, .ref fd, .ref ld]) ∧ H fd = some (.dK (dk t.2.1)) ∧ H ld = some (.dK (dk t.2.2)) ∧ fd ∉ fds ∧ ld ∉ fds
theorem TV.kp {H H' : Hp} {td : Addr} {fds : List Addr} {fol : List (List Nat)} {x C dx fl : Addr} {fs : List (Str × V)} {v : V} {t : TVal} (h : TV H (td :: fds) v t) (hx : H x = some (.ins C dx fs)) (hf : FolAt H fl fds fol) (k : Kp (x :: fds) H H') : TV H' (td :: fds) v t := by
  obtain ⟨a, fd, ld, e, h1, h2, h3, n1, n2⟩ := h
  have na : a ∉ x :: fds := fun m => by
    rcases List.mem_cons.mp m with m | m
    · subst m; rw [h1] at hx; cases hx
    · obtain ⟨_, q⟩ := hf.there m; rw [h1] at q; cases q
  have nf : fd ∉ x :: fds := fun m => by
    rcases List.mem_cons.mp m with m | m
    · subst m; rw [h2] at hx; cases hx
    · exact n1 (List.mem_cons_of_mem _ m)
  have nl : ld ∉ x :: fds := fun m => by
    rcases List.mem_cons.mp m with m | m
    · subst m; rw [h3] at hx; cases hx
    · exact n2 (List.mem_cons_of_mem _ m)
  exact ⟨a, fd, ld, e, k _ _ h1 na, k _ _ h2 nf, k _ _ h3 nl, n1, n2⟩
theorem FolAt.fresh {H : Hp} {fl : Addr} {fds : List Addr} {fol : List (List Nat)} (h : FolAt H fl fds fol) {p : Addr} (hp : H p = none) : p ∉ fds := fun m => by
  obtain ⟨_, q⟩ := h.there m
  rw [hp] at q
  cases q
theorem upd2 {H : Hp} {p : Addr} {o u : HO} : L2.upd (L2.upd H p o) p u = L2.upd H p u := by
  funext b
  by_cases e : b = p
  · subst e; rw [upd_same, upd_same]
  · rw [upd_ne e, upd_ne e, upd_ne e]
theorem of_none {H : Hp} {p b : Addr} {o : HO} (h : L2.upd H b o p = none) : H p = none := by
  by_cases e : p = b
  · subst e; rw [upd_same] at h; cases h
  · rwa [upd_ne e] at h
def spTold (C : Addr) : Sp := fun vs H Q _ => ∃ (x dx ra td fl pb : Addr) (xq : V) (q : Pat) (ns : List Nat) (tk : List (Key × V)) (fds : List Addr) (fol : List (List Nat)) (r lo : V) (pos : Nat) (a b : TVal), vs = [.ref x, .ref ra, .ref td] ∧
  H x = some (.ins C dx (fl_Sets_4 r lo (.ref fl) (.int (pos : Int)))) ∧ FolAt H fl fds fol ∧ H ra = some (.tup [xq, .ref pb]) ∧ PatAt H xq q ∧ H pb = some (.lst (ns.map fun (n : Nat) => V.int (n : Int))) ∧ H td = some (.dK tk) ∧
  td ∉ fds ∧ ns.length = q.kids.length ∧ (∀ n : Nat, ns[0]? = some n → ∃ v, valV tk (Sum.inl (n : Int) : Key) = some v ∧ TV H (td :: fds) v a) ∧ (∀ n : Nat, ns[1]? = some n → ∃ v, valV tk (Sum.inl (n : Int) : Key) = some v ∧ TV H (td :: fds) v b) ∧
  (∀ l, q = .sign l → 1 ≤ pos) ∧ FOk fol.length fol ∧ (KOk fol.length a.2.1 ∧ KOk fol.length a.2.2) ∧ (KOk fol.length b.2.1 ∧ KOk fol.length b.2.2) ∧ fol.length ≤ 1000 ∧
  ∀ v H', Kp (x :: fds) H H' → H' x = some (.ins C dx (fl_Sets_4 r lo (.ref fl) (.int ((tOf q a b ⟨fol, pos⟩).2.pos : Int)))) → FolAt H' fl fds (tOf q a b ⟨fol, pos⟩).2.fol → TV H' (td :: fds) v (tOf q a b ⟨fol, pos⟩).1 → Q v H'
theorem ok_Sets_told_of {f : Addr} {fd : FuncData} (F : Fun K "told_of" "Sets.told_of" s_Sets_told_of f fd) (T : Txt w K mg) (D_Sets_join : DfM P w K mg base 1 T.a_Sets "join" ["self", "lasts", "firsts"] (spJoin T.a_Sets)) : FnOk P w K mg base (L2.CX P w) 2 f fd ["self", "row", "told"] (spTold T.a_Sets) := by
  refine F.okX sc_Sets_told_of (fun vs H Q E h => ?_) (fun cdv A outer s H vs Q E hr h => ?_)
  · obtain ⟨_, _, _, _, _, _, _, _, _, _, _, _, _, _, _, _, _, rfl, _⟩ := h
    rfl
  · obtain ⟨x, dx, ra, td, fl, pb, xq, q, ns, tk, fds, fol, r, lo, pos, a, b, rfl, hx, hfo, hra, hpq, hpb, htd, ntd, hns, ka, kb, hsg, hok, ⟨oa1, oa2⟩, ⟨ob1, ob2⟩, hn, k⟩ := h
    have hu := hu_of hr
    obtain ⟨aq, xs, rfl, haq, ht⟩ := hpq.open_
    refine ⟨_, PSs.nox (pss_cons (ps_asg (pv 1) (pg_tupF (n := 2) rfl (pgs_cons (pg_name (i := 3) sc_Sets_told_of.nd rfl (by first | exact Or.inl rfl | exact Or.inr rfl)) (pgs_cons (pg_name (i := 4) sc_Sets_told_of.nd rfl (by first | exact Or.inl rfl | exact Or.inr rfl)) pgs_nil))))
    (pss_cons (ps_set (i := 5) sc_Sets_told_of.nd rfl (by first | exact Or.inl rfl | exact Or.inr rfl) (pe_ix ixtv (pv 3) pe_int (fun _ _ => rfl)))
    (pss_cons (ps_if (pt_cmpR oeqS (pv 5) (pe_strL (l := [115, 105, 103, 110]) (by decide +kernel)) (nomark _)) (pss_cons (ps_fdaug (pv 0) pe_int T.f_Sets_position insub)
      (pss_one (ps_ret (pe_tup (pa_cons pe_bl (pa_cons (pe_disp (pps_cons (pe_op oadd (pe_fd (pv 0) T.f_Sets_position rfl) pe_int) pe_bl pps_nil) (by rfl) (by rfl) (fun z => by cases z) (by decide)) (pa_cons (pe_disp (pps_cons (pe_op oadd (pe_fd (pv 0) T.f_Sets_position rfl) pe_int) pe_bl pps_nil) (by rfl) (by rfl) (fun z => by cases z) (by decide)) pa_nil))))))) pss_nil)
    (pss_cons (ps_if (pt_cmpR oinU (pv 5) (pe_tup (pa_cons (pe_strL (l := [110, 111, 110, 101]) (by decide +kernel)) (pa_cons (pe_strL (l := [101, 109, 112, 116, 121]) (by decide +kernel)) pa_nil))) (by rfl)) (pss_one (ps_ret (pe_tup (pa_cons (pe_cmpR oeqS (pv 5) (pe_strL (l := [101, 109, 112, 116, 121]) (by decide +kernel)) (nomark _)) (pa_cons pe_dnewK (pa_cons pe_dnewK pa_nil)))))) pss_nil)
    (pss_cons (ps_set (i := 6) sc_Sets_told_of.nd rfl (by first | exact Or.inl rfl | exact Or.inr rfl) (pe_dgetR hu rGetI.to (pv 2) (pe_ix ixlv (pv 4) pe_int (fun _ _ => rfl)) (fun _ _ => rfl)))
    (pss_cons (ps_if (pt_cmpR oeqS (pv 5) (pe_strL (l := [109, 97, 114, 107]) (by decide +kernel)) (nomark _)) (pss_one (ps_ret (pv 6))) pss_nil)
    (pss_cons (ps_if (pt_cmpR oinU (pv 5) (pe_tup (pa_cons (pe_strL (l := [109, 97, 110, 121]) (by decide +kernel)) (pa_cons (pe_strL (l := [102, 101, 119]) (by decide +kernel)) pa_nil))) (by rfl)) (pss_cons (ps_expr (pe_methF (pv 0) D_Sets_join (hr.mono (by decide)) passL (pa_cons (pe_ix ixt (pv 6) pe_int (fun _ _ => rfl)) (pa_cons (pe_ix ixt (pv 6) pe_int (fun _ _ => rfl)) pa_nil))))
      (pss_one (ps_ret (pe_tup (pa_cons pe_bl (pa_cons (pe_ix ixt (pv 6) pe_int (fun _ _ => rfl)) (pa_cons (pe_ix ixt (pv 6) pe_int (fun _ _ => rfl)) pa_nil))))))) pss_nil)
    (pss_cons (ps_set (i := 7) sc_Sets_told_of.nd rfl (by first | exact Or.inl rfl | exact Or.inr rfl) (pe_dgetR hu rGetI.to (pv 2) (pe_ix ixlv (pv 4) pe_int (fun _ _ => rfl)) (fun _ _ => rfl)))
    (pss_cons (ps_par (i := 8) (j := 9) (by rfl) sc_Sets_told_of.nd rfl rfl (by decide) rfl rfl (pa_cons (pe_callTy (cl_dict) (by rfl) T.b_dict (by decide +kernel) (pa_cons (pe_ix ixt (pv 6) pe_int (fun _ _ => rfl)) pa_nil)) (pa_cons (pe_callTy (cl_dict) (by rfl) T.b_dict (by decide +kernel) (pa_cons (pe_ix ixt (pv 7) pe_int (fun _ _ => rfl)) pa_nil)) pa_nil)) (by rfl))
    (pss_cut (ps_if (PW.pt (pw_or (pt_cmpR oeqS (pv 5) (pe_strL (l := [111, 114]) (by decide +kernel)) (nomark _)) (pw_or1 (pt_val (pe_ix ixt (pv 6) pe_int (fun _ _ => rfl)))))) (pss_one (ps_expr (pe_bm PySem.F.plainAttrs_dict PySem.F.slot_dict_update PySem.F.type_dict_update (mupdate) (pv 8) (pa_cons (pe_ix ixt (pv 7) pe_int (fun _ _ => rfl)) pa_nil)))) pss_nil)
    (pss_cut (ps_if (PW.pt (pw_or (pt_cmpR oeqS (pv 5) (pe_strL (l := [111, 114]) (by decide +kernel)) (nomark _)) (pw_or1 (pt_val (pe_ix ixt (pv 7) pe_int (fun _ _ => rfl)))))) (pss_one (ps_expr (pe_bm PySem.F.plainAttrs_dict PySem.F.slot_dict_update PySem.F.type_dict_update (mupdate) (pv 9) (pa_cons (pe_ix ixt (pv 6) pe_int (fun _ _ => rfl)) pa_nil)))) pss_nil)
    (pss_cons (ps_if (pt_cmpR oeqS (pv 5) (pe_strL (l := [111, 114]) (by decide +kernel)) (nomark _)) (pss_one (ps_ret (pe_tup (pa_cons (pe_or (pe_ix ixt (pv 6) pe_int (fun _ _ => rfl)) (pe_one (pe_ix ixt (pv 7) pe_int (fun _ _ => rfl)))) (pa_cons (pv 8) (pa_cons (pv 9) pa_nil)))))) pss_nil)
    (pss_cons (ps_expr (pe_methF (pv 0) D_Sets_join (hr.mono (by decide)) passL (pa_cons (pe_ix ixt (pv 6) pe_int (fun _ _ => rfl)) (pa_cons (pe_ix ixt (pv 7) pe_int (fun _ _ => rfl)) pa_nil))))
    (pss_one (ps_ret (pe_tup (pa_cons (pe_and (pe_ix ixt (pv 6) pe_int (fun _ _ => rfl)) (pe_one (pe_ix ixt (pv 7) pe_int (fun _ _ => rfl)))) (pa_cons (pv 8) (pa_cons (pv 9) pa_nil))))))))))))))))))), ?_⟩
    rw [show L2.start N_Sets_told_of [V.ref x, V.ref ra, V.ref td] = [some (V.ref x), some (V.ref ra), some (V.ref td), none, none, none, none, none, none, none] from rfl]
    walk_at "r"
    refine ⟨_, ⟨atI_0⟩, ?_⟩
    walk_at "r"
    have tt : ∀ p : Addr, H p = none → p ∉ x :: td :: fds := fun p hp m => by
      rcases List.mem_cons.mp m with m | m
      · subst m; rw [hp] at hx; cases hx
      · rcases List.mem_cons.mp m with m | m
        · subst m; rw [hp] at htd; cases htd
        · exact hfo.fresh hp m
    cases q with
    | sign l =>
      have h1 := hsg l rfl
      obtain ⟨pos, rfl⟩ : ∃ k, pos = k + 1 := ⟨pos - 1, by omega⟩
      have e1 : ((pos + 1 : Nat) : Int) - 1 = (pos : Int) := by omega
      have e2 : (pos : Int) + 1 = ((pos + 1 : Nat) : Int) := by omega
      walk_at "r"
      intro d1 hd1
      walk_at "r"
      refine ⟨upd_same, [(.inl _, .bl true)], rfl, by simp, ?_⟩
      rw [upd2]
      walk_at "r"
      intro d2 hd2
      walk_at "r"
      refine ⟨upd_same, [(.inl _, .bl true)], rfl, by simp, ?_⟩
      rw [upd2]
      walk_at "r"
      intro t ht
      rw [e1] at hd1 hd2 ht ⊢
      rw [e2] at hd2 ht ⊢
      have kp : Kp (x :: fds) H (L2.upd (L2.upd (L2.upd (L2.upd H x (.ins T.a_Sets dx (fl_Sets_4 r lo (.ref fl) (.int (pos : Int))))) d1 (.dK (dk [pos + 1]))) d2 (.dK (dk [pos + 1]))) t (.tup [.bl false, .ref d1, .ref d2])) :=
        (Kp.upd (List.mem_cons_self ..)).trans (Kp.of fun b o h => upd_old ht (upd_old hd2 (upd_old hd1 h)))
      refine k _ _ kp (upd_old ht (upd_old hd2 (upd_old hd1 upd_same))) ?_ ?_
      · refine hfo.keep ((kp _ _ hfo.l fun m => ?_).trans hfo.l.symm) fun d hd ks h => ?_
        · rcases List.mem_cons.mp m with m | m
          · subst m; have := hfo.l; rw [hx] at this; cases this
          · obtain ⟨_, q⟩ := hfo.there m; rw [hfo.l] at q; cases q
        · exact upd_old ht (upd_old hd2 (upd_old hd1 ((upd_ne (ne_of h hx (by simp))).trans h)))
      · refine ⟨t, d1, d2, rfl, upd_same, upd_old ht (upd_old hd2 upd_same), upd_old ht upd_same, ?_, ?_⟩
        · exact fun m => tt d1 (of_none hd1) (List.mem_cons_of_mem _ m)
        · exact fun m => tt d2 (of_none (of_none hd2)) (List.mem_cons_of_mem _ m)
    | none =>
      walk_at "r"
      intro w1 hw1
      walk_at "r"
      refine ⟨[[110, 111, 110, 101], [101, 109, 112, 116, 121]], ⟨rfl⟩, ?_⟩
      walk_at "r"
      intro d1 hd1
      walk_at "r"
      intro d2 hd2
      walk_at "r"
      intro t ht
      have s3 : Same H (L2.upd (L2.upd (L2.upd (L2.upd H w1 (.tup [tx [110, 111, 110, 101], tx [101, 109, 112, 116, 121]])) d1 (.dK [])) d2 (.dK [])) t (.tup [.bl false, .ref d1, .ref d2])) := fun b o h => upd_old ht (upd_old hd2 (upd_old hd1 (upd_old hw1 h)))
      refine k _ _ (Kp.of s3) (s3 _ _ hx) (hfo.same s3) ⟨t, d1, d2, rfl, upd_same, upd_old ht (upd_old hd2 upd_same), upd_old ht upd_same, fun m => tt d1 (of_none hd1) (List.mem_cons_of_mem _ m), fun m => tt d2 (of_none (of_none hd2)) (List.mem_cons_of_mem _ m)⟩
    | empty =>
      walk_at "r"
      intro w1 hw1
      walk_at "r"
      refine ⟨[[110, 111, 110, 101], [101, 109, 112, 116, 121]], ⟨rfl⟩, ?_⟩
      walk_at "r"
      intro d1 hd1
      walk_at "r"
      intro d2 hd2
      walk_at "r"
      intro t ht
      have s3 : Same H (L2.upd (L2.upd (L2.upd (L2.upd H w1 (.tup [tx [110, 111, 110, 101], tx [101, 109, 112, 116, 121]])) d1 (.dK [])) d2 (.dK [])) t (.tup [.bl true, .ref d1, .ref d2])) := fun b o h => upd_old ht (upd_old hd2 (upd_old hd1 (upd_old hw1 h)))
      refine k _ _ (Kp.of s3) (s3 _ _ hx) (hfo.same s3) ⟨t, d1, d2, rfl, upd_same, upd_old ht (upd_old hd2 upd_same), upd_old ht upd_same, fun m => tt d1 (of_none hd1) (List.mem_cons_of_mem _ m), fun m => tt d2 (of_none (of_none hd2)) (List.mem_cons_of_mem _ m)⟩
    | mark m p =>
      obtain ⟨n0, rfl⟩ : ∃ n0, ns = [n0] := List.length_eq_one_iff.mp hns
      obtain ⟨v0, hv0, tv0⟩ := ka n0 rfl
      walk_at "r"
      intro w1 hw1
      walk_at "r"
      refine ⟨[[110, 111, 110, 101], [101, 109, 112, 116, 121]], ⟨rfl⟩, ?_⟩
      walk_at "r"
      refine ⟨_, ⟨atI_0⟩, ?_⟩
      walk_at "r"
      refine ⟨_, ⟨hv0⟩, ?_⟩
      walk_at "r"
      have kp := Kp.of (S := x :: fds) (H := H) (H' := L2.upd H w1 (.tup [tx [110, 111, 110, 101], tx [101, 109, 112, 116, 121]])) fun b o h => upd_old hw1 h
      exact k _ _ kp (upd_old hw1 hx) (hfo.same fun b o h => upd_old hw1 h) (tv0.kp hx hfo kp)
    | many p =>
      obtain ⟨n0, rfl⟩ : ∃ n0, ns = [n0] := List.length_eq_one_iff.mp hns
      obtain ⟨v0, hv0, tv0⟩ := ka n0 rfl
      obtain ⟨a0, fd, ld, rfl, h1, h2, h3, nf, nl⟩ := id tv0
      walk_at "r"
      intro w1 hw1
      walk_at "r"
      refine ⟨[[110, 111, 110, 101], [101, 109, 112, 116, 121]], ⟨rfl⟩, ?_⟩
      walk_at "r"
      refine ⟨_, ⟨atI_0⟩, ?_⟩
      walk_at "r"
      refine ⟨_, ⟨hv0⟩, ?_⟩
      walk_at "r"
      intro w2 hw2
      walk_at "r"
      refine ⟨[[109, 97, 110, 121], [102, 101, 119]], ⟨rfl⟩, ?_⟩
      walk_at "r"
      refine ⟨x, dx, ld, fd, fl, fds, fol, a.2.2, a.2.1, r, lo, _, fol.length, rfl, upd_old hw2 (upd_old hw1 hx), hfo.same fun b o h => upd_old hw2 (upd_old hw1 h), upd_old hw2 (upd_old hw1 h3), upd_old hw2 (upd_old hw1 h2), (fun m => nl (List.mem_cons_of_mem _ m)), (fun m => nf (List.mem_cons_of_mem _ m)), hok, oa1, oa2.2, hn, Nat.le_trans oa2.len hn, fun H' kp' hf' => ?_⟩
      have kp1 : Kp fds H H' := (Kp.of fun b o h => upd_old hw2 (upd_old hw1 h)).trans kp'
      have na : a0 ∉ fds := fun m => by obtain ⟨_, q⟩ := hfo.there m; rw [h1] at q; cases q
      have nx : x ∉ fds := fun m => by obtain ⟨_, q⟩ := hfo.there m; rw [hx] at q; cases q
      have h1' := kp1 _ _ h1 na
      walk_at "r"
      intro t ht
      have kp2 : Kp (x :: fds) H (L2.upd H' t (.tup [.bl true, .ref fd, .ref ld])) := (kp1.mono fun b m => List.mem_cons_of_mem _ m).trans (Kp.of fun b o h => upd_old ht h)
      refine k _ _ kp2 (upd_old ht (kp1 _ _ hx nx)) (hf'.same fun b o h => upd_old ht h) ?_
      exact ⟨t, fd, ld, rfl, upd_same, upd_old ht (kp1 _ _ h2 fun m => nf (List.mem_cons_of_mem _ m)), upd_old ht (kp1 _ _ h3 fun m => nl (List.mem_cons_of_mem _ m)), nf, nl⟩
    | few p =>
      obtain ⟨n0, rfl⟩ : ∃ n0, ns = [n0] := List.length_eq_one_iff.mp hns
      obtain ⟨v0, hv0, tv0⟩ := ka n0 rfl
      obtain ⟨a0, fd, ld, rfl, h1, h2, h3, nf, nl⟩ := id tv0
      walk_at "r"
      intro w1 hw1
      walk_at "r"
      refine ⟨[[110, 111, 110, 101], [101, 109, 112, 116, 121]], ⟨rfl⟩, ?_⟩
      walk_at "r"
      refine ⟨_, ⟨atI_0⟩, ?_⟩
      walk_at "r"
      refine ⟨_, ⟨hv0⟩, ?_⟩
      walk_at "r"
      intro w2 hw2
      walk_at "r"
      refine ⟨[[109, 97, 110, 121], [102, 101, 119]], ⟨rfl⟩, ?_⟩
      walk_at "r"
      refine ⟨x, dx, ld, fd, fl, fds, fol, a.2.2, a.2.1, r, lo, _, fol.length, rfl, upd_old hw2 (upd_old hw1 hx), hfo.same fun b o h => upd_old hw2 (upd_old hw1 h), upd_old hw2 (upd_old hw1 h3), upd_old hw2 (upd_old hw1 h2), (fun m => nl (List.mem_cons_of_mem _ m)), (fun m => nf (List.mem_cons_of_mem _ m)), hok, oa1, oa2.2, hn, Nat.le_trans oa2.len hn, fun H' kp' hf' => ?_⟩
      have kp1 : Kp fds H H' := (Kp.of fun b o h => upd_old hw2 (upd_old hw1 h)).trans kp'
      have na : a0 ∉ fds := fun m => by obtain ⟨_, q⟩ := hfo.there m; rw [h1] at q; cases q
      have nx : x ∉ fds := fun m => by obtain ⟨_, q⟩ := hfo.there m; rw [hx] at q; cases q
      have h1' := kp1 _ _ h1 na
      walk_at "r"
      intro t ht
      have kp2 : Kp (x :: fds) H (L2.upd H' t (.tup [.bl true, .ref fd, .ref ld])) := (kp1.mono fun b m => List.mem_cons_of_mem _ m).trans (Kp.of fun b o h => upd_old ht h)
      refine k _ _ kp2 (upd_old ht (kp1 _ _ hx nx)) (hf'.same fun b o h => upd_old ht h) ?_
      exact ⟨t, fd, ld, rfl, upd_same, upd_old ht (kp1 _ _ h2 fun m => nf (List.mem_cons_of_mem _ m)), upd_old ht (kp1 _ _ h3 fun m => nl (List.mem_cons_of_mem _ m)), nf, nl⟩
    | or p1 p2 =>
      obtain ⟨n0, n1, rfl⟩ : ∃ n0 n1, ns = [n0, n1] := by
        match ns, hns with
        | [n0, n1], _ => exact ⟨n0, n1, rfl⟩
      obtain ⟨v0, hv0, tv0⟩ := ka n0 rfl
      obtain ⟨v1, hv1, tv1⟩ := kb n1 rfl
      obtain ⟨a0, fd0, ld0, rfl, h10, h20, h30, nf0, nl0⟩ := id tv0
      obtain ⟨a1, fd1, ld1, rfl, h11, h21, h31, nf1, nl1⟩ := id tv1
      walk_at "r"
      intro w1 hw1
      walk_at "r"
      refine ⟨[[110, 111, 110, 101], [101, 109, 112, 116, 121]], ⟨rfl⟩, ?_⟩
      walk_at "r"
      refine ⟨_, ⟨atI_0⟩, ?_⟩
      walk_at "r"
      refine ⟨_, ⟨hv0⟩, ?_⟩
      walk_at "r"
      intro w2 hw2
      walk_at "r"
      refine ⟨[[109, 97, 110, 121], [102, 101, 119]], ⟨rfl⟩, ?_⟩
      walk_at "r"
      refine ⟨_, ⟨atI_1⟩, ?_⟩
      walk_at "r"
      refine ⟨_, ⟨hv1⟩, ?_⟩
      walk_at "r"
      intro d1 hd1
      walk_at "r"
      intro d2 hd2
      walk_at "r"
      have hd1' : H d1 = none := of_none (of_none hd1)
      have hd2' : H d2 = none := of_none (of_none (of_none hd2))
      have d12 : d1 ≠ d2 := ne_of_none upd_same hd2
      have hdf : d1 ≠ fd1 := (ne_of_none h21 hd1').symm
      have hdl : d2 ≠ ld0 := (ne_of_none h30 hd2').symm
      have zf : (dk a.2.1).length + (dk b.2.1).length ≤ sizeLine := by
        rw [dk_len, dk_len]; have := oa1.len; have := ob1.len; exact Nat.le_trans (m := 1000000) (by omega) (by decide)
      have zl : (dk b.2.2).length + (dk a.2.2).length ≤ sizeLine := by
        rw [dk_len, dk_len]; have := oa2.len; have := ob2.len; exact Nat.le_trans (m := 1000000) (by omega) (by decide)
      refine ⟨fun σ H' => Stop (σ = [some (.ref x), some (.ref ra), some (.ref td), some (.ref aq), some (.ref pb), some (tx (Pat.or p1 p2).word), some (.ref a0), some (.ref a1), some (.ref d1), some (.ref d2)] ∧ Same H H' ∧ H' d1 = some (.dK (dk (addKeys a.2.1 b.2.1))) ∧ H' d2 = some (.dK (dk b.2.2))), ?_, ?_⟩
      · walk_at "r"
        rw [mergeK_dk]
        refine Stop.i ⟨rfl, fun b o h => ?_, upd_same, (upd_ne d12.symm).trans upd_same⟩
        exact (upd_ne (ne_of_none h hd1')).trans (upd_old hd2 (upd_old hd1 (upd_old hw2 (upd_old hw1 h))))
      · intro σ1 H1 h
        obtain ⟨rfl, s1, hF, hB⟩ := h.o
        have h10' := s1 _ _ h10
        have h11' := s1 _ _ h11
        have h30' := s1 _ _ h30
        have h21' := s1 _ _ h21
        refine ⟨fun σ H' => Stop (σ = [some (.ref x), some (.ref ra), some (.ref td), some (.ref aq), some (.ref pb), some (tx (Pat.or p1 p2).word), some (.ref a0), some (.ref a1), some (.ref d1), some (.ref d2)] ∧ Same H H' ∧ H' d1 = some (.dK (dk (addKeys a.2.1 b.2.1))) ∧ H' d2 = some (.dK (dk (addKeys b.2.2 a.2.2)))), ?_, ?_⟩
        · walk_at "r"
          rw [mergeK_dk]
          exact Stop.i ⟨rfl, fun b o h => (upd_ne (ne_of_none h hd2')).trans (s1 _ _ h), (upd_ne d12).trans hF, upd_same⟩
        · intro σ2 H2 h
          obtain ⟨rfl, s2, hF2, hG2⟩ := h.o
          have hx2 := s2 _ _ hx
          have h10' := s2 _ _ h10
          have h11' := s2 _ _ h11
          have nd1 := tt d1 hd1'
          have nd2 := tt d2 hd2'
          walk_at "r"
          refine iteB (fun e => ?_) (fun e => ?_)
          · walk_at "r"
            intro t ht
            have s3 : Same H (L2.upd H2 t (.tup [.bl true, .ref d1, .ref d2])) := fun b o h => upd_old ht (s2 _ _ h)
            refine k _ _ (Kp.of s3) (s3 _ _ hx) (hfo.same s3) ⟨t, d1, d2, rfl, ?_, upd_old ht hF2, upd_old ht hG2, fun m => nd1 (List.mem_cons_of_mem _ m), fun m => nd2 (List.mem_cons_of_mem _ m)⟩
            show _ = some (HO.tup [V.bl (a.1 || b.1), _, _])
            rw [upd_same, e, Bool.true_or]
          · walk_at "r"
            intro t ht
            have s3 : Same H (L2.upd H2 t (.tup [.bl b.1, .ref d1, .ref d2])) := fun b o h => upd_old ht (s2 _ _ h)
            refine k _ _ (Kp.of s3) (s3 _ _ hx) (hfo.same s3) ⟨t, d1, d2, rfl, ?_, upd_old ht hF2, upd_old ht hG2, fun m => nd1 (List.mem_cons_of_mem _ m), fun m => nd2 (List.mem_cons_of_mem _ m)⟩
            show _ = some (HO.tup [V.bl (a.1 || b.1), _, _])
            rw [upd_same, e, Bool.false_or]
    | thn p1 p2 =>
      obtain ⟨n0, n1, rfl⟩ : ∃ n0 n1, ns = [n0, n1] := by
        match ns, hns with
        | [n0, n1], _ => exact ⟨n0, n1, rfl⟩
      obtain ⟨v0, hv0, tv0⟩ := ka n0 rfl
      obtain ⟨v1, hv1, tv1⟩ := kb n1 rfl
      obtain ⟨a0, fd0, ld0, rfl, h10, h20, h30, nf0, nl0⟩ := id tv0
      obtain ⟨a1, fd1, ld1, rfl, h11, h21, h31, nf1, nl1⟩ := id tv1
      walk_at "r"
      intro w1 hw1
      walk_at "r"
      refine ⟨[[110, 111, 110, 101], [101, 109, 112, 116, 121]], ⟨rfl⟩, ?_⟩
      walk_at "r"
      refine ⟨_, ⟨atI_0⟩, ?_⟩
      walk_at "r"
      refine ⟨_, ⟨hv0⟩, ?_⟩
      walk_at "r"
      intro w2 hw2
      walk_at "r"
      refine ⟨[[109, 97, 110, 121], [102, 101, 119]], ⟨rfl⟩, ?_⟩
      walk_at "r"
      refine ⟨_, ⟨atI_1⟩, ?_⟩
      walk_at "r"
      refine ⟨_, ⟨hv1⟩, ?_⟩
      walk_at "r"
      intro d1 hd1
      walk_at "r"
      intro d2 hd2
      walk_at "r"
      have hd1' : H d1 = none := of_none (of_none hd1)
      have hd2' : H d2 = none := of_none (of_none (of_none hd2))
      have d12 : d1 ≠ d2 := ne_of_none upd_same hd2
      have hdf : d1 ≠ fd1 := (ne_of_none h21 hd1').symm
      have hdl : d2 ≠ ld0 := (ne_of_none h30 hd2').symm
      have zf : (dk a.2.1).length + (dk b.2.1).length ≤ sizeLine := by
        rw [dk_len, dk_len]; have := oa1.len; have := ob1.len; exact Nat.le_trans (m := 1000000) (by omega) (by decide)
      have zl : (dk b.2.2).length + (dk a.2.2).length ≤ sizeLine := by
        rw [dk_len, dk_len]; have := oa2.len; have := ob2.len; exact Nat.le_trans (m := 1000000) (by omega) (by decide)
      refine ⟨fun σ H' => Stop (σ = [some (.ref x), some (.ref ra), some (.ref td), some (.ref aq), some (.ref pb), some (tx (Pat.thn p1 p2).word), some (.ref a0), some (.ref a1), some (.ref d1), some (.ref d2)] ∧ Same H H' ∧ H' d1 = some (.dK (dk (if a.1 = true then addKeys a.2.1 b.2.1 else a.2.1))) ∧ H' d2 = some (.dK (dk b.2.2))), ?_, ?_⟩
      · walk_at "r"
        refine iteB (fun e => ?_) (fun e => ?_)
        · walk_at "r"
          rw [mergeK_dk]
          refine Stop.i ⟨rfl, fun b o h => ?_, ?_, (upd_ne d12.symm).trans upd_same⟩
          · exact (upd_ne (ne_of_none h hd1')).trans (upd_old hd2 (upd_old hd1 (upd_old hw2 (upd_old hw1 h))))
          · rw [upd_same, if_pos e]
        · refine Stop.i ⟨rfl, fun b o h => upd_old hd2 (upd_old hd1 (upd_old hw2 (upd_old hw1 h))), ?_, upd_same⟩
          rw [if_neg (by rw [e]; exact Bool.false_ne_true)]
          exact upd_old hd2 upd_same
      · intro σ1 H1 h
        obtain ⟨rfl, s1, hF, hB⟩ := h.o
        have h10' := s1 _ _ h10
        have h11' := s1 _ _ h11
        have h30' := s1 _ _ h30
        have h21' := s1 _ _ h21
        refine ⟨fun σ H' => Stop (σ = [some (.ref x), some (.ref ra), some (.ref td), some (.ref aq), some (.ref pb), some (tx (Pat.thn p1 p2).word), some (.ref a0), some (.ref a1), some (.ref d1), some (.ref d2)] ∧ Same H H' ∧ H' d1 = some (.dK (dk (if a.1 = true then addKeys a.2.1 b.2.1 else a.2.1))) ∧ H' d2 = some (.dK (dk (if b.1 = true then addKeys b.2.2 a.2.2 else b.2.2)))), ?_, ?_⟩
        · walk_at "r"
          refine iteB (fun e => ?_) (fun e => ?_)
          · walk_at "r"
            rw [mergeK_dk]
            refine Stop.i ⟨rfl, fun b o h => (upd_ne (ne_of_none h hd2')).trans (s1 _ _ h), (upd_ne d12).trans hF, ?_⟩
            rw [upd_same, if_pos e]
          · refine Stop.i ⟨rfl, s1, hF, ?_⟩
            rw [if_neg (by rw [e]; exact Bool.false_ne_true)]
            exact hB
        · intro σ2 H2 h
          obtain ⟨rfl, s2, hF2, hG2⟩ := h.o
          have hx2 := s2 _ _ hx
          have h10' := s2 _ _ h10
          have h11' := s2 _ _ h11
          have nd1 := tt d1 hd1'
          have nd2 := tt d2 hd2'
          walk_at "r"
          refine ⟨x, dx, ld0, fd1, fl, fds, fol, a.2.2, b.2.1, r, lo, _, fol.length, rfl, s2 _ _ hx, hfo.same s2, s2 _ _ h30, s2 _ _ h21, (fun m => nl0 (List.mem_cons_of_mem _ m)), (fun m => nf1 (List.mem_cons_of_mem _ m)), hok, ob1, oa2.2, hn, Nat.le_trans oa2.len hn, fun H3 kp3 hf3 => ?_⟩
          have kp1 : Kp fds H H3 := (Kp.of s2).trans kp3
          have nx : x ∉ fds := fun m => by obtain ⟨_, q⟩ := hfo.there m; rw [hx] at q; cases q
          have na0 : a0 ∉ fds := fun m => by obtain ⟨_, q⟩ := hfo.there m; rw [h10] at q; cases q
          have na1 : a1 ∉ fds := fun m => by obtain ⟨_, q⟩ := hfo.there m; rw [h11] at q; cases q
          have h103 := kp1 _ _ h10 na0
          have h113 := kp1 _ _ h11 na1
          have hF3 := kp3 _ _ hF2 (fun m => nd1 (List.mem_cons_of_mem _ (List.mem_cons_of_mem _ m)))
          have hG3 := kp3 _ _ hG2 (fun m => nd2 (List.mem_cons_of_mem _ (List.mem_cons_of_mem _ m)))
          walk_at "r"
          refine iteB (fun e => ?_) (fun e => ?_)
          · walk_at "r"
            intro t ht
            refine k _ _ ((kp1.mono fun b m => List.mem_cons_of_mem _ m).trans (Kp.of fun b o h => upd_old ht h)) (upd_old ht (kp1 _ _ hx nx)) (hf3.same fun b o h => upd_old ht h) ⟨t, d1, d2, rfl, ?_, upd_old ht hF3, upd_old ht hG3, fun m => nd1 (List.mem_cons_of_mem _ m), fun m => nd2 (List.mem_cons_of_mem _ m)⟩
            show _ = some (HO.tup [V.bl (a.1 && b.1), _, _])
            rw [upd_same, e, Bool.true_and]
          · walk_at "r"
            intro t ht
            refine k _ _ ((kp1.mono fun b m => List.mem_cons_of_mem _ m).trans (Kp.of fun b o h => upd_old ht h)) (upd_old ht (kp1 _ _ hx nx)) (hf3.same fun b o h => upd_old ht h) ⟨t, d1, d2, rfl, ?_, upd_old ht hF3, upd_old ht hG3, fun m => nd1 (List.mem_cons_of_mem _ m), fun m => nd2 (List.mem_cons_of_mem _ m)⟩
            show _ = some (HO.tup [V.bl (a.1 && b.1), _, _])
            rw [upd_same, e, Bool.false_and]
end
end FR
end
section
set_option Elab.async false
set_option linter.all false
set_option maxRecDepth 20000
set_option maxHeartbeats 2000000
/-! What Sets makes of a pattern, as a whole. -/
namespace FR
open PySem L2 FL
theorem sign_of_word {q : Pat} (h : q.word = [115, 105, 103, 110]) : ∃ l, q = .sign l := by
  cases q with
  | sign l => exact ⟨l, rfl⟩
  | _ => exact absurd h (by simp [Pat.word, wNone, wEmpty, wThen, wOr, wMany, wFew, wMark])
theorem not_sign {q : Pat} (h : ¬ q.word = [115, 105, 103, 110]) : isSign q = false := by
  cases q with
  | sign l => exact absurd rfl h
  | _ => rfl
theorem rlots_take {rows : Rows} {k : Nat} {r : Pat × List Nat} (h : rows[k]? = some r) : rlots (rows.take (k + 1)) = rlots (rows.take k) ++ (if isSign r.1 then [lotOf r.1] else []) := by
  rw [List.take_add_one, h, rlots_app]
  show _ ++ rlots [r] = _
  rw [rlots_cons]
  simp [rlots]
theorem rlots_pre (rows : Rows) (k : Nat) : (rlots (rows.take k)).length ≤ (rlots rows).length := by
  have h : rlots rows = rlots (rows.take k) ++ rlots (rows.drop k) := by rw [← rlots_app, List.take_append_drop]
  rw [h, List.length_append]
  omega
def st0 (L : Nat) : ST := (fun _ => dT, ⟨List.replicate (L + 1) [], L⟩)
structure Good (rows : Rows) (k : Nat) (st : ST) : Prop where
  len : st.2.fol.length = (rlots rows).length + 1
  ok : FOk ((rlots rows).length + 1) st.2.fol
  vs : ∀ j, VOk ((rlots rows).length + 1) (st.1 j)
  pos : st.2.pos = (rlots (rows.take k)).length
theorem Good.init (rows : Rows) : Good rows rows.length (st0 (rlots rows).length) := ⟨by simp [st0], fun i ks h => by
  have : ks ∈ List.replicate ((rlots rows).length + 1) [] := List.mem_of_getElem? h
  rw [List.mem_replicate] at this
  rw [this.2]
  exact KOk.nil, fun j => VOk.dT, by simp [st0]⟩
theorem VOk.kid {n : Nat} {f : Nat → TVal} (h : ∀ j, VOk n (f j)) (ns : List Nat) (i : Nat) : VOk n (FR.kid f ns i) := by
  unfold FR.kid
  split
  · exact h _
  · exact VOk.dT
theorem Good.pos_le {rows : Rows} {k : Nat} {st : ST} (g : Good rows k st) : st.2.pos < (rlots rows).length + 1 := by
  rw [g.pos]
  have := rlots_pre rows k
  omega
theorem Good.step {rows : Rows} {k : Nat} {st : ST} {r : Pat × List Nat} (g : Good rows (k + 1) st) (h : rows[k]? = some r) : Good rows k (stepM rows st k) := by
  obtain ⟨q, ns⟩ := r
  have t := tOf_ok (q := q) (VOk.kid g.vs ns 0) (VOk.kid g.vs ns 1) g.ok g.pos_le
  have e : stepM rows st k = (putT st.1 k (tOf q (kid st.1 ns 0) (kid st.1 ns 1) st.2).1, (tOf q (kid st.1 ns 0) (kid st.1 ns 1) st.2).2) := by
    unfold stepM
    rw [h]
  rw [e]
  refine ⟨t.2.2.trans g.len, t.2.1, fun j => ?_, ?_⟩
  · show VOk _ (putT st.1 k _ j)
    unfold putT
    split
    · exact t.1
    · exact g.vs j
  · show (tOf q _ _ st.2).2.pos = _
    rw [tOf_pos, g.pos, rlots_take h]
    cases hs : isSign q <;> simp [hs]
theorem Good.one {rows : Rows} {k : Nat} {st : ST} {q : Pat} {ns : List Nat} (g : Good rows (k + 1) st) (h : rows[k]? = some (q, ns)) : ∀ l, q = .sign l → 1 ≤ st.2.pos := by
  rintro l rfl
  rw [g.pos, rlots_take h]
  simp [isSign]
/-- the whole -/
def evS (p : Pat) : TVal × MS := ev p ⟨List.replicate ((lots p).length + 1) [], (lots p).length⟩
def folP (p : Pat) : List (List Nat) := modAt (evS p).2.fol 0 (evS p).1.2.1
def endP (p : Pat) : List Nat := if (evS p).1.1 = true then addKey (evS p).1.2.2 0 else (evS p).1.2.2
theorem proc_good (rows : Rows) : ∀ (n k : Nat) , k + n = rows.length → Good rows k (proc rows k n (st0 (rlots rows).length))
  | 0, k, h => by
    rw [show k = rows.length by omega]
    exact Good.init rows
  | n + 1, k, h => by
    have g := proc_good rows n (k + 1) (by omega)
    exact g.step (List.getElem?_eq_getElem (by omega))
theorem whole (p : Pat) : (proc (nrows 0 p) 0 (nrows 0 p).length (st0 (lots p).length)).1 0 = (evS p).1 ∧ (proc (nrows 0 p) 0 (nrows 0 p).length (st0 (lots p).length)).2 = (evS p).2 := by
  have h := proc_ev (nrows 0 p) p 0 (st0 (lots p).length) (fun j hj => by rw [Nat.zero_add])
  rw [nrows_len]
  exact ⟨h.1, h.2.1⟩
theorem evS_good (p : Pat) : (evS p).2.fol.length = (lots p).length + 1 ∧ FOk ((lots p).length + 1) (evS p).2.fol ∧ VOk ((lots p).length + 1) (evS p).1 := by
  have g := proc_good (nrows 0 p) (nrows 0 p).length 0 (by omega)
  have w := whole p
  rw [rlots_nrows] at g
  have h1 := g.len
  have h2 := g.ok
  have h3 := g.vs 0
  rw [rlots_nrows] at h1 h2 h3
  rw [w.2] at h1 h2
  rw [w.1] at h3
  exact ⟨h1, h2, h3⟩
theorem folP_ok (p : Pat) : (folP p).length = (lots p).length + 1 ∧ FOk ((lots p).length + 1) (folP p) := by
  obtain ⟨a, b, c⟩ := evS_good p
  exact ⟨(modAt_len ..).trans a, b.mod c.1⟩
theorem endP_ok (p : Pat) : KOk ((lots p).length + 1) (endP p) := by
  obtain ⟨a, b, c⟩ := evS_good p
  unfold endP
  split
  · refine ⟨nd_addKey c.2.1, fun k hk => ?_⟩
    rcases mem_addKey.mp hk with h | h
    · exact c.2.2 k h
    · omega
  · exact c.2
theorem lots_size : ∀ p : Pat, (lots p).length ≤ p.size
  | .none => by simp [lots, Pat.size]
  | .empty => by simp [lots, Pat.size]
  | .sign _ => by simp [lots, Pat.size]
  | .thn p q => by have := lots_size p; have := lots_size q; simp [lots, Pat.size]; omega
  | .or p q => by have := lots_size p; have := lots_size q; simp [lots, Pat.size]; omega
  | .many p => by have := lots_size p; simp [lots, Pat.size]; omega
  | .few p => by have := lots_size p; simp [lots, Pat.size]; omega
  | .mark _ p => by have := lots_size p; simp [lots, Pat.size]; omega
end FR
end
section
set_option Elab.async false
set_option linter.all false
set_option maxRecDepth 20000
set_option maxHeartbeats 1000000
namespace FR
open PySem PySem.Spec PyProof.Rows L2 FL
local macro_rules | `(tactic| walk_at "ne") => `(tactic| first | assumption | exact Ne.symm (by assumption))
local macro_rules | `(tactic| walk_at "hl") => `(tactic| first | assumption | exact upd_same | exact upd_old (by assumption) (by walk_at "hl") | exact (upd_ne (by walk_at "ne")).trans (by walk_at "hl"))
local macro_rules | `(tactic| walk_at "side") => `(tactic| first | rfl | assumption | omega | decide | exact Or.inl ⟨rfl, _, SqL.of (by walk_at "hl")⟩ | exact Or.inr (Or.inr (Or.inl ⟨rfl, Or.inl ⟨_, by walk_at "hl"⟩⟩)) | exact Or.inr (Or.inr (Or.inl ⟨rfl, Or.inr ⟨_, by walk_at "hl"⟩⟩)) | exact Or.inr ⟨by decide, by decide⟩ | exact Or.inl ⟨by omega, by omega⟩ | exact ⟨by decide, by decide, by decide⟩ | exact ⟨by first | omega | decide, by first | omega | decide⟩ | exact Nat.le_of_ble_eq_true rfl | exact Nat.le_trans (m := 1000000) (by omega) (by decide) | exact Nat.lt_of_le_of_lt (m := 1000000) (by omega) (by decide) | exact ⟨by omega, by omega, by omega, by omega⟩)
local macro_rules | `(tactic| walk_at "lk") => `(tactic| with_reducible first | exact lk_Sets_1_0 | exact lk_Sets_2_0 | exact lk_Sets_2_1 | exact lk_Sets_3_0 | exact lk_Sets_3_1 | exact lk_Sets_3_2 | exact lk_Sets_4_0 | exact lk_Sets_4_1 | exact lk_Sets_4_2 | exact lk_Sets_4_3 | exact lk_Sets_5_0 | exact lk_Sets_5_1 | exact lk_Sets_5_2 | exact lk_Sets_5_3 | exact lk_Sets_5_4 | exact lk_Mender_1_0 | exact lk_Mender_2_0 | exact lk_Mender_2_1 | exact lk_Mender_3_0 | exact lk_Mender_3_1 | exact lk_Mender_3_2 | exact lk_Mender_4_0 | exact lk_Mender_4_1 | exact lk_Mender_4_2 | exact lk_Mender_4_3)
local macro_rules | `(tactic| walk_at "pf") => `(tactic| with_reducible first | exact pf_Sets_1_0 | exact pf_Sets_2_0 | exact pf_Sets_2_1 | exact pf_Sets_3_0 | exact pf_Sets_3_1 | exact pf_Sets_3_2 | exact pf_Sets_4_0 | exact pf_Sets_4_1 | exact pf_Sets_4_2 | exact pf_Sets_4_3 | exact pf_Sets_5_0 | exact pf_Sets_5_1 | exact pf_Sets_5_2 | exact pf_Sets_5_3 | exact pf_Sets_5_4 | exact pn_Sets_0 | exact pn_Sets_1 | exact pn_Sets_2 | exact pn_Sets_3 | exact pn_Sets_4 | exact pf_Mender_1_0 | exact pf_Mender_2_0 | exact pf_Mender_2_1 | exact pf_Mender_3_0 | exact pf_Mender_3_1 | exact pf_Mender_3_2 | exact pf_Mender_4_0 | exact pf_Mender_4_1 | exact pf_Mender_4_2 | exact pf_Mender_4_3 | exact pn_Mender_0 | exact pn_Mender_1 | exact pn_Mender_2 | exact pn_Mender_3)
local macro_rules | `(tactic| walk_at "no") => `(tactic| with_reducible first | exact no_Sets_0___init__ | exact no_Sets_1___init__ | exact no_Sets_2___init__ | exact no_Sets_3___init__ | exact no_Sets_4___init__ | exact no_Sets_5___init__ | exact no_Sets_0_join | exact no_Sets_1_join | exact no_Sets_2_join | exact no_Sets_3_join | exact no_Sets_4_join | exact no_Sets_5_join | exact no_Sets_0_told_of | exact no_Sets_1_told_of | exact no_Sets_2_told_of | exact no_Sets_3_told_of | exact no_Sets_4_told_of | exact no_Sets_5_told_of | exact no_Sets_0_moved | exact no_Sets_1_moved | exact no_Sets_2_moved | exact no_Sets_3_moved | exact no_Sets_4_moved | exact no_Sets_5_moved | exact no_Sets_0_can_stop | exact no_Sets_1_can_stop | exact no_Sets_2_can_stop | exact no_Sets_3_can_stop | exact no_Sets_4_can_stop | exact no_Sets_5_can_stop | exact no_Mender_0___init__ | exact no_Mender_1___init__ | exact no_Mender_2___init__ | exact no_Mender_3___init__ | exact no_Mender_4___init__ | exact no_Mender_0_fill_last | exact no_Mender_1_fill_last | exact no_Mender_2_fill_last | exact no_Mender_3_fill_last | exact no_Mender_4_fill_last | exact no_Mender_0_spread | exact no_Mender_1_spread | exact no_Mender_2_spread | exact no_Mender_3_spread | exact no_Mender_4_spread | exact no_Mender_0_lessened | exact no_Mender_1_lessened | exact no_Mender_2_lessened | exact no_Mender_3_lessened | exact no_Mender_4_lessened | exact no_Mender_0_fill | exact no_Mender_1_fill | exact no_Mender_2_fill | exact no_Mender_3_fill | exact no_Mender_4_fill | exact no_Mender_0_least | exact no_Mender_1_least | exact no_Mender_2_least | exact no_Mender_3_least | exact no_Mender_4_least | exact no_Mender_0_steps_from | exact no_Mender_1_steps_from | exact no_Mender_2_steps_from | exact no_Mender_3_steps_from | exact no_Mender_4_steps_from | exact no_Mender_0_later | exact no_Mender_1_later | exact no_Mender_2_later | exact no_Mender_3_later | exact no_Mender_4_later | exact no_Mender_0_closed | exact no_Mender_1_closed | exact no_Mender_2_closed | exact no_Mender_3_closed | exact no_Mender_4_closed)
local macro_rules | `(tactic| walk_at "s") => `(tactic| first
   | refine ⟨_, rfl, ?_⟩
   | refine ⟨_, _, rfl, rfl, ?_⟩
   | refine ⟨_, _, rfl, ?_⟩
   | refine iteT ?_
   | refine iteF ?_
   | refine ⟨_, (show _ = some _ by walk_at "hl"), ?_⟩
   | refine ⟨_, (show Ins _ _ _ _ from Ins.of (by walk_at "hl")), ?_⟩
   | refine ⟨_, (show Lk _ _ _ by walk_at "lk"), ?_⟩
   | refine ⟨_, (show Pf _ _ _ _ by walk_at "pf"), ?_⟩
   | refine And.intro (show NoL _ _ by walk_at "no") ?_
   | refine ⟨_, _, rfl, SqL.of (by walk_at "hl"), ?_⟩
   | refine ⟨_, _, rfl, SqT.of (by walk_at "hl"), ?_⟩
   | refine And.intro ⟨_, SqL.of (by walk_at "hl")⟩ ?_
   | refine And.intro (by walk_at "side") ?_)
local macro_rules | `(tactic| walk_at "si") => `(tactic| first
   | walk_at "s"
   | refine iteD (fun _ => ?_) (fun _ => ?_)
   | refine iteDn (fun _ => ?_) (fun _ => ?_))
local macro_rules | `(tactic| walk_at "r") => `(tactic| repeat walk_at "s")
local macro_rules | `(tactic| walk_at "ri") => `(tactic| repeat walk_at "si")

abbrev N_Sets___init__ : List Str := ["self", "pattern", "told", "number", "is_empty", "firsts", "lasts", "node", "parts"]
theorem sc_Sets___init__ : FnScope N_Sets___init__ ["self", "pattern"] (defScope s_Sets___init__) := ⟨rfl, rfl, rfl, by decide +kernel, rfl, by decide +kernel, by decide +kernel⟩
section
variable {P : Program} {w : World} {K : PySem.W.Frag} {mg : Str → Option Value} {base : Heap}
/-- an object that holds the states of p -/
def SetsAt (C : Addr) (H : Hp) (x : Addr) (p : Pat) : Prop := ∃ (dx r lo fl en : Addr) (po : V) (fds : List Addr), H x = some (.ins C dx (fl_Sets_5 (.ref r) (.ref lo) (.ref fl) po (.ref en))) ∧
  H lo = some (.lst ((lots p).map tx)) ∧ FolAt H fl fds (folP p) ∧ H en = some (.dK (dk (endP p)))
theorem SetsAt.same {C : Addr} {H H' : Hp} {x : Addr} {p : Pat} (h : SetsAt C H x p) (s : Same H H') : SetsAt C H' x p := by
  obtain ⟨dx, r, lo, fl, en, po, fds, h1, h2, h3, h4⟩ := h
  exact ⟨dx, r, lo, fl, en, po, fds, s _ _ h1, s _ _ h2, h3.same s, s _ _ h4⟩
def spSets (C : Addr) : Sp := fun vs H Q _ => ∃ (x dx : Addr) (v : V) (p : Pat), vs = [.ref x, v] ∧ H x = some (.ins C dx []) ∧ PatAt H v p ∧ p.size ≤ 500 ∧ ∀ H', Kp [x] H H' → SetsAt C H' x p → Q .non H'
theorem RowsAt.row {H : Hp} {vs : List V} {bs : List Addr} {rows : Rows} {b : Addr} (h : RowsAt H vs bs rows) (m : b ∈ bs) : ∃ xs, H b = some (.lst xs) := by
  obtain ⟨i, hi⟩ := List.getElem?_of_mem m
  have hl : i < rows.length := by rw [← h.l2]; exact (List.getElem?_eq_some_iff.mp hi).1
  obtain ⟨v, b', _, h2, a, x, _, _, _, e4⟩ := h.at_ i _ (List.getElem?_eq_getElem hl)
  rw [hi] at h2
  obtain rfl := Option.some.inj h2
  exact ⟨_, e4⟩
theorem FolAt.empty {H : Hp} {fl : Addr} {ds : List Addr} {n : Nat} (hl : H fl = some (.lst (ds.map V.ref))) (hn : ds.length = n) (nd : ds.Nodup) (h : ∀ d ∈ ds, H d = some (.dK [])) : FolAt H fl ds (List.replicate n []) :=
  ⟨hl, by simp [hn], nd, fun i d ks e1 e2 => by
    have m : ks ∈ List.replicate n [] := List.mem_of_getElem? e2
    rw [List.mem_replicate] at m
    rw [m.2]
    exact h d (List.mem_of_getElem? e1)⟩
theorem RowsAt.kp {H H' : Hp} {S : List Addr} {vs : List V} {bs : List Addr} {rows : Rows} (h : RowsAt H vs bs rows) (k : Kp S H H') (n1 : ∀ a ∈ S, ∀ xs, H a ≠ some (.tup xs)) (n2 : ∀ a ∈ S, ∀ xs, H a ≠ some (.lst xs)) : RowsAt H' vs bs rows := by
  have t : Tups H H' := fun a xs e => k _ _ e fun m => n1 a m xs e
  refine ⟨h.l1, h.l2, h.nd, fun i r e => ?_⟩
  obtain ⟨v, b, h1, h2, a, x, e1, e2, e3, e4⟩ := h.at_ i r e
  exact ⟨v, b, h1, h2, a, x, e1, t _ _ e2, e3.mono t, k _ _ e4 fun m => n2 b m _ e4⟩
theorem TV.upd {H : Hp} {td : Addr} {fds : List Addr} {tk : List (Key × V)} {u : HO} {v : V} {t : TVal} (h : TV H (td :: fds) v t) (ht : H td = some (.dK tk)) : TV (L2.upd H td u) (td :: fds) v t := by
  obtain ⟨a, fd, ld, e, h1, h2, h3, n1, n2⟩ := h
  exact ⟨a, fd, ld, e, (upd_ne (ne_of h1 ht (by simp))).trans h1, (upd_ne fun e => n1 (by rw [e]; exact List.mem_cons_self ..)).trans h2, (upd_ne fun e => n2 (by rw [e]; exact List.mem_cons_self ..)).trans h3, n1, n2⟩
theorem upd_comm {H : Hp} {a b : Addr} {o u : HO} (ne : a ≠ b) : L2.upd (L2.upd H a o) b u = L2.upd (L2.upd H b u) a o := by
  funext c
  by_cases e : c = b
  · subst e; rw [upd_same, upd_ne ne.symm, upd_same]
  · by_cases e2 : c = a
    · subst e2; rw [upd_ne e, upd_same, upd_same]
    · rw [upd_ne e, upd_ne e2, upd_ne e2, upd_ne e]
/-- between two turns: the rows from k on are told -/
structure SI (C : Addr) (Hd H' : Hp) (x dx td fl : Addr) (r lo : V) (fds : List Addr) (rows : Rows) (n k : Nat) (tk : List (Key × V)) (st : ST) : Prop where
  kp : Kp (x :: td :: fds) Hd H'
  te : H' td = some (.dK tk)
  hx : H' x = some (.ins C dx (fl_Sets_4 r lo (.ref fl) (.int (st.2.pos : Int))))
  fo : FolAt H' fl fds st.2.fol
  ln : tk.length ≤ n
  tv : ∀ j, k ≤ j → j < rows.length → ∃ v, valV tk (Sum.inl (j : Int) : Key) = some v ∧ TV H' (td :: fds) v (st.1 j)
  gd : Good rows k st
theorem ok_Sets___init__ {f : Addr} {fd : FuncData} (F : Fun K "__init__" "Sets.__init__" s_Sets___init__ f fd) (T : Txt w K mg) (D_node_rows : Df P w K mg base 2 "node_rows" ["pattern"] spNodeRows)
    (D_Sets_told_of : DfM P w K mg base 2 T.a_Sets "told_of" ["self", "row", "told"] (spTold T.a_Sets)) : FnOk P w K mg base (L2.CX P w) 3 f fd ["self", "pattern"] (spSets T.a_Sets) := by
  refine F.okX sc_Sets___init__ (fun vs H Q E h => ?_) (fun cdv A outer s H vs Q E hr h => ?_)
  · obtain ⟨_, _, _, _, rfl, _⟩ := h
    rfl
  · obtain ⟨x, dx, v, p, rfl, hx, hp, hs, k⟩ := h
    have hu := hu_of hr
    refine ⟨_, PSs.nox (pss_cons (ps_fd (pv 0) (pe_callD D_node_rows (hr.mono (by decide)) passL (pa_cons (pv 1) pa_nil)) T.f_Sets_rows rfl)
    (pss_cons (ps_fd (pv 0) (pe_lc (own := [("node", 7), ("parts", 8)]) (g := gTupF 2 (gCons (gName 7) (gCons (gName 8) gNil))) (by rfl) sc_Sets___init__.nd (pi_list (pe_fd (pv 0) T.f_Sets_rows rfl)) (blkOk_by (N := N_Sets___init__) (sc := defScope s_Sets___init__) (by decide +kernel)) (fun _ _ _ _ _ => (pg_tupF (n := 2) rfl (pgs_cons (pg_name (i := 7) sc_Sets___init__.nd rfl (by first | exact Or.inl rfl | exact Or.inr rfl)) (pgs_cons (pg_name (i := 8) sc_Sets___init__.nd rfl (by first | exact Or.inl rfl | exact Or.inr rfl)) pgs_nil)))) (fun _ _ _ _ _ => (pts_one (pt_cmpR oeqS (pe_ix ixtv (pv 7) pe_int (fun _ _ => rfl)) (pe_strL (l := [115, 105, 103, 110]) (by decide +kernel)) (nomark _)))) (fun _ _ _ _ _ => (pe_ix ixtv (pv 7) pe_int (fun _ _ => rfl)))) T.f_Sets_lots rfl)
    (pss_cons (ps_fd (pv 0) (pe_lc (own := [("number", 3)]) (g := gName 3) (tt := tYes) (by rfl) sc_Sets___init__.nd (pi_range1 rfl T.b_range (pa_cons (pe_op oadd (pe_callB (cl_lenL) (by rfl) T.b_len (by decide +kernel) (pa_cons (pe_fd (pv 0) T.f_Sets_lots rfl) pa_nil)) pe_int) pa_nil)) (blkOk_by (N := N_Sets___init__) (sc := defScope s_Sets___init__) (by decide +kernel)) (fun _ _ _ _ _ => (pg_name (i := 3) sc_Sets___init__.nd rfl (by first | exact Or.inl rfl | exact Or.inr rfl))) (fun _ _ _ _ _ => pts_nil) (fun _ _ _ _ _ => pe_dnewK)) T.f_Sets_follows rfl)
    (pss_cons (ps_fd (pv 0) (pe_callB (cl_lenL) (by rfl) T.b_len (by decide +kernel) (pa_cons (pe_fd (pv 0) T.f_Sets_lots rfl) pa_nil)) T.f_Sets_position rfl)
    (pss_cons (ps_set (i := 2) sc_Sets___init__.nd rfl (by first | exact Or.inl rfl | exact Or.inr rfl) pe_dnewK)
    (pss_cons (ps_for PassesOwn.never rfl (pi_range3 rfl T.b_range (pa_cons (pe_op osub (pe_callB (cl_lenL) (by rfl) T.b_len (by decide +kernel) (pa_cons (pe_fd (pv 0) T.f_Sets_rows rfl) pa_nil)) pe_int) (pa_cons (pe_un un_neg pe_int) (pa_cons (pe_un un_neg pe_int) pa_nil)))) (pg_name (i := 3) sc_Sets___init__.nd rfl (by first | exact Or.inl rfl | exact Or.inr rfl)) (pss_one (ps_dputR hu rPutI.to (pv 2) (pv 3) (pe_methF (pv 0) D_Sets_told_of (hr.mono (by decide)) passL (pa_cons (pe_ix ixlv (pe_fd (pv 0) T.f_Sets_rows rfl) (pv 3) (fun _ _ => rfl)) (pa_cons (pv 2) pa_nil))) rfl)))
    (pss_cons (ps_asg (pe_dgetR hu rGetI.to (pv 2) pe_int (fun _ _ => rfl)) (pg_tupF (n := 3) rfl (pgs_cons (pg_name (i := 4) sc_Sets___init__.nd rfl (by first | exact Or.inl rfl | exact Or.inr rfl)) (pgs_cons (pg_name (i := 5) sc_Sets___init__.nd rfl (by first | exact Or.inl rfl | exact Or.inr rfl)) (pgs_cons (pg_name (i := 6) sc_Sets___init__.nd rfl (by first | exact Or.inl rfl | exact Or.inr rfl)) pgs_nil)))))
    (pss_cons (ps_expr (pe_bm PySem.F.plainAttrs_dict PySem.F.slot_dict_update PySem.F.type_dict_update (mupdate) (pe_ix ixlv (pe_fd (pv 0) T.f_Sets_follows rfl) pe_int (fun _ _ => rfl)) (pa_cons (pe_callTy (cl_dict) (by rfl) T.b_dict (by decide +kernel) (pa_cons (pv 5) pa_nil)) pa_nil)))
    (pss_cons (ps_fd (pv 0) (pe_callTy (cl_dict) (by rfl) T.b_dict (by decide +kernel) (pa_cons (pv 6) pa_nil)) T.f_Sets_enders rfl)
    (pss_one (ps_if (pt_val (pv 4)) (pss_one (ps_dputR hu rPutI.to (pe_fd (pv 0) T.f_Sets_enders rfl) pe_int pe_bl rfl)) pss_nil))))))))))), ?_⟩
    rw [show L2.start N_Sets___init__ [V.ref x, v] = [some (V.ref x), some (v), none, none, none, none, none, none, none] from rfl]
    walk_at "r"
    refine ⟨v, p, rfl, hp, by omega, fun l ys bs H1 s1 hl0 hl1 hra => ?_⟩
    have hx1 := s1 _ _ hx
    have xl : x ≠ l := ne_of hx1 hl1 (by simp)
    have nxb : x ∉ bs := fun m => by obtain ⟨_, q⟩ := hra.row m; rw [hx1] at q; cases q
    generalize hrows : nrows 0 p = rows at hra
    have hlen : rows.length = p.size := by rw [← hrows, nrows_len]
    have hlots : rlots rows = lots p := by rw [← hrows, rlots_nrows]
    walk_at "r"
    intro D hD
    generalize e2 : L2.upd H1 x (HO.ins T.a_Sets (dx, ([] : List (Str × V))).1 (fl_Sets_1 (.ref l))) = H2 at hD ⊢
    have hx2 : H2 x = some (.ins T.a_Sets dx (fl_Sets_1 (.ref l))) := by rw [← e2]; exact upd_same
    have hra2 : RowsAt H2 ys bs rows := by rw [← e2]; exact hra.other hx1 (by simp) nxb
    have hl2 : H2 l = some (.lst ys) := by rw [← e2]; exact (upd_ne xl.symm).trans hl1
    have kp2 : Kp [x] H H2 := by rw [← e2]; exact (Kp.of s1).trans (Kp.upd (List.mem_cons_self ..))
    clear e2
    have hn5 : rows.length ≤ 500 := by omega
    refine lc_it (wk_list (K := K) (a := l) ys id) (fun i H' => H' = L2.upd H2 D (.lst ((rlots (rows.take i)).map tx))) (by simp [rlots]) (fun i H' _ e => by subst e; rw [List.map_id]; exact SqL.of (upd_old hD hl2)) ?_ ?_
    · rintro i y H' H3 hi rfl ⟨rfl, y', hy, rfl⟩
      have hir : i < rows.length := by rw [← hra2.l1]; exact hi
      obtain ⟨v', b, hv', hb', a, xq, rfl, ha, hxq, hb⟩ := hra2.at_ i _ (List.getElem?_eq_getElem hir)
      rw [hy] at hv'
      obtain rfl := Option.some.inj hv'
      have hyi := List.getElem?_eq_getElem hir
      generalize rows[i] = rw_ at hxq hb hyi
      obtain ⟨q, ns⟩ := rw_
      have hsn := rlots_take hyi
      obtain ⟨aq, xs, rfl, haq, ht⟩ := hxq.open_
      have s2 : Same H2 (L2.upd H2 D (.lst ((rlots (rows.take i)).map tx))) := fun b o h => upd_old hD h
      have hrl : (rlots (rows.take i)).length ≤ 500 := by
        have := rlots_pre rows i
        have := lots_size p
        rw [hlots] at *
        omega
      refine ⟨_, rfl, _, upd_old hD ha, rfl, ?_⟩
      walk_at "r"
      refine ⟨_, ⟨atI_0⟩, ?_⟩
      walk_at "r"
      refine iteD (fun e => ?_) (fun e => ?_)
      · obtain ⟨lt, rfl⟩ := sign_of_word e
        obtain rfl := ht
        walk_at "r"
        refine ⟨_, ⟨atI_1⟩, ?_⟩
        walk_at "r"
        refine ⟨by rw [List.length_map]; exact Nat.lt_of_le_of_lt hrl (by decide), ?_⟩
        rw [L2.upd_upd, hsn, List.map_append]
        rfl
      · have e2 : rlots (rows.take (i + 1)) = rlots (rows.take i) := by rw [hsn, not_sign e]; simp
        rw [e2]
    · rintro H' rfl
      rw [hra2.l1, List.take_length, hlots]
      have hlp : (lots p).length ≤ 500 := by have := lots_size p; omega
      have h3 : L2.upd H2 D (.lst ((lots p).map tx)) x = _ := upd_old hD hx2
      have xD : x ≠ D := ne_of_none hx2 hD
      walk_at "r"
      refine ⟨by rw [List.length_map]; omega, ?_⟩
      walk_at "r"
      intro D2 hD2
      generalize e3 : L2.upd (L2.upd H2 D (.lst ((lots p).map tx))) x (HO.ins T.a_Sets (dx, fl_Sets_1 (.ref l)).1 (fl_Sets_2 (.ref l) (.ref D))) = H3 at hD2 ⊢
      have hx3 : H3 x = some (.ins T.a_Sets dx (fl_Sets_2 (.ref l) (.ref D))) := by rw [← e3]; exact upd_same
      have hra3 : RowsAt H3 ys bs rows := by
        rw [← e3]
        exact (hra2.same (fun b o h => upd_old hD h)).other h3 (by simp) nxb
      have hl3 : H3 l = some (.lst ys) := by rw [← e3]; exact (upd_ne xl.symm).trans (upd_old hD hl2)
      have hD3 : H3 D = some (.lst ((lots p).map tx)) := by rw [← e3]; exact (upd_ne xD.symm).trans upd_same
      have kp3 : Kp [x] H H3 := by rw [← e3]; exact kp2.trans ((Kp.of fun b o h => upd_old hD h).trans (Kp.upd (List.mem_cons_self ..)))
      clear e3
      rw [List.length_map]
      refine lcI hD2 (wk_range (lo := 0)) (fun _ => true) (fun done zs H' => ∃ ds : List Addr, zs = ds.map V.ref ∧ ds.length = done.length ∧ ds.Nodup ∧ ∀ d ∈ ds, H3 d = none ∧ H' d = some (.dK [])) (by simp; omega) (fun _ _ => trivial) (fun _ => rfl) ⟨[], rfl, rfl, List.nodup_nil, by simp⟩ (fun a _ H' _ Q' q => q) ?_ ?_
      · rintro a done zs H' _ _ s3 hzD ⟨ds, rfl, hdl, hnd, hds⟩ Q' hQ'
        walk_at "r"
        intro d hd
        have hdd : d ∉ ds := fun m => by have := (hds d m).2; rw [hd] at this; cases this
        have hd3 : H3 d = none := by
          cases h : H3 d with
          | none => rfl
          | some o => rw [s3 _ _ h] at hd; cases hd
        have hDd : D2 ≠ d := ne_of_none hzD hd
        refine hQ' _ _ (fun b o h => upd_old hd h) ⟨ds ++ [d], by simp, by simp [hdl], ?_, ?_⟩
        · rw [List.nodup_append]
          exact ⟨hnd, by simp, fun y hy z hz => by simp at hz; subst hz; exact fun e => hdd (e ▸ hy)⟩
        · intro d' m
          rcases List.mem_append.mp m with m | m
          · have h1 := (hds d' m).2
            have ne : d' ≠ D2 := ne_of h1 hzD (by simp)
            exact ⟨(hds d' m).1, (upd_ne ne).trans (upd_old hd h1)⟩
          · obtain rfl := List.mem_singleton.mp m
            exact ⟨hd3, (upd_ne hDd.symm).trans upd_same⟩
      · rintro zs H4 s4 hz4 ⟨fds, rfl, hfl, hfn, hfds⟩
        rw [List.filter_eq_self.mpr (fun _ _ => rfl), List.length_range] at hfl
        have hfl : fds.length = (lots p).length + 1 := by omega
        have hx4 := s4 _ _ hx3
        have hD4 := s4 _ _ hD3
        have xf : x ∉ fds := fun m => by have := (hfds x m).2; rw [hx4] at this; cases this
        have xD2 : x ≠ D2 := ne_of hx4 hz4 (by simp)
        walk_at "r"
        intro td htd
        rw [L2.upd_upd, List.length_map] at htd ⊢
        generalize e5 : L2.upd (L2.upd H4 x (HO.ins T.a_Sets ((dx, fl_Sets_2 (.ref l) (.ref D)).1, fl_Sets_3 (.ref l) (.ref D) (.ref D2)).1 (fl_Sets_4 (.ref l) (.ref D) (.ref D2) (.int ((lots p).length : Int))))) td (.dK []) = H5
        have htdx : td ≠ x := fun e => by subst e; rw [upd_same] at htd; cases htd
        have htd4 : H4 td = none := by rwa [upd_ne htdx] at htd
        have old : ∀ b o, H4 b = some o → b ≠ x → H5 b = some o := fun b o h ne => by rw [← e5]; exact upd_old htd ((upd_ne ne).trans h)
        have hx5 : H5 x = some (.ins T.a_Sets dx (fl_Sets_4 (.ref l) (.ref D) (.ref D2) (.int ((lots p).length : Int)))) := by rw [← e5]; exact upd_old htd upd_same
        have htd5 : H5 td = some (.dK []) := by rw [← e5]; exact upd_same
        have tdf : td ∉ fds := fun m => by have := (hfds td m).2; rw [htd4] at this; cases this
        have hl5 : H5 l = some (.lst ys) := old _ _ (s4 _ _ hl3) xl.symm
        have hD5 : H5 D = some (.lst ((lots p).map tx)) := old _ _ hD4 (ne_of hD4 hx4 (by simp))
        have hra5 : RowsAt H5 ys bs rows := by
          have h1 := (hra3.same s4).other (u := HO.ins T.a_Sets dx (fl_Sets_4 (.ref l) (.ref D) (.ref D2) (.int ((lots p).length : Int)))) hx4 (by simp) nxb
          rw [← e5]
          exact h1.same fun b o h => upd_old htd h
        have hfo5 : FolAt H5 D2 fds (List.replicate ((lots p).length + 1) []) := by
          refine FolAt.empty (old _ _ hz4 xD2.symm) hfl hfn fun d m => old _ _ (hfds d m).2 fun e => xf (e ▸ m)
        have kp5 : Kp [x] H H5 := by
          refine kp3.trans (fun b o h n => old _ _ (s4 _ _ h) fun e => n (by rw [e]; exact List.mem_cons_self ..))
        have new5 : ∀ d ∈ fds, H d = none := fun d m => by
          cases h : H d with
          | none => rfl
          | some o =>
            have h1 := (hfds d m).1
            have ne : d ≠ x := fun e => xf (e ▸ m)
            rw [kp3 _ _ h (by simpa using ne)] at h1
            cases h1
        have newt : H td = none := by
          cases h : H td with
          | none => rfl
          | some o =>
            rw [s4 _ _ (kp3 _ _ h (by simpa using htdx))] at htd4
            cases htd4
        have hst : SI T.a_Sets H5 H5 x dx td D2 (.ref l) (.ref D) fds rows rows.length rows.length [] (st0 (rlots rows).length) := by
          refine ⟨Kp.refl _ _, htd5, ?_, ?_, Nat.zero_le _, fun j h1 h2 => absurd h1 (by omega), Good.init rows⟩
          · rw [hlots]; exact hx5
          · rw [hlots]; exact hfo5
        clear e5 htd htd4 hfds old
        walk_at "r"
        have hn1 : ys.length = rows.length := hra.l1
        refine ⟨(ys.length : Int) - 1, -1, -1, rows.length, rfl, ?_, ?_⟩
        · have := RgC.neg (i := (ys.length : Int) - 1) (j := -1) (by omega) (by omega) (by decide) (by decide)
          rw [show ((ys.length : Int) - 1 - -1).toNat = rows.length by omega] at this
          exact this
        refine for_rangeC (fun i σ H' => Stop (∃ num tk, σ = [some (.ref x), some v, some (.ref td), num, none, none, none, none, none] ∧ SI T.a_Sets H5 H' x dx td D2 (.ref l) (.ref D) fds rows i (rows.length - i) tk (proc rows (rows.length - i) i (st0 (rlots rows).length)))) ?_ ?_ ?_
        · exact Stop.i ⟨none, [], rfl, by
            have e : SI T.a_Sets H5 H5 x dx td D2 (.ref l) (.ref D) fds rows 0 rows.length [] (st0 (rlots rows).length) := { hst with ln := by simp }
            simpa [proc] using e⟩
        · intro i σ H6 hi h
          obtain ⟨num, tk, rfl, S⟩ := h.o
          obtain ⟨kk, hkk⟩ : ∃ kk, rows.length - i = kk + 1 := ⟨rows.length - i - 1, by omega⟩
          rw [hkk] at S
          have hkr : kk < rows.length := by omega
          have en : (ys.length : Int) - 1 + (i : Nat) * (-1) = (kk : Int) := by omega
          rw [en]
          have ek : rows.length - (i + 1) = kk := by omega
          have est : proc rows (rows.length - (i + 1)) (i + 1) (st0 (rlots rows).length) = stepM rows (proc rows (kk + 1) i (st0 (rlots rows).length)) kk := by rw [ek]; rfl
          rw [est, ek]
          generalize proc rows (kk + 1) i (st0 (rlots rows).length) = st at S ⊢
          have hra6 : RowsAt H6 ys bs rows := by
            refine hra5.kp S.kp (fun a m xs e => ?_) (fun a m xs e => ?_)
            · rcases List.mem_cons.mp m with m | m
              · subst m; rw [hx5] at e; cases e
              · rcases List.mem_cons.mp m with m | m
                · subst m; rw [htd5] at e; cases e
                · obtain ⟨_, q⟩ := hfo5.there m; rw [q] at e; cases e
            · rcases List.mem_cons.mp m with m | m
              · subst m; rw [hx5] at e; cases e
              · rcases List.mem_cons.mp m with m | m
                · subst m; rw [htd5] at e; cases e
                · obtain ⟨_, q⟩ := hfo5.there m; rw [q] at e; cases e
          have nl : l ∉ x :: td :: fds := fun m => by
            rcases List.mem_cons.mp m with m | m
            · exact xl m.symm
            · rcases List.mem_cons.mp m with m | m
              · subst m; rw [htd5] at hl5; cases hl5
              · obtain ⟨_, q⟩ := hfo5.there m; rw [q] at hl5; cases hl5
          have hl6 := S.kp _ _ hl5 nl
          obtain ⟨va, b, hv', hb', a, xq, rfl, ha, hxq, hb⟩ := hra6.at_ kk _ (List.getElem?_eq_getElem hkr)
          have hyi := List.getElem?_eq_getElem hkr
          generalize rows[kk] = rw_ at hxq hb hyi
          obtain ⟨q, ns⟩ := rw_
          have hnum := nrows_nums p 0 kk q ns (by rw [hrows]; exact hyi)
          have hx6 := S.hx
          have htd6 := S.te
          show sDPutR _ _ _ _ _ [some (V.ref x), some v, some (V.ref td), some (V.int (kk : Int)), none, none, none, none, none] _
          walk_at "r"
          refine ⟨_, ⟨atI_nat hv'⟩, ?_⟩
          walk_at "r"
          have kids : ∀ (j m : Nat), ns[j]? = some m → ∃ v, valV tk (Sum.inl (m : Int) : Key) = some v ∧ TV H6 (td :: fds) v (kid st.1 ns j) := fun j m e => by
            have hm := hnum.2 m (List.mem_of_getElem? e)
            obtain ⟨v, h1, h2⟩ := S.tv m (by omega) (by omega)
            exact ⟨v, h1, by unfold kid; rw [e]; exact h2⟩
          have hfl6 : st.2.fol.length = (rlots rows).length + 1 := S.gd.len
          have hok6 := S.gd.ok
          have hv0 := VOk.kid S.gd.vs ns 0
          have hv1 := VOk.kid S.gd.vs ns 1
          rw [← hfl6] at hok6 hv0 hv1
          refine ⟨x, dx, a, td, D2, b, xq, q, ns, tk, fds, st.2.fol, .ref l, .ref D, st.2.pos, kid st.1 ns 0, kid st.1 ns 1, rfl, hx6, S.fo, ha, hxq, hb, htd6, tdf, hnum.1, fun m e => kids 0 m e, fun m e => kids 1 m e, S.gd.one hyi, hok6, hv0, hv1, by rw [hfl6, hlots]; omega, fun v' H7 kp7 hx7 hf7 tv7 => ?_⟩
          have est2 : stepM rows st kk = (putT st.1 kk (tOf q (kid st.1 ns 0) (kid st.1 ns 1) st.2).1, (tOf q (kid st.1 ns 0) (kid st.1 ns 1) st.2).2) := by
            unfold stepM
            rw [hyi]
          have ntd : td ∉ x :: fds := fun m => by
            rcases List.mem_cons.mp m with m | m
            · exact htdx m
            · exact tdf m
          have htd7 := kp7 _ _ htd6 ntd
          have hln := S.ln
          walk_at "r"
          have gd2 := S.gd.step hyi
          rw [est2] at gd2 ⊢
          refine Stop.i ⟨_, _, rfl, ⟨?_, upd_same, (upd_ne htdx.symm).trans hx7, ?_, ?_, ?_, gd2⟩⟩
          · refine S.kp.trans ((kp7.mono fun b m => ?_).trans (Kp.upd (List.mem_cons_of_mem _ (List.mem_cons_self ..))))
            rcases List.mem_cons.mp m with m | m
            · exact List.mem_cons.mpr (.inl m)
            · exact List.mem_cons_of_mem _ (List.mem_cons_of_mem _ m)
          · exact hf7.keep (upd_ne (ne_of hf7.l htd7 (by simp))) fun d m ks h => (upd_ne fun e => tdf (by rw [← e]; exact m)).trans h
          · exact Nat.le_trans (length_putK ..) (by omega)
          · intro j h1 h2
            rw [valV_put]
            by_cases e : j = kk
            · subst e
              refine ⟨v', if_pos rfl, ?_⟩
              have e3 : putT st.1 j (tOf q (kid st.1 ns 0) (kid st.1 ns 1) st.2).1 j = (tOf q (kid st.1 ns 0) (kid st.1 ns 1) st.2).1 := if_pos rfl
              show TV _ _ v' (putT st.1 j _ j)
              rw [e3]
              exact tv7.upd htd7
            · obtain ⟨v2, h3, h4⟩ := S.tv j (by omega) h2
              refine ⟨v2, ?_, ?_⟩
              · rw [if_neg (by simp; omega)]
                exact h3
              · have e3 : putT st.1 kk (tOf q (kid st.1 ns 0) (kid st.1 ns 1) st.2).1 j = st.1 j := if_neg e
                show TV _ _ v2 (putT st.1 kk _ j)
                rw [e3]
                exact (h4.kp hx6 S.fo kp7).upd htd7
        · intro σ H6 h
          obtain ⟨num, tk, rfl, S⟩ := h.o
          rw [Nat.sub_self] at S
          obtain ⟨w1, w2⟩ := whole p
          rw [hrows, ← hlots] at w1 w2
          have hrp : 0 < rows.length := by have := size_pos p; omega
          generalize proc rows 0 rows.length (st0 (rlots rows).length) = st at S w1 w2
          obtain ⟨sf, sm⟩ := st
          simp only at w1 w2
          subst w2
          obtain ⟨v0, hv0, a0, fd0, ld0, rfl, h1, h2, h3, n1, n2⟩ := S.tv 0 (Nat.le_refl _) hrp
          have h1 : H6 a0 = some (.tup [.bl (evS p).1.1, .ref fd0, .ref ld0]) := by rw [← w1]; exact h1
          have h2 : H6 fd0 = some (.dK (dk (evS p).1.2.1)) := by rw [← w1]; exact h2
          have h3 : H6 ld0 = some (.dK (dk (evS p).1.2.2)) := by rw [← w1]; exact h3
          have hv0' : valV tk (Sum.inl (0 : Int) : Key) = some (.ref a0) := hv0
          have hx6 := S.hx
          have htd6 := S.te
          have hfo6 := S.fo
          have hfl6 := hfo6.l
          obtain ⟨d0, hd0⟩ : ∃ d0, fds[0]? = some d0 := ⟨_, List.getElem?_eq_getElem (by omega)⟩
          have hev := evS_good p
          obtain ⟨k0, hk0⟩ : ∃ k0, (evS p).2.fol[0]? = some k0 := ⟨_, List.getElem?_eq_getElem (by omega)⟩
          have hd06 := hfo6.at_ 0 d0 k0 hd0 hk0
          have lk0 := (hev.2.1 0 k0 hk0).len
          have lk1 := hev.2.2.1.len
          show tSeq _ _ _ _ _
          walk_at "r"
          refine ⟨_, ⟨hv0'⟩, ?_⟩
          walk_at "r"
          refine ⟨_, ⟨atI_nat (j := 0) (by rw [List.getElem?_map, hd0]; rfl)⟩, ?_⟩
          walk_at "r"
          intro p1 hp1
          have d0p : d0 ≠ p1 := ne_of_none hd06 hp1
          walk_at "r"
          refine ⟨by rw [dk_len, dk_len]; exact Nat.le_trans (m := 1000000) (by omega) (by decide), ?_⟩
          rw [mergeK_dk]
          have hfo7 : FolAt (L2.upd (L2.upd H6 p1 (.dK (dk (evS p).1.2.1))) d0 (.dK (dk (addKeys k0 (evS p).1.2.1)))) D2 fds (folP p) := (hfo6.same fun b o h => upd_old hp1 h).mod hd0 hk0
          have md0 : d0 ∈ fds := List.mem_of_getElem? hd0
          have hx7 := (upd_ne (o := HO.dK (dk (addKeys k0 (evS p).1.2.1))) (fun e => xf (by rw [e]; exact md0))).trans (upd_old (u := HO.dK (dk (evS p).1.2.1)) hp1 hx6)
          have h37 := (upd_ne (o := HO.dK (dk (addKeys k0 (evS p).1.2.1))) (fun e => n2 (by rw [e]; exact List.mem_cons_of_mem _ md0))).trans (upd_old (u := HO.dK (dk (evS p).1.2.1)) hp1 h3)
          have hD6 : H6 D = some (.lst ((lots p).map tx)) := S.kp _ _ hD5 fun m => by
            rcases List.mem_cons.mp m with m | m
            · subst m; rw [hx5] at hD5; cases hD5
            · rcases List.mem_cons.mp m with m | m
              · subst m; rw [htd5] at hD5; cases hD5
              · obtain ⟨_, q⟩ := hfo5.there m; rw [q] at hD5; cases hD5
          have hD7 := (upd_ne (o := HO.dK (dk (addKeys k0 (evS p).1.2.1))) (ne_of hD6 hd06 (by simp))).trans (upd_old (u := HO.dK (dk (evS p).1.2.1)) hp1 hD6)
          have kp7 : Kp [x] H (L2.upd (L2.upd H6 p1 (.dK (dk (evS p).1.2.1))) d0 (.dK (dk (addKeys k0 (evS p).1.2.1)))) := fun b o hbo n => by
            have h5 := kp5 b o hbo n
            have hb6 : H6 b = some o := S.kp _ _ h5 fun m => by
              rcases List.mem_cons.mp m with m | m
              · exact n (by rw [m]; exact List.mem_cons_self ..)
              · rcases List.mem_cons.mp m with m | m
                · subst m; rw [newt] at hbo; cases hbo
                · rw [new5 b m] at hbo; cases hbo
            refine (upd_ne fun e => ?_).trans (upd_old hp1 hb6)
            subst e
            rw [new5 b md0] at hbo
            cases hbo
          generalize L2.upd (L2.upd H6 p1 (HO.dK (dk (evS p).1.2.1))) d0 (.dK (dk (addKeys k0 (evS p).1.2.1))) = H7 at hfo7 hx7 h37 hD7 kp7 ⊢
          clear hra hra2 hra3 hra5 hl1 hl2 hl3 hl5 hst S new5 hfl6 hfo6 hfo5 hd06 hx6 h1 h2 h3
          walk_at "r"
          intro p2 hp2
          have xp2 : x ≠ p2 := ne_of_none hx7 hp2
          have fin : ∀ u, SetsAt T.a_Sets (L2.upd (L2.upd H7 p2 u) x (.ins T.a_Sets dx (fl_Sets_5 (.ref l) (.ref D) (.ref D2) (.int ((evS p).2.pos : Int)) (.ref p2)))) x p ∨ u ≠ .dK (dk (endP p)) := fun u => by
            by_cases e : u = .dK (dk (endP p))
            · subst e
              refine .inl ⟨dx, l, D, D2, p2, _, fds, upd_same, (upd_ne (ne_of hD7 hx7 (by simp))).trans (upd_old hp2 hD7), ?_, (upd_ne xp2.symm).trans upd_same⟩
              exact (hfo7.same fun b o h => upd_old hp2 h).keep (upd_ne (ne_of hfo7.l hx7 (by simp))) fun d m ks h => (upd_ne fun e => xf (by rw [← e]; exact m)).trans h
            · exact .inr e
          have kpf : ∀ u v, Kp [x] H (L2.upd (L2.upd H7 p2 u) x v) := fun u v => kp7.trans ((Kp.of fun b o h => upd_old hp2 h).trans (Kp.upd (List.mem_cons_self ..)))
          walk_at "r"
          refine iteB (fun e => ?_) (fun e => ?_)
          · walk_at "r"
            refine ⟨by rw [dk_len]; have := hev.2.2.2.len; exact Nat.lt_of_le_of_lt (m := 1000000) (by omega) (by decide), ?_⟩
            have e9 : putK (dk (evS p).1.2.2) (Sum.inl (0 : Int) : Key) (.bl true) = dk (addKey (evS p).1.2.2 0) := putK_dk _ 0
            rw [e9, upd_comm xp2.symm, L2.upd_upd, upd_comm xp2]
            have e10 : dk (addKey (evS p).1.2.2 0) = dk (endP p) := by unfold endP; rw [if_pos e]
            rw [e10]
            exact k _ (kpf _ _) ((fin _).resolve_right fun h => h rfl)
          · have e10 : dk (evS p).1.2.2 = dk (endP p) := by unfold endP; rw [if_neg (by rw [e]; exact Bool.false_ne_true)]
            rw [e10]
            exact k _ (kpf _ _) ((fin _).resolve_right fun h => h rfl)
end
end FR
end
section
set_option Elab.async false
set_option linter.all false
set_option maxRecDepth 20000
set_option maxHeartbeats 2000000
/-! The price between two texts. -/
namespace FR
open PySem L2 FL
/-- the least edits between the first i signs of a and the first j of b, row by row -/
def Dd (a b : List Nat) : Nat → Nat → Nat
  | 0, j => j
  | i + 1, 0 => i + 1
  | i + 1, j + 1 => min (min (Dd a b i (j + 1) + 1) (Dd a b (i + 1) j + 1)) (Dd a b i j + if a.getD i 0 = b.getD j 0 then 0 else 1)
termination_by i j => (i, j)
theorem Dd_0 (a b : List Nat) (j : Nat) : Dd a b 0 j = j := by rw [Dd]
theorem Dd_s0 (a b : List Nat) (i : Nat) : Dd a b (i + 1) 0 = i + 1 := by rw [Dd]
theorem Dd_ss (a b : List Nat) (i j : Nat) : Dd a b (i + 1) (j + 1) = min (min (Dd a b i (j + 1) + 1) (Dd a b (i + 1) j + 1)) (Dd a b i j + if a.getD i 0 = b.getD j 0 then 0 else 1) := by rw [Dd]
def rowV (a b : List Nat) (i n : Nat) : List V := (List.range n).map fun j => V.int (Dd a b i j : Int)
theorem rowV_len (a b : List Nat) (i n : Nat) : (rowV a b i n).length = n := by simp [rowV]
theorem rowV_succ (a b : List Nat) (i n : Nat) : rowV a b i (n + 1) = rowV a b i n ++ [.int (Dd a b i n : Int)] := by simp [rowV, List.range_succ]
theorem rowV_get (a b : List Nat) (i n j : Nat) (h : j < n) : (rowV a b i n)[j]? = some (.int (Dd a b i j : Int)) := by simp [rowV, h]
theorem row_new (a b : List Nat) (i j c d : Nat) (hc : a[i]? = some c) (hd : b[j]? = some d) (l : Int) (hl : l = if ((Dd a b (i + 1) j : Nat) : Int) + 1 < ((Dd a b i (j + 1) : Nat) : Int) + 1 then ((Dd a b (i + 1) j : Nat) : Int) + 1 else ((Dd a b i (j + 1) : Nat) : Int) + 1)
    (r : Int) (hr : r = (Dd a b i j : Int) + (if (!decide ([c] = [d])) = true then 1 else 0)) : (if r < l then r else l) = ((Dd a b (i + 1) (j + 1) : Nat) : Int) := by
  have h1 : a.getD i 0 = c := by rw [List.getD_eq_getElem?_getD, hc]; rfl
  have h2 : b.getD j 0 = d := by rw [List.getD_eq_getElem?_getD, hd]; rfl
  rw [Dd_ss, h1, h2]
  have h3 : ([c] = [d]) ↔ c = d := by simp
  by_cases e : c = d
  · rw [decide_eq_true (h3.mpr e)] at hr
    rw [if_neg (by decide)] at hr
    rw [if_pos e]
    split at hl <;> split <;> omega
  · rw [decide_eq_false (fun h => e (h3.mp h))] at hr
    rw [if_pos (by decide)] at hr
    rw [if_neg e]
    split at hl <;> split <;> omega
end FR
end
section
set_option Elab.async false
set_option linter.all false
set_option maxRecDepth 20000
set_option maxHeartbeats 1000000
namespace FR
open PySem PySem.Spec PyProof.Rows L2 FL
local macro_rules | `(tactic| walk_at "ne") => `(tactic| first | assumption | exact Ne.symm (by assumption))
local macro_rules | `(tactic| walk_at "hl") => `(tactic| first | assumption | exact upd_same | exact upd_old (by assumption) (by walk_at "hl") | exact (upd_ne (by walk_at "ne")).trans (by walk_at "hl"))
local macro_rules | `(tactic| walk_at "side") => `(tactic| first | rfl | assumption | omega | decide | exact Or.inl ⟨rfl, _, SqL.of (by walk_at "hl")⟩ | exact Or.inr (Or.inr (Or.inl ⟨rfl, Or.inl ⟨_, by walk_at "hl"⟩⟩)) | exact Or.inr (Or.inr (Or.inl ⟨rfl, Or.inr ⟨_, by walk_at "hl"⟩⟩)) | exact Or.inr ⟨by decide, by decide⟩ | exact Or.inl ⟨by omega, by omega⟩ | exact ⟨by decide, by decide, by decide⟩ | exact ⟨by first | omega | decide, by first | omega | decide⟩ | exact Nat.le_of_ble_eq_true rfl | exact Nat.le_trans (m := 1000000) (by omega) (by decide) | exact Nat.lt_of_le_of_lt (m := 1000000) (by omega) (by decide) | exact ⟨by omega, by omega, by omega, by omega⟩)
local macro_rules | `(tactic| walk_at "lk") => `(tactic| with_reducible first | exact lk_Sets_1_0 | exact lk_Sets_2_0 | exact lk_Sets_2_1 | exact lk_Sets_3_0 | exact lk_Sets_3_1 | exact lk_Sets_3_2 | exact lk_Sets_4_0 | exact lk_Sets_4_1 | exact lk_Sets_4_2 | exact lk_Sets_4_3 | exact lk_Sets_5_0 | exact lk_Sets_5_1 | exact lk_Sets_5_2 | exact lk_Sets_5_3 | exact lk_Sets_5_4 | exact lk_Mender_1_0 | exact lk_Mender_2_0 | exact lk_Mender_2_1 | exact lk_Mender_3_0 | exact lk_Mender_3_1 | exact lk_Mender_3_2 | exact lk_Mender_4_0 | exact lk_Mender_4_1 | exact lk_Mender_4_2 | exact lk_Mender_4_3)
local macro_rules | `(tactic| walk_at "pf") => `(tactic| with_reducible first | exact pf_Sets_1_0 | exact pf_Sets_2_0 | exact pf_Sets_2_1 | exact pf_Sets_3_0 | exact pf_Sets_3_1 | exact pf_Sets_3_2 | exact pf_Sets_4_0 | exact pf_Sets_4_1 | exact pf_Sets_4_2 | exact pf_Sets_4_3 | exact pf_Sets_5_0 | exact pf_Sets_5_1 | exact pf_Sets_5_2 | exact pf_Sets_5_3 | exact pf_Sets_5_4 | exact pn_Sets_0 | exact pn_Sets_1 | exact pn_Sets_2 | exact pn_Sets_3 | exact pn_Sets_4 | exact pf_Mender_1_0 | exact pf_Mender_2_0 | exact pf_Mender_2_1 | exact pf_Mender_3_0 | exact pf_Mender_3_1 | exact pf_Mender_3_2 | exact pf_Mender_4_0 | exact pf_Mender_4_1 | exact pf_Mender_4_2 | exact pf_Mender_4_3 | exact pn_Mender_0 | exact pn_Mender_1 | exact pn_Mender_2 | exact pn_Mender_3)
local macro_rules | `(tactic| walk_at "no") => `(tactic| with_reducible first | exact no_Sets_0___init__ | exact no_Sets_1___init__ | exact no_Sets_2___init__ | exact no_Sets_3___init__ | exact no_Sets_4___init__ | exact no_Sets_5___init__ | exact no_Sets_0_join | exact no_Sets_1_join | exact no_Sets_2_join | exact no_Sets_3_join | exact no_Sets_4_join | exact no_Sets_5_join | exact no_Sets_0_told_of | exact no_Sets_1_told_of | exact no_Sets_2_told_of | exact no_Sets_3_told_of | exact no_Sets_4_told_of | exact no_Sets_5_told_of | exact no_Sets_0_moved | exact no_Sets_1_moved | exact no_Sets_2_moved | exact no_Sets_3_moved | exact no_Sets_4_moved | exact no_Sets_5_moved | exact no_Sets_0_can_stop | exact no_Sets_1_can_stop | exact no_Sets_2_can_stop | exact no_Sets_3_can_stop | exact no_Sets_4_can_stop | exact no_Sets_5_can_stop | exact no_Mender_0___init__ | exact no_Mender_1___init__ | exact no_Mender_2___init__ | exact no_Mender_3___init__ | exact no_Mender_4___init__ | exact no_Mender_0_fill_last | exact no_Mender_1_fill_last | exact no_Mender_2_fill_last | exact no_Mender_3_fill_last | exact no_Mender_4_fill_last | exact no_Mender_0_spread | exact no_Mender_1_spread | exact no_Mender_2_spread | exact no_Mender_3_spread | exact no_Mender_4_spread | exact no_Mender_0_lessened | exact no_Mender_1_lessened | exact no_Mender_2_lessened | exact no_Mender_3_lessened | exact no_Mender_4_lessened | exact no_Mender_0_fill | exact no_Mender_1_fill | exact no_Mender_2_fill | exact no_Mender_3_fill | exact no_Mender_4_fill | exact no_Mender_0_least | exact no_Mender_1_least | exact no_Mender_2_least | exact no_Mender_3_least | exact no_Mender_4_least | exact no_Mender_0_steps_from | exact no_Mender_1_steps_from | exact no_Mender_2_steps_from | exact no_Mender_3_steps_from | exact no_Mender_4_steps_from | exact no_Mender_0_later | exact no_Mender_1_later | exact no_Mender_2_later | exact no_Mender_3_later | exact no_Mender_4_later | exact no_Mender_0_closed | exact no_Mender_1_closed | exact no_Mender_2_closed | exact no_Mender_3_closed | exact no_Mender_4_closed)
local macro_rules | `(tactic| walk_at "s") => `(tactic| first
   | refine ⟨_, rfl, ?_⟩
   | refine ⟨_, _, rfl, rfl, ?_⟩
   | refine ⟨_, _, rfl, ?_⟩
   | refine iteT ?_
   | refine iteF ?_
   | refine ⟨_, (show _ = some _ by walk_at "hl"), ?_⟩
   | refine ⟨_, (show Ins _ _ _ _ from Ins.of (by walk_at "hl")), ?_⟩
   | refine ⟨_, (show Lk _ _ _ by walk_at "lk"), ?_⟩
   | refine ⟨_, (show Pf _ _ _ _ by walk_at "pf"), ?_⟩
   | refine And.intro (show NoL _ _ by walk_at "no") ?_
   | refine ⟨_, _, rfl, SqL.of (by walk_at "hl"), ?_⟩
   | refine ⟨_, _, rfl, SqT.of (by walk_at "hl"), ?_⟩
   | refine And.intro ⟨_, SqL.of (by walk_at "hl")⟩ ?_
   | refine And.intro (by walk_at "side") ?_)
local macro_rules | `(tactic| walk_at "si") => `(tactic| first
   | walk_at "s"
   | refine iteD (fun _ => ?_) (fun _ => ?_)
   | refine iteDn (fun _ => ?_) (fun _ => ?_))
local macro_rules | `(tactic| walk_at "r") => `(tactic| repeat walk_at "s")
local macro_rules | `(tactic| walk_at "ri") => `(tactic| repeat walk_at "si")

abbrev N_price_between : List Str := ["text", "other", "row", "at", "sign", "later", "place", "its", "least"]
theorem sc_price_between : FnScope N_price_between ["text", "other"] (defScope s_price_between) := ⟨rfl, rfl, rfl, by decide +kernel, rfl, by decide +kernel, by decide +kernel⟩
section
variable {P : Program} {w : World} {K : PySem.W.Frag} {mg : Str → Option Value} {base : Heap}
theorem isTx_len {l : List Nat} (h : isTx l = true) : l.length ≤ 300 := by
  unfold isTx at h
  rw [Bool.and_eq_true, decide_eq_true_eq] at h
  exact h.1
def spPrice : Sp := fun vs H Q _ => ∃ a b : List Nat, vs = [tx a, tx b] ∧ isTx a = true ∧ isTx b = true ∧ ∀ H', Same H H' → Q (.int (Dd a b a.length b.length : Nat)) H'
theorem ok_price_between {f : Addr} {fd : FuncData} (F : Fun K "price_between" "price_between" s_price_between f fd) (T : Txt w K mg) (D_check_text : Df P w K mg base 3 "check_text" ["thing"] (spCheckText T)) : FnOk P w K mg base (L2.CX P w) 4 f fd ["text", "other"] spPrice := by
  refine F.okX sc_price_between (fun vs H Q E h => ?_) (fun cdv A outer s H vs Q E hr h => ?_)
  · obtain ⟨_, _, rfl, _⟩ := h
    rfl
  · obtain ⟨a, b, rfl, ha, hb, k⟩ := h
    have la := isTx_len ha
    have lb := isTx_len hb
    refine ⟨_, PSs.nox (pss_cons (ps_expr (pe_callD D_check_text (hr.mono (by decide)) passL (pa_cons (pv 0) pa_nil)))
    (pss_cons (ps_expr (pe_callD D_check_text (hr.mono (by decide)) passL (pa_cons (pv 1) pa_nil)))
    (pss_cons (ps_set (i := 2) sc_price_between.nd rfl (by first | exact Or.inl rfl | exact Or.inr rfl) (pe_listRg rfl (by rfl) T.b_list (prg_1 (by rfl) T.b_range (pe_op oadd (pe_callB (cl_lenS) (by rfl) T.b_len (by decide +kernel) (pa_cons (pv 1) pa_nil)) pe_int))))
    (pss_cons (ps_for PassesOwn.never rfl (pi_enumS (by rfl) T.b_enumerate (pa_cons (pv 0) pa_nil)) (pg_tupF (n := 2) rfl (pgs_cons (pg_name (i := 3) sc_price_between.nd rfl (by first | exact Or.inl rfl | exact Or.inr rfl)) (pgs_cons (pg_name (i := 4) sc_price_between.nd rfl (by first | exact Or.inl rfl | exact Or.inr rfl)) pgs_nil))) (pss_cons (ps_set (i := 5) sc_price_between.nd rfl (by first | exact Or.inl rfl | exact Or.inr rfl) (pe_lst (pa_cons (pe_op oadd (pv 3) pe_int) pa_nil)))
      (pss_cons (ps_for PassesOwn.never rfl (pi_enumS (by rfl) T.b_enumerate (pa_cons (pv 1) pa_nil)) (pg_tupF (n := 2) rfl (pgs_cons (pg_name (i := 6) sc_price_between.nd rfl (by first | exact Or.inl rfl | exact Or.inr rfl)) (pgs_cons (pg_name (i := 7) sc_price_between.nd rfl (by first | exact Or.inl rfl | exact Or.inr rfl)) pgs_nil))) (pss_cons (ps_set (i := 8) sc_price_between.nd rfl (by first | exact Or.inl rfl | exact Or.inr rfl) (pe_callB (call_min2 rfl) (by rfl) T.b_min (by decide +kernel) (pa_cons (pe_op oadd (pe_ix ixlv (pv 2) (pe_op oadd (pv 6) pe_int) (fun _ _ => rfl)) pe_int) (pa_cons (pe_op oadd (pe_ix ixlv (pv 5) (pv 6) (fun _ _ => rfl)) pe_int) pa_nil))))
        (pss_one (ps_expr (pe_bm PySem.F.plainAttrs_list PySem.F.slot_list_append PySem.F.type_list_append (mappend) (pv 5) (pa_cons (pe_callB (call_min2 rfl) (by rfl) T.b_min (by decide +kernel) (pa_cons (pv 8) (pa_cons (pe_op oadd (pe_ix ixlv (pv 2) (pv 6) (fun _ _ => rfl)) (pe_callTy (cl_intB) (by rfl) T.b_int (by decide +kernel) (pa_cons (pe_cmpR oneS (pv 4) (pv 7) (nomark _)) pa_nil))) pa_nil))) pa_nil))))))
      (pss_one (ps_set (i := 2) sc_price_between.nd rfl (by first | exact Or.inl rfl | exact Or.inr rfl) (pv 5))))))
    (pss_one (ps_ret (pe_ix ixlv (pv 2) (pe_un un_neg pe_int) (fun _ _ => rfl)))))))), ?_⟩
    rw [show L2.start N_price_between [tx a, tx b] = [some (tx a), some (tx b), none, none, none, none, none, none, none] from rfl]
    walk_at "r"
    refine .inl ⟨a, rfl, by omega, fun H1 s1 => ⟨fun _ => ?_, fun e => absurd (ha.symm.trans e) (by decide)⟩⟩
    walk_at "r"
    refine .inl ⟨b, rfl, by omega, fun H2 s2 => ⟨fun _ => ?_, fun e => absurd (hb.symm.trans e) (by decide)⟩⟩
    have s12 := s1.trans s2
    walk_at "r"
    intro rp hrp
    have er : rgV 0 ((b.length : Int) + 1) = rowV a b 0 (b.length + 1) := by
      unfold rgV rowV
      rw [show ((b.length : Int) + 1 - 0).toNat = b.length + 1 by omega]
      refine List.map_congr_left fun j _ => ?_
      rw [Dd_0, Int.zero_add]
    rw [er]
    walk_at "r"
    refine for_it (wk_enumS a) (fun i σ H' => Stop (∃ rp x3 x4 x5 x6 x7 x8, σ = [some (tx a), some (tx b), some (.ref rp), x3, x4, x5, x6, x7, x8] ∧ Same H H' ∧ H' rp = some (.lst (rowV a b i (b.length + 1))))) ?_ (fun _ _ _ _ _ => trivial) ?_ ?_
    · exact Stop.i ⟨rp, none, none, none, none, none, none, rfl, fun c o h => upd_old hrp (s12 _ _ h), upd_same⟩
    · rintro i x σ H3 H4 hi h ⟨t1, c, rfl, ht1, rfl, hc⟩
      obtain ⟨rp, x3, x4, x5, x6, x7, x8, rfl, s3, hrp3⟩ := h.o
      refine ⟨_, rfl, _, upd_same, rfl, ?_⟩
      walk_at "r"
      intro lp hlp
      have hlp3 : H3 lp = none := of_none hlp
      have rlp : rp ≠ lp := ne_of_none hrp3 hlp3
      walk_at "r"
      have e0 : ([V.int ((i : Int) + 1)] : List V) = rowV a b (i + 1) 1 := by simp [rowV, Dd_s0]
      rw [e0]
      refine for_it (wk_enumS b) (fun j σ H' => Stop (∃ x6 x7 x8, σ = [some (tx a), some (tx b), some (.ref rp), some (.int (i : Int)), some (tx [c]), some (.ref lp), x6, x7, x8] ∧ Same H H' ∧ H lp = none ∧ H' rp = some (.lst (rowV a b i (b.length + 1))) ∧ H' lp = some (.lst (rowV a b (i + 1) (j + 1))))) ?_ (fun _ _ _ _ _ => trivial) ?_ ?_
      · refine Stop.i ⟨x6, x7, x8, rfl, fun d o h => upd_old hlp (upd_old ht1 (s3 _ _ h)), ?_, upd_old hlp (upd_old ht1 hrp3), upd_same⟩
        cases h : H lp with
        | none => rfl
        | some o => rw [s3 _ _ h] at hlp3; cases hlp3
      · rintro j x σ H5 H6 hj h ⟨t2, d, rfl, ht2, rfl, hd⟩
        obtain ⟨x6, x7, x8, rfl, s5, hl0, hrp5, hlp5⟩ := h.o
        refine ⟨_, rfl, _, upd_same, rfl, ?_⟩
        walk_at "r"
        refine ⟨_, ⟨atI_nat (j := j + 1) (rowV_get a b i _ (j + 1) (by omega))⟩, ?_⟩
        walk_at "r"
        refine ⟨_, ⟨atI_nat (rowV_get a b (i + 1) _ j (by omega))⟩, ?_⟩
        walk_at "r"
        refine ⟨_, ⟨atI_nat (rowV_get a b i _ j (by omega))⟩, ?_⟩
        have hz : (rowV a b (i + 1) (j + 1)).length ≤ 302 := by rw [rowV_len]; omega
        walk_at "r"
        refine Stop.i ⟨_, _, _, rfl, ?_, hl0, ?_, ?_⟩
        · exact fun e o h => (upd_ne (ne_of_none h hl0)).trans (upd_old ht2 (s5 _ _ h))
        · exact (upd_ne rlp).trans (upd_old ht2 hrp5)
        · rw [rowV_succ a b (i + 1) (j + 1), ← row_new a b i j c d hc hd _ rfl _ rfl]
          exact upd_same
      · intro σ H5 h
        obtain ⟨x6, x7, x8, rfl, s5, hl0, hrp5, hlp5⟩ := h.o
        walk_at "r"
        exact Stop.i ⟨lp, _, _, _, _, _, _, rfl, s5, hlp5⟩
    · intro σ H3 h
      obtain ⟨rp, x3, x4, x5, x6, x7, x8, rfl, s3, hrp3⟩ := h.o
      rw [rowV_succ] at hrp3
      walk_at "r"
      refine ⟨_, ⟨atI_last _ _⟩, ?_⟩
      exact k _ s3
end
end FR
end
section
set_option Elab.async false
set_option linter.all false
set_option maxRecDepth 20000
set_option maxHeartbeats 2000000
/-! What a pattern reads, and that its states read the same. -/
namespace FR
open PySem L2 FL
inductive Reads : Pat → List Nat → Prop
  | empty : Reads .empty []
  | sign {l : List Nat} {c : Nat} : c ∈ l → Reads (.sign l) [c]
  | thn {p q : Pat} {u v : List Nat} : Reads p u → Reads q v → Reads (.thn p q) (u ++ v)
  | orl {p q : Pat} {u : List Nat} : Reads p u → Reads (.or p q) u
  | orr {p q : Pat} {u : List Nat} : Reads q u → Reads (.or p q) u
  | many0 {p : Pat} : Reads (.many p) []
  | manyS {p : Pat} {u v : List Nat} : Reads p u → Reads (.many p) v → Reads (.many p) (u ++ v)
  | few0 {p : Pat} : Reads (.few p) []
  | fewS {p : Pat} {u v : List Nat} : Reads p u → Reads (.few p) v → Reads (.few p) (u ++ v)
  | mark {m : List Nat} {p : Pat} {u : List Nat} : Reads p u → Reads (.mark m p) u
theorem reads_none {w : List Nat} : ¬ Reads .none w := fun h => by cases h
theorem reads_empty {w : List Nat} : Reads .empty w ↔ w = [] := ⟨fun h => by cases h; rfl, fun h => h ▸ .empty⟩
theorem reads_sign {l w : List Nat} : Reads (.sign l) w ↔ ∃ c, c ∈ l ∧ w = [c] := ⟨fun h => by cases h with | sign h => exact ⟨_, h, rfl⟩, fun ⟨c, h, e⟩ => e ▸ .sign h⟩
theorem reads_thn {p q : Pat} {w : List Nat} : Reads (.thn p q) w ↔ ∃ u v, w = u ++ v ∧ Reads p u ∧ Reads q v :=
  ⟨fun h => by cases h with | thn h1 h2 => exact ⟨_, _, rfl, h1, h2⟩, fun ⟨u, v, e, h1, h2⟩ => e ▸ .thn h1 h2⟩
theorem reads_or {p q : Pat} {w : List Nat} : Reads (.or p q) w ↔ Reads p w ∨ Reads q w :=
  ⟨fun h => by cases h with | orl h => exact .inl h | orr h => exact .inr h, fun h => h.elim .orl .orr⟩
theorem reads_mark {m : List Nat} {p : Pat} {w : List Nat} : Reads (.mark m p) w ↔ Reads p w :=
  ⟨fun h => by cases h with | mark h => exact h, .mark⟩
theorem reads_many {p : Pat} {c : Nat} {w : List Nat} : Reads (.many p) (c :: w) ↔ ∃ u v, w = u ++ v ∧ Reads p (c :: u) ∧ Reads (.many p) v := by
  constructor
  · intro h
    generalize e : c :: w = x at h
    generalize ep : Pat.many p = q at h
    induction h with
    | many0 => cases e
    | @manyS p' u v h1 h2 _ ih =>
      cases ep
      cases u with
      | nil => exact ih e rfl
      | cons d u => cases e; exact ⟨u, v, rfl, h1, h2⟩
    | _ => cases ep
  · rintro ⟨u, v, rfl, h1, h2⟩
    exact .manyS h1 h2
theorem reads_few {p : Pat} {w : List Nat} : Reads (.few p) w ↔ Reads (.many p) w := by
  constructor
  · intro h
    generalize ep : Pat.few p = q at h
    induction h with
    | few0 => cases ep; exact .many0
    | @fewS p' u v h1 h2 _ ih => cases ep; exact .manyS h1 (ih rfl)
    | _ => cases ep
  · intro h
    generalize ep : Pat.many p = q at h
    induction h with
    | many0 => cases ep; exact .few0
    | @manyS p' u v h1 h2 _ ih => cases ep; exact .fewS h1 (ih rfl)
    | _ => cases ep
/-! the shape: whether empty is read, first, last, what follows what -/
def nul : Pat → Bool
  | .none => false | .empty => true | .sign _ => false
  | .thn p q => nul p && nul q | .or p q => nul p || nul q
  | .many _ => true | .few _ => true | .mark _ p => nul p
abbrev nL (p : Pat) : Nat := (lots p).length
def Fst : Pat → Nat → Nat → Prop
  | .none, _, _ => False | .empty, _, _ => False
  | .sign _, lo, j => j = lo + 1
  | .thn p q, lo, j => Fst p lo j ∨ (nul p = true ∧ Fst q (lo + nL p) j)
  | .or p q, lo, j => Fst p lo j ∨ Fst q (lo + nL p) j
  | .many p, lo, j => Fst p lo j | .few p, lo, j => Fst p lo j | .mark _ p, lo, j => Fst p lo j
def Lst : Pat → Nat → Nat → Prop
  | .none, _, _ => False | .empty, _, _ => False
  | .sign _, lo, j => j = lo + 1
  | .thn p q, lo, j => Lst q (lo + nL p) j ∨ (nul q = true ∧ Lst p lo j)
  | .or p q, lo, j => Lst p lo j ∨ Lst q (lo + nL p) j
  | .many p, lo, j => Lst p lo j | .few p, lo, j => Lst p lo j | .mark _ p, lo, j => Lst p lo j
def Fo : Pat → Nat → Nat → Nat → Prop
  | .none, _, _, _ => False | .empty, _, _, _ => False | .sign _, _, _, _ => False
  | .thn p q, lo, i, j => (Fo p lo i j ∨ Fo q (lo + nL p) i j) ∨ (Lst p lo i ∧ Fst q (lo + nL p) j)
  | .or p q, lo, i, j => Fo p lo i j ∨ Fo q (lo + nL p) i j
  | .many p, lo, i, j => Fo p lo i j ∨ (Lst p lo i ∧ Fst p lo j)
  | .few p, lo, i, j => Fo p lo i j ∨ (Lst p lo i ∧ Fst p lo j)
  | .mark _ p, lo, i, j => Fo p lo i j
/-- the words that go on behind position j -/
def Res : Pat → Nat → Nat → List Nat → Prop
  | .none, _, _, _ => False | .empty, _, _, _ => False
  | .sign _, lo, j, w => j = lo + 1 ∧ w = []
  | .thn p q, lo, j, w => (∃ u v, w = u ++ v ∧ Res p lo j u ∧ Reads q v) ∨ Res q (lo + nL p) j w
  | .or p q, lo, j, w => Res p lo j w ∨ Res q (lo + nL p) j w
  | .many p, lo, j, w => ∃ u v, w = u ++ v ∧ Res p lo j u ∧ Reads (.many p) v
  | .few p, lo, j, w => ∃ u v, w = u ++ v ∧ Res p lo j u ∧ Reads (.many p) v
  | .mark _ p, lo, j, w => Res p lo j w
/-- the lots at their places -/
def Fit (lt : Nat → List Nat) : Pat → Nat → Prop
  | .none, _ => True | .empty, _ => True
  | .sign l, lo => lt (lo + 1) = l
  | .thn p q, lo => Fit lt p lo ∧ Fit lt q (lo + nL p)
  | .or p q, lo => Fit lt p lo ∧ Fit lt q (lo + nL p)
  | .many p, lo => Fit lt p lo | .few p, lo => Fit lt p lo | .mark _ p, lo => Fit lt p lo
/-! bounds -/
theorem Fst.bd : ∀ {p : Pat} {lo j : Nat}, Fst p lo j → lo < j ∧ j ≤ lo + nL p
  | .sign _, lo, j, h => by simp only [Fst] at h; simp only [nL, lots, List.length_singleton]; omega
  | .thn p q, lo, j, h => by
    simp only [nL, lots, List.length_append]
    rcases h with h | ⟨_, h⟩ <;> have := h.bd <;> simp only [nL] at this <;> omega
  | .or p q, lo, j, h => by
    simp only [nL, lots, List.length_append]
    rcases h with h | h <;> have := h.bd <;> simp only [nL] at this <;> omega
  | .many p, lo, j, h => Fst.bd (p := p) h
  | .few p, lo, j, h => Fst.bd (p := p) h
  | .mark _ p, lo, j, h => Fst.bd (p := p) h
theorem Lst.bd : ∀ {p : Pat} {lo j : Nat}, Lst p lo j → lo < j ∧ j ≤ lo + nL p
  | .sign _, lo, j, h => by simp only [Lst] at h; simp only [nL, lots, List.length_singleton]; omega
  | .thn p q, lo, j, h => by
    simp only [nL, lots, List.length_append]
    rcases h with h | ⟨_, h⟩ <;> have := h.bd <;> simp only [nL] at this <;> omega
  | .or p q, lo, j, h => by
    simp only [nL, lots, List.length_append]
    rcases h with h | h <;> have := h.bd <;> simp only [nL] at this <;> omega
  | .many p, lo, j, h => Lst.bd (p := p) h
  | .few p, lo, j, h => Lst.bd (p := p) h
  | .mark _ p, lo, j, h => Lst.bd (p := p) h
theorem Fo.bd : ∀ {p : Pat} {lo i j : Nat}, Fo p lo i j → lo < i ∧ lo < j
  | .thn p q, lo, i, j, h => by
    rcases h with (h | h) | ⟨h1, h2⟩
    · exact h.bd
    · have := h.bd; exact ⟨by omega, by omega⟩
    · have := h1.bd; have := h2.bd; exact ⟨by omega, by omega⟩
  | .or p q, lo, i, j, h => by
    rcases h with h | h <;> have := h.bd <;> exact ⟨by omega, by omega⟩
  | .many p, lo, i, j, h => h.elim (fun h => Fo.bd (p := p) h) fun h => ⟨h.1.bd.1, h.2.bd.1⟩
  | .few p, lo, i, j, h => h.elim (fun h => Fo.bd (p := p) h) fun h => ⟨h.1.bd.1, h.2.bd.1⟩
  | .mark _ p, lo, i, j, h => Fo.bd (p := p) h
theorem Res.bd : ∀ {p : Pat} {lo j : Nat} {w : List Nat}, Res p lo j w → lo < j ∧ j ≤ lo + nL p
  | .sign _, lo, j, w, h => by simp only [Res] at h; simp only [nL, lots, List.length_singleton]; omega
  | .thn p q, lo, j, w, h => by
    simp only [nL, lots, List.length_append]
    rcases h with ⟨u, v, _, h, _⟩ | h <;> have := h.bd <;> simp only [nL] at this <;> omega
  | .or p q, lo, j, w, h => by
    simp only [nL, lots, List.length_append]
    rcases h with h | h <;> have := h.bd <;> simp only [nL] at this <;> omega
  | .many p, lo, j, w, ⟨u, v, _, h, _⟩ => Res.bd (p := p) h
  | .few p, lo, j, w, ⟨u, v, _, h, _⟩ => Res.bd (p := p) h
  | .mark _ p, lo, j, w, h => Res.bd (p := p) h
theorem Fo.top : ∀ {p : Pat} {lo i j : Nat}, Fo p lo i j → i ≤ lo + nL p ∧ j ≤ lo + nL p
  | .thn p q, lo, i, j, h => by
    simp only [nL, lots, List.length_append]
    rcases h with (h | h) | ⟨h1, h2⟩
    · have := h.top; simp only [nL] at this; exact ⟨by omega, by omega⟩
    · have := h.top; simp only [nL] at this; exact ⟨by omega, by omega⟩
    · have := h1.bd; have := h2.bd; simp only [nL] at *; exact ⟨by omega, by omega⟩
  | .or p q, lo, i, j, h => by
    simp only [nL, lots, List.length_append]
    rcases h with h | h <;> have := h.top <;> simp only [nL] at this <;> exact ⟨by omega, by omega⟩
  | .many p, lo, i, j, h => h.elim (fun h => Fo.top (p := p) h) fun h => ⟨h.1.bd.2, h.2.bd.2⟩
  | .few p, lo, i, j, h => h.elim (fun h => Fo.top (p := p) h) fun h => ⟨h.1.bd.2, h.2.bd.2⟩
  | .mark _ p, lo, i, j, h => Fo.top (p := p) h
/-! one step -/
theorem reads_nil : ∀ {p : Pat}, Reads p [] ↔ nul p = true
  | .none => by simp [nul, reads_none]
  | .empty => by simp [nul, reads_empty]
  | .sign l => by simp [nul, reads_sign]
  | .thn p q => by
    rw [reads_thn, nul, Bool.and_eq_true, ← reads_nil (p := p), ← reads_nil (p := q)]
    constructor
    · rintro ⟨u, v, e, h1, h2⟩
      have e2 := List.append_eq_nil_iff.mp e.symm
      rw [e2.1] at h1
      rw [e2.2] at h2
      exact ⟨h1, h2⟩
    · rintro ⟨h1, h2⟩
      exact ⟨[], [], rfl, h1, h2⟩
  | .or p q => by rw [reads_or, nul, Bool.or_eq_true, ← reads_nil (p := p), ← reads_nil (p := q)]
  | .many p => by simp [nul, Reads.many0]
  | .few p => by simp [nul, Reads.few0]
  | .mark m p => by rw [reads_mark, nul, ← reads_nil (p := p)]
theorem res_nil : ∀ {p : Pat} {lo j : Nat}, Res p lo j [] ↔ Lst p lo j
  | .none, _, _ => by simp [Res, Lst]
  | .empty, _, _ => by simp [Res, Lst]
  | .sign l, _, _ => by simp [Res, Lst]
  | .thn p q, lo, j => by
    rw [Res, Lst, ← res_nil (p := q), ← reads_nil (p := q), ← res_nil (p := p)]
    constructor
    · rintro (⟨u, v, e, h1, h2⟩ | h)
      · have e2 := List.append_eq_nil_iff.mp e.symm
        rw [e2.1] at h1
        rw [e2.2] at h2
        exact .inr ⟨h2, h1⟩
      · exact .inl h
    · rintro (h | ⟨h1, h2⟩)
      · exact .inr h
      · exact .inl ⟨[], [], rfl, h2, h1⟩
  | .or p q, lo, j => by rw [Res, Lst, ← res_nil (p := p), ← res_nil (p := q)]
  | .many p, lo, j => by
    rw [Res, Lst, ← res_nil (p := p)]
    constructor
    · rintro ⟨u, v, e, h1, h2⟩
      rw [(List.append_eq_nil_iff.mp e.symm).1] at h1
      exact h1
    · exact fun h => ⟨[], [], rfl, h, .many0⟩
  | .few p, lo, j => by
    rw [Res, Lst, ← res_nil (p := p)]
    constructor
    · rintro ⟨u, v, e, h1, h2⟩
      rw [(List.append_eq_nil_iff.mp e.symm).1] at h1
      exact h1
    · exact fun h => ⟨[], [], rfl, h, .many0⟩
  | .mark m p, lo, j => by rw [Res, Lst, ← res_nil (p := p)]
/-- c :: w parted -/
theorem cons_parts {c : Nat} {w u v : List Nat} (e : c :: w = u ++ v) : (u = [] ∧ v = c :: w) ∨ ∃ u', u = c :: u' ∧ w = u' ++ v := by
  cases u with
  | nil => exact .inl ⟨rfl, e.symm⟩
  | cons d u => cases e; exact .inr ⟨u, rfl, rfl⟩
theorem reads_cons {lt : Nat → List Nat} : ∀ {p : Pat} {lo : Nat} {c : Nat} {w : List Nat}, Fit lt p lo → (Reads p (c :: w) ↔ ∃ j, Fst p lo j ∧ c ∈ lt j ∧ Res p lo j w)
  | .none, _, _, _, _ => by simp [reads_none, Fst]
  | .empty, _, _, _, _ => by simp [reads_empty, Fst]
  | .sign l, lo, c, w, f => by
    rw [reads_sign]
    constructor
    · rintro ⟨d, h, e⟩
      cases e
      exact ⟨lo + 1, rfl, by rw [show lt (lo + 1) = l from f]; exact h, rfl, rfl⟩
    · rintro ⟨j, e, h, _, e2⟩
      obtain rfl : j = lo + 1 := e
      rw [show lt (lo + 1) = l from f] at h
      exact ⟨c, h, by rw [e2]⟩
  | .thn p q, lo, c, w, f => by
    rw [reads_thn]
    constructor
    · rintro ⟨u, v, e, h1, h2⟩
      rcases cons_parts e with ⟨rfl, rfl⟩ | ⟨u', rfl, rfl⟩
      · obtain ⟨j, a, b, d⟩ := (reads_cons f.2).mp h2
        exact ⟨j, .inr ⟨reads_nil.mp h1, a⟩, b, .inr d⟩
      · obtain ⟨j, a, b, d⟩ := (reads_cons f.1).mp h1
        exact ⟨j, .inl a, b, .inl ⟨u', v, rfl, d, h2⟩⟩
    · rintro ⟨j, a | ⟨a1, a⟩, b, d | d⟩
      · obtain ⟨u, v, rfl, d1, d2⟩ := d
        exact ⟨c :: u, v, rfl, (reads_cons f.1).mpr ⟨j, a, b, d1⟩, d2⟩
      · have := a.bd; have := d.bd; omega
      · obtain ⟨u, v, rfl, d1, d2⟩ := d
        have := a.bd; have := d1.bd; omega
      · exact ⟨[], c :: w, rfl, reads_nil.mpr a1, (reads_cons f.2).mpr ⟨j, a, b, d⟩⟩
  | .or p q, lo, c, w, f => by
    rw [reads_or, reads_cons f.1, reads_cons f.2]
    constructor
    · rintro (⟨j, a, b, d⟩ | ⟨j, a, b, d⟩)
      · exact ⟨j, .inl a, b, .inl d⟩
      · exact ⟨j, .inr a, b, .inr d⟩
    · rintro ⟨j, a | a, b, d | d⟩
      · exact .inl ⟨j, a, b, d⟩
      · have := a.bd; have := d.bd; omega
      · have := a.bd; have := d.bd; omega
      · exact .inr ⟨j, a, b, d⟩
  | .many p, lo, c, w, f => by
    rw [reads_many]
    constructor
    · rintro ⟨u, v, rfl, h1, h2⟩
      obtain ⟨j, a, b, d⟩ := (reads_cons (p := p) f).mp h1
      exact ⟨j, a, b, u, v, rfl, d, h2⟩
    · rintro ⟨j, a, b, u, v, rfl, d, h2⟩
      exact ⟨u, v, rfl, (reads_cons (p := p) f).mpr ⟨j, a, b, d⟩, h2⟩
  | .few p, lo, c, w, f => by
    rw [reads_few, reads_many]
    constructor
    · rintro ⟨u, v, rfl, h1, h2⟩
      obtain ⟨j, a, b, d⟩ := (reads_cons (p := p) f).mp h1
      exact ⟨j, a, b, u, v, rfl, d, h2⟩
    · rintro ⟨j, a, b, u, v, rfl, d, h2⟩
      exact ⟨u, v, rfl, (reads_cons (p := p) f).mpr ⟨j, a, b, d⟩, h2⟩
  | .mark m p, lo, c, w, f => by rw [reads_mark]; exact reads_cons (p := p) f
theorem res_cons {lt : Nat → List Nat} : ∀ {p : Pat} {lo i c : Nat} {w : List Nat}, Fit lt p lo → (Res p lo i (c :: w) ↔ ∃ j, Fo p lo i j ∧ c ∈ lt j ∧ Res p lo j w)
  | .none, _, _, _, _, _ => by simp [Res]
  | .empty, _, _, _, _, _ => by simp [Res]
  | .sign l, lo, i, c, w, f => by simp [Res, Fo]
  | .thn p q, lo, i, c, w, f => by
    constructor
    · rintro (⟨u, v, e, h1, h2⟩ | h)
      · rcases cons_parts e with ⟨rfl, rfl⟩ | ⟨u', rfl, rfl⟩
        · obtain ⟨j, a, b, d⟩ := (reads_cons f.2).mp h2
          exact ⟨j, .inr ⟨res_nil.mp h1, a⟩, b, .inr d⟩
        · obtain ⟨j, a, b, d⟩ := (res_cons f.1).mp h1
          exact ⟨j, .inl (.inl a), b, .inl ⟨u', v, rfl, d, h2⟩⟩
      · obtain ⟨j, a, b, d⟩ := (res_cons f.2).mp h
        exact ⟨j, .inl (.inr a), b, .inr d⟩
    · rintro ⟨j, (a | a) | ⟨a1, a⟩, b, d | d⟩
      · obtain ⟨u, v, rfl, d1, d2⟩ := d
        exact .inl ⟨c :: u, v, rfl, (res_cons f.1).mpr ⟨j, a, b, d1⟩, d2⟩
      · have := a.top; have := d.bd; omega
      · obtain ⟨u, v, rfl, d1, d2⟩ := d
        have := a.bd; have := d1.bd; omega
      · exact .inr ((res_cons f.2).mpr ⟨j, a, b, d⟩)
      · obtain ⟨u, v, rfl, d1, d2⟩ := d
        have := a.bd; have := d1.bd; omega
      · exact .inl ⟨[], c :: w, rfl, res_nil.mpr a1, (reads_cons f.2).mpr ⟨j, a, b, d⟩⟩
  | .or p q, lo, i, c, w, f => by
    constructor
    · rintro (h | h)
      · obtain ⟨j, a, b, d⟩ := (res_cons f.1).mp h
        exact ⟨j, .inl a, b, .inl d⟩
      · obtain ⟨j, a, b, d⟩ := (res_cons f.2).mp h
        exact ⟨j, .inr a, b, .inr d⟩
    · rintro ⟨j, a | a, b, d | d⟩
      · exact .inl ((res_cons f.1).mpr ⟨j, a, b, d⟩)
      · have := a.top; have := d.bd; omega
      · have := a.bd; have := d.bd; omega
      · exact .inr ((res_cons f.2).mpr ⟨j, a, b, d⟩)
  | .many p, lo, i, c, w, f => by
    constructor
    · rintro ⟨u, v, e, h1, h2⟩
      rcases cons_parts e with ⟨rfl, rfl⟩ | ⟨u', rfl, rfl⟩
      · obtain ⟨j, a, b, d⟩ := (reads_cons (p := .many p) (lo := lo) f).mp h2
        exact ⟨j, .inr ⟨res_nil.mp h1, a⟩, b, d⟩
      · obtain ⟨j, a, b, d⟩ := (res_cons (p := p) f).mp h1
        exact ⟨j, .inl a, b, u', v, rfl, d, h2⟩
    · rintro ⟨j, a | ⟨a1, a⟩, b, u, v, rfl, d, h2⟩
      · exact ⟨c :: u, v, rfl, (res_cons (p := p) f).mpr ⟨j, a, b, d⟩, h2⟩
      · exact ⟨[], c :: (u ++ v), rfl, res_nil.mpr a1, (reads_cons (p := .many p) (lo := lo) f).mpr ⟨j, a, b, u, v, rfl, d, h2⟩⟩
  | .few p, lo, i, c, w, f => by
    constructor
    · rintro ⟨u, v, e, h1, h2⟩
      rcases cons_parts e with ⟨rfl, rfl⟩ | ⟨u', rfl, rfl⟩
      · obtain ⟨j, a, b, d⟩ := (reads_cons (p := .many p) (lo := lo) f).mp h2
        exact ⟨j, .inr ⟨res_nil.mp h1, a⟩, b, d⟩
      · obtain ⟨j, a, b, d⟩ := (res_cons (p := p) f).mp h1
        exact ⟨j, .inl a, b, u', v, rfl, d, h2⟩
    · rintro ⟨j, a | ⟨a1, a⟩, b, u, v, rfl, d, h2⟩
      · exact ⟨c :: u, v, rfl, (res_cons (p := p) f).mpr ⟨j, a, b, d⟩, h2⟩
      · exact ⟨[], c :: (u ++ v), rfl, res_nil.mpr a1, (reads_cons (p := .many p) (lo := lo) f).mpr ⟨j, a, b, u, v, rfl, d, h2⟩⟩
  | .mark m p, lo, i, c, w, f => res_cons (p := p) f
/-! the states' own words -/
/-- the words from state i on -/
def Acc (fo : Nat → Nat → Prop) (lt : Nat → List Nat) (en : Nat → Prop) : Nat → List Nat → Prop
  | i, [] => en i
  | i, c :: w => ∃ j, fo i j ∧ c ∈ lt j ∧ Acc fo lt en j w
theorem acc_res {fo : Nat → Nat → Prop} {lt : Nat → List Nat} {en : Nat → Prop} {p : Pat} (f : Fit lt p 0) (h1 : ∀ i j, 0 < i → (fo i j ↔ Fo p 0 i j)) (h2 : ∀ i, 0 < i → (en i ↔ Lst p 0 i)) : ∀ (w : List Nat) (i : Nat), 0 < i → (Acc fo lt en i w ↔ Res p 0 i w)
  | [], i, hi => by rw [res_nil]; exact h2 i hi
  | c :: w, i, hi => by
    rw [res_cons f]
    constructor
    · rintro ⟨j, a, b, d⟩
      have a' := (h1 i j hi).mp a
      exact ⟨j, a', b, (acc_res f h1 h2 w j a'.bd.2).mp d⟩
    · rintro ⟨j, a, b, d⟩
      exact ⟨j, (h1 i j hi).mpr a, b, (acc_res f h1 h2 w j a.bd.2).mpr d⟩
theorem acc_reads {fo : Nat → Nat → Prop} {lt : Nat → List Nat} {en : Nat → Prop} {p : Pat} (f : Fit lt p 0) (h1 : ∀ i j, 0 < i → (fo i j ↔ Fo p 0 i j)) (h2 : ∀ i, 0 < i → (en i ↔ Lst p 0 i)) (h3 : ∀ j, fo 0 j ↔ Fst p 0 j) (h4 : en 0 ↔ nul p = true) : ∀ (w : List Nat), Acc fo lt en 0 w ↔ Reads p w
  | [] => by rw [reads_nil]; exact h4
  | c :: w => by
    rw [reads_cons f]
    constructor
    · rintro ⟨j, a, b, d⟩
      have a' := (h3 j).mp a
      exact ⟨j, a', b, (acc_res f h1 h2 w j a'.bd.1).mp d⟩
    · rintro ⟨j, a, b, d⟩
      exact ⟨j, (h3 j).mpr a, b, (acc_res f h1 h2 w j a.bd.1).mpr d⟩
end FR
end
section
set_option Elab.async false
set_option linter.all false
set_option maxRecDepth 20000
set_option maxHeartbeats 2000000
/-! The mirror has the shape: what Sets makes of a pattern reads what the pattern reads. -/
namespace FR
open PySem L2 FL
def InF (f : List (List Nat)) (i j : Nat) : Prop := ∃ ks, f[i]? = some ks ∧ j ∈ ks
theorem inF_mod {f : List (List Nat)} {l i j : Nat} {fs : List Nat} (h : i < f.length) : InF (modAt f l fs) i j ↔ InF f i j ∨ (i = l ∧ j ∈ fs) := by
  unfold InF
  rw [modAt_get, List.getElem?_eq_getElem h]
  simp only [Option.map_some, Option.some.injEq, exists_eq_left']
  by_cases e : i = l
  · rw [if_pos e, mem_addKeys]; simp [e]
  · rw [if_neg e]; simp [e]
theorem inF_join {fs : List Nat} {i j : Nat} : ∀ {ls : List Nat} {f : List (List Nat)}, i < f.length → (InF (joinF f ls fs) i j ↔ InF f i j ∨ (i ∈ ls ∧ j ∈ fs))
  | [], f, _ => by simp [joinF]
  | l :: ls, f, h => by
    show InF (joinF (modAt f l fs) ls fs) i j ↔ _
    rw [inF_join (by rw [modAt_len]; exact h), inF_mod h, List.mem_cons]
    constructor
    · rintro ((h | ⟨h1, h2⟩) | ⟨h1, h2⟩)
      · exact .inl h
      · exact .inr ⟨.inl h1, h2⟩
      · exact .inr ⟨.inr h1, h2⟩
    · rintro (h | ⟨h1 | h1, h2⟩)
      · exact .inl (.inl h)
      · exact .inl (.inr ⟨h1, h2⟩)
      · exact .inr ⟨h1, h2⟩
structure Shape (p : Pat) (lo : Nat) (s : MS) (r : TVal × MS) : Prop where
  nu : r.1.1 = nul p
  fs : ∀ j, j ∈ r.1.2.1 ↔ Fst p lo j
  ls : ∀ j, j ∈ r.1.2.2 ↔ Lst p lo j
  po : r.2.pos = lo
  ln : r.2.fol.length = s.fol.length
  fo : ∀ i j, i < s.fol.length → (InF r.2.fol i j ↔ InF s.fol i j ∨ Fo p lo i j)
theorem ev_shape : ∀ (p : Pat) (s : MS) (lo : Nat), s.pos = lo + nL p → Shape p lo s (ev p s)
  | .none, s, lo, h => ⟨rfl, fun j => by simp [ev, tOf, Fst], fun j => by simp [ev, tOf, Lst], h, rfl, fun i j _ => by simp [ev, tOf, Fo]⟩
  | .empty, s, lo, h => ⟨rfl, fun j => by simp [ev, tOf, Fst], fun j => by simp [ev, tOf, Lst], h, rfl, fun i j _ => by simp [ev, tOf, Fo]⟩
  | .sign l, s, lo, h => by
    have h1 : s.pos = lo + 1 := h
    exact ⟨rfl, fun j => by simp [ev, tOf, Fst, h1], fun j => by simp [ev, tOf, Lst, h1], by simp [ev, tOf, h1], rfl, fun i j _ => by simp [ev, tOf, Fo]⟩
  | .mark m p, s, lo, h => by
    have a := ev_shape p s lo h
    exact ⟨a.nu, a.fs, a.ls, a.po, a.ln, a.fo⟩
  | .many p, s, lo, h => by
    have a := ev_shape p s lo h
    refine ⟨rfl, a.fs, a.ls, a.po, (joinF_len ..).trans a.ln, fun i j hi => ?_⟩
    show InF (joinF _ _ _) i j ↔ _
    rw [inF_join (by rw [a.ln]; exact hi), a.fo i j hi, a.ls, a.fs, Fo, or_assoc]
  | .few p, s, lo, h => by
    have a := ev_shape p s lo h
    refine ⟨rfl, a.fs, a.ls, a.po, (joinF_len ..).trans a.ln, fun i j hi => ?_⟩
    show InF (joinF _ _ _) i j ↔ _
    rw [inF_join (by rw [a.ln]; exact hi), a.fo i j hi, a.ls, a.fs, Fo, or_assoc]
  | .or p q, s, lo, h => by
    have h1 : s.pos = lo + (nL p + nL q) := by rw [h]; simp [nL, lots]
    have b := ev_shape q s (lo + nL p) (by omega)
    have a := ev_shape p (ev q s).2 lo b.po
    refine ⟨?_, fun j => ?_, fun j => ?_, a.po, a.ln.trans b.ln, fun i j hi => ?_⟩
    · show ((ev p _).1.1 || (ev q s).1.1) = (nul p || nul q)
      rw [a.nu, b.nu]
    · show j ∈ addKeys _ _ ↔ _
      rw [mem_addKeys, a.fs, b.fs, Fst]
    · show j ∈ addKeys _ _ ↔ _
      rw [mem_addKeys, a.ls, b.ls, Lst, or_comm]
    · show InF (ev p _).2.fol i j ↔ _
      rw [a.fo i j (by rw [b.ln]; exact hi), b.fo i j hi, Fo, or_assoc, or_comm (a := Fo q _ _ _)]
  | .thn p q, s, lo, h => by
    have h1 : s.pos = lo + (nL p + nL q) := by rw [h]; simp [nL, lots]
    have b := ev_shape q s (lo + nL p) (by omega)
    have a := ev_shape p (ev q s).2 lo b.po
    refine ⟨?_, fun j => ?_, fun j => ?_, a.po, (joinF_len ..).trans (a.ln.trans b.ln), fun i j hi => ?_⟩
    · show ((ev p _).1.1 && (ev q s).1.1) = (nul p && nul q)
      rw [a.nu, b.nu]
    · show j ∈ (if (ev p _).1.1 = true then addKeys _ _ else _) ↔ _
      rw [a.nu, Fst]
      split
      · rename_i e; rw [mem_addKeys, a.fs, b.fs]; simp [e]
      · rename_i e; rw [a.fs]; simp [e]
    · show j ∈ (if (ev q s).1.1 = true then addKeys _ _ else _) ↔ _
      rw [b.nu, Lst]
      split
      · rename_i e; rw [mem_addKeys, a.ls, b.ls]; simp [e]
      · rename_i e; rw [b.ls]; simp [e]
    · show InF (joinF (ev p _).2.fol _ _) i j ↔ _
      rw [inF_join (by rw [a.ln, b.ln]; exact hi), a.fo i j (by rw [b.ln]; exact hi), b.fo i j hi, a.ls, b.fs, Fo]
      constructor
      · rintro (((h | h) | h) | h)
        · exact .inl h
        · exact .inr (.inl (.inr h))
        · exact .inr (.inl (.inl h))
        · exact .inr (.inr h)
      · rintro (h | ((h | h) | h))
        · exact .inl (.inl (.inl h))
        · exact .inl (.inr h)
        · exact .inl (.inl (.inr h))
        · exact .inr h
theorem evS_shape (p : Pat) : Shape p 0 ⟨List.replicate (nL p + 1) [], nL p⟩ (evS p) := ev_shape p _ 0 (by simp)
theorem inF_rep {n i j : Nat} : ¬ InF (List.replicate n []) i j := by
  rintro ⟨ks, h, m⟩
  have := List.mem_of_getElem? h
  rw [List.mem_replicate] at this
  rw [this.2] at m
  cases m
theorem fo_folP (p : Pat) (i j : Nat) : InF (folP p) i j ↔ Fo p 0 i j ∨ (i = 0 ∧ Fst p 0 j) := by
  have S := evS_shape p
  by_cases hi : i < nL p + 1
  · unfold folP
    have h1 : i < (evS p).2.fol.length := by rw [S.ln]; simpa using hi
    rw [inF_mod h1, S.fo i j (by simpa using hi), S.fs]
    simp [inF_rep]
  · constructor
    · rintro ⟨ks, h, m⟩
      have h1 := (List.getElem?_eq_some_iff.mp h).1
      rw [(folP_ok p).1] at h1
      exact absurd h1 hi
    · rintro (h | ⟨h, _⟩)
      · have := h.top; omega
      · omega
theorem en_endP (p : Pat) (j : Nat) : j ∈ endP p ↔ Lst p 0 j ∨ (j = 0 ∧ nul p = true) := by
  have S := evS_shape p
  unfold endP
  rw [S.nu]
  split
  · rename_i e; rw [mem_addKey, S.ls]; simp [e]
  · rename_i e; rw [S.ls]; simp [e]
/-- the lot of a state -/
def ltP (p : Pat) : Nat → List Nat := fun j => (lots p).getD (j - 1) []
theorem fit_of (L : List (List Nat)) : ∀ (p : Pat) (lo : Nat), (∀ k, k < nL p → L[lo + k]? = (lots p)[k]?) → Fit (fun j => L.getD (j - 1) []) p lo
  | .none, _, _ => trivial
  | .empty, _, _ => trivial
  | .sign l, lo, h => by
    show L.getD (lo + 1 - 1) [] = l
    have := h 0 (by simp [nL, lots])
    rw [List.getD_eq_getElem?_getD, show lo + 1 - 1 = lo + 0 by omega, this]
    rfl
  | .thn p q, lo, h => by
    have e : nL (.thn p q) = nL p + nL q := by simp [nL, lots]
    refine ⟨fit_of L p lo fun k hk => ?_, fit_of L q (lo + nL p) fun k hk => ?_⟩
    · rw [h k (by omega)]; simp only [lots]; rw [List.getElem?_append_left hk]
    · have := h (nL p + k) (by omega)
      rw [show lo + nL p + k = lo + (nL p + k) by omega, this]
      simp only [lots]
      rw [List.getElem?_append_right (Nat.le_add_right _ _), Nat.add_sub_cancel_left]
  | .or p q, lo, h => by
    have e : nL (.or p q) = nL p + nL q := by simp [nL, lots]
    refine ⟨fit_of L p lo fun k hk => ?_, fit_of L q (lo + nL p) fun k hk => ?_⟩
    · rw [h k (by omega)]; simp only [lots]; rw [List.getElem?_append_left hk]
    · have := h (nL p + k) (by omega)
      rw [show lo + nL p + k = lo + (nL p + k) by omega, this]
      simp only [lots]
      rw [List.getElem?_append_right (Nat.le_add_right _ _), Nat.add_sub_cancel_left]
  | .many p, lo, h => fit_of L p lo h
  | .few p, lo, h => fit_of L p lo h
  | .mark _ p, lo, h => fit_of L p lo h
theorem fit_ltP (p : Pat) : Fit (ltP p) p 0 := fit_of (lots p) p 0 fun k _ => by rw [Nat.zero_add]
/-- the states of Sets read what the pattern reads -/
theorem acc_pat (p : Pat) (w : List Nat) : Acc (InF (folP p)) (ltP p) (fun i => i ∈ endP p) 0 w ↔ Reads p w := by
  refine acc_reads (fit_ltP p) (fun i j hi => ?_) (fun i hi => ?_) (fun j => ?_) ?_ w
  · rw [fo_folP]
    exact ⟨fun h => h.elim id fun h => absurd h.1 (by omega), .inl⟩
  · rw [en_endP]
    exact ⟨fun h => h.elim id fun h => absurd h.1 (by omega), .inl⟩
  · rw [fo_folP]
    exact ⟨fun h => h.elim (fun h => absurd h.bd.1 (by omega)) (·.2), fun h => .inr ⟨rfl, h⟩⟩
  · show 0 ∈ endP p ↔ _
    rw [en_endP]
    exact ⟨fun h => h.elim (fun h => absurd h.bd.1 (by omega)) (·.2), fun h => .inr ⟨rfl, h⟩⟩
end FR
end
section
set_option Elab.async false
set_option linter.all false
set_option maxRecDepth 20000
set_option maxHeartbeats 2000000
/-! Edits, and the ways of the mending table. -/
namespace FR
open PySem L2 FL
inductive Ed : List Nat → List Nat → Nat → Prop
  | nil : Ed [] [] 0
  | take {a : Nat} {u w : List Nat} {n : Nat} : Ed u w n → Ed (a :: u) w (n + 1)
  | put {b : Nat} {u w : List Nat} {n : Nat} : Ed u w n → Ed u (b :: w) (n + 1)
  | keep {a : Nat} {u w : List Nat} {n : Nat} : Ed u w n → Ed (a :: u) (a :: w) n
  | change {a b : Nat} {u w : List Nat} {n : Nat} : Ed u w n → Ed (a :: u) (b :: w) (n + 1)
theorem Ed.symm {u w : List Nat} {n : Nat} (h : Ed u w n) : Ed w u n := by
  induction h with
  | nil => exact .nil
  | take _ ih => exact .put ih
  | put _ ih => exact .take ih
  | keep _ ih => exact .keep ih
  | change _ ih => exact .change ih
theorem Ed.self : ∀ u : List Nat, Ed u u 0
  | [] => .nil
  | _ :: u => .keep (Ed.self u)
theorem Ed.takes : ∀ u : List Nat, Ed u [] u.length
  | [] => .nil
  | _ :: u => .take (Ed.takes u)
theorem Ed.of_nil {u : List Nat} {n : Nat} (h : Ed u [] n) : n = u.length := by
  generalize e : ([] : List Nat) = w at h
  induction h with
  | nil => rfl
  | take _ ih => rw [ih e, List.length_cons]
  | _ => cases e
theorem Ed.app {u w u' w' : List Nat} {n m : Nat} (h : Ed u w n) (h' : Ed u' w' m) : Ed (u ++ u') (w ++ w') (n + m) := by
  induction h with
  | nil => simpa using h'
  | @take a u w n _ ih => rw [show n + 1 + m = n + m + 1 by omega]; exact .take ih
  | @put b u w n _ ih => rw [show n + 1 + m = n + m + 1 by omega]; exact .put ih
  | keep _ ih => exact .keep ih
  | @change a b u w n _ ih => rw [show n + 1 + m = n + m + 1 by omega]; exact .change ih
/-- edits to two words put together part -/
theorem Ed.part {t x : List Nat} {n : Nat} (h : Ed t x n) : ∀ {w w' : List Nat}, x = w ++ w' → ∃ u u' a b, t = u ++ u' ∧ n = a + b ∧ Ed u w a ∧ Ed u' w' b := by
  induction h with
  | nil =>
    intro w w' e
    obtain ⟨rfl, rfl⟩ := List.append_eq_nil_iff.mp e.symm
    exact ⟨[], [], 0, 0, rfl, rfl, .nil, .nil⟩
  | @take a u x n h ih =>
    intro w w' e
    obtain ⟨u1, u2, p, q, e1, e2, h1, h2⟩ := ih e
    exact ⟨a :: u1, u2, p + 1, q, by rw [e1]; rfl, by omega, .take h1, h2⟩
  | @put b u x n h ih =>
    intro w w' e
    cases w with
    | nil => exact ⟨[], u, 0, n + 1, rfl, by omega, .nil, by rw [show w' = b :: x from e.symm]; exact .put h⟩
    | cons c w =>
      cases e
      obtain ⟨u1, u2, p, q, e1, e2, h1, h2⟩ := ih rfl
      exact ⟨u1, u2, p + 1, q, e1, by omega, .put h1, h2⟩
  | @keep a u x n h ih =>
    intro w w' e
    cases w with
    | nil => exact ⟨[], a :: u, 0, n, rfl, by omega, .nil, by rw [show w' = a :: x from e.symm]; exact .keep h⟩
    | cons c w =>
      cases e
      obtain ⟨u1, u2, p, q, e1, e2, h1, h2⟩ := ih rfl
      exact ⟨_ :: u1, u2, p, q, by rw [e1]; rfl, e2, .keep h1, h2⟩
  | @change a b u x n h ih =>
    intro w w' e
    cases w with
    | nil => exact ⟨[], a :: u, 0, n + 1, rfl, by omega, .nil, by rw [show w' = b :: x from e.symm]; exact .change h⟩
    | cons c w =>
      cases e
      obtain ⟨u1, u2, p, q, e1, e2, h1, h2⟩ := ih rfl
      exact ⟨_ :: u1, u2, p + 1, q, by rw [e1]; rfl, by omega, .change h1, h2⟩
/-- the ways of the table: from a place and a state on, so many edits, so many signs -/
inductive Go (fo : Nat → Nat → Prop) (lt : Nat → List Nat) (en : Nat → Prop) (t : List Nat) : Nat → Nat → Nat → Nat → Prop
  | stop {s : Nat} : en s → Go fo lt en t t.length s 0 0
  | take {i s n m : Nat} : i < t.length → Go fo lt en t (i + 1) s n m → Go fo lt en t i s (n + 1) m
  | put {i s j n m : Nat} : fo s j → Go fo lt en t i j n m → Go fo lt en t i s (n + 1) (m + 1)
  | read {i s j c n m : Nat} : t[i]? = some c → fo s j → Go fo lt en t (i + 1) j n m → Go fo lt en t i s (n + if c ∈ lt j then 0 else 1) (m + 1)
section
variable {fo : Nat → Nat → Prop} {lt : Nat → List Nat} {en : Nat → Prop} {t : List Nat}
theorem Go.word (hl : ∀ s j, fo s j → lt j ≠ []) {i s n m : Nat} (h : Go fo lt en t i s n m) : ∃ w, Acc fo lt en s w ∧ w.length = m ∧ Ed (t.drop i) w n := by
  induction h with
  | stop h => exact ⟨[], h, rfl, by rw [List.drop_length]; exact .nil⟩
  | @take i s n m hi _ ih =>
    obtain ⟨w, a, b, d⟩ := ih
    exact ⟨w, a, b, by rw [List.drop_eq_getElem_cons hi]; exact .take d⟩
  | @put i s j n m hf _ ih =>
    obtain ⟨w, a, b, d⟩ := ih
    obtain ⟨c, l, e⟩ := List.exists_cons_of_ne_nil (hl s j hf)
    exact ⟨c :: w, ⟨j, hf, by rw [e]; exact List.mem_cons_self .., a⟩, by simp [b], .put d⟩
  | @read i s j c n m hc hf _ ih =>
    obtain ⟨w, a, b, d⟩ := ih
    obtain ⟨hi, e⟩ := List.getElem?_eq_some_iff.mp hc
    rw [List.drop_eq_getElem_cons hi, e]
    by_cases hm : c ∈ lt j
    · rw [if_pos hm]
      exact ⟨c :: w, ⟨j, hf, hm, a⟩, by simp [b], .keep d⟩
    · rw [if_neg hm]
      obtain ⟨c', l, e⟩ := List.exists_cons_of_ne_nil (hl s j hf)
      exact ⟨c' :: w, ⟨j, hf, by rw [e]; exact List.mem_cons_self .., a⟩, by simp [b], .change d⟩
theorem Go.of_word {u w : List Nat} {n : Nat} (h : Ed u w n) : ∀ {i s : Nat}, i ≤ t.length → u = t.drop i → Acc fo lt en s w → ∃ n', n' ≤ n ∧ Go fo lt en t i s n' w.length := by
  induction h with
  | nil =>
    intro i s hi e a
    have h1 : i = t.length := by
      have := congrArg List.length e
      simp at this
      omega
    subst h1
    exact ⟨0, Nat.le_refl _, .stop a⟩
  | @take c u w n _ ih =>
    intro i s hi e a
    have h1 : i < t.length := by
      have := congrArg List.length e
      simp at this
      omega
    rw [List.drop_eq_getElem_cons h1] at e
    obtain ⟨n', h2, h3⟩ := ih (i := i + 1) h1 (List.cons.inj e).2 a
    exact ⟨n' + 1, by omega, .take h1 h3⟩
  | @put b u w n _ ih =>
    intro i s hi e a
    obtain ⟨j, hf, _, a⟩ := a
    obtain ⟨n', h2, h3⟩ := ih hi e a
    exact ⟨n' + 1, by omega, .put hf h3⟩
  | @keep c u w n _ ih =>
    intro i s hi e a
    have h1 : i < t.length := by
      have := congrArg List.length e
      simp at this
      omega
    rw [List.drop_eq_getElem_cons h1] at e
    obtain ⟨j, hf, hm, a⟩ := a
    obtain ⟨n', h2, h3⟩ := ih (i := i + 1) h1 (List.cons.inj e).2 a
    have h4 := Go.read (c := c) (lt := lt) (by rw [(List.cons.inj e).1]; exact List.getElem?_eq_getElem h1) hf h3
    rw [if_pos hm] at h4
    exact ⟨n', h2, h4⟩
  | @change c b u w n _ ih =>
    intro i s hi e a
    have h1 : i < t.length := by
      have := congrArg List.length e
      simp at this
      omega
    rw [List.drop_eq_getElem_cons h1] at e
    obtain ⟨j, hf, hm, a⟩ := a
    obtain ⟨n', h2, h3⟩ := ih (i := i + 1) h1 (List.cons.inj e).2 a
    have h4 := Go.read (c := c) (lt := lt) (by rw [(List.cons.inj e).1]; exact List.getElem?_eq_getElem h1) hf h3
    exact ⟨_, by split <;> omega, h4⟩
end
end FR
end
section
set_option Elab.async false
set_option linter.all false
set_option maxRecDepth 20000
set_option maxHeartbeats 2000000
/-! The rows of price_between tell the least edits. -/
namespace FR
open PySem L2 FL
theorem Ed.rev {u w : List Nat} {n : Nat} (h : Ed u w n) : Ed u.reverse w.reverse n := by
  induction h with
  | nil => exact .nil
  | take _ ih => rw [List.reverse_cons]; simpa using ih.app (.take .nil)
  | put _ ih => rw [List.reverse_cons]; simpa using ih.app (.put .nil)
  | keep _ ih => rw [List.reverse_cons, List.reverse_cons]; exact ih.app (.keep .nil)
  | change _ ih => rw [List.reverse_cons, List.reverse_cons]; exact ih.app (.change .nil)
section
variable {a b : List Nat}
theorem take_rev {a : List Nat} {i : Nat} (h : i < a.length) : (a.take (i + 1)).reverse = a.getD i 0 :: (a.take i).reverse := by
  rw [List.take_add_one, List.getElem?_eq_getElem h, List.getD_eq_getElem?_getD, List.getElem?_eq_getElem h]
  simp
theorem rev_cons {a u : List Nat} {x i : Nat} (hi : i ≤ a.length) (e : x :: u = (a.take i).reverse) : ∃ k, i = k + 1 ∧ k < a.length ∧ x = a.getD k 0 ∧ u = (a.take k).reverse := by
  cases i with
  | zero => simp at e
  | succ k =>
    rw [take_rev (by omega)] at e
    exact ⟨k, rfl, by omega, (List.cons.inj e).1, (List.cons.inj e).2⟩
theorem rev_nil {a : List Nat} {i : Nat} (hi : i ≤ a.length) (e : [] = (a.take i).reverse) : i = 0 := by
  have := congrArg List.length e
  simp at this
  omega
theorem Dd_i0 (a b : List Nat) : ∀ i, Dd a b i 0 = i
  | 0 => Dd_0 ..
  | i + 1 => Dd_s0 ..
theorem Dd_up (i j : Nat) : Dd a b (i + 1) j ≤ Dd a b i j + 1 := by
  cases j with
  | zero => rw [Dd_i0, Dd_i0]; exact Nat.le_refl _
  | succ j => rw [Dd_ss]; omega
theorem Dd_right (i j : Nat) : Dd a b i (j + 1) ≤ Dd a b i j + 1 := by
  cases i with
  | zero => rw [Dd_0, Dd_0]; exact Nat.le_refl _
  | succ i => rw [Dd_ss]; omega
theorem Dd_least {u w : List Nat} {n : Nat} (h : Ed u w n) : ∀ i j, i ≤ a.length → j ≤ b.length → u = (a.take i).reverse → w = (b.take j).reverse → Dd a b i j ≤ n := by
  induction h with
  | nil =>
    intro i j hi hj e1 e2
    rw [rev_nil hi e1, rev_nil hj e2, Dd_0]
    exact Nat.le_refl _
  | take _ ih =>
    intro i j hi hj e1 e2
    obtain ⟨k, rfl, hk, _, e3⟩ := rev_cons hi e1
    have := ih k j (by omega) hj e3 e2
    have := Dd_up (a := a) (b := b) k j
    omega
  | put _ ih =>
    intro i j hi hj e1 e2
    obtain ⟨k, rfl, hk, _, e3⟩ := rev_cons hj e2
    have := ih i k hi (by omega) e1 e3
    have := Dd_right (a := a) (b := b) i k
    omega
  | keep _ ih =>
    intro i j hi hj e1 e2
    obtain ⟨k, rfl, hk, x1, e3⟩ := rev_cons hi e1
    obtain ⟨l, rfl, hl, x2, e4⟩ := rev_cons hj e2
    have := ih k l (by omega) (by omega) e3 e4
    rw [Dd_ss, ← x1, ← x2, if_pos rfl]
    omega
  | change _ ih =>
    intro i j hi hj e1 e2
    obtain ⟨k, rfl, hk, x1, e3⟩ := rev_cons hi e1
    obtain ⟨l, rfl, hl, x2, e4⟩ := rev_cons hj e2
    have := ih k l (by omega) (by omega) e3 e4
    rw [Dd_ss]
    split <;> omega
theorem Dd_ed : ∀ i j, i ≤ a.length → j ≤ b.length → Ed (a.take i).reverse (b.take j).reverse (Dd a b i j)
  | 0, j, _, hj => by
    rw [Dd_0]
    have h := (Ed.takes (b.take j).reverse).symm
    rw [List.length_reverse, List.length_take, Nat.min_eq_left hj] at h
    exact h
  | i + 1, 0, hi, _ => by
    rw [Dd_s0]
    have h := Ed.takes (a.take (i + 1)).reverse
    rw [List.length_reverse, List.length_take, Nat.min_eq_left hi] at h
    exact h
  | i + 1, j + 1, hi, hj => by
    have h1 := Dd_ed i (j + 1) (by omega) hj
    have h2 := Dd_ed (i + 1) j hi (by omega)
    have h3 := Dd_ed i j (by omega) (by omega)
    rw [take_rev (a := b) (i := j) (by omega)] at h1 ⊢
    rw [take_rev (a := a) (i := i) (by omega)] at h2 ⊢
    rw [Dd_ss]
    rcases Nat.le_total (min (Dd a b i (j + 1) + 1) (Dd a b (i + 1) j + 1)) (Dd a b i j + if a.getD i 0 = b.getD j 0 then 0 else 1) with h | h
    · rw [Nat.min_eq_left h]
      rcases Nat.le_total (Dd a b i (j + 1) + 1) (Dd a b (i + 1) j + 1) with h' | h'
      · rw [Nat.min_eq_left h']; exact .take h1
      · rw [Nat.min_eq_right h']; exact .put h2
    · rw [Nat.min_eq_right h]
      by_cases e : a.getD i 0 = b.getD j 0
      · rw [if_pos e, e]; exact .keep h3
      · rw [if_neg e]; exact .change h3
termination_by i j => (i, j)
/-- the price between two texts -/
def price (a b : List Nat) : Nat := Dd a b a.length b.length
theorem price_ed (a b : List Nat) : Ed a b (price a b) := by
  have h := (Dd_ed (a := a) (b := b) a.length b.length (Nat.le_refl _) (Nat.le_refl _)).rev
  rw [List.reverse_reverse, List.reverse_reverse, List.take_length, List.take_length] at h
  exact h
theorem price_le {n : Nat} (h : Ed a b n) : price a b ≤ n := Dd_least h.rev a.length b.length (Nat.le_refl _) (Nat.le_refl _) (by simp) (by simp)
theorem price_symm (a b : List Nat) : price a b = price b a := Nat.le_antisymm (price_le (price_ed b a).symm) (price_le (price_ed a b).symm)
end
end FR
end
section
set_option Elab.async false
set_option linter.all false
set_option maxRecDepth 20000
set_option maxHeartbeats 2000000
/-! Prices: the third text, and what an or, a then, a many cost. -/
namespace FR
open PySem L2 FL
theorem Ed.tri : ∀ (N : Nat) {u v w : List Nat} {n m : Nat}, u.length + v.length + w.length ≤ N → Ed u v n → Ed v w m → ∃ k, k ≤ n + m ∧ Ed u w k
  | 0, u, v, w, n, m, h, h1, h2 => by
    have e1 : u = [] := List.length_eq_zero_iff.mp (by omega)
    have e2 : w = [] := List.length_eq_zero_iff.mp (by omega)
    subst e1 e2
    exact ⟨0, Nat.zero_le _, .nil⟩
  | N + 1, u, v, w, n, m, h, h1, h2 => by
    cases h1 with
    | nil => exact ⟨m, by omega, h2⟩
    | @take a u v n h1 =>
      obtain ⟨k, a1, a2⟩ := Ed.tri N (by simp at h; omega) h1 h2
      exact ⟨k + 1, by omega, .take a2⟩
    | @put b u v n h1 =>
      cases h2 with
      | take h2 =>
        obtain ⟨k, a1, a2⟩ := Ed.tri N (by simp at h; omega) h1 h2
        exact ⟨k, by omega, a2⟩
      | put h2 =>
        obtain ⟨k, a1, a2⟩ := Ed.tri N (by simp at h ⊢; omega) (.put h1) h2
        exact ⟨k + 1, by omega, .put a2⟩
      | keep h2 =>
        obtain ⟨k, a1, a2⟩ := Ed.tri N (by simp at h; omega) h1 h2
        exact ⟨k + 1, by omega, .put a2⟩
      | change h2 =>
        obtain ⟨k, a1, a2⟩ := Ed.tri N (by simp at h; omega) h1 h2
        exact ⟨k + 1, by omega, .put a2⟩
    | @keep a u v n h1 =>
      cases h2 with
      | take h2 =>
        obtain ⟨k, a1, a2⟩ := Ed.tri N (by simp at h; omega) h1 h2
        exact ⟨k + 1, by omega, .take a2⟩
      | put h2 =>
        obtain ⟨k, a1, a2⟩ := Ed.tri N (by simp at h ⊢; omega) (.keep h1) h2
        exact ⟨k + 1, by omega, .put a2⟩
      | keep h2 =>
        obtain ⟨k, a1, a2⟩ := Ed.tri N (by simp at h; omega) h1 h2
        exact ⟨k, by omega, .keep a2⟩
      | change h2 =>
        obtain ⟨k, a1, a2⟩ := Ed.tri N (by simp at h; omega) h1 h2
        exact ⟨k + 1, by omega, .change a2⟩
    | @change a b u v n h1 =>
      cases h2 with
      | take h2 =>
        obtain ⟨k, a1, a2⟩ := Ed.tri N (by simp at h; omega) h1 h2
        exact ⟨k + 1, by omega, .take a2⟩
      | put h2 =>
        obtain ⟨k, a1, a2⟩ := Ed.tri N (by simp at h ⊢; omega) (.change h1) h2
        exact ⟨k + 1, by omega, .put a2⟩
      | keep h2 =>
        obtain ⟨k, a1, a2⟩ := Ed.tri N (by simp at h; omega) h1 h2
        exact ⟨k + 1, by omega, .change a2⟩
      | change h2 =>
        obtain ⟨k, a1, a2⟩ := Ed.tri N (by simp at h; omega) h1 h2
        exact ⟨k + 1, by omega, .change a2⟩
theorem price_tri (a b c : List Nat) : price a c ≤ price a b + price b c := by
  obtain ⟨k, h1, h2⟩ := Ed.tri _ (Nat.le_refl _) (price_ed a b) (price_ed b c)
  exact Nat.le_trans (price_le h2) h1
theorem price_nil (a : List Nat) : price a [] = a.length := (price_ed a []).of_nil
/-- what it may cost to be read -/
def PrP (p : Pat) (t : List Nat) (n : Nat) : Prop := ∃ w, Reads p w ∧ Ed t w n
structure IsMin (P : Nat → Prop) (n : Nat) : Prop where
  is : P n
  le : ∀ m, P m → n ≤ m
theorem IsMin.uniq {P : Nat → Prop} {n m : Nat} (h : IsMin P n) (h' : IsMin P m) : n = m := Nat.le_antisymm (h.le m h'.is) (h'.le n h.is)
theorem prP_or {p q : Pat} {t : List Nat} {n : Nat} : PrP (.or p q) t n ↔ PrP p t n ∨ PrP q t n := by
  unfold PrP
  constructor
  · rintro ⟨w, h, e⟩
    exact (reads_or.mp h).elim (fun h => .inl ⟨w, h, e⟩) fun h => .inr ⟨w, h, e⟩
  · rintro (⟨w, h, e⟩ | ⟨w, h, e⟩)
    · exact ⟨w, .orl h, e⟩
    · exact ⟨w, .orr h, e⟩
theorem min_or {p q : Pat} {t : List Nat} {n m : Nat} (h1 : IsMin (PrP p t) n) (h2 : IsMin (PrP q t) m) : IsMin (PrP (.or p q) t) (min n m) := by
  refine ⟨?_, fun k h => ?_⟩
  · rcases Nat.le_total n m with h | h
    · rw [Nat.min_eq_left h]; exact prP_or.mpr (.inl h1.is)
    · rw [Nat.min_eq_right h]; exact prP_or.mpr (.inr h2.is)
  · rcases prP_or.mp h with h | h
    · have := h1.le k h; omega
    · have := h2.le k h; omega
theorem prP_thn {p q : Pat} {t : List Nat} {n : Nat} : PrP (.thn p q) t n ↔ ∃ u v a b, t = u ++ v ∧ n = a + b ∧ PrP p u a ∧ PrP q v b := by
  constructor
  · rintro ⟨w, h, e⟩
    obtain ⟨x, y, rfl, h1, h2⟩ := reads_thn.mp h
    obtain ⟨u, v, a, b, e1, e2, e3, e4⟩ := e.part rfl
    exact ⟨u, v, a, b, e1, e2, ⟨x, h1, e3⟩, ⟨y, h2, e4⟩⟩
  · rintro ⟨u, v, a, b, rfl, rfl, ⟨x, h1, e3⟩, ⟨y, h2, e4⟩⟩
    exact ⟨x ++ y, .thn h1 h2, e3.app e4⟩
theorem prP_mark {m : List Nat} {p : Pat} {t : List Nat} {n : Nat} : PrP (.mark m p) t n ↔ PrP p t n := by
  unfold PrP; simp only [reads_mark]
theorem prP_few {p : Pat} {t : List Nat} {n : Nat} : PrP (.few p) t n ↔ PrP (.many p) t n := by
  unfold PrP; simp only [reads_few]
theorem prP_many {p : Pat} {t : List Nat} {n : Nat} (h : PrP p t n) : PrP (.many p) t n := by
  obtain ⟨w, h, e⟩ := h
  exact ⟨w, by simpa using Reads.manyS h .many0, e⟩
theorem prP_all {p : Pat} {t : List Nat} : PrP (.many p) t t.length := ⟨[], .many0, Ed.takes t⟩
theorem prP_empty {t : List Nat} {n : Nat} : PrP .empty t n ↔ n = t.length := by
  constructor
  · rintro ⟨w, h, e⟩
    rw [reads_empty.mp h] at e
    exact e.of_nil
  · rintro rfl
    exact ⟨[], .empty, Ed.takes t⟩
end FR
end
section
set_option Elab.async false
set_option linter.all false
set_option maxRecDepth 20000
set_option maxHeartbeats 2000000
/-! The mending table: sound and closed, it tells the least. -/
namespace FR
open PySem L2 FL
abbrev PS := Nat × Nat
/-- price first, then signs -/
def leP (x y : PS) : Prop := x.1 < y.1 ∨ (x.1 = y.1 ∧ x.2 ≤ y.2)
instance (x y : PS) : Decidable (leP x y) := by unfold leP; infer_instance
theorem leP.refl (x : PS) : leP x x := .inr ⟨rfl, Nat.le_refl _⟩
theorem leP.trans {x y z : PS} (h : leP x y) (h' : leP y z) : leP x z := by unfold leP at *; omega
theorem leP.add {x y : PS} (h : leP x y) (a b : Nat) : leP (x.1 + a, x.2 + b) (y.1 + a, y.2 + b) := by unfold leP at *; simp only; omega
theorem leP.tot {x y : PS} (h : ¬ leP x y) : leP y x := by unfold leP at *; omega
abbrev Tab := Nat → Nat → Option PS
def LeO (o : Option PS) (v : PS) : Prop := ∃ x, o = some x ∧ leP x v
theorem LeO.trans {o : Option PS} {v u : PS} (h : LeO o v) (h' : leP v u) : LeO o u := by
  obtain ⟨x, e, l⟩ := h
  exact ⟨x, e, l.trans h'⟩
section
variable {fo : Nat → Nat → Prop} {lt : Nat → List Nat} {en : Nat → Prop} {t : List Nat} {L : Nat}
structure Closed (fo : Nat → Nat → Prop) (lt : Nat → List Nat) (en : Nat → Prop) (t : List Nat) (L : Nat) (f : Tab) (i : Nat) : Prop where
  stop : i = t.length → ∀ s, s < L → en s → LeO (f i s) (0, 0)
  take : i < t.length → ∀ s x, s < L → f (i + 1) s = some x → LeO (f i s) (x.1 + 1, x.2)
  put : ∀ s j x, s < L → fo s j → f i j = some x → LeO (f i s) (x.1 + 1, x.2 + 1)
  read : ∀ s j c x, s < L → t[i]? = some c → fo s j → f (i + 1) j = some x → LeO (f i s) (x.1 + (if c ∈ lt j then 0 else 1), x.2 + 1)
theorem Go.inL (h1 : ∀ s, en s → s < L) (h2 : ∀ s j, fo s j → s < L) {i s n m : Nat} (h : Go fo lt en t i s n m) : s < L := by
  induction h with
  | stop h => exact h1 _ h
  | take _ _ ih => exact ih
  | put h _ _ => exact h2 _ _ h
  | read _ h _ _ => exact h2 _ _ h
theorem Go.le_tab (h1 : ∀ s, en s → s < L) (h2 : ∀ s j, fo s j → s < L) {f : Tab} (hc : ∀ i, i ≤ t.length → Closed fo lt en t L f i) {i s n m : Nat} (h : Go fo lt en t i s n m) : i ≤ t.length → LeO (f i s) (n, m) := by
  induction h with
  | stop h => exact fun _ => (hc _ (Nat.le_refl _)).stop rfl _ (h1 _ h) h
  | take hi g ih =>
    intro h
    obtain ⟨x, e, l⟩ := ih hi
    exact ((hc _ h).take hi _ x (g.inL h1 h2) e).trans (l.add 1 0)
  | put hf g ih =>
    intro h
    obtain ⟨x, e, l⟩ := ih h
    exact ((hc _ h).put _ _ x (h2 _ _ hf) hf e).trans (l.add 1 1)
  | read hi hf g ih =>
    intro h
    obtain ⟨x, e, l⟩ := ih (List.getElem?_eq_some_iff.mp hi).1
    exact ((hc _ h).read _ _ _ x (h2 _ _ hf) hi hf e).trans (l.add _ 1)
end
theorem lots_ok : ∀ {p : Pat}, p.ok = true → ∀ l ∈ lots p, l ≠ []
  | .none, _, l, h => by simp [lots] at h
  | .empty, _, l, h => by simp [lots] at h
  | .sign k, ho, l, h => by
    simp only [lots, List.mem_singleton] at h
    subst h
    simp only [Pat.ok, Bool.and_eq_true, decide_eq_true_eq] at ho
    exact ho.1.2
  | .thn p q, ho, l, h => by
    simp only [Pat.ok, Bool.and_eq_true] at ho
    rcases List.mem_append.mp h with h | h
    · exact lots_ok ho.1 l h
    · exact lots_ok ho.2 l h
  | .or p q, ho, l, h => by
    simp only [Pat.ok, Bool.and_eq_true] at ho
    rcases List.mem_append.mp h with h | h
    · exact lots_ok ho.1 l h
    · exact lots_ok ho.2 l h
  | .many p, ho, l, h => lots_ok (p := p) (by simpa [Pat.ok] using ho) l h
  | .few p, ho, l, h => lots_ok (p := p) (by simpa [Pat.ok] using ho) l h
  | .mark m p, ho, l, h => lots_ok (p := p) (by simp only [Pat.ok, Bool.and_eq_true] at ho; exact ho.2) l h
theorem fo_bd {p : Pat} {s j : Nat} (h : InF (folP p) s j) : s < nL p + 1 ∧ 0 < j ∧ j < nL p + 1 := by
  rcases (fo_folP p s j).mp h with h | ⟨h, h2⟩
  · have := h.top; have := h.bd; exact ⟨by omega, by omega, by omega⟩
  · have := h2.bd; exact ⟨by omega, by omega, by omega⟩
theorem en_bd {p : Pat} {s : Nat} (h : s ∈ endP p) : s < nL p + 1 := by
  rcases (en_endP p s).mp h with h | ⟨h, _⟩
  · have := h.bd; omega
  · omega
theorem lt_ok {p : Pat} (ho : p.ok = true) (s j : Nat) (h : InF (folP p) s j) : ltP p j ≠ [] := by
  have hb := fo_bd h
  unfold ltP
  have h1 : j - 1 < (lots p).length := by have : nL p = (lots p).length := rfl; omega
  rw [List.getD_eq_getElem?_getD, List.getElem?_eq_getElem h1]
  exact lots_ok ho _ (List.getElem_mem h1)
/-- the ways of the table of p and t -/
abbrev GoP (p : Pat) (t : List Nat) := Go (InF (folP p)) (ltP p) (fun s => s ∈ endP p) t
abbrev ClosedP (p : Pat) (t : List Nat) := Closed (InF (folP p)) (ltP p) (fun s => s ∈ endP p) t (nL p + 1)
structure Done (p : Pat) (t : List Nat) (f : Tab) : Prop where
  so : ∀ i s x, f i s = some x → GoP p t i s x.1 x.2
  cl : ∀ i, i ≤ t.length → ClosedP p t f i
theorem Done.least {p : Pat} {t : List Nat} {f : Tab} (d : Done p t f) (ho : p.ok = true) {x : PS} (h : f 0 0 = some x) : IsMin (PrP p t) x.1 := by
  refine ⟨?_, fun m ⟨w, h1, h2⟩ => ?_⟩
  · obtain ⟨w, h1, h2, h3⟩ := (d.so 0 0 x h).word (lt_ok ho)
    exact ⟨w, (acc_pat p w).mp h1, h3⟩
  · obtain ⟨n', h3, h4⟩ := Go.of_word (t := t) h2 (Nat.zero_le _) rfl ((acc_pat p w).mpr h1)
    obtain ⟨y, h5, h6⟩ := h4.le_tab (fun s => en_bd) (fun s j h => (fo_bd h).1) d.cl (Nat.zero_le _)
    rw [h] at h5
    obtain rfl := Option.some.inj h5
    unfold leP at h6
    simp only at h6
    omega
theorem Done.none {p : Pat} {t : List Nat} {f : Tab} (d : Done p t f) (h : f 0 0 = none) : ∀ n, ¬ PrP p t n := by
  rintro n ⟨w, h1, h2⟩
  obtain ⟨n', h3, h4⟩ := Go.of_word (t := t) h2 (Nat.zero_le _) rfl ((acc_pat p w).mpr h1)
  obtain ⟨y, h5, h6⟩ := h4.le_tab (fun s => en_bd) (fun s j h => (fo_bd h).1) d.cl (Nat.zero_le _)
  rw [h] at h5
  cases h5
end FR
end
section
set_option Elab.async false
set_option linter.all false
set_option maxRecDepth 20000
set_option maxHeartbeats 2000000
/-! The table as a dict with pair keys. -/
namespace FR
open PySem L2 FL
def kp2 (i j : Nat) : List Key := [Sum.inl (i : Int), Sum.inl (j : Int)]
theorem kp2_inj {i j k l : Nat} (h : kp2 i j = kp2 k l) : i = k ∧ j = l := by
  simp only [kp2, List.cons.injEq, Sum.inl.injEq, and_true] at h
  omega
def setT (f : Tab) (i j : Nat) (x : PS) : Tab := fun a b => if a = i ∧ b = j then some x else f a b
structure BestAt (H : Hp) (bd : Addr) (f : Tab) (T L : Nat) (kvs : List (List Key × V)) : Prop where
  h : H bd = some (.dT kvs)
  ks : ∃ ks : List (Nat × Nat), kvs.map (·.1) = ks.map (fun k => kp2 k.1 k.2) ∧ ks.Nodup ∧ ∀ k ∈ ks, k.1 ≤ T ∧ k.2 < L
  v : ∀ i j, (f i j = none ∧ valV kvs (kp2 i j) = none) ∨ ∃ x a, f i j = some x ∧ valV kvs (kp2 i j) = some (.ref a) ∧ H a = some (.tup [.int (x.1 : Nat), .int (x.2 : Nat)])
theorem keys_put {κ : Type} [DecidableEq κ] (kvs : List (κ × V)) (k : κ) (v : V) : (putK kvs k v).map (·.1) = if (valV kvs k).isSome then kvs.map (·.1) else kvs.map (·.1) ++ [k] := by
  unfold putK
  rw [valV_any]
  split
  · rw [List.map_map]
    refine List.map_congr_left fun p _ => ?_
    simp only [Function.comp_apply]
    split <;> rfl
  · simp
theorem BestAt.len {H : Hp} {bd : Addr} {f : Tab} {T L : Nat} {kvs : List (List Key × V)} (b : BestAt H bd f T L kvs) : kvs.length ≤ (T + 1) * L := by
  obtain ⟨ks, e, nd, hb⟩ := b.ks
  have h1 : kvs.length = ks.length := by
    have := congrArg List.length e
    simpa using this
  rw [h1]
  have h2 : (ks.map fun k => k.1 * L + k.2).Nodup := by
    refine List.pairwise_map.mpr (List.Pairwise.imp_of_mem (fun {x y} hx hy ne e => ne ?_) nd)
    have h3 := (hb x hx).2
    have h4 := (hb y hy).2
    have hL : 0 < L := by omega
    have e1 : (L * x.1 + x.2) / L = (L * y.1 + y.2) / L := by rw [Nat.mul_comm L x.1, Nat.mul_comm L y.1, e]
    have e2 : (L * x.1 + x.2) % L = (L * y.1 + y.2) % L := by rw [Nat.mul_comm L x.1, Nat.mul_comm L y.1, e]
    rw [Nat.mul_add_div hL, Nat.mul_add_div hL, Nat.div_eq_of_lt h3, Nat.div_eq_of_lt h4] at e1
    rw [Nat.mul_add_mod, Nat.mul_add_mod, Nat.mod_eq_of_lt h3, Nat.mod_eq_of_lt h4] at e2
    exact Prod.ext (by omega) e2
  have h3 := nodup_len ((T + 1) * L) h2 (fun x hx => by
    obtain ⟨k, hk, rfl⟩ := List.mem_map.mp hx
    have h4 := hb k hk
    have h5 : k.1 * L ≤ T * L := Nat.mul_le_mul_right L h4.1
    rw [Nat.add_mul]
    omega)
  simpa using h3
theorem BestAt.put {H : Hp} {bd a : Addr} {f : Tab} {T L i j : Nat} {x : PS} {kvs : List (List Key × V)} (b : BestAt H bd f T L kvs) (hi : i ≤ T) (hj : j < L) (ha : H a = some (.tup [.int (x.1 : Nat), .int (x.2 : Nat)])) :
    BestAt (L2.upd H bd (.dT (putK kvs (kp2 i j) (.ref a)))) bd (setT f i j x) T L (putK kvs (kp2 i j) (.ref a)) := by
  have tp : ∀ c xs, H c = some (.tup xs) → L2.upd H bd (.dT (putK kvs (kp2 i j) (.ref a))) c = some (.tup xs) := fun c xs h => (upd_ne (ne_of h b.h (by simp))).trans h
  refine ⟨upd_same, ?_, fun k l => ?_⟩
  · obtain ⟨ks, e, nd, hb⟩ := b.ks
    rw [keys_put]
    split
    · exact ⟨ks, e, nd, hb⟩
    · rename_i hn
      refine ⟨ks ++ [(i, j)], by rw [e]; simp, ?_, ?_⟩
      · rw [List.nodup_append]
        refine ⟨nd, by simp, fun y hy z hz => ?_⟩
        simp at hz
        subst hz
        rintro rfl
        have hm : kp2 i j ∈ kvs.map (·.1) := by rw [e]; exact List.mem_map.mpr ⟨(i, j), hy, rfl⟩
        exact absurd hm (valV_not (by simpa using hn))
      · intro k hk
        rcases List.mem_append.mp hk with h | h
        · exact hb k h
        · simp at h; subst h; exact ⟨hi, hj⟩
  · rw [valV_put]
    unfold setT
    by_cases e : k = i ∧ l = j
    · obtain ⟨rfl, rfl⟩ := e
      exact .inr ⟨x, a, by simp, by simp, tp _ _ ha⟩
    · rw [if_neg e, if_neg (fun h => e (kp2_inj h))]
      rcases b.v k l with h | ⟨y, c, h1, h2, h3⟩
      · exact .inl h
      · exact .inr ⟨y, c, h1, h2, tp _ _ h3⟩
end FR
end
section
set_option Elab.async false
set_option linter.all false
set_option maxRecDepth 20000
set_option maxHeartbeats 2000000
/-! Pairs of numbers compared. -/
namespace FL
open PySem PySem.Spec PyProof.Rows L2 FR
def rLePair : R2 := fun x y H Q => ∃ a, x = .ref a ∧ ∃ xs, H a = some (.tup xs) ∧ ∃ b, y = .ref b ∧ ∃ ys, H b = some (.tup ys) ∧ ∃ u v : PS, Eqs xs [.int (u.1 : Nat), .int (u.2 : Nat)] ∧ Eqs ys [.int (v.1 : Nat), .int (v.2 : Nat)] ∧ Q (.bl (decide (leP u v))) H
theorem olePair {X : Cx} (hu : X.A.units < cLine) : OpR X (compareOp .LtE) rLePair := OpR.weak (op_leT hu) fun x y H Q ⟨a, e1, xs, h1, b, e2, ys, h2, u, v, ⟨e3⟩, ⟨e4⟩, q⟩ => by
  subst e1 e2 e3 e4
  refine ⟨a, b, [(u.1 : Int), (u.2 : Int)], [(v.1 : Int), (v.2 : Int)], rfl, rfl, SqT.of h1, SqT.of h2, ?_⟩
  have e : (Ob.lexAt (fun j => decide ([(u.1 : Int), (u.2 : Int)].getD j 0 = [(v.1 : Int), (v.2 : Int)].getD j 0)) (fun j => decide ([(u.1 : Int), (u.2 : Int)].getD j 0 ≤ [(v.1 : Int), (v.2 : Int)].getD j 0)) (decide (2 ≤ 2)) 0 2) = decide (leP u v) := by
    unfold leP
    simp only [Ob.lexAt, List.getD_cons_zero, List.getD_cons_succ]
    rw [Bool.eq_iff_iff]
    by_cases h : u.1 = v.1
    · by_cases h' : u.2 = v.2
      · simp [h, h']
      · have h2 : ¬ ((u.2 : Nat) : Int) = ((v.2 : Nat) : Int) := by omega
        simp [h, h']
        omega
    · have h2 : ¬ ((u.1 : Nat) : Int) = ((v.1 : Nat) : Int) := by omega
      simp [h]
      rw [if_neg h2]
      omega
  show Q (.bl (Ob.lexAt _ _ (decide (2 ≤ 2)) 0 2)) H
  rw [e]
  exact q
end FL
end
section
set_option Elab.async false
set_option linter.all false
set_option maxRecDepth 20000
set_option maxHeartbeats 2000000
/-! The mending table as the program fills it. -/
namespace FR
open PySem L2 FL
/-- whether what stands at (i, s) is as little as x -/
def lessD (f : Tab) (i s : Nat) (x : PS) : Bool := match f i s with
  | some y => decide (leP y x)
  | none => false
def less1 (f : Tab) (i s : Nat) (x : PS) : Tab × Bool := if lessD f i s x = true then (f, false) else (setT f i s x, true)
def turn1 (i s : Nat) (a : Tab × Bool) (j : Nat) : Tab × Bool := match a.1 i j with
  | none => a
  | some y => ((less1 a.1 i s (y.1 + 1, y.2 + 1)).1, a.2 || (less1 a.1 i s (y.1 + 1, y.2 + 1)).2)
def sweepS (fol : List (List Nat)) (i : Nat) (a : Tab × Bool) (s : Nat) : Tab × Bool := (fol.getD s []).foldl (turn1 i s) a
def sweep (fol : List (List Nat)) (L i : Nat) (f : Tab) : Tab × Bool := (List.range L).foldl (sweepS fol i) (f, false)
def SettlesN (fol : List (List Nat)) (L i : Nat) : Nat → Tab → Prop
  | 0, f => (sweep fol L i f).2 = false
  | m + 1, f => (sweep fol L i f).2 = true → SettlesN fol L i m (sweep fol L i f).1
def takeS (i s : Nat) (f : Tab) : Tab := match f (i + 1) s with
  | none => f
  | some y => (less1 f i s (y.1 + 1, y.2)).1
def fillJ (lt : Nat → List Nat) (c i s : Nat) (f : Tab) (j : Nat) : Tab := match f (i + 1) j with
  | none => f
  | some y => (less1 f i s (y.1 + (if c ∈ lt j then 0 else 1), y.2 + 1)).1
def fillS (fol : List (List Nat)) (lt : Nat → List Nat) (c i : Nat) (f : Tab) (s : Nat) : Tab := (fol.getD s []).foldl (fillJ lt c i s) (takeS i s f)
def fillA (fol : List (List Nat)) (lt : Nat → List Nat) (c L i : Nat) (f : Tab) : Tab := (List.range L).foldl (fillS fol lt c i) f
def put0 (T : Nat) (f : Tab) (s : Nat) : Tab := setT f T s (0, 0)
theorem foldl_inv {α β : Type} {P : α → Prop} {g : α → β → α} : ∀ (l : List β) (a : α), (∀ a x, x ∈ l → P a → P (g a x)) → P a → P (l.foldl g a)
  | [], _, _, h => h
  | x :: l, a, k, h => foldl_inv l (g a x) (fun a y m => k a y (List.mem_cons_of_mem _ m)) (k a x (List.mem_cons_self ..) h)
theorem foldl_each {α β : Type} {I : α → Prop} {P : β → α → Prop} {g : α → β → α} : ∀ (l : List β) (a : α), (∀ a x, x ∈ l → I a → I (g a x)) → (∀ a x, x ∈ l → I a → P x (g a x)) → (∀ a x y, x ∈ l → I a → P y a → P y (g a x)) → I a → ∀ y ∈ l, P y (l.foldl g a)
  | [], _, _, _, _, _, y, m => absurd m (by simp)
  | x :: l, a, k1, k2, k3, h, y, m => by
    have h1 := k1 a x (List.mem_cons_self ..) h
    rcases List.mem_cons.mp m with e | m
    · subst e
      show P y (l.foldl g (g a y))
      have := foldl_inv (P := fun a => I a ∧ P y a) (g := g) l (g a y) (fun b z mz hb => ⟨k1 b z (List.mem_cons_of_mem _ mz) hb.1, k3 b z y (List.mem_cons_of_mem _ mz) hb.1 hb.2⟩) ⟨h1, k2 a y (List.mem_cons_self ..) h⟩
      exact this.2
    · exact foldl_each l (g a x) (fun b z mz => k1 b z (List.mem_cons_of_mem _ mz)) (fun b z mz => k2 b z (List.mem_cons_of_mem _ mz)) (fun b z w mz => k3 b z w (List.mem_cons_of_mem _ mz)) h1 y m
/-- only place i grows less -/
structure Up (i : Nat) (f g : Tab) : Prop where
  fr : ∀ k s, k ≠ i → g k s = f k s
  mo : ∀ s v, LeO (f i s) v → LeO (g i s) v
theorem Up.refl (i : Nat) (f : Tab) : Up i f f := ⟨fun _ _ _ => rfl, fun _ _ h => h⟩
theorem Up.trans {i : Nat} {f g h : Tab} (a : Up i f g) (b : Up i g h) : Up i f h := ⟨fun k s n => (b.fr k s n).trans (a.fr k s n), fun s v l => b.mo s v (a.mo s v l)⟩
theorem setT_same {f : Tab} {i s : Nat} {x : PS} : setT f i s x i s = some x := by simp [setT]
theorem setT_ne {f : Tab} {i s k l : Nat} {x : PS} (h : ¬ (k = i ∧ l = s)) : setT f i s x k l = f k l := by simp [setT, h]
theorem lessD_t {f : Tab} {i s : Nat} {x : PS} (h : lessD f i s x = true) : LeO (f i s) x := by
  unfold lessD at h
  cases e : f i s with
  | none => rw [e] at h; cases h
  | some y => rw [e] at h; exact ⟨y, rfl, of_decide_eq_true h⟩
theorem lessD_f {f : Tab} {i s : Nat} {x y : PS} (h : ¬ lessD f i s x = true) (e : f i s = some y) : ¬ leP y x := by
  unfold lessD at h
  rw [e] at h
  simpa using h
theorem less1_le (f : Tab) (i s : Nat) (x : PS) : LeO ((less1 f i s x).1 i s) x := by
  unfold less1
  split
  · rename_i h; exact lessD_t h
  · exact ⟨x, setT_same, leP.refl x⟩
theorem Up.less (f : Tab) (i s : Nat) (x : PS) : Up i f (less1 f i s x).1 := by
  unfold less1
  split
  · exact Up.refl _ _
  · rename_i h
    refine ⟨fun k l n => setT_ne (fun e => n e.1), fun l v q => ?_⟩
    by_cases e : l = s
    · subst e
      obtain ⟨y, e2, l2⟩ := q
      exact ⟨x, setT_same, (leP.tot (lessD_f h e2)).trans l2⟩
    · show LeO (setT f i s x i l) v
      rw [setT_ne (fun q => e q.2)]; exact q
theorem Up.turn (i s : Nat) (a : Tab × Bool) (j : Nat) : Up i a.1 (turn1 i s a j).1 := by
  unfold turn1
  split
  · exact Up.refl _ _
  · exact Up.less _ _ _ _
theorem Up.take (i s : Nat) (f : Tab) : Up i f (takeS i s f) := by
  unfold takeS
  split
  · exact Up.refl _ _
  · exact Up.less _ _ _ _
theorem Up.fillJ (lt : Nat → List Nat) (c i s : Nat) (f : Tab) (j : Nat) : Up i f (fillJ lt c i s f j) := by
  unfold FR.fillJ
  split
  · exact Up.refl _ _
  · exact Up.less _ _ _ _
theorem Up.fillS (fol : List (List Nat)) (lt : Nat → List Nat) (c i : Nat) (f : Tab) (s : Nat) : Up i f (fillS fol lt c i f s) :=
  foldl_inv (P := fun g => Up i f g) _ _ (fun a x _ h => h.trans (Up.fillJ lt c i s a x)) (Up.take i s f)
theorem Up.fillA (fol : List (List Nat)) (lt : Nat → List Nat) (c L i : Nat) (f : Tab) : Up i f (fillA fol lt c L i f) :=
  foldl_inv (P := fun g => Up i f g) _ _ (fun a x _ h => h.trans (Up.fillS fol lt c i a x)) (Up.refl i f)

/-! ### sums -/
def sumTo (L : Nat) (a : Nat → Nat) : Nat := ((List.range L).map a).sum
theorem sumTo_succ (L : Nat) (a : Nat → Nat) : sumTo (L + 1) a = sumTo L a + a L := by simp [sumTo, List.range_succ]
theorem sumTo_le {a b : Nat → Nat} : ∀ {L : Nat}, (∀ k, k < L → a k ≤ b k) → sumTo L a ≤ sumTo L b
  | 0, _ => Nat.le_refl _
  | L + 1, h => by
    rw [sumTo_succ, sumTo_succ]
    have := sumTo_le (L := L) fun k hk => h k (by omega)
    have := h L (by omega)
    omega
theorem sumTo_lt {a b : Nat → Nat} : ∀ {L s : Nat}, (∀ k, k < L → a k ≤ b k) → s < L → a s < b s → sumTo L a < sumTo L b
  | 0, _, _, h, _ => absurd h (by omega)
  | L + 1, s, h, hs, hl => by
    rw [sumTo_succ, sumTo_succ]
    have h1 := sumTo_le (L := L) fun k hk => h k (by omega)
    have h2 := h L (by omega)
    by_cases e : s = L
    · subst e; omega
    · have := sumTo_lt (L := L) (s := s) (fun k hk => h k (by omega)) (by omega) hl
      omega
def isN : Option PS → Nat
  | none => 1
  | some _ => 0
def rkO (T : Nat) : Option PS → Nat
  | none => 0
  | some x => x.1 * (x.1 + T) + x.2
/-- g stands lower than f at place i -/
def Dn (T L i : Nat) (f g : Tab) : Prop := sumTo L (fun s => isN (g i s)) < sumTo L (fun s => isN (f i s)) ∨
  (sumTo L (fun s => isN (g i s)) ≤ sumTo L (fun s => isN (f i s)) ∧ sumTo L (fun s => rkO T (g i s)) < sumTo L (fun s => rkO T (f i s)))
theorem Dn.trans {T L i : Nat} {f g h : Tab} (a : Dn T L i f g) (b : Dn T L i g h) : Dn T L i f h := by unfold Dn at *; omega
theorem rk_lt {T : Nat} {x y : PS} (h : ¬ leP y x) (hx : x.2 ≤ x.1 + T) : rkO T (some x) < rkO T (some y) := by
  show x.1 * (x.1 + T) + x.2 < y.1 * (y.1 + T) + y.2
  unfold leP at h
  by_cases e : x.1 = y.1
  · rw [e]; omega
  · have h1 : x.1 < y.1 := by omega
    have h2 : (x.1 + 1) * (x.1 + T) ≤ y.1 * (y.1 + T - 1) := Nat.mul_le_mul (by omega) (by omega)
    have h3 : (x.1 + 1) * (x.1 + T) = x.1 * (x.1 + T) + (x.1 + T) := by rw [Nat.add_mul, Nat.one_mul]
    have h4 : y.1 * (y.1 + T) = y.1 * (y.1 + T - 1) + y.1 := by
      have : y.1 + T = (y.1 + T - 1) + 1 := by omega
      rw [this, Nat.mul_add, Nat.mul_one]
      simp
    show x.1 * (x.1 + T) + x.2 < y.1 * (y.1 + T) + y.2
    omega
theorem Dn.less {T L i s : Nat} {f : Tab} {x : PS} (hs : s < L) (hx : x.2 ≤ x.1 + T) (h : ¬ lessD f i s x = true) : Dn T L i f (setT f i s x) := by
  cases e : f i s with
  | none =>
    refine .inl (sumTo_lt (s := s) (fun k _ => ?_) hs ?_)
    · by_cases q : k = s
      · subst q; rw [setT_same]; exact Nat.zero_le _
      · rw [setT_ne (fun z => q z.2)]; exact Nat.le_refl _
    · rw [setT_same, e]; exact Nat.zero_lt_one
  | some y =>
    have hl := lessD_f h e
    refine .inr ⟨sumTo_le fun k _ => ?_, sumTo_lt (s := s) (fun k _ => ?_) hs ?_⟩
    · by_cases q : k = s
      · subst q; rw [setT_same]; exact Nat.zero_le _
      · rw [setT_ne (fun z => q z.2)]; exact Nat.le_refl _
    · by_cases q : k = s
      · subst q; rw [setT_same, e]; exact Nat.le_of_lt (rk_lt hl hx)
      · rw [setT_ne (fun z => q z.2)]; exact Nat.le_refl _
    · rw [setT_same, e]; exact rk_lt hl hx

/-! ### soundness -/
theorem inF_of {fol : List (List Nat)} {s j : Nat} (h : j ∈ fol.getD s []) : InF fol s j := by
  rw [List.getD_eq_getElem?_getD] at h
  cases e : fol[s]? with
  | none => rw [e] at h; simp at h
  | some ks => rw [e] at h; exact ⟨ks, e, h⟩
theorem inF_getD {fol : List (List Nat)} {s j : Nat} (h : InF fol s j) : j ∈ fol.getD s [] := by
  obtain ⟨ks, e, m⟩ := h
  rw [List.getD_eq_getElem?_getD, e]
  exact m
section
variable {fol : List (List Nat)} {lt : Nat → List Nat} {en : Nat → Prop} {t : List Nat} {L : Nat}
def So (fol : List (List Nat)) (lt : Nat → List Nat) (en : Nat → Prop) (t : List Nat) (f : Tab) : Prop := ∀ k s x, f k s = some x → Go (InF fol) lt en t k s x.1 x.2
def PutC (fol : List (List Nat)) (L : Nat) (f : Tab) (i : Nat) : Prop := ∀ s j x, s < L → InF fol s j → f i j = some x → LeO (f i s) (x.1 + 1, x.2 + 1)
theorem Go.place {fo : Nat → Nat → Prop} {i s n m : Nat} (h : Go fo lt en t i s n m) : i ≤ t.length ∧ m + i ≤ n + t.length := by
  induction h with
  | stop _ => omega
  | take _ _ ih => omega
  | put _ _ ih => omega
  | read hi _ _ ih =>
    have := (List.getElem?_eq_some_iff.mp hi).1
    split <;> omega
theorem So.less {f : Tab} (h : So fol lt en t f) {i s : Nat} {x : PS} (g : Go (InF fol) lt en t i s x.1 x.2) : So fol lt en t (less1 f i s x).1 := by
  unfold less1
  split
  · exact h
  · intro k l y e
    by_cases q : k = i ∧ l = s
    · obtain ⟨rfl, rfl⟩ := q
      have e : setT f k l x k l = some y := e
      rw [setT_same] at e
      obtain rfl := Option.some.inj e
      exact g
    · have e : setT f i s x k l = some y := e
      rw [setT_ne q] at e
      exact h k l y e
theorem So.turn {a : Tab × Bool} (h : So fol lt en t a.1) {i s j : Nat} (hj : InF fol s j) : So fol lt en t (turn1 i s a j).1 := by
  unfold turn1
  split
  · exact h
  · rename_i y e
    exact h.less (.put hj (h _ _ _ e))
theorem So.take {f : Tab} (h : So fol lt en t f) {i s : Nat} (hi : i < t.length) : So fol lt en t (takeS i s f) := by
  unfold takeS
  split
  · exact h
  · rename_i y e
    exact h.less (.take hi (h _ _ _ e))
theorem So.fillJ {f : Tab} (h : So fol lt en t f) {c i s j : Nat} (hi : t[i]? = some c) (hj : InF fol s j) : So fol lt en t (fillJ lt c i s f j) := by
  unfold FR.fillJ
  split
  · exact h
  · rename_i y e
    exact h.less (.read hi hj (h _ _ _ e))
theorem So.fillS {f : Tab} (h : So fol lt en t f) {c i s : Nat} (hi : t[i]? = some c) : So fol lt en t (fillS fol lt c i f s) :=
  foldl_inv (P := fun g => So fol lt en t g) _ _ (fun a x m h => h.fillJ hi (inF_of m)) (h.take (List.getElem?_eq_some_iff.mp hi).1)
theorem So.fillA {f : Tab} (h : So fol lt en t f) {c i : Nat} (hi : t[i]? = some c) : So fol lt en t (fillA fol lt c L i f) :=
  foldl_inv (P := fun g => So fol lt en t g) _ _ (fun a x m h => h.fillS hi) h
/-- between two turns of a sweep -/
structure Mid (fol : List (List Nat)) (lt : Nat → List Nat) (en : Nat → Prop) (t : List Nat) (L i : Nat) (f : Tab) (a : Tab × Bool) : Prop where
  so : So fol lt en t a.1
  up : Up i f a.1
  dn : (a.1 = f ∧ a.2 = false) ∨ (Dn t.length L i f a.1 ∧ a.2 = true)
theorem Mid.turn {f : Tab} {i : Nat} {a : Tab × Bool} (h : Mid fol lt en t L i f a) {s j : Nat} (hs : s < L) (hj : InF fol s j) : Mid fol lt en t L i f (turn1 i s a j) := by
  refine ⟨h.so.turn hj, h.up.trans (Up.turn i s a j), ?_⟩
  cases e : a.1 i j with
  | none =>
    have q : turn1 i s a j = a := by unfold turn1; rw [e]
    rw [q]; exact h.dn
  | some y =>
    have q : turn1 i s a j = ((less1 a.1 i s (y.1 + 1, y.2 + 1)).1, a.2 || (less1 a.1 i s (y.1 + 1, y.2 + 1)).2) := by unfold turn1; rw [e]
    rw [q]
    by_cases l : lessD a.1 i s (y.1 + 1, y.2 + 1) = true
    · have q2 : less1 a.1 i s (y.1 + 1, y.2 + 1) = (a.1, false) := by unfold less1; rw [if_pos l]
      rw [q2]
      simpa using h.dn
    · have q2 : less1 a.1 i s (y.1 + 1, y.2 + 1) = (setT a.1 i s (y.1 + 1, y.2 + 1), true) := by unfold less1; rw [if_neg l]
      rw [q2]
      have hp := (h.so _ _ _ e).place
      have hd : Dn t.length L i a.1 (setT a.1 i s (y.1 + 1, y.2 + 1)) := Dn.less hs (by show y.2 + 1 ≤ y.1 + 1 + t.length; omega) l
      refine .inr ⟨?_, by simp⟩
      rcases h.dn with ⟨e1, _⟩ | ⟨d, _⟩
      · rw [← e1]; exact hd
      · exact d.trans hd
theorem Mid.sweepS {f : Tab} {i : Nat} {a : Tab × Bool} (h : Mid fol lt en t L i f a) {s : Nat} (hs : s < L) : Mid fol lt en t L i f (sweepS fol i a s) :=
  foldl_inv (P := fun g => Mid fol lt en t L i f g) _ _ (fun a x m h => h.turn hs (inF_of m)) h
theorem Mid.sweep {f : Tab} {i : Nat} (h : So fol lt en t f) : Mid fol lt en t L i f (sweep fol L i f) :=
  foldl_inv (P := fun g => Mid fol lt en t L i f g) _ _ (fun a x m h => h.sweepS (List.mem_range.mp m)) ⟨h, Up.refl _ _, .inl ⟨rfl, rfl⟩⟩
theorem turns_no {i s : Nat} : ∀ (l : List Nat) (a : Tab × Bool), (l.foldl (turn1 i s) a).2 = false → a.2 = false ∧ (l.foldl (turn1 i s) a).1 = a.1 ∧ ∀ j ∈ l, ∀ y, a.1 i j = some y → LeO (a.1 i s) (y.1 + 1, y.2 + 1)
  | [], a, h => ⟨h, rfl, fun j m => absurd m (by simp)⟩
  | j :: l, a, h => by
    obtain ⟨h1, h2, h3⟩ := turns_no l (turn1 i s a j) h
    have key : a.2 = false ∧ (turn1 i s a j).1 = a.1 ∧ ∀ y, a.1 i j = some y → LeO (a.1 i s) (y.1 + 1, y.2 + 1) := by
      cases e : a.1 i j with
      | none =>
        have q : turn1 i s a j = a := by unfold turn1; rw [e]
        rw [q] at h1 ⊢
        exact ⟨h1, rfl, fun y e2 => nomatch e2⟩
      | some y =>
        have q : turn1 i s a j = ((less1 a.1 i s (y.1 + 1, y.2 + 1)).1, a.2 || (less1 a.1 i s (y.1 + 1, y.2 + 1)).2) := by unfold turn1; rw [e]
        rw [q] at h1 ⊢
        by_cases l : lessD a.1 i s (y.1 + 1, y.2 + 1) = true
        · have q2 : less1 a.1 i s (y.1 + 1, y.2 + 1) = (a.1, false) := by unfold less1; rw [if_pos l]
          rw [q2] at h1 ⊢
          refine ⟨by simpa using h1, rfl, fun z e2 => ?_⟩
          obtain rfl := Option.some.inj e2
          exact lessD_t l
        · have q2 : less1 a.1 i s (y.1 + 1, y.2 + 1) = (setT a.1 i s (y.1 + 1, y.2 + 1), true) := by unfold less1; rw [if_neg l]
          rw [q2] at h1
          simp at h1
    obtain ⟨k1, k2, k3⟩ := key
    refine ⟨k1, h2.trans k2, fun j' m => ?_⟩
    rcases List.mem_cons.mp m with e | m
    · subst e; exact k3
    · intro y e2
      have := h3 j' m y (by rw [k2]; exact e2)
      rw [k2] at this
      exact this
theorem sweeps_no {i : Nat} : ∀ (l : List Nat) (a : Tab × Bool), (l.foldl (sweepS fol i) a).2 = false → a.2 = false ∧ (l.foldl (sweepS fol i) a).1 = a.1 ∧ ∀ s ∈ l, ∀ j, InF fol s j → ∀ y, a.1 i j = some y → LeO (a.1 i s) (y.1 + 1, y.2 + 1)
  | [], a, h => ⟨h, rfl, fun j m => absurd m (by simp)⟩
  | s :: l, a, h => by
    obtain ⟨h1, h2, h3⟩ := sweeps_no l (sweepS fol i a s) h
    obtain ⟨k1, k2, k3⟩ := turns_no (i := i) (s := s) (fol.getD s []) a h1
    have k2 : (sweepS fol i a s).1 = a.1 := k2
    refine ⟨k1, h2.trans k2, fun s' m => ?_⟩
    rcases List.mem_cons.mp m with e | m
    · subst e; exact fun j hj => k3 j (inF_getD hj)
    · intro j hj y e2
      have := h3 s' m j hj y (by rw [k2]; exact e2)
      rw [k2] at this
      exact this
theorem sweep_no {f : Tab} {i : Nat} (h : (sweep fol L i f).2 = false) : (sweep fol L i f).1 = f ∧ PutC fol L f i := by
  obtain ⟨_, h2, h3⟩ := sweeps_no (fol := fol) (i := i) (List.range L) (f, false) h
  exact ⟨h2, fun s j x hs hj e => h3 s (List.mem_range.mpr hs) j hj x e⟩
theorem settles {i : Nat} : ∀ (c r : Nat) (f : Tab), So fol lt en t f → sumTo L (fun s => isN (f i s)) ≤ c → sumTo L (fun s => rkO t.length (f i s)) ≤ r → ∃ m, SettlesN fol L i m f := by
  intro c
  induction c using Nat.strongRecOn with
  | _ c ihc =>
    intro r
    induction r using Nat.strongRecOn with
    | _ r ihr =>
      intro f hf hc hr
      have M := Mid.sweep (L := L) (i := i) hf
      rcases M.dn with ⟨_, e⟩ | ⟨d, e⟩
      · exact ⟨0, e⟩
      · rcases d with d | ⟨d1, d2⟩
        · obtain ⟨m, hm⟩ := ihc _ (Nat.lt_of_lt_of_le d hc) _ _ M.so (Nat.le_refl _) (Nat.le_refl _)
          exact ⟨m + 1, fun _ => hm⟩
        · obtain ⟨m, hm⟩ := ihr _ (Nat.lt_of_lt_of_le d2 hr) _ M.so (Nat.le_trans d1 hc) (Nat.le_refl _)
          exact ⟨m + 1, fun _ => hm⟩
theorem settles' {i : Nat} {f : Tab} (h : So fol lt en t f) : ∃ m, SettlesN fol L i m f := settles _ _ f h (Nat.le_refl _) (Nat.le_refl _)

/-! ### closedness -/
theorem Closed.congr {fo : Nat → Nat → Prop} {f g : Tab} {k : Nat} (h : Closed fo lt en t L f k) (e1 : ∀ s, g k s = f k s) (e2 : ∀ s, g (k + 1) s = f (k + 1) s) : Closed fo lt en t L g k := by
  refine ⟨fun a s b c => ?_, fun a s x b c => ?_, fun s j x a b c => ?_, fun s j c x a b d e => ?_⟩
  · rw [e1]; exact h.stop a s b c
  · rw [e1]; rw [e2] at c; exact h.take a s x b c
  · rw [e1]; rw [e1] at c; exact h.put s j x a b c
  · rw [e1]; rw [e2] at e; exact h.read s j c x a b d e
structure Half (fol : List (List Nat)) (lt : Nat → List Nat) (en : Nat → Prop) (t : List Nat) (L : Nat) (f : Tab) (i : Nat) : Prop where
  so : So fol lt en t f
  stop : i = t.length → ∀ s, s < L → en s → LeO (f i s) (0, 0)
  take : i < t.length → ∀ s x, s < L → f (i + 1) s = some x → LeO (f i s) (x.1 + 1, x.2)
  read : ∀ s j c x, s < L → t[i]? = some c → InF fol s j → f (i + 1) j = some x → LeO (f i s) (x.1 + (if c ∈ lt j then 0 else 1), x.2 + 1)
  hi : ∀ k, i < k → k ≤ t.length → Closed (InF fol) lt en t L f k
structure Part (fol : List (List Nat)) (lt : Nat → List Nat) (en : Nat → Prop) (t : List Nat) (L : Nat) (f : Tab) (i : Nat) : Prop where
  so : So fol lt en t f
  cl : ∀ k, i ≤ k → k ≤ t.length → Closed (InF fol) lt en t L f k
theorem Half.part {f g : Tab} {i : Nat} (h : Half fol lt en t L f i) (u : Up i f g) (s : So fol lt en t g) (p : PutC fol L g i) : Part fol lt en t L g i := by
  refine ⟨s, fun k h1 h2 => ?_⟩
  by_cases e : k = i
  · subst e
    have n : k + 1 ≠ k := by omega
    refine ⟨fun a s b c => u.mo _ _ (h.stop a s b c), fun a s x b c => ?_, p, fun s j c x a b d e => ?_⟩
    · rw [u.fr _ _ n] at c
      exact u.mo _ _ (h.take a s x b c)
    · rw [u.fr _ _ n] at e
      exact u.mo _ _ (h.read s j c x a b d e)
  · exact (h.hi k (by omega) h2).congr (fun s => u.fr _ _ e) (fun s => u.fr _ _ (by omega))
theorem Part.fill {f : Tab} {i c : Nat} (h : Part fol lt en t L f (i + 1)) (hi : t[i]? = some c) : Half fol lt en t L (fillA fol lt c L i f) i := by
  have hl := (List.getElem?_eq_some_iff.mp hi).1
  have U := Up.fillA fol lt c L i f
  have n : i + 1 ≠ i := by omega
  refine ⟨h.so.fillA hi, fun e => absurd e (by omega), fun _ s x hs e => ?_, fun s j c' x hs e1 hj e2 => ?_, fun k h1 h2 => (h.cl k (by omega) h2).congr (fun s => U.fr _ _ (by omega)) (fun s => U.fr _ _ (by omega))⟩
  · rw [U.fr _ _ n] at e
    refine foldl_each (I := fun g => Up i f g) (P := fun s g => ∀ x, f (i + 1) s = some x → LeO (g i s) (x.1 + 1, x.2)) (List.range L) f (fun a y _ u => u.trans (Up.fillS fol lt c i a y)) (fun a y _ u x e => ?_) (fun a y z _ u p x e => (Up.fillS fol lt c i a y).mo _ _ (p x e)) (Up.refl _ _) s (List.mem_range.mpr hs) x e
    have e3 : a (i + 1) y = some x := (u.fr _ _ n).trans e
    have h3 : LeO ((takeS i y a) i y) (x.1 + 1, x.2) := by
      unfold takeS
      rw [e3]
      exact less1_le _ _ _ _
    exact foldl_inv (P := fun g => LeO (g i y) (x.1 + 1, x.2)) (g := fillJ lt c i y) _ _ (fun b z _ q => (Up.fillJ lt c i y b z).mo _ _ q) h3
  · rw [hi] at e1
    obtain rfl := Option.some.inj e1
    rw [U.fr _ _ n] at e2
    refine foldl_each (I := fun g => Up i f g) (P := fun s g => ∀ j, InF fol s j → ∀ x, f (i + 1) j = some x → LeO (g i s) (x.1 + (if c ∈ lt j then 0 else 1), x.2 + 1)) (List.range L) f (fun a y _ u => u.trans (Up.fillS fol lt c i a y)) (fun a y _ u j hj x e => ?_)
      (fun a y z _ u p j hj x e => (Up.fillS fol lt c i a y).mo _ _ (p j hj x e)) (Up.refl _ _) s (List.mem_range.mpr hs) j hj x e2
    refine foldl_each (I := fun g => Up i f g) (P := fun j g => ∀ x, f (i + 1) j = some x → LeO (g i y) (x.1 + (if c ∈ lt j then 0 else 1), x.2 + 1)) (fol.getD y []) (takeS i y a) (fun b z _ u => u.trans (Up.fillJ lt c i y b z)) (fun b z _ u x e => ?_)
      (fun b z w _ u p x e => (Up.fillJ lt c i y b z).mo _ _ (p x e)) (u.trans (Up.take i y a)) j (inF_getD hj) x e
    unfold fillJ
    rw [(u.fr _ _ n).trans e]
    exact less1_le _ _ _ _
def noT : Tab := fun _ _ => none
theorem half_last {ls : List Nat} (h : ∀ s, s ∈ ls ↔ s < L ∧ en s) : Half fol lt en t L (ls.foldl (put0 t.length) noT) t.length := by
  have hs : ∀ (k s : Nat) (x : PS), ls.foldl (put0 t.length) noT k s = some x → k = t.length ∧ s ∈ ls ∧ x = (0, 0) := by
    refine foldl_inv (P := fun g : Tab => ∀ (k s : Nat) (x : PS), g k s = some x → k = t.length ∧ s ∈ ls ∧ x = (0, 0)) _ _ (fun a y m p k s x e => ?_) (fun k s x e => nomatch e)
    unfold put0 at e
    by_cases q : k = t.length ∧ s = y
    · obtain ⟨rfl, rfl⟩ := q
      rw [setT_same] at e
      exact ⟨rfl, m, (Option.some.inj e).symm⟩
    · rw [setT_ne q] at e
      exact p k s x e
  have so : So fol lt en t (ls.foldl (put0 t.length) noT) := fun k s x e => by
    obtain ⟨rfl, m, rfl⟩ := hs k s x e
    exact .stop ((h s).mp m).2
  have nn : ∀ s x, ls.foldl (put0 t.length) noT (t.length + 1) s ≠ some x := fun s x e => by
    have := (hs _ _ _ e).1
    omega
  refine ⟨so, fun _ s h1 h2 => ?_, fun hl => absurd hl (by omega), fun s j c x _ _ _ e => absurd e (nn _ _), fun k h1 h2 => absurd h1 (by omega)⟩
  exact foldl_each (I := fun _ => True) (P := fun s g => LeO (g t.length s) (0, 0)) ls noT (fun _ _ _ _ => trivial) (fun a y _ _ => ⟨(0, 0), setT_same, leP.refl _⟩)
    (fun a y z _ _ q => by
      show LeO (setT a t.length y (0, 0) t.length z) (0, 0)
      by_cases e : z = y
      · subst e; exact ⟨(0, 0), setT_same, leP.refl _⟩
      · rw [setT_ne (fun w => e w.2)]; exact q) trivial s ((h s).mpr ⟨h1, h2⟩)
end
/-- a table is done when all places are -/
theorem Part.done {p : Pat} {t : List Nat} {f : Tab} (h : Part (folP p) (ltP p) (fun s => s ∈ endP p) t (nL p + 1) f 0) : Done p t f := ⟨h.so, fun i hi => h.cl i (Nat.zero_le _) hi⟩
end FR
end
section
set_option Elab.async false
set_option linter.all false
set_option maxRecDepth 20000
set_option maxHeartbeats 1000000
namespace FR
open PySem PySem.Spec PyProof.Rows L2 FL
local macro_rules | `(tactic| walk_at "ne") => `(tactic| first | assumption | exact Ne.symm (by assumption))
local macro_rules | `(tactic| walk_at "hl") => `(tactic| first | assumption | exact upd_same | exact upd_old (by assumption) (by walk_at "hl") | exact (upd_ne (by walk_at "ne")).trans (by walk_at "hl"))
local macro_rules | `(tactic| walk_at "side") => `(tactic| first | rfl | assumption | omega | decide | exact Or.inl ⟨rfl, _, SqL.of (by walk_at "hl")⟩ | exact Or.inr (Or.inr (Or.inl ⟨rfl, Or.inl ⟨_, by walk_at "hl"⟩⟩)) | exact Or.inr (Or.inr (Or.inl ⟨rfl, Or.inr ⟨_, by walk_at "hl"⟩⟩)) | exact Or.inr ⟨by decide, by decide⟩ | exact Or.inl ⟨by omega, by omega⟩ | exact ⟨by decide, by decide, by decide⟩ | exact ⟨by first | omega | decide, by first | omega | decide⟩ | exact Nat.le_of_ble_eq_true rfl | exact Nat.le_trans (m := 1000000) (by omega) (by decide) | exact Nat.lt_of_le_of_lt (m := 1000000) (by omega) (by decide) | exact ⟨by omega, by omega, by omega, by omega⟩)
local macro_rules | `(tactic| walk_at "lk") => `(tactic| with_reducible first | exact lk_Sets_1_0 | exact lk_Sets_2_0 | exact lk_Sets_2_1 | exact lk_Sets_3_0 | exact lk_Sets_3_1 | exact lk_Sets_3_2 | exact lk_Sets_4_0 | exact lk_Sets_4_1 | exact lk_Sets_4_2 | exact lk_Sets_4_3 | exact lk_Sets_5_0 | exact lk_Sets_5_1 | exact lk_Sets_5_2 | exact lk_Sets_5_3 | exact lk_Sets_5_4 | exact lk_Mender_1_0 | exact lk_Mender_2_0 | exact lk_Mender_2_1 | exact lk_Mender_3_0 | exact lk_Mender_3_1 | exact lk_Mender_3_2 | exact lk_Mender_4_0 | exact lk_Mender_4_1 | exact lk_Mender_4_2 | exact lk_Mender_4_3)
local macro_rules | `(tactic| walk_at "pf") => `(tactic| with_reducible first | exact pf_Sets_1_0 | exact pf_Sets_2_0 | exact pf_Sets_2_1 | exact pf_Sets_3_0 | exact pf_Sets_3_1 | exact pf_Sets_3_2 | exact pf_Sets_4_0 | exact pf_Sets_4_1 | exact pf_Sets_4_2 | exact pf_Sets_4_3 | exact pf_Sets_5_0 | exact pf_Sets_5_1 | exact pf_Sets_5_2 | exact pf_Sets_5_3 | exact pf_Sets_5_4 | exact pn_Sets_0 | exact pn_Sets_1 | exact pn_Sets_2 | exact pn_Sets_3 | exact pn_Sets_4 | exact pf_Mender_1_0 | exact pf_Mender_2_0 | exact pf_Mender_2_1 | exact pf_Mender_3_0 | exact pf_Mender_3_1 | exact pf_Mender_3_2 | exact pf_Mender_4_0 | exact pf_Mender_4_1 | exact pf_Mender_4_2 | exact pf_Mender_4_3 | exact pn_Mender_0 | exact pn_Mender_1 | exact pn_Mender_2 | exact pn_Mender_3)
local macro_rules | `(tactic| walk_at "no") => `(tactic| with_reducible first | exact no_Sets_0___init__ | exact no_Sets_1___init__ | exact no_Sets_2___init__ | exact no_Sets_3___init__ | exact no_Sets_4___init__ | exact no_Sets_5___init__ | exact no_Sets_0_join | exact no_Sets_1_join | exact no_Sets_2_join | exact no_Sets_3_join | exact no_Sets_4_join | exact no_Sets_5_join | exact no_Sets_0_told_of | exact no_Sets_1_told_of | exact no_Sets_2_told_of | exact no_Sets_3_told_of | exact no_Sets_4_told_of | exact no_Sets_5_told_of | exact no_Sets_0_moved | exact no_Sets_1_moved | exact no_Sets_2_moved | exact no_Sets_3_moved | exact no_Sets_4_moved | exact no_Sets_5_moved | exact no_Sets_0_can_stop | exact no_Sets_1_can_stop | exact no_Sets_2_can_stop | exact no_Sets_3_can_stop | exact no_Sets_4_can_stop | exact no_Sets_5_can_stop | exact no_Mender_0___init__ | exact no_Mender_1___init__ | exact no_Mender_2___init__ | exact no_Mender_3___init__ | exact no_Mender_4___init__ | exact no_Mender_0_fill_last | exact no_Mender_1_fill_last | exact no_Mender_2_fill_last | exact no_Mender_3_fill_last | exact no_Mender_4_fill_last | exact no_Mender_0_spread | exact no_Mender_1_spread | exact no_Mender_2_spread | exact no_Mender_3_spread | exact no_Mender_4_spread | exact no_Mender_0_lessened | exact no_Mender_1_lessened | exact no_Mender_2_lessened | exact no_Mender_3_lessened | exact no_Mender_4_lessened | exact no_Mender_0_fill | exact no_Mender_1_fill | exact no_Mender_2_fill | exact no_Mender_3_fill | exact no_Mender_4_fill | exact no_Mender_0_least | exact no_Mender_1_least | exact no_Mender_2_least | exact no_Mender_3_least | exact no_Mender_4_least | exact no_Mender_0_steps_from | exact no_Mender_1_steps_from | exact no_Mender_2_steps_from | exact no_Mender_3_steps_from | exact no_Mender_4_steps_from | exact no_Mender_0_later | exact no_Mender_1_later | exact no_Mender_2_later | exact no_Mender_3_later | exact no_Mender_4_later | exact no_Mender_0_closed | exact no_Mender_1_closed | exact no_Mender_2_closed | exact no_Mender_3_closed | exact no_Mender_4_closed)
local macro_rules | `(tactic| walk_at "s") => `(tactic| first
   | refine ⟨_, rfl, ?_⟩
   | refine ⟨_, _, rfl, rfl, ?_⟩
   | refine ⟨_, _, rfl, ?_⟩
   | refine iteT ?_
   | refine iteF ?_
   | refine ⟨_, (show _ = some _ by walk_at "hl"), ?_⟩
   | refine ⟨_, (show Ins _ _ _ _ from Ins.of (by walk_at "hl")), ?_⟩
   | refine ⟨_, (show Lk _ _ _ by walk_at "lk"), ?_⟩
   | refine ⟨_, (show Pf _ _ _ _ by walk_at "pf"), ?_⟩
   | refine And.intro (show NoL _ _ by walk_at "no") ?_
   | refine ⟨_, _, rfl, SqL.of (by walk_at "hl"), ?_⟩
   | refine ⟨_, _, rfl, SqT.of (by walk_at "hl"), ?_⟩
   | refine And.intro ⟨_, SqL.of (by walk_at "hl")⟩ ?_
   | refine And.intro (by walk_at "side") ?_)
local macro_rules | `(tactic| walk_at "si") => `(tactic| first
   | walk_at "s"
   | refine iteD (fun _ => ?_) (fun _ => ?_)
   | refine iteDn (fun _ => ?_) (fun _ => ?_))
local macro_rules | `(tactic| walk_at "r") => `(tactic| repeat walk_at "s")
local macro_rules | `(tactic| walk_at "ri") => `(tactic| repeat walk_at "si")

local macro_rules | `(tactic| walk_at "side") => `(tactic| exact trivial)
abbrev N_Mender_lessened : List Str := ["self", "place", "state", "told", "there"]
theorem sc_Mender_lessened : FnScope N_Mender_lessened ["self", "place", "state", "told"] (defScope s_Mender_lessened) := ⟨rfl, rfl, rfl, by decide +kernel, rfl, by decide +kernel, by decide +kernel⟩
section
variable {P : Program} {w : World} {K : PySem.W.Frag} {mg : Str → Option Value} {base : Heap}
theorem BestAt.mono {H H' : Hp} {bd : Addr} {f : Tab} {T L : Nat} {kvs : List (List Key × V)} (b : BestAt H bd f T L kvs) (h : H' bd = some (.dT kvs)) (t : Tups H H') : BestAt H' bd f T L kvs :=
  ⟨h, b.ks, fun i j => by
    rcases b.v i j with q | ⟨x, a, e1, e2, e3⟩
    · exact .inl q
    · exact .inr ⟨x, a, e1, e2, t _ _ e3⟩⟩
theorem BestAt.same {H H' : Hp} {bd : Addr} {f : Tab} {T L : Nat} {kvs : List (List Key × V)} (b : BestAt H bd f T L kvs) (s : Same H H') : BestAt H' bd f T L kvs := b.mono (s _ _ b.h) fun a xs e => s _ _ e
def spLess (C : Addr) : Sp := fun vs H Q _ => ∃ (x dx a bd : Addr) (i s T L : Nat) (y : PS) (f : Tab) (kvs : List (List Key × V)) (v0 v1 v2 : V), vs = [.ref x, .int (i : Int), .int (s : Int), .ref a] ∧
  H x = some (.ins C dx (fl_Mender_4 v0 v1 v2 (.ref bd))) ∧ H a = some (.tup [.int (y.1 : Nat), .int (y.2 : Nat)]) ∧ BestAt H bd f T L kvs ∧ i ≤ T ∧ s < L ∧ (T + 1) * L ≤ 100000 ∧
  ∀ H' kvs', Kp [bd] H H' → BestAt H' bd (less1 f i s y).1 T L kvs' → Q (.bl (less1 f i s y).2) H'
theorem ok_Mender_lessened {f : Addr} {fd : FuncData} (F : Fun K "lessened" "Mender.lessened" s_Mender_lessened f fd) (T : Txt w K mg) : FnOk P w K mg base (L2.CX P w) 1 f fd ["self", "place", "state", "told"] (spLess T.a_Mender) := by
  refine F.okX sc_Mender_lessened (fun vs H Q E h => ?_) (fun cdv A outer s H vs Q E hr h => ?_)
  · obtain ⟨_, _, _, _, _, _, _, _, _, _, _, _, _, _, rfl, _⟩ := h
    rfl
  · obtain ⟨x, dx, a, bd, i, st, TT, L, y, f, kvs, v0, v1, v2, rfl, hx, ha, hb, hi, hs, hTL, k⟩ := h
    have hu := hu_of hr
    have hbd := hb.h
    have hlen := hb.len
    refine ⟨_, PSs.nox (pss_cons (ps_set (i := 4) sc_Mender_lessened.nd rfl (by first | exact Or.inl rfl | exact Or.inr rfl) (pe_dget2R hu rGet2P.to (pe_fd (pv 0) T.f_Mender_best rfl) (pe_tup (pa_cons (pv 1) (pa_cons (pv 2) pa_nil))) pe_non (m2_of rfl rfl rfl rfl)))
    (pss_cons (ps_if (PW.pt (pw_and (pt_cmpR op_notN (pv 4) pe_non (nomark _)) (pw_and1 (pt_cmpR (olePair (Nat.lt_of_succ_lt hu)) (pv 4) (pv 3) (nomark _))))) (pss_one (ps_ret pe_bl)) pss_nil)
    (pss_cons (ps_dputR hu rPutP.to (pe_fd (pv 0) T.f_Mender_best rfl) (pe_tup (pa_cons (pv 1) (pa_cons (pv 2) pa_nil))) (pv 3) rfl)
    (pss_one (ps_ret pe_bl))))), ?_⟩
    rw [show L2.start N_Mender_lessened [V.ref x, V.int (i : Int), V.int (st : Int), V.ref a] = [some (V.ref x), some (V.int (i : Int)), some (V.int (st : Int)), some (V.ref a), none] from rfl]
    walk_at "r"
    intro p hp
    walk_at "r"
    have e1 : valV kvs [Sum.inl (i : Int), Sum.inl (st : Int)] = valV kvs (kp2 i st) := rfl
    rw [e1]
    have fin : ∀ p p2 : Addr, H p = none → upd H p (HO.tup [V.int (i : Int), V.int (st : Int)]) p2 = none → less1 f i st y = (setT f i st y, true) →
        Q (.bl true) (L2.upd (L2.upd (L2.upd H p (.tup [V.int (i : Int), V.int (st : Int)])) p2 (.tup [V.int (i : Int), V.int (st : Int)])) bd (.dT (putK kvs (kp2 i st) (.ref a)))) := fun p p2 hp hp2 e => by
      rw [e] at k
      have s2 : Same H (L2.upd (L2.upd H p (.tup [V.int (i : Int), V.int (st : Int)])) p2 (.tup [V.int (i : Int), V.int (st : Int)])) := fun b o h => upd_old hp2 (upd_old hp h)
      exact k _ _ ((Kp.of s2).trans (Kp.upd (List.mem_singleton.mpr rfl))) ((hb.same s2).put hi hs (s2 _ _ ha))
    rcases hb.v i st with ⟨fn, vn⟩ | ⟨y', ya, fy, vy, hy⟩
    · rw [vn]
      have e : less1 f i st y = (setT f i st y, true) := by unfold less1 lessD; rw [fn]; rfl
      refine iteNF rfl ?_
      walk_at "r"
      intro p2 hp2
      walk_at "r"
      exact fin p p2 hp hp2 e
    · rw [vy]
      refine iteNT (by simp) ?_
      walk_at "r"
      refine ⟨y', y, ⟨rfl⟩, ⟨rfl⟩, _, rfl, ?_⟩
      refine iteD (fun hle => ?_) (fun hle => ?_)
      · have e : less1 f i st y = (f, false) := by unfold less1 lessD; rw [fy]; exact if_pos (decide_eq_true hle)
        walk_at "r"
        have s1 : Same H (L2.upd H p (.tup [V.int (i : Int), V.int (st : Int)])) := fun b o h => upd_old hp h
        rw [e] at k
        exact k _ _ (Kp.of s1) (hb.same s1)
      · have e : less1 f i st y = (setT f i st y, true) := by unfold less1 lessD; rw [fy]; exact if_neg (by simpa using hle)
        walk_at "r"
        intro p2 hp2
        walk_at "r"
        exact fin p p2 hp hp2 e
end
end FR
end
section
set_option Elab.async false
set_option linter.all false
set_option maxRecDepth 20000
set_option maxHeartbeats 1000000
namespace FR
open PySem PySem.Spec PyProof.Rows L2 FL
local macro_rules | `(tactic| walk_at "ne") => `(tactic| first | assumption | exact Ne.symm (by assumption))
local macro_rules | `(tactic| walk_at "hl") => `(tactic| first | assumption | exact upd_same | exact upd_old (by assumption) (by walk_at "hl") | exact (upd_ne (by walk_at "ne")).trans (by walk_at "hl"))
local macro_rules | `(tactic| walk_at "side") => `(tactic| first | rfl | assumption | omega | decide | exact Or.inl ⟨rfl, _, SqL.of (by walk_at "hl")⟩ | exact Or.inr (Or.inr (Or.inl ⟨rfl, Or.inl ⟨_, by walk_at "hl"⟩⟩)) | exact Or.inr (Or.inr (Or.inl ⟨rfl, Or.inr ⟨_, by walk_at "hl"⟩⟩)) | exact Or.inr ⟨by decide, by decide⟩ | exact Or.inl ⟨by omega, by omega⟩ | exact ⟨by decide, by decide, by decide⟩ | exact ⟨by first | omega | decide, by first | omega | decide⟩ | exact Nat.le_of_ble_eq_true rfl | exact Nat.le_trans (m := 1000000) (by omega) (by decide) | exact Nat.lt_of_le_of_lt (m := 1000000) (by omega) (by decide) | exact ⟨by omega, by omega, by omega, by omega⟩)
local macro_rules | `(tactic| walk_at "lk") => `(tactic| with_reducible first | exact lk_Sets_1_0 | exact lk_Sets_2_0 | exact lk_Sets_2_1 | exact lk_Sets_3_0 | exact lk_Sets_3_1 | exact lk_Sets_3_2 | exact lk_Sets_4_0 | exact lk_Sets_4_1 | exact lk_Sets_4_2 | exact lk_Sets_4_3 | exact lk_Sets_5_0 | exact lk_Sets_5_1 | exact lk_Sets_5_2 | exact lk_Sets_5_3 | exact lk_Sets_5_4 | exact lk_Mender_1_0 | exact lk_Mender_2_0 | exact lk_Mender_2_1 | exact lk_Mender_3_0 | exact lk_Mender_3_1 | exact lk_Mender_3_2 | exact lk_Mender_4_0 | exact lk_Mender_4_1 | exact lk_Mender_4_2 | exact lk_Mender_4_3)
local macro_rules | `(tactic| walk_at "pf") => `(tactic| with_reducible first | exact pf_Sets_1_0 | exact pf_Sets_2_0 | exact pf_Sets_2_1 | exact pf_Sets_3_0 | exact pf_Sets_3_1 | exact pf_Sets_3_2 | exact pf_Sets_4_0 | exact pf_Sets_4_1 | exact pf_Sets_4_2 | exact pf_Sets_4_3 | exact pf_Sets_5_0 | exact pf_Sets_5_1 | exact pf_Sets_5_2 | exact pf_Sets_5_3 | exact pf_Sets_5_4 | exact pn_Sets_0 | exact pn_Sets_1 | exact pn_Sets_2 | exact pn_Sets_3 | exact pn_Sets_4 | exact pf_Mender_1_0 | exact pf_Mender_2_0 | exact pf_Mender_2_1 | exact pf_Mender_3_0 | exact pf_Mender_3_1 | exact pf_Mender_3_2 | exact pf_Mender_4_0 | exact pf_Mender_4_1 | exact pf_Mender_4_2 | exact pf_Mender_4_3 | exact pn_Mender_0 | exact pn_Mender_1 | exact pn_Mender_2 | exact pn_Mender_3)
local macro_rules | `(tactic| walk_at "no") => `(tactic| with_reducible first | exact no_Sets_0___init__ | exact no_Sets_1___init__ | exact no_Sets_2___init__ | exact no_Sets_3___init__ | exact no_Sets_4___init__ | exact no_Sets_5___init__ | exact no_Sets_0_join | exact no_Sets_1_join | exact no_Sets_2_join | exact no_Sets_3_join | exact no_Sets_4_join | exact no_Sets_5_join | exact no_Sets_0_told_of | exact no_Sets_1_told_of | exact no_Sets_2_told_of | exact no_Sets_3_told_of | exact no_Sets_4_told_of | exact no_Sets_5_told_of | exact no_Sets_0_moved | exact no_Sets_1_moved | exact no_Sets_2_moved | exact no_Sets_3_moved | exact no_Sets_4_moved | exact no_Sets_5_moved | exact no_Sets_0_can_stop | exact no_Sets_1_can_stop | exact no_Sets_2_can_stop | exact no_Sets_3_can_stop | exact no_Sets_4_can_stop | exact no_Sets_5_can_stop | exact no_Mender_0___init__ | exact no_Mender_1___init__ | exact no_Mender_2___init__ | exact no_Mender_3___init__ | exact no_Mender_4___init__ | exact no_Mender_0_fill_last | exact no_Mender_1_fill_last | exact no_Mender_2_fill_last | exact no_Mender_3_fill_last | exact no_Mender_4_fill_last | exact no_Mender_0_spread | exact no_Mender_1_spread | exact no_Mender_2_spread | exact no_Mender_3_spread | exact no_Mender_4_spread | exact no_Mender_0_lessened | exact no_Mender_1_lessened | exact no_Mender_2_lessened | exact no_Mender_3_lessened | exact no_Mender_4_lessened | exact no_Mender_0_fill | exact no_Mender_1_fill | exact no_Mender_2_fill | exact no_Mender_3_fill | exact no_Mender_4_fill | exact no_Mender_0_least | exact no_Mender_1_least | exact no_Mender_2_least | exact no_Mender_3_least | exact no_Mender_4_least | exact no_Mender_0_steps_from | exact no_Mender_1_steps_from | exact no_Mender_2_steps_from | exact no_Mender_3_steps_from | exact no_Mender_4_steps_from | exact no_Mender_0_later | exact no_Mender_1_later | exact no_Mender_2_later | exact no_Mender_3_later | exact no_Mender_4_later | exact no_Mender_0_closed | exact no_Mender_1_closed | exact no_Mender_2_closed | exact no_Mender_3_closed | exact no_Mender_4_closed)
local macro_rules | `(tactic| walk_at "s") => `(tactic| first
   | refine ⟨_, rfl, ?_⟩
   | refine ⟨_, _, rfl, rfl, ?_⟩
   | refine ⟨_, _, rfl, ?_⟩
   | refine iteT ?_
   | refine iteF ?_
   | refine ⟨_, (show _ = some _ by walk_at "hl"), ?_⟩
   | refine ⟨_, (show Ins _ _ _ _ from Ins.of (by walk_at "hl")), ?_⟩
   | refine ⟨_, (show Lk _ _ _ by walk_at "lk"), ?_⟩
   | refine ⟨_, (show Pf _ _ _ _ by walk_at "pf"), ?_⟩
   | refine And.intro (show NoL _ _ by walk_at "no") ?_
   | refine ⟨_, _, rfl, SqL.of (by walk_at "hl"), ?_⟩
   | refine ⟨_, _, rfl, SqT.of (by walk_at "hl"), ?_⟩
   | refine And.intro ⟨_, SqL.of (by walk_at "hl")⟩ ?_
   | refine And.intro (by walk_at "side") ?_)
local macro_rules | `(tactic| walk_at "si") => `(tactic| first
   | walk_at "s"
   | refine iteD (fun _ => ?_) (fun _ => ?_)
   | refine iteDn (fun _ => ?_) (fun _ => ?_))
local macro_rules | `(tactic| walk_at "r") => `(tactic| repeat walk_at "s")
local macro_rules | `(tactic| walk_at "ri") => `(tactic| repeat walk_at "si")

local macro_rules | `(tactic| walk_at "side") => `(tactic| exact trivial)
abbrev N_Mender_spread : List Str := ["self", "place", "is_more", "state", "target", "told"]
theorem sc_Mender_spread : FnScope N_Mender_spread ["self", "place"] (defScope s_Mender_spread) := ⟨rfl, rfl, rfl, by decide +kernel, rfl, by decide +kernel, by decide +kernel⟩
section
variable {P : Program} {w : World} {K : PySem.W.Frag} {mg : Str → Option Value} {base : Heap}
theorem FolAt.kp {H H' : Hp} {bd fl : Addr} {fds : List Addr} {fol : List (List Nat)} {o : HO} (h : FolAt H fl fds fol) (k : Kp [bd] H H') (hb : H bd = some o) (n1 : ∀ ks, o ≠ .dK ks) (n2 : ∀ xs, o ≠ .lst xs) : FolAt H' fl fds fol := by
  have ne : ∀ b u, H b = some u → o ≠ u → b ∉ [bd] := fun b u e n m => by
    obtain rfl := List.mem_singleton.mp m
    rw [hb] at e
    exact n (Option.some.inj e)
  exact h.keep ((k _ _ h.l (ne _ _ h.l (n2 _))).trans h.l.symm) fun d _ ks e => k _ _ e (ne _ _ e (n1 _))
/-- the states, the text of a mender -/
structure MdAt (Cm Cs : Addr) (H : Hp) (x bd : Addr) (p : Pat) (t : List Nat) : Prop where
  ex : ∃ (dx sx st : Addr), H x = some (.ins Cm dx (fl_Mender_4 (.ref sx) (tx t) (.ref st) (.ref bd))) ∧ SetsAt Cs H sx p ∧ H st = some (.lst ((List.range (nL p + 1)).map fun (s : Nat) => V.int (s : Int)))
theorem MdAt.kp {Cm Cs : Addr} {H H' : Hp} {x bd : Addr} {p : Pat} {t : List Nat} {kvs : List (List Key × V)} (h : MdAt Cm Cs H x bd p t) (hb : H bd = some (.dT kvs)) (k : Kp [bd] H H') : MdAt Cm Cs H' x bd p t := by
  have ne : ∀ b u, H b = some u → HO.dT kvs ≠ u → b ∉ [bd] := fun b u e n m => by
    obtain rfl := List.mem_singleton.mp m
    rw [hb] at e
    exact n (Option.some.inj e)
  obtain ⟨dx, sx, st, h1, ⟨d2, r, lo, fl, en, po, fds, e1, e2, e3, e4⟩, h3⟩ := h.ex
  exact ⟨dx, sx, st, k _ _ h1 (ne _ _ h1 (by simp)), ⟨d2, r, lo, fl, en, po, fds, k _ _ e1 (ne _ _ e1 (by simp)), k _ _ e2 (ne _ _ e2 (by simp)), e3.kp k hb (by simp) (by simp), k _ _ e4 (ne _ _ e4 (by simp))⟩, k _ _ h3 (ne _ _ h3 (by simp))⟩
abbrev SoP (p : Pat) (t : List Nat) (f : Tab) := So (folP p) (ltP p) (fun s => s ∈ endP p) t f
def spSpread (Cm Cs : Addr) : Sp := fun vs H Q _ => ∃ (x bd : Addr) (i : Nat) (p : Pat) (t : List Nat) (f : Tab) (kvs : List (List Key × V)), vs = [.ref x, .int (i : Int)] ∧ MdAt Cm Cs H x bd p t ∧ BestAt H bd f t.length (nL p + 1) kvs ∧ SoP p t f ∧ i ≤ t.length ∧
  t.length ≤ 300 ∧ nL p ≤ 300 ∧ ∀ H' g kvs', Kp [bd] H H' → BestAt H' bd g t.length (nL p + 1) kvs' → Up i f g → SoP p t g → PutC (folP p) (nL p + 1) g i → Q .non H'
theorem Kp.bd_ne {H : Hp} {b bd : Addr} {u : HO} {kvs : List (List Key × V)} (h : H b = some u) (hb : H bd = some (.dT kvs)) (n : u ≠ .dT kvs) : b ∉ [bd] := fun m => by
  obtain rfl := List.mem_singleton.mp m
  rw [hb] at h
  exact n (Option.some.inj h).symm
theorem ok_Mender_spread {f : Addr} {fd : FuncData} (F : Fun K "spread" "Mender.spread" s_Mender_spread f fd) (T : Txt w K mg) (D_Mender_lessened : DfM P w K mg base 1 T.a_Mender "lessened" ["self", "place", "state", "told"] (spLess T.a_Mender)) :
    FnOk P w K mg base (L2.CX P w) 2 f fd ["self", "place"] (spSpread T.a_Mender T.a_Sets) := by
  refine F.okX sc_Mender_spread (fun vs H Q E h => ?_) (fun cdv A outer s H vs Q E hr h => ?_)
  · obtain ⟨_, _, _, _, _, _, _, rfl, _⟩ := h
    rfl
  · obtain ⟨x, bd, i, p, t, f, kvs, rfl, hm, hb, hso, hi, ht, hn, k⟩ := h
    have hu := hu_of hr
    obtain ⟨dx, sx, st, hx, ⟨dsx, r, lo, fl, en, po, fds, h1, h2, h3, h4⟩, hst⟩ := hm.ex
    have hbd := hb.h
    obtain ⟨hfl, hfok⟩ := folP_ok p
    have hnL : nL p = (lots p).length := rfl
    have hTL : (t.length + 1) * (nL p + 1) ≤ 100000 := Nat.le_trans (Nat.mul_le_mul (show t.length + 1 ≤ 301 by omega) (show nL p + 1 ≤ 301 by omega)) (by decide)
    refine ⟨_, PSs.nox (pss_cons (ps_set (i := 2) sc_Mender_spread.nd rfl (by first | exact Or.inl rfl | exact Or.inr rfl) pe_bl)
    (pss_one (ps_while PassesOwn.never (pt_val (pv 2)) (pss_cons (ps_set (i := 2) sc_Mender_spread.nd rfl (by first | exact Or.inl rfl | exact Or.inr rfl) pe_bl)
      (pss_one (ps_for PassesOwn.never rfl (pi_list (pe_fd (pv 0) T.f_Mender_states rfl)) (pg_name (i := 3) sc_Mender_spread.nd rfl (by first | exact Or.inl rfl | exact Or.inr rfl)) (pss_one (ps_lock (ps_for PassesOwn.never rfl (pi_keys (pe_ix ixlv (pe_fd (pe_fd (pv 0) T.f_Mender_sets rfl) T.f_Sets_follows rfl) (pv 3) (fun _ _ => rfl))) (pg_name (i := 4) sc_Mender_spread.nd rfl (by first | exact Or.inl rfl | exact Or.inr rfl)) (pss_cons (ps_set (i := 5) sc_Mender_spread.nd rfl (by first | exact Or.inl rfl | exact Or.inr rfl) (pe_dget2R hu rGet2P.to (pe_fd (pv 0) T.f_Mender_best rfl) (pe_tup (pa_cons (pv 1) (pa_cons (pv 4) pa_nil))) pe_non (m2_of rfl rfl rfl rfl)))
          (pss_one (ps_if (PW.pt (pw_and (pt_cmpR op_notN (pv 5) pe_non (nomark _)) (pw_and1 (pt_val (pe_methF (pv 0) D_Mender_lessened (hr.mono (by decide)) passL (pa_cons (pv 1) (pa_cons (pv 3) (pa_cons (pe_tup (pa_cons (pe_op oadd (pe_ix ixt (pv 5) pe_int (fun _ _ => rfl)) pe_int) (pa_cons (pe_op oadd (pe_ix ixt (pv 5) pe_int (fun _ _ => rfl)) pe_int) pa_nil))) pa_nil)))))))) (pss_one (ps_set (i := 2) sc_Mender_spread.nd rfl (by first | exact Or.inl rfl | exact Or.inr rfl) pe_bl)) pss_nil)))))))))))), ?_⟩
    rw [show L2.start N_Mender_spread [V.ref x, V.int (i : Int)] = [some (V.ref x), some (V.int (i : Int)), none, none, none, none] from rfl]
    obtain ⟨m0, hm0⟩ := settles' (L := nL p + 1) (i := i) hso
    walk_at "r"
    refine while_s (fun m σ H' => Stop (∃ (b : Bool) (x3 x4 x5 : Option V), σ = [some (.ref x), some (.int (i : Int)), some (.bl b), x3, x4, x5] ∧ ∃ g kvs', Kp [bd] H H' ∧ BestAt H' bd g t.length (nL p + 1) kvs' ∧ Up i f g ∧ SoP p t g ∧
      ((b = true ∧ ∃ n, m = n + 1 ∧ SettlesN (folP p) (nL p + 1) i n g) ∨ (b = false ∧ PutC (folP p) (nL p + 1) g i)))) (m0 + 1) ?_ ?_ ?_
    · exact Stop.i ⟨true, none, none, none, rfl, f, kvs, Kp.refl _ _, hb, Up.refl _ _, hso, .inl ⟨rfl, m0, rfl, hm0⟩⟩
    · intro m σ H1 h
      obtain ⟨b, x3, x4, x5, rfl, g, kv1, kp, hb1, hup, hsg, hc⟩ := h.o
      have hx1 := kp _ _ hx (Kp.bd_ne hx hbd (by simp))
      have hst1 := kp _ _ hst (Kp.bd_ne hst hbd (by simp))
      have hs1 := kp _ _ h1 (Kp.bd_ne h1 hbd (by simp))
      have hfo1 := h3.kp kp hbd (by simp) (by simp)
      rcases hc with ⟨rfl, n, rfl, hsn⟩ | ⟨rfl, hpc⟩
      · walk_at "r"
        generalize ea : ((g, false) : Tab × Bool) = a0
        refine forP (wk_list (K := K) (a := st) (List.range (nL p + 1)) (fun (s : Nat) => V.int (s : Int))) (fun l σ H' => Stop (∃ (x3 x4 x5 : Option V) (kv : List (List Key × V)), σ = [some (.ref x), some (.int (i : Int)), some (.bl (l.foldl (sweepS (folP p) i) a0).2), x3, x4, x5] ∧
          Kp [bd] H H' ∧ BestAt H' bd (l.foldl (sweepS (folP p) i) a0).1 t.length (nL p + 1) kv)) ?_ ?_ ?_ ?_
        · subst ea
          exact Stop.i ⟨x3, x4, x5, kv1, rfl, kp, hb1⟩
        · intro l σ H' h
          obtain ⟨_, _, _, _, _, kp', _⟩ := h.o
          exact SqL.of (kp' _ _ hst (Kp.bd_ne hst hbd (by simp)))
        · intro l s rr σ H2 el h
          obtain ⟨x3, x4, x5, kv2, rfl, kq2, hb2⟩ := h.o
          generalize ef : l.foldl (sweepS (folP p) i) a0 = a at hb2
          have hs : s < nL p + 1 := by
            have : s ∈ List.range (nL p + 1) := by rw [el]; simp
            exact List.mem_range.mp this
          have hx2 := kq2 _ _ hx (Kp.bd_ne hx hbd (by simp))
          have hs2 := kq2 _ _ h1 (Kp.bd_ne h1 hbd (by simp))
          have hfo2 := h3.kp kq2 hbd (by simp) (by simp)
          obtain ⟨dm, hdm⟩ : ∃ dm, fds[s]? = some dm := ⟨_, List.getElem?_eq_getElem (by rw [hfo2.len, hfl]; exact hs)⟩
          obtain ⟨ks, hks⟩ : ∃ ks, (folP p)[s]? = some ks := ⟨_, List.getElem?_eq_getElem (by rw [hfl]; exact hs)⟩
          have hkd := hfo2.at_ s dm ks hdm hks
          have hfl2 := hfo2.l
          have egd : (folP p).getD s [] = ks := by rw [List.getD_eq_getElem?_getD, hks]; rfl
          have esw : (l ++ [s]).foldl (sweepS (folP p) i) a0 = ks.foldl (turn1 i s) a := by
            rw [List.foldl_append, ef]
            show sweepS (folP p) i a s = _
            unfold sweepS
            rw [egd]
          refine ⟨dm, _, hkd, trivial, fun od => ?_⟩
          have tp : ∀ q xs, H2 q = some (.tup xs) → L2.upd H2 dm (.frz od (.dK (dk ks))) q = some (.tup xs) := fun q xs e => (upd_ne (ne_of e hkd (by simp))).trans e
          have hbf := hb2.mono ((upd_ne (o := .frz od (.dK (dk ks))) (ne_of hb2.h hkd (by simp))).trans hb2.h) tp
          have hxf := (upd_ne (o := .frz od (.dK (dk ks))) (ne_of hx2 hkd (by simp))).trans hx2
          have hsf := (upd_ne (o := .frz od (.dK (dk ks))) (ne_of hs2 hkd (by simp))).trans hs2
          have hff := (upd_ne (o := .frz od (.dK (dk ks))) (ne_of hfl2 hkd (by simp))).trans hfl2
          generalize eF : L2.upd H2 dm (.frz od (.dK (dk ks))) = Hf at hbf hxf hsf hff ⊢
          have hdf : Hf dm = some (.frz od (.dK (dk ks))) := by rw [← eF]; exact upd_same
          have hbdf := hbf.h
          walk_at "r"
          refine ⟨_, ⟨atI_nat (by rw [List.getElem?_map, hdm]; rfl)⟩, ?_⟩
          refine ⟨dm, od, rfl, .inl ⟨dk ks, hdf, ?_⟩⟩
          refine forP (wk_keys (d := dm) (o := od) (dk ks)) (fun done σ H' => Stop (∃ (x4 x5 : Option V) (d : List Nat) (kv : List (List Key × V)), done = dk d ∧ σ = [some (.ref x), some (.int (i : Int)), some (.bl (d.foldl (turn1 i s) a).2), some (.int (s : Int)), x4, x5] ∧
            Kp [bd] Hf H' ∧ BestAt H' bd (d.foldl (turn1 i s) a).1 t.length (nL p + 1) kv)) ?_ ?_ ?_ ?_
          · exact Stop.i ⟨x4, x5, [], kv2, rfl, rfl, Kp.refl _ _, hbf⟩
          · intro d σ H' h
            obtain ⟨_, _, _, _, _, _, kp', _⟩ := h.o
            exact kp' _ _ hdf (Kp.bd_ne hdf hbdf (by simp))
          · intro done kx rr2 σ H3 el2 h
            obtain ⟨x4, x5, d, kv3, rfl, rfl, kp3, hb3⟩ := h.o
            obtain ⟨j, rfl, hj⟩ : ∃ j : Nat, kx = ((Sum.inl (j : Int) : Key), V.bl true) ∧ j ∈ ks := by
              have ha : kx ∈ dk ks := by rw [el2]; simp
              unfold dk at ha
              obtain ⟨m, hm, rfl⟩ := List.mem_map.mp ha
              exact ⟨m, rfl, hm⟩
            have hx3 := kp3 _ _ hxf (Kp.bd_ne hxf hbdf (by simp))
            have hbd3 := hb3.h
            generalize eb : d.foldl (turn1 i s) a = b at hb3
            have et : (d ++ [j]).foldl (turn1 i s) a = turn1 i s b j := by rw [List.foldl_append, eb]; rfl
            have edk : dk d ++ [((Sum.inl (j : Int) : Key), V.bl true)] = dk (d ++ [j]) := by simp [dk]
            walk_at "r"
            intro p1 hp1
            walk_at "r"
            have e1 : valV kv3 [Sum.inl (i : Int), Sum.inl (j : Int)] = valV kv3 (kp2 i j) := rfl
            rw [e1]
            have sp : Same H3 (L2.upd H3 p1 (.tup [.int (i : Int), .int (j : Int)])) := fun b o h => upd_old hp1 h
            rcases hb3.v i j with ⟨fn, vn⟩ | ⟨y, ya, fy, vy, hy⟩
            · rw [vn]
              have et' : (d ++ [j]).foldl (turn1 i s) a = b := et.trans (by unfold turn1; rw [fn])
              refine iteNF rfl ?_
              refine Stop.i ⟨_, _, d ++ [j], kv3, edk, by rw [et']; rfl, kp3.trans (Kp.of sp), by rw [et']; exact hb3.same sp⟩
            · rw [vy]
              refine iteNT (by simp) ?_
              walk_at "r"
              intro p2 hp2
              walk_at "r"
              have et' : (d ++ [j]).foldl (turn1 i s) a = ((less1 b.1 i s (y.1 + 1, y.2 + 1)).1, b.2 || (less1 b.1 i s (y.1 + 1, y.2 + 1)).2) := et.trans (by unfold turn1; rw [fy])
              have s2 : Same H3 (L2.upd (L2.upd H3 p1 (.tup [.int (i : Int), .int (j : Int)])) p2 (.tup [.int ((y.1 + 1 : Nat) : Int), .int ((y.2 + 1 : Nat) : Int)])) := fun b o h => upd_old hp2 (upd_old hp1 h)
              refine ⟨x, dx, p2, bd, i, s, t.length, nL p + 1, (y.1 + 1, y.2 + 1), b.1, kv3, _, _, _, rfl, s2 _ _ hx3, upd_same, hb3.same s2, hi, hs, hTL, fun H4 kv4 kp4 hb4 => ⟨_, rfl, ?_⟩⟩
              have kp5 := (kp3.trans (Kp.of s2)).trans kp4
              refine iteB (fun hc => ?_) (fun hc => ?_)
              · walk_at "r"
                exact Stop.i ⟨_, _, d ++ [j], kv4, edk, by rw [et', hc, Bool.or_true]; rfl, kp5, by rw [et']; exact hb4⟩
              · exact Stop.i ⟨_, _, d ++ [j], kv4, edk, by rw [et', hc, Bool.or_false]; rfl, kp5, by rw [et']; exact hb4⟩
          · intro σ H3 h
            obtain ⟨x4, x5, d, kv3, ed, rfl, kp3, hb3⟩ := h.o
            have hd3 := kp3 _ _ hdf (Kp.bd_ne hdf hbdf (by simp))
            refine ⟨hd3, ?_⟩
            have hle : d = ks := by
              have := congrArg (List.map fun (kv : Key × V) => match kv.1 with | .inl i => i.toNat | .inr _ => 0) ed
              simpa [dk, Function.comp_def] using this.symm
            subst hle
            refine Stop.i ⟨_, x4, x5, kv3, by rw [esw], fun b o hb nb => ?_, ?_⟩
            · by_cases q : b = dm
              · subst q
                have := h3.at_ s b d hdm hks
                rw [this] at hb
                obtain rfl := Option.some.inj hb
                exact upd_same
              · rw [upd_ne q]
                refine kp3 _ _ ?_ nb
                rw [← eF, upd_ne q]
                exact kq2 _ _ hb nb
            · rw [esw]
              exact hb3.mono ((upd_ne (ne_of hb3.h hd3 (by simp))).trans hb3.h) fun q xs e => (upd_ne (ne_of e hd3 (by simp))).trans e
        · intro σ H2 h
          obtain ⟨x3, x4, x5, kv2, rfl, kq2, hb2⟩ := h.o
          have eS : (List.range (nL p + 1)).foldl (sweepS (folP p) i) a0 = sweep (folP p) (nL p + 1) i g := by rw [← ea]; rfl
          rw [eS] at hb2 ⊢
          have M := Mid.sweep (L := nL p + 1) (i := i) hsg
          cases hf : (sweep (folP p) (nL p + 1) i g).2 with
          | false =>
            obtain ⟨q1, q2⟩ := sweep_no hf
            exact Stop.i ⟨0, Nat.succ_pos _, Stop.i ⟨false, x3, x4, x5, rfl, _, kv2, kq2, hb2, hup.trans M.up, M.so, .inr ⟨rfl, by rw [q1]; exact q2⟩⟩⟩
          | true =>
            cases n with
            | zero => exact absurd (hf.symm.trans hsn) (by decide)
            | succ n => exact Stop.i ⟨n + 1, Nat.lt_succ_self _, Stop.i ⟨true, x3, x4, x5, rfl, _, kv2, kq2, hb2, hup.trans M.up, M.so, .inl ⟨rfl, n, rfl, hsn hf⟩⟩⟩
      · walk_at "r"
        exact k _ _ _ kp hb1 hup hsg hpc
    · rintro σ H Q Q' k ⟨v, hv, b, hb, q⟩
      exact ⟨v, hv, b, hb, k _ _ q⟩
end
end FR
end
section
set_option Elab.async false
set_option linter.all false
set_option maxRecDepth 20000
set_option maxHeartbeats 1000000
namespace FR
open PySem PySem.Spec PyProof.Rows L2 FL
local macro_rules | `(tactic| walk_at "ne") => `(tactic| first | assumption | exact Ne.symm (by assumption))
local macro_rules | `(tactic| walk_at "hl") => `(tactic| first | assumption | exact upd_same | exact upd_old (by assumption) (by walk_at "hl") | exact (upd_ne (by walk_at "ne")).trans (by walk_at "hl"))
local macro_rules | `(tactic| walk_at "side") => `(tactic| first | rfl | assumption | omega | decide | exact Or.inl ⟨rfl, _, SqL.of (by walk_at "hl")⟩ | exact Or.inr (Or.inr (Or.inl ⟨rfl, Or.inl ⟨_, by walk_at "hl"⟩⟩)) | exact Or.inr (Or.inr (Or.inl ⟨rfl, Or.inr ⟨_, by walk_at "hl"⟩⟩)) | exact Or.inr ⟨by decide, by decide⟩ | exact Or.inl ⟨by omega, by omega⟩ | exact ⟨by decide, by decide, by decide⟩ | exact ⟨by first | omega | decide, by first | omega | decide⟩ | exact Nat.le_of_ble_eq_true rfl | exact Nat.le_trans (m := 1000000) (by omega) (by decide) | exact Nat.lt_of_le_of_lt (m := 1000000) (by omega) (by decide) | exact ⟨by omega, by omega, by omega, by omega⟩)
local macro_rules | `(tactic| walk_at "lk") => `(tactic| with_reducible first | exact lk_Sets_1_0 | exact lk_Sets_2_0 | exact lk_Sets_2_1 | exact lk_Sets_3_0 | exact lk_Sets_3_1 | exact lk_Sets_3_2 | exact lk_Sets_4_0 | exact lk_Sets_4_1 | exact lk_Sets_4_2 | exact lk_Sets_4_3 | exact lk_Sets_5_0 | exact lk_Sets_5_1 | exact lk_Sets_5_2 | exact lk_Sets_5_3 | exact lk_Sets_5_4 | exact lk_Mender_1_0 | exact lk_Mender_2_0 | exact lk_Mender_2_1 | exact lk_Mender_3_0 | exact lk_Mender_3_1 | exact lk_Mender_3_2 | exact lk_Mender_4_0 | exact lk_Mender_4_1 | exact lk_Mender_4_2 | exact lk_Mender_4_3)
local macro_rules | `(tactic| walk_at "pf") => `(tactic| with_reducible first | exact pf_Sets_1_0 | exact pf_Sets_2_0 | exact pf_Sets_2_1 | exact pf_Sets_3_0 | exact pf_Sets_3_1 | exact pf_Sets_3_2 | exact pf_Sets_4_0 | exact pf_Sets_4_1 | exact pf_Sets_4_2 | exact pf_Sets_4_3 | exact pf_Sets_5_0 | exact pf_Sets_5_1 | exact pf_Sets_5_2 | exact pf_Sets_5_3 | exact pf_Sets_5_4 | exact pn_Sets_0 | exact pn_Sets_1 | exact pn_Sets_2 | exact pn_Sets_3 | exact pn_Sets_4 | exact pf_Mender_1_0 | exact pf_Mender_2_0 | exact pf_Mender_2_1 | exact pf_Mender_3_0 | exact pf_Mender_3_1 | exact pf_Mender_3_2 | exact pf_Mender_4_0 | exact pf_Mender_4_1 | exact pf_Mender_4_2 | exact pf_Mender_4_3 | exact pn_Mender_0 | exact pn_Mender_1 | exact pn_Mender_2 | exact pn_Mender_3)
local macro_rules | `(tactic| walk_at "no") => `(tactic| with_reducible first | exact no_Sets_0___init__ | exact no_Sets_1___init__ | exact no_Sets_2___init__ | exact no_Sets_3___init__ | exact no_Sets_4___init__ | exact no_Sets_5___init__ | exact no_Sets_0_join | exact no_Sets_1_join | exact no_Sets_2_join | exact no_Sets_3_join | exact no_Sets_4_join | exact no_Sets_5_join | exact no_Sets_0_told_of | exact no_Sets_1_told_of | exact no_Sets_2_told_of | exact no_Sets_3_told_of | exact no_Sets_4_told_of | exact no_Sets_5_told_of | exact no_Sets_0_moved | exact no_Sets_1_moved | exact no_Sets_2_moved | exact no_Sets_3_moved | exact no_Sets_4_moved | exact no_Sets_5_moved | exact no_Sets_0_can_stop | exact no_Sets_1_can_stop | exact no_Sets_2_can_stop | exact no_Sets_3_can_stop | exact no_Sets_4_can_stop | exact no_Sets_5_can_stop | exact no_Mender_0___init__ | exact no_Mender_1___init__ | exact no_Mender_2___init__ | exact no_Mender_3___init__ | exact no_Mender_4___init__ | exact no_Mender_0_fill_last | exact no_Mender_1_fill_last | exact no_Mender_2_fill_last | exact no_Mender_3_fill_last | exact no_Mender_4_fill_last | exact no_Mender_0_spread | exact no_Mender_1_spread | exact no_Mender_2_spread | exact no_Mender_3_spread | exact no_Mender_4_spread | exact no_Mender_0_lessened | exact no_Mender_1_lessened | exact no_Mender_2_lessened | exact no_Mender_3_lessened | exact no_Mender_4_lessened | exact no_Mender_0_fill | exact no_Mender_1_fill | exact no_Mender_2_fill | exact no_Mender_3_fill | exact no_Mender_4_fill | exact no_Mender_0_least | exact no_Mender_1_least | exact no_Mender_2_least | exact no_Mender_3_least | exact no_Mender_4_least | exact no_Mender_0_steps_from | exact no_Mender_1_steps_from | exact no_Mender_2_steps_from | exact no_Mender_3_steps_from | exact no_Mender_4_steps_from | exact no_Mender_0_later | exact no_Mender_1_later | exact no_Mender_2_later | exact no_Mender_3_later | exact no_Mender_4_later | exact no_Mender_0_closed | exact no_Mender_1_closed | exact no_Mender_2_closed | exact no_Mender_3_closed | exact no_Mender_4_closed)
local macro_rules | `(tactic| walk_at "s") => `(tactic| first
   | refine ⟨_, rfl, ?_⟩
   | refine ⟨_, _, rfl, rfl, ?_⟩
   | refine ⟨_, _, rfl, ?_⟩
   | refine iteT ?_
   | refine iteF ?_
   | refine ⟨_, (show _ = some _ by walk_at "hl"), ?_⟩
   | refine ⟨_, (show Ins _ _ _ _ from Ins.of (by walk_at "hl")), ?_⟩
   | refine ⟨_, (show Lk _ _ _ by walk_at "lk"), ?_⟩
   | refine ⟨_, (show Pf _ _ _ _ by walk_at "pf"), ?_⟩
   | refine And.intro (show NoL _ _ by walk_at "no") ?_
   | refine ⟨_, _, rfl, SqL.of (by walk_at "hl"), ?_⟩
   | refine ⟨_, _, rfl, SqT.of (by walk_at "hl"), ?_⟩
   | refine And.intro ⟨_, SqL.of (by walk_at "hl")⟩ ?_
   | refine And.intro (by walk_at "side") ?_)
local macro_rules | `(tactic| walk_at "si") => `(tactic| first
   | walk_at "s"
   | refine iteD (fun _ => ?_) (fun _ => ?_)
   | refine iteDn (fun _ => ?_) (fun _ => ?_))
local macro_rules | `(tactic| walk_at "r") => `(tactic| repeat walk_at "s")
local macro_rules | `(tactic| walk_at "ri") => `(tactic| repeat walk_at "si")

local macro_rules | `(tactic| walk_at "side") => `(tactic| exact trivial)
abbrev N_Mender_fill_last : List Str := ["self", "end", "waiting", "state"]
theorem sc_Mender_fill_last : FnScope N_Mender_fill_last ["self"] (defScope s_Mender_fill_last) := ⟨rfl, rfl, rfl, by decide +kernel, rfl, by decide +kernel, by decide +kernel⟩
abbrev N_Mender_fill : List Str := ["self", "place", "sign", "state", "told", "target", "price"]
theorem sc_Mender_fill : FnScope N_Mender_fill ["self", "place"] (defScope s_Mender_fill) := ⟨rfl, rfl, rfl, by decide +kernel, rfl, by decide +kernel, by decide +kernel⟩
section
variable {P : Program} {w : World} {K : PySem.W.Frag} {mg : Str → Option Value} {base : Heap}
abbrev PartP (p : Pat) (t : List Nat) (f : Tab) (i : Nat) := Part (folP p) (ltP p) (fun s => s ∈ endP p) t (nL p + 1) f i
def spFillLast (Cm Cs : Addr) : Sp := fun vs H Q _ => ∃ (x bd : Addr) (p : Pat) (t : List Nat), vs = [.ref x] ∧ MdAt Cm Cs H x bd p t ∧ H bd = some (.dT []) ∧
  t.length ≤ 300 ∧ nL p ≤ 300 ∧ ∀ H' g kvs', Kp [bd] H H' → BestAt H' bd g t.length (nL p + 1) kvs' → PartP p t g t.length → Q .non H'
def spFill (Cm Cs : Addr) : Sp := fun vs H Q _ => ∃ (x bd : Addr) (i : Nat) (p : Pat) (t : List Nat) (f : Tab) (kvs : List (List Key × V)), vs = [.ref x, .int (i : Int)] ∧ MdAt Cm Cs H x bd p t ∧ BestAt H bd f t.length (nL p + 1) kvs ∧ PartP p t f (i + 1) ∧ i < t.length ∧
  t.length ≤ 300 ∧ nL p ≤ 300 ∧ ∀ H' g kvs', Kp [bd] H H' → BestAt H' bd g t.length (nL p + 1) kvs' → PartP p t g i → Q .non H'
theorem ok_Mender_fill_last {f : Addr} {fd : FuncData} (F : Fun K "fill_last" "Mender.fill_last" s_Mender_fill_last f fd) (T : Txt w K mg) (D_Mender_spread : DfM P w K mg base 2 T.a_Mender "spread" ["self", "place"] (spSpread T.a_Mender T.a_Sets)) :
    FnOk P w K mg base (L2.CX P w) 3 f fd ["self"] (spFillLast T.a_Mender T.a_Sets) := by
  refine F.okX sc_Mender_fill_last (fun vs H Q E h => ?_) (fun cdv A outer s H vs Q E hr h => ?_)
  · obtain ⟨_, _, _, _, rfl, _⟩ := h
    rfl
  · obtain ⟨x, bd, p, t, rfl, hm, hbd, ht, hn, k⟩ := h
    have hu := hu_of hr
    obtain ⟨dx, sx, st, hx, ⟨dsx, r, lo, fl, en, po, fds, h1, h2, h3, h4⟩, hst⟩ := hm.ex
    obtain ⟨hfl, hfok⟩ := folP_ok p
    have hnL : nL p = (lots p).length := rfl
    have hTL : (t.length + 1) * (nL p + 1) ≤ 100000 := Nat.le_trans (Nat.mul_le_mul (show t.length + 1 ≤ 301 by omega) (show nL p + 1 ≤ 301 by omega)) (by decide)
    refine ⟨_, PSs.nox (pss_cons (ps_set (i := 1) sc_Mender_fill_last.nd rfl (by first | exact Or.inl rfl | exact Or.inr rfl) (pe_callB (cl_lenS) (by rfl) T.b_len (by decide +kernel) (pa_cons (pe_fd (pv 0) T.f_Mender_begun_text rfl) pa_nil)))
    (pss_cons (ps_setLc (i := 2) (own := [("state", 3)]) (g := gName 3) (by rfl) sc_Mender_fill_last.nd rfl rfl (sw_true rfl rfl rfl (by decide +kernel)) (pi_list (pe_fd (pv 0) T.f_Mender_states rfl)) (blkOk_by (N := N_Mender_fill_last) (sc := defScope s_Mender_fill_last) (by decide +kernel)) (fun _ _ _ _ _ => (pg_name (i := 3) sc_Mender_fill_last.nd rfl (by first | exact Or.inl rfl | exact Or.inr rfl))) (fun _ _ _ _ _ => (pts_one (pt_cmpR (odinR hu rInI.to) (pv 3) (pe_fd (pe_fd (pv 0) T.f_Mender_sets rfl) T.f_Sets_enders rfl) (by rfl)))) (fun _ _ _ _ _ => (pv 3)))
    (pss_cons (ps_for PassesOwn.never rfl (pi_list (pv 2)) (pg_name (i := 3) sc_Mender_fill_last.nd rfl (by first | exact Or.inl rfl | exact Or.inr rfl)) (pss_one (ps_dputR hu rPutP.to (pe_fd (pv 0) T.f_Mender_best rfl) (pe_tup (pa_cons (pv 1) (pa_cons (pv 3) pa_nil))) (pe_tup (pa_cons pe_int (pa_cons pe_int pa_nil))) rfl)))
    (pss_one (ps_expr (pe_methF (pv 0) D_Mender_spread (hr.mono (by decide)) passL (pa_cons (pv 1) pa_nil))))))), ?_⟩
    rw [show L2.start N_Mender_fill_last [V.ref x] = [some (V.ref x), none, none, none] from rfl]
    walk_at "r"
    intro D hD
    refine lcP hD (wk_list (K := K) (a := st) (List.range (nL p + 1)) (fun (s : Nat) => V.int (s : Int))) (fun (s : Nat) => V.int (s : Int)) (fun s => decide (s ∈ endP p)) (by rw [List.length_range]; omega) (fun H' s' => SqL.of (s' _ _ hst)) ?_ ?_ ?_ ?_
    · exact fun _ => rfl
    · intro a ha H' s' Q' q
      have hx' := s' _ _ hx
      have h1' := s' _ _ h1
      have h4' := s' _ _ h4
      walk_at "r"
      have e : (if a ∈ endP p then some (V.bl true) else none).isSome = decide (a ∈ endP p) := by by_cases h : a ∈ endP p <;> simp [h]
      rw [valV_dk, e]
      exact q
    · intro a ha _ H' s' Q' q
      exact ⟨_, rfl, q⟩
    · generalize eL : (List.range (nL p + 1)).filter (fun s => decide (s ∈ endP p)) = ls
      have sD : Same H (L2.upd H D (.lst (ls.map fun (s : Nat) => V.int (s : Int)))) := fun b o h => upd_old hD h
      have hls : ∀ s, s ∈ ls ↔ s < nL p + 1 ∧ s ∈ endP p := fun s => by rw [← eL]; simp
      have b0 : BestAt (L2.upd H D (.lst (ls.map fun (s : Nat) => V.int (s : Int)))) bd noT t.length (nL p + 1) [] := ⟨sD _ _ hbd, ⟨[], rfl, List.nodup_nil, fun k m => absurd m (by simp)⟩, fun i j => .inl ⟨rfl, rfl⟩⟩
      have hD0 : L2.upd H D (.lst (ls.map fun (s : Nat) => V.int (s : Int))) D = some (.lst (ls.map fun (s : Nat) => V.int (s : Int))) := upd_same
      generalize eH : L2.upd H D (.lst (ls.map fun (s : Nat) => V.int (s : Int))) = H0 at sD b0 hD0 ⊢
      have hb0 := sD _ _ hbd
      walk_at "r"
      refine forP (wk_list (K := K) (a := D) ls (fun (s : Nat) => V.int (s : Int))) (fun l σ H' => Stop (∃ (x3 : Option V) (kv : List (List Key × V)), σ = [some (.ref x), some (.int (t.length : Int)), some (.ref D), x3] ∧
        Kp [bd] H0 H' ∧ BestAt H' bd (l.foldl (put0 t.length) noT) t.length (nL p + 1) kv)) ?_ ?_ ?_ ?_
      · exact Stop.i ⟨none, [], rfl, Kp.refl _ _, b0⟩
      · intro l σ H' h
        obtain ⟨_, _, _, kp', _⟩ := h.o
        exact SqL.of (kp' _ _ hD0 (Kp.bd_ne hD0 hb0 (by simp)))
      · intro l s rr σ H2 el h
        obtain ⟨x3, kv2, rfl, kq2, hb2⟩ := h.o
        have hs : s < nL p + 1 := by
          have : s ∈ ls := by rw [el]; simp
          exact ((hls s).mp this).1
        have hx2 := kq2 _ _ (sD _ _ hx) (Kp.bd_ne (sD _ _ hx) hb0 (by simp))
        have hbd2 := hb2.h
        have hlen := hb2.len
        walk_at "r"
        intro p1 hp1
        walk_at "r"
        intro p2 hp2
        walk_at "r"
        have s2 : ∀ u, Same H2 (L2.upd (L2.upd H2 p1 (.tup [.int ((0 : Nat) : Int), .int ((0 : Nat) : Int)])) p2 u) := fun u b o h => upd_old hp2 (upd_old hp1 h)
        refine Stop.i ⟨_, putK kv2 (kp2 t.length s) (.ref p1), rfl, (kq2.trans (Kp.of (s2 _))).trans (Kp.upd (List.mem_singleton.mpr rfl)), ?_⟩
        rw [List.foldl_append]
        exact (hb2.same (s2 _)).put (x := (0, 0)) (Nat.le_refl _) hs (upd_old hp2 upd_same)
      · intro σ H2 h
        obtain ⟨x3, kv2, rfl, kq2, hb2⟩ := h.o
        have kq : Kp [bd] H H2 := (Kp.of sD).trans kq2
        have hx2 := kq _ _ hx (Kp.bd_ne hx hbd (by simp))
        have hH := half_last (t := t) (fol := folP p) (lt := ltP p) (en := fun s => s ∈ endP p) (L := nL p + 1) hls
        walk_at "r"
        refine ⟨x, bd, t.length, p, t, _, kv2, rfl, hm.kp hbd kq, hb2, hH.so, Nat.le_refl _, ht, hn, fun H' g kv' kp' hb' hup hso hput => ?_⟩
        exact k _ _ _ (kq.trans kp') hb' (hH.part hup hso hput)
theorem ok_Mender_fill {f : Addr} {fd : FuncData} (F : Fun K "fill" "Mender.fill" s_Mender_fill f fd) (T : Txt w K mg) (D_Mender_lessened : DfM P w K mg base 1 T.a_Mender "lessened" ["self", "place", "state", "told"] (spLess T.a_Mender))
    (D_Mender_spread : DfM P w K mg base 2 T.a_Mender "spread" ["self", "place"] (spSpread T.a_Mender T.a_Sets)) : FnOk P w K mg base (L2.CX P w) 3 f fd ["self", "place"] (spFill T.a_Mender T.a_Sets) := by
  refine F.okX sc_Mender_fill (fun vs H Q E h => ?_) (fun cdv A outer s H vs Q E hr h => ?_)
  · obtain ⟨_, _, _, _, _, _, _, rfl, _⟩ := h
    rfl
  · obtain ⟨x, bd, i, p, t, f, kvs, rfl, hm, hb, hpt, hi, ht, hn, k⟩ := h
    have hu := hu_of hr
    obtain ⟨dx, sx, st, hx, ⟨dsx, r, lo, fl, en, po, fds, h1, h2, h3, h4⟩, hst⟩ := hm.ex
    have hbd := hb.h
    obtain ⟨hfl, hfok⟩ := folP_ok p
    have hnL : nL p = (lots p).length := rfl
    have hTL : (t.length + 1) * (nL p + 1) ≤ 100000 := Nat.le_trans (Nat.mul_le_mul (show t.length + 1 ≤ 301 by omega) (show nL p + 1 ≤ 301 by omega)) (by decide)
    refine ⟨_, PSs.nox (pss_cons (ps_set (i := 2) sc_Mender_fill.nd rfl (by first | exact Or.inl rfl | exact Or.inr rfl) (pe_ix ixtx (pe_fd (pv 0) T.f_Mender_begun_text rfl) (pv 1) (fun _ _ => rfl)))
    (pss_cons (ps_for PassesOwn.never rfl (pi_list (pe_fd (pv 0) T.f_Mender_states rfl)) (pg_name (i := 3) sc_Mender_fill.nd rfl (by first | exact Or.inl rfl | exact Or.inr rfl)) (pss_cons (ps_set (i := 4) sc_Mender_fill.nd rfl (by first | exact Or.inl rfl | exact Or.inr rfl) (pe_dget2R hu rGet2P.to (pe_fd (pv 0) T.f_Mender_best rfl) (pe_tup (pa_cons (pe_op oadd (pv 1) pe_int) (pa_cons (pv 3) pa_nil))) pe_non (m2_of rfl rfl rfl rfl)))
      (pss_cut (ps_if (pt_cmpR op_notN (pv 4) pe_non (nomark _)) (pss_one (ps_expr (pe_methF (pv 0) D_Mender_lessened (hr.mono (by decide)) passL (pa_cons (pv 1) (pa_cons (pv 3) (pa_cons (pe_tup (pa_cons (pe_op oadd (pe_ix ixt (pv 4) pe_int (fun _ _ => rfl)) pe_int) (pa_cons (pe_ix ixt (pv 4) pe_int (fun _ _ => rfl)) pa_nil))) pa_nil)))))) pss_nil)
      (pss_one (ps_lock (ps_for PassesOwn.never rfl (pi_keys (pe_ix ixlv (pe_fd (pe_fd (pv 0) T.f_Mender_sets rfl) T.f_Sets_follows rfl) (pv 3) (fun _ _ => rfl))) (pg_name (i := 5) sc_Mender_fill.nd rfl (by first | exact Or.inl rfl | exact Or.inr rfl)) (pss_cons (ps_set (i := 4) sc_Mender_fill.nd rfl (by first | exact Or.inl rfl | exact Or.inr rfl) (pe_dget2R hu rGet2P.to (pe_fd (pv 0) T.f_Mender_best rfl) (pe_tup (pa_cons (pe_op oadd (pv 1) pe_int) (pa_cons (pv 5) pa_nil))) pe_non (m2_of rfl rfl rfl rfl)))
        (pss_one (ps_if (pt_cmpR op_notN (pv 4) pe_non (nomark _)) (pss_cons (ps_set (i := 6) sc_Mender_fill.nd rfl (by first | exact Or.inl rfl | exact Or.inr rfl) (pe_callTy (cl_intB) (by rfl) T.b_int (by decide +kernel) (pa_cons (pe_cmpR oninC (pv 2) (pe_ix ixlv (pe_fd (pe_fd (pv 0) T.f_Mender_sets rfl) T.f_Sets_lots rfl) (pe_op osub (pv 5) pe_int) (fun _ _ => rfl)) (by rfl)) pa_nil)))
          (pss_one (ps_expr (pe_methF (pv 0) D_Mender_lessened (hr.mono (by decide)) passL (pa_cons (pv 1) (pa_cons (pv 3) (pa_cons (pe_tup (pa_cons (pe_op oadd (pe_ix ixt (pv 4) pe_int (fun _ _ => rfl)) (pv 6)) (pa_cons (pe_op oadd (pe_ix ixt (pv 4) pe_int (fun _ _ => rfl)) pe_int) pa_nil))) pa_nil))))))) pss_nil)))))))))
    (pss_one (ps_expr (pe_methF (pv 0) D_Mender_spread (hr.mono (by decide)) passL (pa_cons (pv 1) pa_nil)))))), ?_⟩
    rw [show L2.start N_Mender_fill [V.ref x, V.int (i : Int)] = [some (V.ref x), some (V.int (i : Int)), none, none, none, none, none] from rfl]
    obtain ⟨c, hc⟩ : ∃ c, t[i]? = some c := ⟨_, List.getElem?_eq_getElem hi⟩
    walk_at "r"
    refine ⟨_, ⟨atI_nat hc⟩, ?_⟩
    walk_at "r"
    refine forP (wk_list (K := K) (a := st) (List.range (nL p + 1)) (fun (s : Nat) => V.int (s : Int))) (fun l σ H' => Stop (∃ (x3 x4 x5 x6 : Option V) (kv : List (List Key × V)), σ = [some (.ref x), some (.int (i : Int)), some (tx [c]), x3, x4, x5, x6] ∧
      Kp [bd] H H' ∧ BestAt H' bd (l.foldl (fillS (folP p) (ltP p) c i) f) t.length (nL p + 1) kv)) ?_ ?_ ?_ ?_
    · exact Stop.i ⟨none, none, none, none, kvs, rfl, Kp.refl _ _, hb⟩
    · intro l σ H' h
      obtain ⟨_, _, _, _, _, _, kp', _⟩ := h.o
      exact SqL.of (kp' _ _ hst (Kp.bd_ne hst hbd (by simp)))
    · intro l s rr σ H2 el h
      obtain ⟨x3, x4, x5, x6, kv2, rfl, kq2, hb2⟩ := h.o
      generalize ef : l.foldl (fillS (folP p) (ltP p) c i) f = a at hb2
      have hs : s < nL p + 1 := by
        have : s ∈ List.range (nL p + 1) := by rw [el]; simp
        exact List.mem_range.mp this
      have hx2 := kq2 _ _ hx (Kp.bd_ne hx hbd (by simp))
      obtain ⟨dm, hdm⟩ : ∃ dm, fds[s]? = some dm := ⟨_, List.getElem?_eq_getElem (by rw [h3.len, hfl]; exact hs)⟩
      obtain ⟨ks, hks⟩ : ∃ ks, (folP p)[s]? = some ks := ⟨_, List.getElem?_eq_getElem (by rw [hfl]; exact hs)⟩
      have egd : (folP p).getD s [] = ks := by rw [List.getD_eq_getElem?_getD, hks]; rfl
      have esw : (l ++ [s]).foldl (fillS (folP p) (ltP p) c i) f = ks.foldl (fillJ (ltP p) c i s) (takeS i s a) := by
        rw [List.foldl_append, ef]
        show fillS (folP p) (ltP p) c i a s = _
        unfold fillS
        rw [egd]
      have hbd2 := hb2.h
      walk_at "r"
      intro p1 hp1
      walk_at "r"
      refine ⟨fun σ' H' => Stop (∃ (x4 : Option V) (kv : List (List Key × V)), σ' = [some (.ref x), some (.int (i : Int)), some (tx [c]), some (.int (s : Int)), x4, x5, x6] ∧ Kp [bd] H H' ∧ BestAt H' bd (takeS i s a) t.length (nL p + 1) kv), ?_, ?_⟩
      · have sp : Same H2 (L2.upd H2 p1 (.tup [.int ((i + 1 : Nat) : Int), .int (s : Int)])) := fun b o h => upd_old hp1 h
        have e1 : valV kv2 [Sum.inl ((i : Int) + 1), Sum.inl (s : Int)] = valV kv2 (kp2 (i + 1) s) := rfl
        rw [e1]
        rcases hb2.v (i + 1) s with ⟨fn, vn⟩ | ⟨y, ya, fy, vy, hy⟩
        · rw [vn]
          have et : takeS i s a = a := by unfold takeS; rw [fn]
          walk_at "r"
          exact Stop.i ⟨_, kv2, rfl, kq2.trans (Kp.of sp), by rw [et]; exact hb2.same sp⟩
        · rw [vy]
          have et : takeS i s a = (less1 a i s (y.1 + 1, y.2)).1 := by unfold takeS; rw [fy]
          walk_at "r"
          intro p2 hp2
          have s2 : Same H2 (L2.upd (L2.upd H2 p1 (.tup [.int ((i + 1 : Nat) : Int), .int (s : Int)])) p2 (.tup [.int ((y.1 + 1 : Nat) : Int), .int (y.2 : Nat)])) := fun b o h => upd_old hp2 (upd_old hp1 h)
          refine ⟨x, dx, p2, bd, i, s, t.length, nL p + 1, (y.1 + 1, y.2), a, kv2, _, _, _, rfl, s2 _ _ hx2, upd_same, hb2.same s2, by omega, hs, hTL, fun H4 kv4 kp4 hb4 => ?_⟩
          exact Stop.i ⟨_, kv4, rfl, (kq2.trans (Kp.of s2)).trans kp4, by rw [et]; exact hb4⟩
      · intro σ' H3 h
        obtain ⟨x4, kv3, rfl, kq3, hb3⟩ := h.o
        generalize eA : takeS i s a = A0 at hb3 esw
        have hx3 := kq3 _ _ hx (Kp.bd_ne hx hbd (by simp))
        have hs3 := kq3 _ _ h1 (Kp.bd_ne h1 hbd (by simp))
        have hlo3 := kq3 _ _ h2 (Kp.bd_ne h2 hbd (by simp))
        have hfo3 := h3.kp kq3 hbd (by simp) (by simp)
        have hkd := hfo3.at_ s dm ks hdm hks
        have hfl3 := hfo3.l
        refine ⟨dm, _, hkd, trivial, fun od => ?_⟩
        have tp : ∀ q xs, H3 q = some (.tup xs) → L2.upd H3 dm (.frz od (.dK (dk ks))) q = some (.tup xs) := fun q xs e => (upd_ne (ne_of e hkd (by simp))).trans e
        have hbf := hb3.mono ((upd_ne (o := .frz od (.dK (dk ks))) (ne_of hb3.h hkd (by simp))).trans hb3.h) tp
        have hxf := (upd_ne (o := .frz od (.dK (dk ks))) (ne_of hx3 hkd (by simp))).trans hx3
        have hsf := (upd_ne (o := .frz od (.dK (dk ks))) (ne_of hs3 hkd (by simp))).trans hs3
        have hlf := (upd_ne (o := .frz od (.dK (dk ks))) (ne_of hlo3 hkd (by simp))).trans hlo3
        have hff := (upd_ne (o := .frz od (.dK (dk ks))) (ne_of hfl3 hkd (by simp))).trans hfl3
        generalize eF : L2.upd H3 dm (.frz od (.dK (dk ks))) = Hf at hbf hxf hsf hff hlf ⊢
        have hdf : Hf dm = some (.frz od (.dK (dk ks))) := by rw [← eF]; exact upd_same
        have hbdf := hbf.h
        walk_at "r"
        refine ⟨_, ⟨atI_nat (by rw [List.getElem?_map, hdm]; rfl)⟩, ?_⟩
        refine ⟨dm, od, rfl, .inl ⟨dk ks, hdf, ?_⟩⟩
        refine forP (wk_keys (d := dm) (o := od) (dk ks)) (fun done σ H' => Stop (∃ (x4 x5 x6 : Option V) (d : List Nat) (kv : List (List Key × V)), done = dk d ∧ σ = [some (.ref x), some (.int (i : Int)), some (tx [c]), some (.int (s : Int)), x4, x5, x6] ∧
          Kp [bd] Hf H' ∧ BestAt H' bd (d.foldl (fillJ (ltP p) c i s) A0) t.length (nL p + 1) kv)) ?_ ?_ ?_ ?_
        · exact Stop.i ⟨x4, x5, x6, [], kv3, rfl, rfl, Kp.refl _ _, hbf⟩
        · intro d σ H' h
          obtain ⟨_, _, _, _, _, _, _, kp', _⟩ := h.o
          exact kp' _ _ hdf (Kp.bd_ne hdf hbdf (by simp))
        · intro done kx rr2 σ H4 el2 h
          obtain ⟨x4, x5, x6, d, kv4, rfl, rfl, kq4, hb4⟩ := h.o
          obtain ⟨j, rfl, hj⟩ : ∃ j : Nat, kx = ((Sum.inl (j : Int) : Key), V.bl true) ∧ j ∈ ks := by
            have ha : kx ∈ dk ks := by rw [el2]; simp
            unfold dk at ha
            obtain ⟨m, hm, rfl⟩ := List.mem_map.mp ha
            exact ⟨m, rfl, hm⟩
          have hx4 := kq4 _ _ hxf (Kp.bd_ne hxf hbdf (by simp))
          have hs4 := kq4 _ _ hsf (Kp.bd_ne hsf hbdf (by simp))
          have hlo4 := kq4 _ _ hlf (Kp.bd_ne hlf hbdf (by simp))
          have hbd4 := hb4.h
          have hjb := fo_bd (p := p) (s := s) (j := j) ⟨ks, hks, hj⟩
          have ej : (j : Int) - 1 = ((j - 1 : Nat) : Int) := by omega
          generalize eb : d.foldl (fillJ (ltP p) c i s) A0 = b at hb4
          have et : (d ++ [j]).foldl (fillJ (ltP p) c i s) A0 = fillJ (ltP p) c i s b j := by rw [List.foldl_append, eb]; rfl
          have edk : dk d ++ [((Sum.inl (j : Int) : Key), V.bl true)] = dk (d ++ [j]) := by simp [dk]
          walk_at "r"
          intro p1 hp1
          walk_at "r"
          have e1 : valV kv4 [Sum.inl ((i : Int) + 1), Sum.inl (j : Int)] = valV kv4 (kp2 (i + 1) j) := rfl
          rw [e1]
          have sp : Same H4 (L2.upd H4 p1 (.tup [.int ((i + 1 : Nat) : Int), .int (j : Int)])) := fun b o h => upd_old hp1 h
          rcases hb4.v (i + 1) j with ⟨fn, vn⟩ | ⟨y, ya, fy, vy, hy⟩
          · rw [vn]
            have et' : (d ++ [j]).foldl (fillJ (ltP p) c i s) A0 = b := et.trans (by unfold fillJ; rw [fn])
            refine iteNF rfl ?_
            refine Stop.i ⟨_, _, _, d ++ [j], kv4, edk, rfl, kq4.trans (Kp.of sp), by rw [et']; exact hb4.same sp⟩
          · rw [vy]
            refine iteNT (by simp) ?_
            walk_at "r"
            have hlj : (lots p)[j - 1]? = some (ltP p j) := by
              have hl : j - 1 < (lots p).length := by omega
              unfold ltP
              rw [List.getD_eq_getElem?_getD, List.getElem?_eq_getElem hl]
              rfl
            refine ⟨tx (ltP p j), ⟨by rw [ej]; exact atI_nat (by rw [List.getElem?_map, hlj]; rfl)⟩, ?_⟩
            walk_at "r"
            intro p2 hp2
            have et' : (d ++ [j]).foldl (fillJ (ltP p) c i s) A0 = (less1 b i s (y.1 + (if c ∈ ltP p j then 0 else 1), y.2 + 1)).1 := et.trans (by unfold fillJ; rw [fy])
            have ey : (y.1 : Int) + (if (!decide (c ∈ ltP p j)) = true then 1 else 0) = ((y.1 + (if c ∈ ltP p j then 0 else 1) : Nat) : Int) := by
              by_cases q : c ∈ ltP p j <;> simp [q]
            have s2 : ∀ u, Same H4 (L2.upd (L2.upd H4 p1 (.tup [.int ((i + 1 : Nat) : Int), .int (j : Int)])) p2 u) := fun u b o h => upd_old hp2 (upd_old hp1 h)
            refine ⟨x, dx, p2, bd, i, s, t.length, nL p + 1, (y.1 + (if c ∈ ltP p j then 0 else 1), y.2 + 1), b, kv4, _, _, _, rfl, s2 _ _ _ hx4, upd_same.trans (congrArg (fun z => some (HO.tup [V.int z, V.int ((y.2 : Int) + 1)])) ey), hb4.same (s2 _), by omega, hs, hTL, fun H5 kv5 kp5 hb5 => ?_⟩
            exact Stop.i ⟨_, _, _, d ++ [j], kv5, edk, rfl, (kq4.trans (Kp.of (s2 _))).trans kp5, by rw [et']; exact hb5⟩
        · intro σ H4 h
          obtain ⟨x4, x5, x6, d, kv4, ed, rfl, kq4, hb4⟩ := h.o
          have hd4 := kq4 _ _ hdf (Kp.bd_ne hdf hbdf (by simp))
          refine ⟨hd4, ?_⟩
          have hle : d = ks := by
            have := congrArg (List.map fun (kv : Key × V) => match kv.1 with | .inl i => i.toNat | .inr _ => 0) ed
            simpa [dk, Function.comp_def] using this.symm
          subst hle
          refine Stop.i ⟨_, x4, x5, x6, kv4, rfl, fun b o hb nb => ?_, ?_⟩
          · by_cases q : b = dm
            · subst q
              have := h3.at_ s b d hdm hks
              rw [this] at hb
              obtain rfl := Option.some.inj hb
              exact upd_same
            · rw [upd_ne q]
              refine kq4 _ _ ?_ nb
              rw [← eF, upd_ne q]
              exact kq3 _ _ hb nb
          · rw [esw]
            exact hb4.mono ((upd_ne (ne_of hb4.h hd4 (by simp))).trans hb4.h) fun q xs e => (upd_ne (ne_of e hd4 (by simp))).trans e
    · intro σ H2 h
      obtain ⟨x3, x4, x5, x6, kv2, rfl, kq2, hb2⟩ := h.o
      have hH := hpt.fill hc
      have hx2 := kq2 _ _ hx (Kp.bd_ne hx hbd (by simp))
      walk_at "r"
      refine ⟨x, bd, i, p, t, _, kv2, rfl, hm.kp hbd kq2, hb2, hH.so, by omega, ht, hn, fun H' g kv' kp' hb' hup hso hput => ?_⟩
      exact k _ _ _ (kq2.trans kp') hb' (hH.part hup hso hput)
end
end FR
end
section
set_option Elab.async false
set_option linter.all false
set_option maxRecDepth 20000
set_option maxHeartbeats 1000000
namespace FR
open PySem PySem.Spec PyProof.Rows L2 FL
local macro_rules | `(tactic| walk_at "ne") => `(tactic| first | assumption | exact Ne.symm (by assumption))
local macro_rules | `(tactic| walk_at "hl") => `(tactic| first | assumption | exact upd_same | exact upd_old (by assumption) (by walk_at "hl") | exact (upd_ne (by walk_at "ne")).trans (by walk_at "hl"))
local macro_rules | `(tactic| walk_at "side") => `(tactic| first | rfl | assumption | omega | decide | exact Or.inl ⟨rfl, _, SqL.of (by walk_at "hl")⟩ | exact Or.inr (Or.inr (Or.inl ⟨rfl, Or.inl ⟨_, by walk_at "hl"⟩⟩)) | exact Or.inr (Or.inr (Or.inl ⟨rfl, Or.inr ⟨_, by walk_at "hl"⟩⟩)) | exact Or.inr ⟨by decide, by decide⟩ | exact Or.inl ⟨by omega, by omega⟩ | exact ⟨by decide, by decide, by decide⟩ | exact ⟨by first | omega | decide, by first | omega | decide⟩ | exact Nat.le_of_ble_eq_true rfl | exact Nat.le_trans (m := 1000000) (by omega) (by decide) | exact Nat.lt_of_le_of_lt (m := 1000000) (by omega) (by decide) | exact ⟨by omega, by omega, by omega, by omega⟩)
local macro_rules | `(tactic| walk_at "lk") => `(tactic| with_reducible first | exact lk_Sets_1_0 | exact lk_Sets_2_0 | exact lk_Sets_2_1 | exact lk_Sets_3_0 | exact lk_Sets_3_1 | exact lk_Sets_3_2 | exact lk_Sets_4_0 | exact lk_Sets_4_1 | exact lk_Sets_4_2 | exact lk_Sets_4_3 | exact lk_Sets_5_0 | exact lk_Sets_5_1 | exact lk_Sets_5_2 | exact lk_Sets_5_3 | exact lk_Sets_5_4 | exact lk_Mender_1_0 | exact lk_Mender_2_0 | exact lk_Mender_2_1 | exact lk_Mender_3_0 | exact lk_Mender_3_1 | exact lk_Mender_3_2 | exact lk_Mender_4_0 | exact lk_Mender_4_1 | exact lk_Mender_4_2 | exact lk_Mender_4_3)
local macro_rules | `(tactic| walk_at "pf") => `(tactic| with_reducible first | exact pf_Sets_1_0 | exact pf_Sets_2_0 | exact pf_Sets_2_1 | exact pf_Sets_3_0 | exact pf_Sets_3_1 | exact pf_Sets_3_2 | exact pf_Sets_4_0 | exact pf_Sets_4_1 | exact pf_Sets_4_2 | exact pf_Sets_4_3 | exact pf_Sets_5_0 | exact pf_Sets_5_1 | exact pf_Sets_5_2 | exact pf_Sets_5_3 | exact pf_Sets_5_4 | exact pn_Sets_0 | exact pn_Sets_1 | exact pn_Sets_2 | exact pn_Sets_3 | exact pn_Sets_4 | exact pf_Mender_1_0 | exact pf_Mender_2_0 | exact pf_Mender_2_1 | exact pf_Mender_3_0 | exact pf_Mender_3_1 | exact pf_Mender_3_2 | exact pf_Mender_4_0 | exact pf_Mender_4_1 | exact pf_Mender_4_2 | exact pf_Mender_4_3 | exact pn_Mender_0 | exact pn_Mender_1 | exact pn_Mender_2 | exact pn_Mender_3)
local macro_rules | `(tactic| walk_at "no") => `(tactic| with_reducible first | exact no_Sets_0___init__ | exact no_Sets_1___init__ | exact no_Sets_2___init__ | exact no_Sets_3___init__ | exact no_Sets_4___init__ | exact no_Sets_5___init__ | exact no_Sets_0_join | exact no_Sets_1_join | exact no_Sets_2_join | exact no_Sets_3_join | exact no_Sets_4_join | exact no_Sets_5_join | exact no_Sets_0_told_of | exact no_Sets_1_told_of | exact no_Sets_2_told_of | exact no_Sets_3_told_of | exact no_Sets_4_told_of | exact no_Sets_5_told_of | exact no_Sets_0_moved | exact no_Sets_1_moved | exact no_Sets_2_moved | exact no_Sets_3_moved | exact no_Sets_4_moved | exact no_Sets_5_moved | exact no_Sets_0_can_stop | exact no_Sets_1_can_stop | exact no_Sets_2_can_stop | exact no_Sets_3_can_stop | exact no_Sets_4_can_stop | exact no_Sets_5_can_stop | exact no_Mender_0___init__ | exact no_Mender_1___init__ | exact no_Mender_2___init__ | exact no_Mender_3___init__ | exact no_Mender_4___init__ | exact no_Mender_0_fill_last | exact no_Mender_1_fill_last | exact no_Mender_2_fill_last | exact no_Mender_3_fill_last | exact no_Mender_4_fill_last | exact no_Mender_0_spread | exact no_Mender_1_spread | exact no_Mender_2_spread | exact no_Mender_3_spread | exact no_Mender_4_spread | exact no_Mender_0_lessened | exact no_Mender_1_lessened | exact no_Mender_2_lessened | exact no_Mender_3_lessened | exact no_Mender_4_lessened | exact no_Mender_0_fill | exact no_Mender_1_fill | exact no_Mender_2_fill | exact no_Mender_3_fill | exact no_Mender_4_fill | exact no_Mender_0_least | exact no_Mender_1_least | exact no_Mender_2_least | exact no_Mender_3_least | exact no_Mender_4_least | exact no_Mender_0_steps_from | exact no_Mender_1_steps_from | exact no_Mender_2_steps_from | exact no_Mender_3_steps_from | exact no_Mender_4_steps_from | exact no_Mender_0_later | exact no_Mender_1_later | exact no_Mender_2_later | exact no_Mender_3_later | exact no_Mender_4_later | exact no_Mender_0_closed | exact no_Mender_1_closed | exact no_Mender_2_closed | exact no_Mender_3_closed | exact no_Mender_4_closed)
local macro_rules | `(tactic| walk_at "s") => `(tactic| first
   | refine ⟨_, rfl, ?_⟩
   | refine ⟨_, _, rfl, rfl, ?_⟩
   | refine ⟨_, _, rfl, ?_⟩
   | refine iteT ?_
   | refine iteF ?_
   | refine ⟨_, (show _ = some _ by walk_at "hl"), ?_⟩
   | refine ⟨_, (show Ins _ _ _ _ from Ins.of (by walk_at "hl")), ?_⟩
   | refine ⟨_, (show Lk _ _ _ by walk_at "lk"), ?_⟩
   | refine ⟨_, (show Pf _ _ _ _ by walk_at "pf"), ?_⟩
   | refine And.intro (show NoL _ _ by walk_at "no") ?_
   | refine ⟨_, _, rfl, SqL.of (by walk_at "hl"), ?_⟩
   | refine ⟨_, _, rfl, SqT.of (by walk_at "hl"), ?_⟩
   | refine And.intro ⟨_, SqL.of (by walk_at "hl")⟩ ?_
   | refine And.intro (by walk_at "side") ?_)
local macro_rules | `(tactic| walk_at "si") => `(tactic| first
   | walk_at "s"
   | refine iteD (fun _ => ?_) (fun _ => ?_)
   | refine iteDn (fun _ => ?_) (fun _ => ?_))
local macro_rules | `(tactic| walk_at "r") => `(tactic| repeat walk_at "s")
local macro_rules | `(tactic| walk_at "ri") => `(tactic| repeat walk_at "si")

local macro_rules | `(tactic| walk_at "side") => `(tactic| exact trivial)
abbrev N_Mender___init__ : List Str := ["self", "pattern", "text", "place"]
theorem sc_Mender___init__ : FnScope N_Mender___init__ ["self", "pattern", "text"] (defScope s_Mender___init__) := ⟨rfl, rfl, rfl, by decide +kernel, rfl, by decide +kernel, by decide +kernel⟩
abbrev N_Mender_least : List Str := ["self"]
theorem sc_Mender_least : FnScope N_Mender_least ["self"] (defScope s_Mender_least) := ⟨rfl, rfl, rfl, by decide +kernel, rfl, by decide +kernel, by decide +kernel⟩
abbrev N_mend_price : List Str := ["pattern", "text", "told"]
theorem sc_mend_price : FnScope N_mend_price ["pattern", "text"] (defScope s_mend_price) := ⟨rfl, rfl, rfl, by decide +kernel, rfl, by decide +kernel, by decide +kernel⟩
section
variable {P : Program} {w : World} {K : PySem.W.Frag} {mg : Str → Option Value} {base : Heap}
def spMender (Cm Cs : Addr) : Sp := fun vs H Q _ => ∃ (x dx : Addr) (v : V) (p : Pat) (t : List Nat), vs = [.ref x, v, tx t] ∧ H x = some (.ins Cm dx []) ∧ PatAt H v p ∧ p.size ≤ 300 ∧ t.length ≤ 300 ∧
  ∀ H' bd g kvs, Kp [x] H H' → MdAt Cm Cs H' x bd p t → BestAt H' bd g t.length (nL p + 1) kvs → Done p t g → Q .non H'
def spLeast (C : Addr) : Sp := fun vs H Q _ => ∃ (x dx bd : Addr) (T L : Nat) (f : Tab) (kvs : List (List Key × V)) (v0 v1 v2 : V), vs = [.ref x] ∧ H x = some (.ins C dx (fl_Mender_4 v0 v1 v2 (.ref bd))) ∧ BestAt H bd f T L kvs ∧
  ∀ H' r, Same H H' → ((f 0 0 = none ∧ r = .non) ∨ ∃ y a, f 0 0 = some y ∧ r = .ref a ∧ H' a = some (.tup [.int (y.1 : Nat), .int (y.2 : Nat)])) → Q r H'
def ResP (p : Pat) (t : List Nat) (r : V) : Prop := (∃ n : Nat, IsMin (PrP p t) n ∧ r = .int (n : Int)) ∨ (r = .non ∧ ∀ n, ¬ PrP p t n)
def spMendPrice : Sp := fun vs H Q _ => ∃ (v : V) (p : Pat) (t : List Nat), vs = [v, tx t] ∧ PatAt H v p ∧ Small p ∧ isTx t = true ∧ ∀ H' r, Same H H' → ResP p t r → Q r H'
theorem ok_Mender_least {f : Addr} {fd : FuncData} (F : Fun K "least" "Mender.least" s_Mender_least f fd) (T : Txt w K mg) : FnOk P w K mg base (L2.CX P w) 1 f fd ["self"] (spLeast T.a_Mender) := by
  refine F.okX sc_Mender_least (fun vs H Q E h => ?_) (fun cdv A outer s H vs Q E hr h => ?_)
  · obtain ⟨_, _, _, _, _, _, _, _, _, _, rfl, _⟩ := h
    rfl
  · obtain ⟨x, dx, bd, TT, L, f, kvs, v0, v1, v2, rfl, hx, hb, k⟩ := h
    have hu := hu_of hr
    have hbd := hb.h
    refine ⟨_, PSs.nox (pss_one (ps_ret (pe_dget2R hu rGet2P.to (pe_fd (pv 0) T.f_Mender_best rfl) (pe_tup (pa_cons pe_int (pa_cons pe_int pa_nil))) pe_non (m2_of rfl rfl rfl rfl)))), ?_⟩
    rw [show L2.start N_Mender_least [V.ref x] = [some (V.ref x)] from rfl]
    walk_at "r"
    intro p1 hp1
    walk_at "r"
    have e1 : valV kvs [Sum.inl (0 : Int), Sum.inl (0 : Int)] = valV kvs (kp2 0 0) := rfl
    have s1 : ∀ u, Same H (L2.upd H p1 u) := fun u b o h => upd_old hp1 h
    rw [e1]
    rcases hb.v 0 0 with ⟨fn, vn⟩ | ⟨y, ya, fy, vy, hy⟩
    · rw [vn]
      exact k _ _ (s1 _) (.inl ⟨fn, rfl⟩)
    · rw [vy]
      exact k _ _ (s1 _) (.inr ⟨y, ya, fy, rfl, s1 _ _ _ hy⟩)
theorem ok_Mender___init__ {f : Addr} {fd : FuncData} (F : Fun K "__init__" "Mender.__init__" s_Mender___init__ f fd) (T : Txt w K mg) (D_Sets : DfC P w K mg base 3 T.a_Sets "Sets" ["self", "pattern"] (spSets T.a_Sets))
    (D_Mender_fill_last : DfM P w K mg base 3 T.a_Mender "fill_last" ["self"] (spFillLast T.a_Mender T.a_Sets)) (D_Mender_fill : DfM P w K mg base 3 T.a_Mender "fill" ["self", "place"] (spFill T.a_Mender T.a_Sets)) :
    FnOk P w K mg base (L2.CX P w) 5 f fd ["self", "pattern", "text"] (spMender T.a_Mender T.a_Sets) := by
  refine F.okX sc_Mender___init__ (fun vs H Q E h => ?_) (fun cdv A outer s H vs Q E hr h => ?_)
  · obtain ⟨_, _, _, _, _, rfl, _⟩ := h
    rfl
  · obtain ⟨x, dx, v, p, t, rfl, hx, hp, hs, ht, k⟩ := h
    have hu := hu_of hr
    refine ⟨_, PSs.nox (pss_cons (ps_fd (pv 0) (pe_makeD D_Sets (hr.mono (by decide)) passL (pa_cons (pv 1) pa_nil)) T.f_Mender_sets rfl)
    (pss_cons (ps_fd (pv 0) (pv 2) T.f_Mender_begun_text rfl)
    (pss_cons (ps_fd (pv 0) (pe_listRg rfl (by rfl) T.b_list (prg_1 (by rfl) T.b_range (pe_callB (cl_lenL) (by rfl) T.b_len (by decide +kernel) (pa_cons (pe_fd (pe_fd (pv 0) T.f_Mender_sets rfl) T.f_Sets_follows rfl) pa_nil)))) T.f_Mender_states rfl)
    (pss_cut (ps_fd (pv 0) pe_dnewT T.f_Mender_best rfl)
    (pss_cons (ps_expr (pe_methF0 (pv 0) D_Mender_fill_last (hr.mono (by decide)) passL))
    (pss_one (ps_for PassesOwn.never rfl (pi_range3 rfl T.b_range (pa_cons (pe_op osub (pe_callB (cl_lenS) (by rfl) T.b_len (by decide +kernel) (pa_cons (pv 2) pa_nil)) pe_int) (pa_cons (pe_un un_neg pe_int) (pa_cons (pe_un un_neg pe_int) pa_nil)))) (pg_name (i := 3) sc_Mender___init__.nd rfl (by first | exact Or.inl rfl | exact Or.inr rfl)) (pss_one (ps_expr (pe_methF (pv 0) D_Mender_fill (hr.mono (by decide)) passL (pa_cons (pv 3) pa_nil))))))))))), ?_⟩
    rw [show L2.start N_Mender___init__ [V.ref x, v, tx t] = [some (V.ref x), some (v), some (tx t), none] from rfl]
    walk_at "r"
    intro sx dsx hsx hdsx nds
    have s1 : Same H (L2.upd (L2.upd H dsx (.own sx)) sx (.ins T.a_Sets dsx [])) := fun b o h => upd_old ((upd_ne nds.symm).trans hsx) (upd_old hdsx h)
    refine ⟨sx, dsx, v, p, rfl, upd_same, hp.mono (fun a xs e => s1 _ _ e), by omega, fun H2 kq2 hse => ⟨rfl, ?_⟩⟩
    have s2 : Same H H2 := fun b o h => kq2 _ _ (s1 _ _ h) (fun m => by obtain rfl := List.mem_singleton.mp m; rw [hsx] at h; cases h)
    have hx2 := s2 _ _ hx
    obtain ⟨d2, r, lo, fl, en, po, fds, e1, e2, e3, e4⟩ := hse
    have hfl := e3.l
    have nxs : x ≠ sx := ne_of_none hx hsx
    have nxf : x ≠ fl := ne_of hx2 hfl (by simp)
    obtain ⟨hfl', hfok⟩ := folP_ok p
    have hnL : nL p = (lots p).length := rfl
    have hn : nL p ≤ 300 := by have := lots_size p; omega
    have hfd : fds.length = nL p + 1 := by rw [e3.len, hfl']
    have hfm : (fds.map V.ref).length = nL p + 1 := by rw [List.length_map, hfd]
    walk_at "r"
    rw [hfm]
    intro lp hlp
    have nxp : x ≠ lp := ne_of_none (o := .ins T.a_Mender dx (fl_Mender_2 (.ref sx) (tx t))) upd_same hlp
    have elp : rgV 0 (((nL p + 1 : Nat) : Int)) = (List.range (nL p + 1)).map fun (s : Nat) => V.int (s : Int) := by
      unfold rgV
      rw [show (((nL p + 1 : Nat) : Int) - 0).toNat = nL p + 1 by omega]
      refine List.map_congr_left fun j _ => ?_
      rw [Int.zero_add]
    rw [elp]
    walk_at "r"
    refine ⟨fun σ' H' => Stop (∃ bd, σ' = [some (.ref x), some v, some (tx t), none] ∧ MdAt T.a_Mender T.a_Sets H' x bd p t ∧ H' bd = some (.dT []) ∧ H bd = none ∧ Kp [x] H H'), ?_, ?_⟩
    · walk_at "r"
      intro bd hbd
      have nxd : x ≠ bd := ne_of_none (o := .ins T.a_Mender dx (fl_Mender_3 (.ref sx) (tx t) (.ref lp))) upd_same hbd
      walk_at "r"
      have nsx : sx ≠ x := fun e => nxs e.symm
      have nlx : lo ≠ x := ne_of e2 hx2 (by simp)
      have nex : en ≠ x := ne_of e4 hx2 (by simp)
      have nlp : lp ≠ x := fun e => nxp e.symm
      refine Stop.i ⟨bd, rfl, ⟨dx, sx, lp, upd_same, ⟨d2, r, lo, fl, en, po, fds, ?_, ?_, e3.keep ?_ ?_, ?_⟩, ?_⟩, ?_, ?_, fun b o hb nb => ?_⟩
      · walk_at "hl"
      · walk_at "hl"
      · exact Eq.trans (b := some (.lst (fds.map V.ref))) (by walk_at "hl") hfl.symm
      · intro d hd ks e
        have ndx : d ≠ x := ne_of e hx2 (by simp)
        walk_at "hl"
      · walk_at "hl"
      · walk_at "hl"
      · walk_at "hl"
      · have h9 := of_none hbd
        cases hq : H bd with
        | none => rfl
        | some o =>
          have h8 := s2 _ _ hq
          have h7 : bd ≠ x := fun e => nxd e.symm
          rw [upd_ne h7] at hbd
          have h6 : bd ≠ lp := fun e => by subst e; rw [upd_same] at hbd; cases hbd
          rw [upd_ne h6, upd_ne h7, upd_ne h7, h8] at hbd
          cases hbd
      · have h8 := s2 _ _ hb
        have nbx : b ≠ x := fun e => nb (by rw [e]; exact List.mem_singleton.mpr rfl)
        walk_at "hl"
    · intro σ' HB h
      obtain ⟨bd, rfl, hm, hbd, hbn, kpB⟩ := h.o
      obtain ⟨dxB, sxB, stB, hxB, _, _⟩ := hm.ex
      have nb : ∀ b o, H b = some o → b ∉ [bd] := fun b o hb m => by obtain rfl := List.mem_singleton.mp m; rw [hbn] at hb; cases hb
      have fin : ∀ H', Kp [bd] HB H' → Kp [x] H H' := fun H' kp b o hb nb' => kp _ _ (kpB _ _ hb nb') (nb _ _ hb)
      walk_at "r"
      refine ⟨x, bd, p, t, rfl, hm, hbd, ht, hn, fun H4 g kv kp4 hb4 hpt => ?_⟩
      have hx4 := kp4 _ _ hxB (Kp.bd_ne hxB hbd (by simp))
      walk_at "r"
      refine ⟨(t.length : Int) - 1, -1, -1, t.length, rfl, ?_, ?_⟩
      · have := RgC.neg (i := (t.length : Int) - 1) (j := -1) (by omega) (by omega) (by decide) (by decide)
        rw [show ((t.length : Int) - 1 - -1).toNat = t.length by omega] at this
        exact this
      refine for_rangeC (fun i σ H' => Stop (∃ (x3 : Option V) (g : Tab) (kv : List (List Key × V)), σ = [some (.ref x), some v, some (tx t), x3] ∧ Kp [bd] HB H' ∧ BestAt H' bd g t.length (nL p + 1) kv ∧ PartP p t g (t.length - i))) ?_ ?_ ?_
      · exact Stop.i ⟨none, g, kv, rfl, kp4, hb4, hpt⟩
      · intro i σ H5 hi h
        obtain ⟨x3, g5, kv5, rfl, kp5, hb5, hp5⟩ := h.o
        obtain ⟨kk, hkk⟩ : ∃ kk, t.length - i = kk + 1 := ⟨t.length - i - 1, by omega⟩
        rw [hkk] at hp5
        have en : (t.length : Int) - 1 + (i : Nat) * (-1) = (kk : Int) := by omega
        rw [en]
        have hx5 := kp5 _ _ hxB (Kp.bd_ne hxB hbd (by simp))
        have ek : t.length - (i + 1) = kk := by omega
        walk_at "r"
        refine ⟨x, bd, kk, p, t, g5, kv5, rfl, hm.kp hbd kp5, hb5, hp5, by omega, ht, hn, fun H6 g6 kv6 kp6 hb6 hp6 => ?_⟩
        exact Stop.i ⟨_, g6, kv6, rfl, kp5.trans kp6, hb6, by rw [ek]; exact hp6⟩
      · intro σ H5 h
        obtain ⟨x3, g5, kv5, rfl, kp5, hb5, hp5⟩ := h.o
        rw [Nat.sub_self] at hp5
        exact k _ bd g5 kv5 (fin _ kp5) (hm.kp hbd kp5) hb5 hp5.done
theorem ok_mend_price {f : Addr} {fd : FuncData} (F : Fun K "mend_price" "mend_price" s_mend_price f fd) (T : Txt w K mg) (D_check_pattern : Df P w K mg base 5 "check_pattern" ["thing"] (spCheckPattern T)) (D_check_text : Df P w K mg base 3 "check_text" ["thing"] (spCheckText T))
    (D_Mender : DfC P w K mg base 5 T.a_Mender "Mender" ["self", "pattern", "text"] (spMender T.a_Mender T.a_Sets)) (D_Mender_least : DfM P w K mg base 1 T.a_Mender "least" ["self"] (spLeast T.a_Mender)) :
    FnOk P w K mg base (L2.CX P w) 7 f fd ["pattern", "text"] spMendPrice := by
  refine F.okX sc_mend_price (fun vs H Q E h => ?_) (fun cdv A outer s H vs Q E hr h => ?_)
  · obtain ⟨_, _, _, rfl, _⟩ := h
    rfl
  · obtain ⟨v, p, t, rfl, hp, hsm, ht, k⟩ := h
    have lt := isTx_len ht
    refine ⟨_, PSs.nox (pss_cons (ps_expr (pe_callD D_check_pattern (hr.mono (by decide)) passL (pa_cons (pv 0) pa_nil)))
    (pss_cons (ps_expr (pe_callD D_check_text (hr.mono (by decide)) passL (pa_cons (pv 1) pa_nil)))
    (pss_cons (ps_set (i := 2) sc_mend_price.nd rfl (by first | exact Or.inl rfl | exact Or.inr rfl) (pe_methF0 (pe_makeD D_Mender (hr.mono (by decide)) passL (pa_cons (pv 0) (pa_cons (pv 1) pa_nil))) D_Mender_least (hr.mono (by decide)) passL))
    (pss_one (ps_ret (pe_ifExp (pt_cmpR op_isN (pv 2) pe_non (nomark _)) pe_non (pe_ix ixt (pv 2) pe_int (fun _ _ => rfl)))))))), ?_⟩
    rw [show L2.start N_mend_price [v, tx t] = [some (v), some (tx t), none] from rfl]
    walk_at "r"
    refine ⟨v, p, rfl, hp, hsm, fun H1 s1 => ?_⟩
    walk_at "r"
    refine .inl ⟨t, rfl, by omega, fun H2 s2 => ⟨fun _ => ?_, fun e => absurd (ht.symm.trans e) (by decide)⟩⟩
    walk_at "r"
    intro x dx hx0 hdx0 ndx
    have s3 : Same H2 (L2.upd (L2.upd H2 dx (.own x)) x (.ins T.a_Mender dx [])) := fun b o h => upd_old ((upd_ne ndx.symm).trans hx0) (upd_old hdx0 h)
    have hsz := hsm.2.1
    refine ⟨x, dx, v, p, t, rfl, upd_same, hp.mono (fun a xs e => s3 _ _ (s2 _ _ (s1 _ _ e))), by omega, by omega, fun H3 bd g kvs kp hm hb hd => ⟨rfl, ?_⟩⟩
    have s4 : Same H H3 := fun b o h => kp _ _ (s3 _ _ (s2 _ _ (s1 _ _ h))) (fun m => by obtain rfl := List.mem_singleton.mp m; rw [s2 _ _ (s1 _ _ h)] at hx0; cases hx0)
    obtain ⟨dx', sx, st, hx3, _, _⟩ := hm.ex
    walk_at "r"
    refine ⟨x, dx', bd, t.length, nL p + 1, g, kvs, _, _, _, rfl, hx3, hb, fun H4 r s5 hr => ?_⟩
    have s6 := s4.trans s5
    rcases hr with ⟨h0, rfl⟩ | ⟨y, a, h0, rfl, ha⟩
    · walk_at "r"
      exact k _ _ s6 (.inr ⟨rfl, hd.none h0⟩)
    · walk_at "r"
      exact k _ _ s6 (.inl ⟨y.1, hd.least hsm.1 h0, rfl⟩)
end
end FR
end
section
set_option Elab.async false
set_option linter.all false
set_option maxRecDepth 20000
set_option maxHeartbeats 2000000
/-! Rules for values of either kind. -/
namespace FL
open PySem PySem.Spec PyProof.Rows L2
section
variable {X : Cx}
def rLenA : List V → Hp → VK → Prop := fun vs H Q => rLenL vs H Q ∨ rLenS vs H Q
theorem cl_lenA : CallR X (.builtin "len") rLenA := fun pins s σ H xs us Q I rx q => q.elim (fun q => cl_lenL pins s σ H xs us Q I rx q) (fun q => cl_lenS pins s σ H xs us Q I rx q)
def rIxA : R2 := fun x y H Q => rIxV x y H Q ∨ rIxTx x y H Q
theorem ixA : IxR X rIxA := fun value slice pins s σ H x y v u Q I rx ry q hs => q.elim (fun q => ixlv value slice pins s σ H x y v u Q I rx ry q hs) (fun q => ixtx value slice pins s σ H x y v u Q I rx ry q hs)
end
theorem atI_mem {α : Type} {xs : List α} {i : Int} (h0 : 0 ≤ i) (h : i < xs.length) : ∃ v, atI xs i = some v ∧ v ∈ xs := by
  obtain ⟨j, rfl⟩ := Int.eq_ofNat_of_zero_le h0
  have hj : j < xs.length := by omega
  exact ⟨xs[j], atI_nat (List.getElem?_eq_getElem hj), List.getElem_mem hj⟩
theorem glued_one : ∀ (l : List Nat), Txt.join ⟨[].toArray⟩ (l.map fun c => (⟨[c].toArray⟩ : Str)) = ⟨l.toArray⟩ := by
  intro l
  unfold Txt.join Builtin.Str.glued
  have g : ∀ (l : List Nat) (a : Array Nat), List.foldl (fun (acc : Array Nat) (p : Str) => acc ++ (⟨[].toArray⟩ : Str).cps ++ p.cps) a (l.map fun c => (⟨[c].toArray⟩ : Str)) = a ++ l.toArray := by
    intro l
    induction l with
    | nil => intro a; simp
    | cons c l ih =>
      intro a
      rw [List.map_cons, List.foldl_cons, ih]
      apply Array.ext'
      simp
  cases l with
  | nil => rfl
  | cons c l =>
    simp only [List.map_cons, List.headD_cons, List.drop_succ_cons, List.drop_zero]
    rw [g]
    congr 1
    apply Array.ext'
    simp
end FL
end
section
set_option Elab.async false
set_option linter.all false
set_option maxRecDepth 20000
set_option maxHeartbeats 1000000
namespace FR
open PySem PySem.Spec PyProof.Rows L2 FL
local macro_rules | `(tactic| walk_at "ne") => `(tactic| first | assumption | exact Ne.symm (by assumption))
local macro_rules | `(tactic| walk_at "hl") => `(tactic| first | assumption | exact upd_same | exact upd_old (by assumption) (by walk_at "hl") | exact (upd_ne (by walk_at "ne")).trans (by walk_at "hl"))
local macro_rules | `(tactic| walk_at "side") => `(tactic| first | rfl | assumption | omega | decide | exact Or.inl ⟨rfl, _, SqL.of (by walk_at "hl")⟩ | exact Or.inr (Or.inr (Or.inl ⟨rfl, Or.inl ⟨_, by walk_at "hl"⟩⟩)) | exact Or.inr (Or.inr (Or.inl ⟨rfl, Or.inr ⟨_, by walk_at "hl"⟩⟩)) | exact Or.inr ⟨by decide, by decide⟩ | exact Or.inl ⟨by omega, by omega⟩ | exact ⟨by decide, by decide, by decide⟩ | exact ⟨by first | omega | decide, by first | omega | decide⟩ | exact Nat.le_of_ble_eq_true rfl | exact Nat.le_trans (m := 1000000) (by omega) (by decide) | exact Nat.lt_of_le_of_lt (m := 1000000) (by omega) (by decide) | exact ⟨by omega, by omega, by omega, by omega⟩)
local macro_rules | `(tactic| walk_at "lk") => `(tactic| with_reducible first | exact lk_Sets_1_0 | exact lk_Sets_2_0 | exact lk_Sets_2_1 | exact lk_Sets_3_0 | exact lk_Sets_3_1 | exact lk_Sets_3_2 | exact lk_Sets_4_0 | exact lk_Sets_4_1 | exact lk_Sets_4_2 | exact lk_Sets_4_3 | exact lk_Sets_5_0 | exact lk_Sets_5_1 | exact lk_Sets_5_2 | exact lk_Sets_5_3 | exact lk_Sets_5_4 | exact lk_Mender_1_0 | exact lk_Mender_2_0 | exact lk_Mender_2_1 | exact lk_Mender_3_0 | exact lk_Mender_3_1 | exact lk_Mender_3_2 | exact lk_Mender_4_0 | exact lk_Mender_4_1 | exact lk_Mender_4_2 | exact lk_Mender_4_3)
local macro_rules | `(tactic| walk_at "pf") => `(tactic| with_reducible first | exact pf_Sets_1_0 | exact pf_Sets_2_0 | exact pf_Sets_2_1 | exact pf_Sets_3_0 | exact pf_Sets_3_1 | exact pf_Sets_3_2 | exact pf_Sets_4_0 | exact pf_Sets_4_1 | exact pf_Sets_4_2 | exact pf_Sets_4_3 | exact pf_Sets_5_0 | exact pf_Sets_5_1 | exact pf_Sets_5_2 | exact pf_Sets_5_3 | exact pf_Sets_5_4 | exact pn_Sets_0 | exact pn_Sets_1 | exact pn_Sets_2 | exact pn_Sets_3 | exact pn_Sets_4 | exact pf_Mender_1_0 | exact pf_Mender_2_0 | exact pf_Mender_2_1 | exact pf_Mender_3_0 | exact pf_Mender_3_1 | exact pf_Mender_3_2 | exact pf_Mender_4_0 | exact pf_Mender_4_1 | exact pf_Mender_4_2 | exact pf_Mender_4_3 | exact pn_Mender_0 | exact pn_Mender_1 | exact pn_Mender_2 | exact pn_Mender_3)
local macro_rules | `(tactic| walk_at "no") => `(tactic| with_reducible first | exact no_Sets_0___init__ | exact no_Sets_1___init__ | exact no_Sets_2___init__ | exact no_Sets_3___init__ | exact no_Sets_4___init__ | exact no_Sets_5___init__ | exact no_Sets_0_join | exact no_Sets_1_join | exact no_Sets_2_join | exact no_Sets_3_join | exact no_Sets_4_join | exact no_Sets_5_join | exact no_Sets_0_told_of | exact no_Sets_1_told_of | exact no_Sets_2_told_of | exact no_Sets_3_told_of | exact no_Sets_4_told_of | exact no_Sets_5_told_of | exact no_Sets_0_moved | exact no_Sets_1_moved | exact no_Sets_2_moved | exact no_Sets_3_moved | exact no_Sets_4_moved | exact no_Sets_5_moved | exact no_Sets_0_can_stop | exact no_Sets_1_can_stop | exact no_Sets_2_can_stop | exact no_Sets_3_can_stop | exact no_Sets_4_can_stop | exact no_Sets_5_can_stop | exact no_Mender_0___init__ | exact no_Mender_1___init__ | exact no_Mender_2___init__ | exact no_Mender_3___init__ | exact no_Mender_4___init__ | exact no_Mender_0_fill_last | exact no_Mender_1_fill_last | exact no_Mender_2_fill_last | exact no_Mender_3_fill_last | exact no_Mender_4_fill_last | exact no_Mender_0_spread | exact no_Mender_1_spread | exact no_Mender_2_spread | exact no_Mender_3_spread | exact no_Mender_4_spread | exact no_Mender_0_lessened | exact no_Mender_1_lessened | exact no_Mender_2_lessened | exact no_Mender_3_lessened | exact no_Mender_4_lessened | exact no_Mender_0_fill | exact no_Mender_1_fill | exact no_Mender_2_fill | exact no_Mender_3_fill | exact no_Mender_4_fill | exact no_Mender_0_least | exact no_Mender_1_least | exact no_Mender_2_least | exact no_Mender_3_least | exact no_Mender_4_least | exact no_Mender_0_steps_from | exact no_Mender_1_steps_from | exact no_Mender_2_steps_from | exact no_Mender_3_steps_from | exact no_Mender_4_steps_from | exact no_Mender_0_later | exact no_Mender_1_later | exact no_Mender_2_later | exact no_Mender_3_later | exact no_Mender_4_later | exact no_Mender_0_closed | exact no_Mender_1_closed | exact no_Mender_2_closed | exact no_Mender_3_closed | exact no_Mender_4_closed)
local macro_rules | `(tactic| walk_at "s") => `(tactic| first
   | refine ⟨_, rfl, ?_⟩
   | refine ⟨_, _, rfl, rfl, ?_⟩
   | refine ⟨_, _, rfl, ?_⟩
   | refine iteT ?_
   | refine iteF ?_
   | refine ⟨_, (show _ = some _ by walk_at "hl"), ?_⟩
   | refine ⟨_, (show Ins _ _ _ _ from Ins.of (by walk_at "hl")), ?_⟩
   | refine ⟨_, (show Lk _ _ _ by walk_at "lk"), ?_⟩
   | refine ⟨_, (show Pf _ _ _ _ by walk_at "pf"), ?_⟩
   | refine And.intro (show NoL _ _ by walk_at "no") ?_
   | refine ⟨_, _, rfl, SqL.of (by walk_at "hl"), ?_⟩
   | refine ⟨_, _, rfl, SqT.of (by walk_at "hl"), ?_⟩
   | refine And.intro ⟨_, SqL.of (by walk_at "hl")⟩ ?_
   | refine And.intro (by walk_at "side") ?_)
local macro_rules | `(tactic| walk_at "si") => `(tactic| first
   | walk_at "s"
   | refine iteD (fun _ => ?_) (fun _ => ?_)
   | refine iteDn (fun _ => ?_) (fun _ => ?_))
local macro_rules | `(tactic| walk_at "r") => `(tactic| repeat walk_at "s")
local macro_rules | `(tactic| walk_at "ri") => `(tactic| repeat walk_at "si")

abbrev N__law_hand : List Str := ["script", "cells", "cell"]
theorem sc__law_hand : FnScope N__law_hand ["script"] (defScope s__law_hand) := ⟨rfl, rfl, rfl, by decide +kernel, rfl, by decide +kernel, by decide +kernel⟩
abbrev N__law_draw : List Str := ["hand", "many", "cell", "digit", "number"]
theorem sc__law_draw : FnScope N__law_draw ["hand", "many"] (defScope s__law_draw) := ⟨rfl, rfl, rfl, by decide +kernel, rfl, by decide +kernel, by decide +kernel⟩
abbrev N__law_any : List Str := ["hand", "some"]
theorem sc__law_any : FnScope N__law_any ["hand", "some"] (defScope s__law_any) := ⟨rfl, rfl, rfl, by decide +kernel, rfl, by decide +kernel, by decide +kernel⟩
section
variable {P : Program} {w : World} {K : PySem.W.Frag} {mg : Str → Option Value} {base : Heap}
structure HandAt (H : Hp) (a c : Addr) : Prop where
  ex : ∃ (ns : List Int) (i g m t : Int), H a = some (.lst [.ref c, .int i, .int g, .int m, .int t]) ∧ H c = some (.lst (ns.map V.int)) ∧ c ≠ a ∧ (∀ n ∈ ns, 0 ≤ n) ∧ 0 ≤ i ∧ 0 ≤ g
theorem HandAt.upd {H : Hp} {a : Addr} {c : Addr} {ns : List Int} {i g m t : Int} (hc : H c = some (.lst (ns.map V.int))) (hca : c ≠ a) (hns : ∀ n ∈ ns, 0 ≤ n) (hi : 0 ≤ i) (hg : 0 ≤ g) : HandAt (L2.upd H a (.lst [.ref c, .int i, .int g, .int m, .int t])) a c :=
  ⟨ns, i, g, m, t, upd_same, (upd_ne hca).trans hc, hca, hns, hi, hg⟩
theorem HandAt.same {H H' : Hp} {a c : Addr} (h : HandAt H a c) (s : Same H H') : HandAt H' a c := by
  obtain ⟨ns, i, g, m, t, h1, h2, h3⟩ := h.ex
  exact ⟨ns, i, g, m, t, s _ _ h1, s _ _ h2, h3⟩
theorem HandAt.at_ {H : Hp} {a c : Addr} (h : HandAt H a c) : ∃ xs, H a = some (.lst xs) := by
  obtain ⟨ns, i, g, m, t, h1, h2, h3⟩ := h.ex
  exact ⟨_, h1⟩
theorem But.tups {H H' : Hp} {a c : Addr} (b : But a H H') (h : HandAt H a c) : Tups H H' := fun d xs e => by
  obtain ⟨ys, h1⟩ := h.at_
  exact b _ _ e (ne_of e h1 (by simp))
/-- new things beside the hand -/
theorem HandAt.new {H : Hp} {a c p : Addr} {o : HO} (h : HandAt H a c) (na : p ≠ a) (nc : p ≠ c) : HandAt (L2.upd H p o) a c := by
  obtain ⟨ns, i, g, m, t, h1, h2, h3⟩ := h.ex
  exact ⟨ns, i, g, m, t, (upd_ne (Ne.symm na)).trans h1, (upd_ne (Ne.symm nc)).trans h2, h3⟩
theorem HandAt.ne {H : Hp} {a c p : Addr} (h : HandAt H a c) (hp : H p = none) : p ≠ a ∧ p ≠ c := by
  obtain ⟨ns, i, g, m, t, h1, h2, h3⟩ := h.ex
  exact ⟨(ne_of_none h1 hp).symm, (ne_of_none h2 hp).symm⟩
theorem atI_int {ns : List Int} {i : Int} (h0 : 0 ≤ i) (h : i < ns.length) : ∃ z, atI (ns.map V.int) i = some (.int z) ∧ z ∈ ns := by
  obtain ⟨j, rfl⟩ := Int.eq_ofNat_of_zero_le h0
  have hj : j < ns.length := by omega
  exact ⟨ns[j], atI_nat (by rw [List.getElem?_map, List.getElem?_eq_getElem hj]; rfl), List.getElem_mem hj⟩
def spHand (K : PySem.W.Frag) : Sp := fun vs H Q _ => ∃ (a : Addr) (ns : List Int), vs = [.ref a] ∧ SqL K H a (ns.map V.int) ∧ ns.length ≤ 63 ∧ ∀ h c H', Same H H' → HandAt H' h c → Q (.ref h) H'
def spDraw : Sp := fun vs H Q _ => ∃ (a c : Addr) (n : Int), vs = [.ref a, .int n] ∧ HandAt H a c ∧ 0 < n ∧ n < 1000 ∧ ∀ r H', 0 ≤ r → r < n → HandAt H' a c → But a H H' → Q (.int r) H'
def spAny : Sp := fun vs H Q _ => ∃ (a c : Addr) (so : V), vs = [.ref a, so] ∧ HandAt H a c ∧ ((∃ l, so = tx l ∧ 0 < l.length ∧ l.length < 1000 ∧ ∀ z H', z ∈ l → HandAt H' a c → But a H H' → Q (tx [z]) H') ∨
  (∃ b xs, so = .ref b ∧ H b = some (.lst xs) ∧ b ≠ a ∧ 0 < xs.length ∧ xs.length < 1000 ∧ ∀ v H', v ∈ xs → HandAt H' a c → But a H H' → Q v H'))
theorem ok__law_hand {f : Addr} {fd : FuncData} (F : Fun K "_law_hand" "_law_hand" s__law_hand f fd) (T : Txt w K mg) : FnOk P w K mg base (L2.CX P w) 1 f fd ["script"] (spHand K) := by
  refine F.okX sc__law_hand (fun vs H Q E h => ?_) (fun cdv A outer s H vs Q E hr h => ?_)
  · obtain ⟨_, _, rfl, _⟩ := h
    rfl
  · obtain ⟨a, ns, rfl, ha, hn, k⟩ := h
    refine ⟨_, PSs.nox (pss_cons (ps_setLc (i := 1) (own := [("cell", 2)]) (g := gName 2) (tt := tYes) (by rfl) sc__law_hand.nd rfl rfl (sw_true rfl rfl rfl (by decide +kernel)) (pi_list (pe_slice sl_list (pv 0) po_none (po_some pe_int))) (blkOk_by (N := N__law_hand) (sc := defScope s__law_hand) (by decide +kernel)) (fun _ _ _ _ _ => (pg_name (i := 2) sc__law_hand.nd rfl (by first | exact Or.inl rfl | exact Or.inr rfl))) (fun _ _ _ _ _ => pts_nil) (fun _ _ _ _ _ => (pe_op omod (pe_callTy (cl_intI) (by rfl) T.b_int (by decide +kernel) (pa_cons (pe_callB (call_abs) (by rfl) T.b_abs (by decide +kernel) (pa_cons (pe_callTy (cl_intI) (by rfl) T.b_int (by decide +kernel) (pa_cons (pv 2) pa_nil)) pa_nil)) pa_nil)) (pe_op opow pe_int pe_int))))
    (pss_one (ps_ret (pe_lst (pa_cons (pv 1) (pa_cons pe_int (pa_cons pe_int (pa_cons (pe_op oadd pe_int (pe_op omul pe_int (pe_callB (cl_lenL) (by rfl) T.b_len (by decide +kernel) (pa_cons (pv 1) pa_nil)))) (pa_cons pe_int pa_nil))))))))), ?_⟩
    rw [show L2.start N__law_hand [V.ref a] = [some (V.ref a), none, none] from rfl]
    walk_at "r"
    refine ⟨a, _, rfl, ha, ?_⟩
    intro p hp
    have ecut : cutV (ns.map V.int) none (some 63) = ns.map V.int := by
      unfold cutV
      have h1 : HT.sIx (ns.map V.int).length 0 none = 0 := rfl
      have h2 : HT.sIx (ns.map V.int).length (ns.map V.int).length (some 63) = ns.length := by
        rw [List.length_map]
        show min 63 ns.length = ns.length
        omega
      rw [h1, h2, List.drop_zero, Nat.sub_zero]
      exact List.take_of_length_le (by rw [List.length_map]; exact Nat.le_refl _)
    rw [ecut]
    have hp2 : L2.upd H p (.lst (ns.map V.int)) p = some (.lst (ns.map V.int)) := upd_same
    have s1 : Same H (L2.upd H p (.lst (ns.map V.int))) := fun b o h => upd_old hp h
    generalize eH : L2.upd H p (.lst (ns.map V.int)) = H1 at hp2 s1 ⊢
    walk_at "r"
    intro D hD
    refine lcM hD (wk_list (K := K) (a := p) ns V.int) (fun z => .int ((if z < 0 then -z else z) % 10 ^ Int.toNat 36)) (by omega) (fun H' s' => SqL.of (s' _ _ hp2)) (fun _ => rfl) (fun z hz H' s' Q' q => ?_) ?_
    · walk_at "r"
      exact ⟨by show (0 : Int) < 10 ^ Int.toNat 36; decide, q⟩
    · walk_at "r"
      intro q hq
      have e : (ns.map fun z => V.int ((if z < 0 then -z else z) % 10 ^ Int.toNat 36)) = (ns.map fun z => (if z < 0 then -z else z) % 10 ^ Int.toNat 36).map V.int := by rw [List.map_map]; rfl
      have sD : Same H1 (L2.upd H1 D (.lst (ns.map fun z => V.int ((if z < 0 then -z else z) % 10 ^ Int.toNat 36)))) := fun b o h => upd_old hD h
      refine k q D _ (fun b o h => upd_old hq (sD _ _ (s1 _ _ h))) ⟨_, 0, 0, _, 0, upd_same, upd_old hq (by rw [← e]; exact upd_same), ?_, ?_, Int.le_refl _, Int.le_refl _⟩
      · exact ne_of_none upd_same hq
      · intro n hn
        obtain ⟨z, _, rfl⟩ := List.mem_map.mp hn
        exact Int.emod_nonneg _ (by decide)
theorem ok__law_draw {f : Addr} {fd : FuncData} (F : Fun K "_law_draw" "_law_draw" s__law_draw f fd) (T : Txt w K mg) : FnOk P w K mg base (L2.CX P w) 1 f fd ["hand", "many"] spDraw := by
  refine F.okX sc__law_draw (fun vs H Q E h => ?_) (fun cdv A outer s H vs Q E hr h => ?_)
  · obtain ⟨a, _, n, rfl, _⟩ := h
    rfl
  · obtain ⟨a, c, n, rfl, ⟨ns, i, g, m, t, ha, hc, hca, hns, hi, hg⟩, hn, hn2, k⟩ := h
    refine ⟨_, PSs.nox (pss_cut (ps_if (PW.pt (pw_and (pt_cmpR oeqI (pe_ix ixl (pv 0) pe_int (fun _ _ => rfl)) pe_int (nomark _)) (pw_and1 (pt_cmpR olt (pe_ix ixl (pv 0) pe_int (fun _ _ => rfl)) (pe_callB (cl_lenL) (by rfl) T.b_len (by decide +kernel) (pa_cons (pe_ix ixl (pv 0) pe_int (fun _ _ => rfl)) pa_nil)) (nomark _))))) (pss_cons (ps_set (i := 2) sc__law_draw.nd rfl (by first | exact Or.inl rfl | exact Or.inr rfl) (pe_ix ixlv (pe_ix ixl (pv 0) pe_int (fun _ _ => rfl)) (pe_ix ixl (pv 0) pe_int (fun _ _ => rfl)) (fun _ _ => rfl)))
      (pss_cons (ps_asg (pe_op oadd (pe_ix ixl (pv 0) pe_int (fun _ _ => rfl)) pe_int) (pg_sub (pv 0) pe_int set_l))
      (pss_cons (ps_asg (pe_op omod (pe_callTy (cl_intI) (by rfl) T.b_int (by decide +kernel) (pa_cons (pe_op oadd (pe_op oadd (pe_op omul (pe_ix ixl (pv 0) pe_int (fun _ _ => rfl)) pe_int) (pe_op omul (pv 2) pe_int)) pe_int) pa_nil)) pe_int) (pg_sub (pv 0) pe_int set_l))
      (pss_one (ps_if (pt_cmpR oge (pv 2) (pe_op opow pe_int pe_int) (nomark _)) (pss_one (ps_asg (pv 2) (pg_sub (pv 0) pe_int set_l))) pss_nil))))) pss_nil)
    (pss_cons (ps_if (pt_cmpR ogt (pe_ix ixl (pv 0) pe_int (fun _ _ => rfl)) pe_int (nomark _)) (pss_cons (ps_set (i := 3) sc__law_draw.nd rfl (by first | exact Or.inl rfl | exact Or.inr rfl) (pe_op omod (pe_callTy (cl_intI) (by rfl) T.b_int (by decide +kernel) (pa_cons (pe_ix ixl (pv 0) pe_int (fun _ _ => rfl)) pa_nil)) (pv 1)))
      (pss_cons (ps_asg (pe_op odiv (pe_ix ixl (pv 0) pe_int (fun _ _ => rfl)) (pv 1)) (pg_sub (pv 0) pe_int set_l))
      (pss_one (ps_ret (pv 3))))) pss_nil)
    (pss_cons (ps_asg (pe_op oadd (pe_ix ixl (pv 0) pe_int (fun _ _ => rfl)) pe_int) (pg_sub (pv 0) pe_int set_l))
    (pss_cons (ps_set (i := 4) sc__law_draw.nd rfl (by first | exact Or.inl rfl | exact Or.inr rfl) (pe_op omod (pe_callTy (cl_intI) (by rfl) T.b_int (by decide +kernel) (pa_cons (pe_op omul (pe_callTy (cl_intI) (by rfl) T.b_int (by decide +kernel) (pa_cons (pe_op oadd (pe_ix ixl (pv 0) pe_int (fun _ _ => rfl)) (pe_op omul pe_int (pe_ix ixl (pv 0) pe_int (fun _ _ => rfl)))) pa_nil)) pe_int) pa_nil)) pe_int))
    (pss_cons (ps_set (i := 4) sc__law_draw.nd rfl (by first | exact Or.inl rfl | exact Or.inr rfl) (pe_op omod (pe_callTy (cl_intI) (by rfl) T.b_int (by decide +kernel) (pa_cons (pe_op omul (pv 4) (pe_op oadd (pe_op odiv (pv 4) pe_int) pe_int)) pa_nil)) pe_int))
    (pss_cons (ps_set (i := 4) sc__law_draw.nd rfl (by first | exact Or.inl rfl | exact Or.inr rfl) (pe_op omod (pe_callTy (cl_intI) (by rfl) T.b_int (by decide +kernel) (pa_cons (pe_op omul (pv 4) (pe_op oadd (pe_op odiv (pv 4) pe_int) pe_int)) pa_nil)) pe_int))
    (pss_one (ps_ret (pe_op omod (pe_callTy (cl_intI) (by rfl) T.b_int (by decide +kernel) (pa_cons (pe_op odiv (pv 4) pe_int) pa_nil)) (pv 1)))))))))), ?_⟩
    rw [show L2.start N__law_draw [V.ref a, V.int n] = [some (V.ref a), some (V.int n), none, none, none] from rfl]
    refine ⟨fun σ' H' => Stop ((∃ v, σ' = [some (.ref a), some (.int n), v, none, none]) ∧ HandAt H' a c ∧ But a H H'), ?_, ?_⟩
    · walk_at "ri"
      · rename_i h1 h2
        rw [List.length_map] at h2
        obtain ⟨z, hz, hz2⟩ := atI_int hi h2
        refine ⟨_, ⟨hz⟩, ?_⟩
        have hz3 := hns z hz2
        walk_at "ri"
        · refine Stop.i ⟨⟨_, rfl⟩, HandAt.upd (by walk_at "hl") hca hns (by omega) (by omega), ((But.refl _ _).upd.upd.upd)⟩
        · refine Stop.i ⟨⟨_, rfl⟩, HandAt.upd (by walk_at "hl") hca hns (by omega) (by omega), ((But.refl _ _).upd.upd)⟩
      · exact Stop.i ⟨⟨_, rfl⟩, ⟨ns, i, g, m, t, ha, hc, hca, hns, hi, hg⟩, But.refl _ _⟩
      · exact Stop.i ⟨⟨_, rfl⟩, ⟨ns, i, g, m, t, ha, hc, hca, hns, hi, hg⟩, But.refl _ _⟩
    · intro σ' H' h
      obtain ⟨⟨v, rfl⟩, ⟨ns, i, g, m, t, ha, hc, hca, hns, hi, hg⟩, hb⟩ := h.o
      walk_at "ri"
      · exact k _ _ (Int.emod_nonneg _ (by omega)) (Int.emod_lt_of_pos _ hn) (HandAt.upd hc hca hns hi (Int.ediv_nonneg hg (by omega))) hb.upd
      · walk_at "ri"
        exact k _ _ (Int.emod_nonneg _ (by omega)) (Int.emod_lt_of_pos _ hn) (HandAt.upd hc hca hns hi hg) hb.upd
theorem ok__law_any {f : Addr} {fd : FuncData} (F : Fun K "_law_any" "_law_any" s__law_any f fd) (T : Txt w K mg) (D__law_draw : Df P w K mg base 1 "_law_draw" ["hand", "many"] spDraw) : FnOk P w K mg base (L2.CX P w) 2 f fd ["hand", "some"] spAny := by
  refine F.okX sc__law_any (fun vs H Q E h => ?_) (fun cdv A outer s H vs Q E hr h => ?_)
  · obtain ⟨_, _, _, rfl, _⟩ := h
    rfl
  · obtain ⟨a, cc, so, rfl, hh, k⟩ := h
    refine ⟨_, PSs.nox (pss_one (ps_ret (pe_ix ixA (pv 1) (pe_callD D__law_draw (hr.mono (by decide)) passL (pa_cons (pv 0) (pa_cons (pe_callB (cl_lenA) (by rfl) T.b_len (by decide +kernel) (pa_cons (pv 1) pa_nil)) pa_nil))) (fun _ _ => rfl)))), ?_⟩
    rw [show L2.start N__law_any [V.ref a, so] = [some (V.ref a), some (so)] from rfl]
    walk_at "r"
    rcases k with ⟨l, rfl, h0, h1, k⟩ | ⟨b, xs, rfl, hb, hba, h0, h1, k⟩
    · refine .inr ⟨l, rfl, Nat.le_trans (m := 1000000) (by omega) (by decide), a, cc, (l.length : Int), rfl, hh, by omega, by omega, fun r H' r0 r1 hh' bt => ?_⟩
      obtain ⟨c, e, hc⟩ := atI_mem r0 r1
      exact .inr ⟨l, rfl, _, rfl, Nat.le_trans (m := 1000000) (by omega) (by decide), c, ⟨e⟩, k c H' hc hh' bt⟩
    · refine .inl ⟨b, rfl, xs, hb, a, cc, (xs.length : Int), rfl, hh, by omega, by omega, fun r H' r0 r1 hh' bt => ?_⟩
      obtain ⟨v, e, hv⟩ := atI_mem r0 r1
      exact .inl ⟨b, rfl, _, rfl, xs, bt _ _ hb hba, v, ⟨e⟩, k v H' hv hh' bt⟩
end
end FR
end
section
set_option Elab.async false
set_option linter.all false
set_option maxRecDepth 20000
set_option maxHeartbeats 1000000
namespace FR
open PySem PySem.Spec PyProof.Rows L2 FL
local macro_rules | `(tactic| walk_at "ne") => `(tactic| first | assumption | exact Ne.symm (by assumption))
local macro_rules | `(tactic| walk_at "hl") => `(tactic| first | assumption | exact upd_same | exact upd_old (by assumption) (by walk_at "hl") | exact (upd_ne (by walk_at "ne")).trans (by walk_at "hl"))
local macro_rules | `(tactic| walk_at "side") => `(tactic| first | rfl | assumption | omega | decide | exact Or.inl ⟨rfl, _, SqL.of (by walk_at "hl")⟩ | exact Or.inr (Or.inr (Or.inl ⟨rfl, Or.inl ⟨_, by walk_at "hl"⟩⟩)) | exact Or.inr (Or.inr (Or.inl ⟨rfl, Or.inr ⟨_, by walk_at "hl"⟩⟩)) | exact Or.inr ⟨by decide, by decide⟩ | exact Or.inl ⟨by omega, by omega⟩ | exact ⟨by decide, by decide, by decide⟩ | exact ⟨by first | omega | decide, by first | omega | decide⟩ | exact Nat.le_of_ble_eq_true rfl | exact Nat.le_trans (m := 1000000) (by omega) (by decide) | exact Nat.lt_of_le_of_lt (m := 1000000) (by omega) (by decide) | exact ⟨by omega, by omega, by omega, by omega⟩)
local macro_rules | `(tactic| walk_at "lk") => `(tactic| with_reducible first | exact lk_Sets_1_0 | exact lk_Sets_2_0 | exact lk_Sets_2_1 | exact lk_Sets_3_0 | exact lk_Sets_3_1 | exact lk_Sets_3_2 | exact lk_Sets_4_0 | exact lk_Sets_4_1 | exact lk_Sets_4_2 | exact lk_Sets_4_3 | exact lk_Sets_5_0 | exact lk_Sets_5_1 | exact lk_Sets_5_2 | exact lk_Sets_5_3 | exact lk_Sets_5_4 | exact lk_Mender_1_0 | exact lk_Mender_2_0 | exact lk_Mender_2_1 | exact lk_Mender_3_0 | exact lk_Mender_3_1 | exact lk_Mender_3_2 | exact lk_Mender_4_0 | exact lk_Mender_4_1 | exact lk_Mender_4_2 | exact lk_Mender_4_3)
local macro_rules | `(tactic| walk_at "pf") => `(tactic| with_reducible first | exact pf_Sets_1_0 | exact pf_Sets_2_0 | exact pf_Sets_2_1 | exact pf_Sets_3_0 | exact pf_Sets_3_1 | exact pf_Sets_3_2 | exact pf_Sets_4_0 | exact pf_Sets_4_1 | exact pf_Sets_4_2 | exact pf_Sets_4_3 | exact pf_Sets_5_0 | exact pf_Sets_5_1 | exact pf_Sets_5_2 | exact pf_Sets_5_3 | exact pf_Sets_5_4 | exact pn_Sets_0 | exact pn_Sets_1 | exact pn_Sets_2 | exact pn_Sets_3 | exact pn_Sets_4 | exact pf_Mender_1_0 | exact pf_Mender_2_0 | exact pf_Mender_2_1 | exact pf_Mender_3_0 | exact pf_Mender_3_1 | exact pf_Mender_3_2 | exact pf_Mender_4_0 | exact pf_Mender_4_1 | exact pf_Mender_4_2 | exact pf_Mender_4_3 | exact pn_Mender_0 | exact pn_Mender_1 | exact pn_Mender_2 | exact pn_Mender_3)
local macro_rules | `(tactic| walk_at "no") => `(tactic| with_reducible first | exact no_Sets_0___init__ | exact no_Sets_1___init__ | exact no_Sets_2___init__ | exact no_Sets_3___init__ | exact no_Sets_4___init__ | exact no_Sets_5___init__ | exact no_Sets_0_join | exact no_Sets_1_join | exact no_Sets_2_join | exact no_Sets_3_join | exact no_Sets_4_join | exact no_Sets_5_join | exact no_Sets_0_told_of | exact no_Sets_1_told_of | exact no_Sets_2_told_of | exact no_Sets_3_told_of | exact no_Sets_4_told_of | exact no_Sets_5_told_of | exact no_Sets_0_moved | exact no_Sets_1_moved | exact no_Sets_2_moved | exact no_Sets_3_moved | exact no_Sets_4_moved | exact no_Sets_5_moved | exact no_Sets_0_can_stop | exact no_Sets_1_can_stop | exact no_Sets_2_can_stop | exact no_Sets_3_can_stop | exact no_Sets_4_can_stop | exact no_Sets_5_can_stop | exact no_Mender_0___init__ | exact no_Mender_1___init__ | exact no_Mender_2___init__ | exact no_Mender_3___init__ | exact no_Mender_4___init__ | exact no_Mender_0_fill_last | exact no_Mender_1_fill_last | exact no_Mender_2_fill_last | exact no_Mender_3_fill_last | exact no_Mender_4_fill_last | exact no_Mender_0_spread | exact no_Mender_1_spread | exact no_Mender_2_spread | exact no_Mender_3_spread | exact no_Mender_4_spread | exact no_Mender_0_lessened | exact no_Mender_1_lessened | exact no_Mender_2_lessened | exact no_Mender_3_lessened | exact no_Mender_4_lessened | exact no_Mender_0_fill | exact no_Mender_1_fill | exact no_Mender_2_fill | exact no_Mender_3_fill | exact no_Mender_4_fill | exact no_Mender_0_least | exact no_Mender_1_least | exact no_Mender_2_least | exact no_Mender_3_least | exact no_Mender_4_least | exact no_Mender_0_steps_from | exact no_Mender_1_steps_from | exact no_Mender_2_steps_from | exact no_Mender_3_steps_from | exact no_Mender_4_steps_from | exact no_Mender_0_later | exact no_Mender_1_later | exact no_Mender_2_later | exact no_Mender_3_later | exact no_Mender_4_later | exact no_Mender_0_closed | exact no_Mender_1_closed | exact no_Mender_2_closed | exact no_Mender_3_closed | exact no_Mender_4_closed)
local macro_rules | `(tactic| walk_at "s") => `(tactic| first
   | refine ⟨_, rfl, ?_⟩
   | refine ⟨_, _, rfl, rfl, ?_⟩
   | refine ⟨_, _, rfl, ?_⟩
   | refine iteT ?_
   | refine iteF ?_
   | refine ⟨_, (show _ = some _ by walk_at "hl"), ?_⟩
   | refine ⟨_, (show Ins _ _ _ _ from Ins.of (by walk_at "hl")), ?_⟩
   | refine ⟨_, (show Lk _ _ _ by walk_at "lk"), ?_⟩
   | refine ⟨_, (show Pf _ _ _ _ by walk_at "pf"), ?_⟩
   | refine And.intro (show NoL _ _ by walk_at "no") ?_
   | refine ⟨_, _, rfl, SqL.of (by walk_at "hl"), ?_⟩
   | refine ⟨_, _, rfl, SqT.of (by walk_at "hl"), ?_⟩
   | refine And.intro ⟨_, SqL.of (by walk_at "hl")⟩ ?_
   | refine And.intro (by walk_at "side") ?_)
local macro_rules | `(tactic| walk_at "si") => `(tactic| first
   | walk_at "s"
   | refine iteD (fun _ => ?_) (fun _ => ?_)
   | refine iteDn (fun _ => ?_) (fun _ => ?_))
local macro_rules | `(tactic| walk_at "r") => `(tactic| repeat walk_at "s")
local macro_rules | `(tactic| walk_at "ri") => `(tactic| repeat walk_at "si")

abbrev N__law_text : List Str := ["hand", "most", "turn"]
theorem sc__law_text : FnScope N__law_text ["hand", "most"] (defScope s__law_text) := ⟨rfl, rfl, rfl, by decide +kernel, rfl, by decide +kernel, by decide +kernel⟩
abbrev N__law_pattern : List Str := ["hand", "deep", "kind", "lot"]
theorem sc__law_pattern : FnScope N__law_pattern ["hand", "deep"] (defScope s__law_pattern) := ⟨rfl, rfl, rfl, by decide +kernel, rfl, by decide +kernel, by decide +kernel⟩
section
variable {P : Program} {w : World} {K : PySem.W.Frag} {mg : Str → Option Value} {base : Heap}
def spText : Sp := fun vs H Q _ => ∃ (a c : Addr) (m : Nat), vs = [.ref a, .int (m : Int)] ∧ HandAt H a c ∧ m ≤ 100 ∧ ∀ l H', isTx l = true → l.length ≤ m → HandAt H' a c → But a H H' → Q (tx l) H'
def szB : Nat → Nat
  | 0 => 1
  | d + 1 => 2 * szB d + 3
/-- a drawn pattern: it is one, small, and reads something -/
structure Dr (p : Pat) (d : Nat) : Prop where
  ok : p.ok = true
  sz : p.size ≤ szB d
  dp : p.deep ≤ 2 * d + 1
  rd : ∃ w, Reads p w
theorem btups {H H' : Hp} {a c : Addr} (b : But a H H') (h : HandAt H a c) : Tups H H' := fun d xs e => by
  obtain ⟨ys, h1⟩ := h.at_
  exact b _ _ e (ne_of e h1 (by simp))
theorem szB_pos : ∀ d, 1 ≤ szB d
  | 0 => Nat.le_refl _
  | d + 1 => by show 1 ≤ 2 * szB d + 3; omega
theorem Dr.sign {l : List Nat} {d : Nat} (h : (Pat.sign l).ok = true) : Dr (.sign l) d := ⟨h, szB_pos d, by show 1 ≤ 2 * d + 1; omega, by
  cases l with
  | nil => simp [Pat.ok] at h
  | cons c l => exact ⟨[c], .sign (List.mem_cons_self ..)⟩⟩
theorem Dr.empty {d : Nat} : Dr .empty d := ⟨rfl, szB_pos d, by show 1 ≤ 2 * d + 1; omega, [], .empty⟩
theorem Dr.thn {p q : Pat} {d : Nat} (a : Dr p d) (b : Dr q d) : Dr (.thn p q) (d + 1) := by
  have := a.sz; have := b.sz; have := a.dp; have := b.dp
  obtain ⟨u, hu⟩ := a.rd
  obtain ⟨v, hv⟩ := b.rd
  exact ⟨by simp [Pat.ok, a.ok, b.ok], by simp only [Pat.size, szB]; omega, by simp only [Pat.deep]; omega, _, .thn hu hv⟩
theorem Dr.or {p q : Pat} {d : Nat} (a : Dr p d) (b : Dr q d) : Dr (.or p q) (d + 1) := by
  have := a.sz; have := b.sz; have := a.dp; have := b.dp
  obtain ⟨u, hu⟩ := a.rd
  exact ⟨by simp [Pat.ok, a.ok, b.ok], by simp only [Pat.size, szB]; omega, by simp only [Pat.deep]; omega, _, .orl hu⟩
theorem Dr.many {p : Pat} {d : Nat} (a : Dr p d) : Dr (.many p) (d + 1) := by
  have := a.sz; have := a.dp
  exact ⟨by simp [Pat.ok, a.ok], by simp only [Pat.size, szB]; omega, by simp only [Pat.deep]; omega, _, .many0⟩
theorem Dr.few {p : Pat} {d : Nat} (a : Dr p d) : Dr (.few p) (d + 1) := by
  have := a.sz; have := a.dp
  exact ⟨by simp [Pat.ok, a.ok], by simp only [Pat.size, szB]; omega, by simp only [Pat.deep]; omega, _, .few0⟩
theorem Dr.mark {m : List Nat} {p : Pat} {d : Nat} (a : Dr p d) (h : (Pat.mark m .empty).ok = true) : Dr (.mark m p) (d + 1) := by
  have := a.sz; have := a.dp
  obtain ⟨u, hu⟩ := a.rd
  exact ⟨by simp [Pat.ok, a.ok] at h ⊢; exact h, by simp only [Pat.size, szB]; omega, by simp only [Pat.deep]; omega, _, .mark hu⟩
theorem Dr.last {m l : List Nat} {p : Pat} {d : Nat} (a : Dr p d) (h : (Pat.mark m .empty).ok = true) (hl : (Pat.sign l).ok = true) : Dr (.thn (.mark m p) (.many (.sign l))) (d + 1) := by
  have := a.sz; have := a.dp
  have hp := size_pos p
  obtain ⟨u, hu⟩ := a.rd
  refine ⟨?_, by simp only [Pat.size, szB]; omega, by simp only [Pat.deep]; omega, _, .thn (.mark hu) .many0⟩
  simp [Pat.ok, a.ok] at h hl ⊢
  exact ⟨h, hl⟩
def spPat (n : Nat) : Sp := fun vs H Q _ => ∃ (a c : Addr) (d : Nat), vs = [.ref a, .int (d : Int)] ∧ d < n ∧ HandAt H a c ∧ ∀ v p H', PatAt H' v p → Dr p d → HandAt H' a c → But a H H' → Q v H'
theorem ok__law_text {f : Addr} {fd : FuncData} (F : Fun K "_law_text" "_law_text" s__law_text f fd) (T : Txt w K mg) (D__law_draw : Df P w K mg base 1 "_law_draw" ["hand", "many"] spDraw) (D__law_any : Df P w K mg base 2 "_law_any" ["hand", "some"] spAny) :
    FnOk P w K mg base (L2.CX P w) 3 f fd ["hand", "most"] spText := by
  refine F.okX sc__law_text (fun vs H Q E h => ?_) (fun cdv A outer s H vs Q E hr h => ?_)
  · obtain ⟨_, _, _, rfl, _⟩ := h
    rfl
  · obtain ⟨a, cc, m, rfl, hh, hm, k⟩ := h
    refine ⟨_, PSs.nox (pss_one (ps_ret (pe_join (pe_strL (l := []) (by decide +kernel)) (pe_lc (own := [("turn", 2)]) (g := gName 2) (tt := tYes) (by rfl) sc__law_text.nd (pi_range1 rfl T.b_range (pa_cons (pe_callD D__law_draw (hr.mono (by decide)) passL (pa_cons (pv 0) (pa_cons (pe_op oadd (pv 1) pe_int) pa_nil))) pa_nil)) (blkOk_by (N := N__law_text) (sc := defScope s__law_text) (by decide +kernel)) (fun _ _ _ _ _ => (pg_name (i := 2) sc__law_text.nd rfl (by first | exact Or.inl rfl | exact Or.inr rfl))) (fun _ _ _ _ _ => pts_nil) (fun _ _ _ _ _ => (pe_callD D__law_any (hr.mono (by decide)) passL (pa_cons (pv 0) (pa_cons (pe_strL (l := [97, 97, 98, 98, 97, 99, 100]) (by decide +kernel)) pa_nil)))))))), ?_⟩
    rw [show L2.start N__law_text [V.ref a, V.int (m : Int)] = [some (V.ref a), some (V.int (m : Int)), none] from rfl]
    refine ⟨⟨_, rfl⟩, ?_⟩
    walk_at "r"
    refine ⟨a, cc, _, rfl, hh, by omega, by omega, fun r H1 r0 r1 hh1 bt1 => ?_⟩
    walk_at "r"
    intro D hD
    have hDn : ∀ b o, H b = some o → b ≠ a → b ≠ D := fun b o h n => ne_of_none (bt1 _ _ h n) hD
    obtain ⟨nDa, nDc⟩ := hh1.ne hD
    refine lc_it wk_range (fun i H' => ∃ l : List Nat, H' D = some (.lst (l.map fun c => tx [c])) ∧ l.length = i ∧ (∀ c ∈ l, c ∈ sgs) ∧ HandAt H' a cc ∧ But a H H') ?_ (fun _ _ _ _ => trivial) ?_ ?_
    · exact ⟨[], upd_same, rfl, fun c m => absurd m (by simp), hh1.new nDa nDc, fun b o h n => (upd_ne (hDn b o h n)).trans (bt1 _ _ h n)⟩
    · rintro i x H2 H3 hi ⟨l, hl, hll, hls, hh2, bt2⟩ ⟨rfl, y, hy, rfl⟩
      refine ⟨rfl, ?_⟩
      walk_at "r"
      refine ⟨a, cc, _, rfl, hh2, .inl ⟨[97, 97, 98, 98, 97, 99, 100], rfl, by decide, by decide, fun z H4 hz hh4 bt4 => ?_⟩⟩
      have hsz : (l.map fun c => tx [c]).length ≤ 1000 := by
        rw [List.length_map, hll]
        have := hi
        rw [List.length_range] at this
        omega
      refine ⟨_, bt4 _ _ hl nDa, Nat.lt_of_le_of_lt hsz (by decide), l ++ [z], by rw [List.map_append]; exact upd_same, by simp [hll], fun c m => ?_, hh4.new nDa nDc, fun b o h n => (upd_ne (hDn b o h n)).trans (bt4 _ _ (bt2 _ _ h n) n)⟩
      rcases List.mem_append.mp m with m | m
      · exact hls c m
      · simp at m hz
        subst m
        unfold sgs
        simp
        omega
    · rintro H2 ⟨l, hl, hll, hls, hh2, bt2⟩
      rw [List.length_range] at hll
      refine ⟨⟨[].toArray⟩, D, l.map fun c => (⟨[c].toArray⟩ : Str), rfl, rfl, .inl (SqL.of (by rw [List.map_map]; exact hl)), ?_, ?_⟩
      · have e : ((l.map fun c => (⟨[c].toArray⟩ : Str)).map fun x => x.length).sum = l.length := by
          rw [List.map_map]
          clear hl hll hls
          induction l with
          | nil => rfl
          | cons c l ih =>
            show 1 + ((l.map ((fun x : Str => x.length) ∘ fun c => (⟨[c].toArray⟩ : Str))).sum) = l.length + 1
            omega
        rw [e]
        simp [Str.length]
        omega
      · rw [glued_one]
        refine k l H2 ?_ (by omega) hh2 bt2
        unfold isTx
        simp only [Bool.and_eq_true, decide_eq_true_eq, List.all_eq_true]
        exact ⟨by omega, hls⟩
theorem ok__law_pattern {f : Addr} {fd : FuncData} (F : Fun K "_law_pattern" "_law_pattern" s__law_pattern f fd) (T : Txt w K mg) (D__law_draw : Df P w K mg base 1 "_law_draw" ["hand", "many"] spDraw) (D__law_any : Df P w K mg base 2 "_law_any" ["hand", "some"] spAny)
    {n : Nat} (D__law_pattern : Df P w K mg base (n + 2) "_law_pattern" ["hand", "deep"] (spPat n)) : FnOk P w K mg base (L2.CX P w) (n + 2 + 1) f fd ["hand", "deep"] (spPat (n + 1)) := by
  refine F.okX sc__law_pattern (fun vs H Q E h => ?_) (fun cdv A outer s H vs Q E hr h => ?_)
  · obtain ⟨_, _, _, rfl, _⟩ := h
    rfl
  · obtain ⟨a, cc, d, rfl, hd, hh, k⟩ := h
    refine ⟨_, PSs.nox (pss_cons (ps_set (i := 2) sc__law_pattern.nd rfl (by first | exact Or.inl rfl | exact Or.inr rfl) (pe_callD D__law_draw (hr.mono (by omega)) passL (pa_cons (pv 0) (pa_cons pe_int pa_nil))))
    (pss_cons (ps_if (PW.pt (pw_or (pt_cmpR oeqI (pv 1) pe_int (nomark _)) (pw_or1 (pt_cmpR olt (pv 2) pe_int (nomark _))))) (pss_cons (ps_set (i := 3) sc__law_pattern.nd rfl (by first | exact Or.inl rfl | exact Or.inr rfl) (pe_callD D__law_any (hr.mono (by omega)) passL (pa_cons (pv 0) (pa_cons (pe_lst (pa_cons (pe_strL (l := [97]) (by decide +kernel)) (pa_cons (pe_strL (l := [98]) (by decide +kernel)) (pa_cons (pe_strL (l := [97, 98]) (by decide +kernel)) (pa_cons (pe_strL (l := [97, 99]) (by decide +kernel)) (pa_cons (pe_strL (l := [97, 98, 99, 100]) (by decide +kernel)) (pa_cons (pe_strL (l := [98]) (by decide +kernel)) (pa_cons (pe_strL (l := [100]) (by decide +kernel)) pa_nil)))))))) pa_nil))))
      (pss_one (ps_ret (pe_ifExp (pt_cmpR ogt (pe_callD D__law_draw (hr.mono (by omega)) passL (pa_cons (pv 0) (pa_cons pe_int pa_nil))) pe_int (nomark _)) (pe_tup (pa_cons (pe_strL (l := [115, 105, 103, 110]) (by decide +kernel)) (pa_cons (pv 3) pa_nil))) (pe_tup (pa_cons (pe_strL (l := [101, 109, 112, 116, 121]) (by decide +kernel)) pa_nil)))))) pss_nil)
    (pss_cons (ps_if (pt_cmpR olt (pv 2) pe_int (nomark _)) (pss_one (ps_ret (pe_tup (pa_cons (pe_strL (l := [116, 104, 101, 110]) (by decide +kernel)) (pa_cons (pe_callD D__law_pattern (hr.mono (by omega)) passL (pa_cons (pv 0) (pa_cons (pe_op osub (pv 1) pe_int) pa_nil))) (pa_cons (pe_callD D__law_pattern (hr.mono (by omega)) passL (pa_cons (pv 0) (pa_cons (pe_op osub (pv 1) pe_int) pa_nil))) pa_nil)))))) pss_nil)
    (pss_cons (ps_if (pt_cmpR olt (pv 2) pe_int (nomark _)) (pss_one (ps_ret (pe_tup (pa_cons (pe_strL (l := [111, 114]) (by decide +kernel)) (pa_cons (pe_callD D__law_pattern (hr.mono (by omega)) passL (pa_cons (pv 0) (pa_cons (pe_op osub (pv 1) pe_int) pa_nil))) (pa_cons (pe_callD D__law_pattern (hr.mono (by omega)) passL (pa_cons (pv 0) (pa_cons (pe_op osub (pv 1) pe_int) pa_nil))) pa_nil)))))) pss_nil)
    (pss_cons (ps_if (pt_cmpR oeqI (pv 2) pe_int (nomark _)) (pss_one (ps_ret (pe_tup (pa_cons (pe_callD D__law_any (hr.mono (by omega)) passL (pa_cons (pv 0) (pa_cons (pe_lst (pa_cons (pe_strL (l := [109, 97, 110, 121]) (by decide +kernel)) (pa_cons (pe_strL (l := [102, 101, 119]) (by decide +kernel)) pa_nil))) pa_nil))) (pa_cons (pe_callD D__law_pattern (hr.mono (by omega)) passL (pa_cons (pv 0) (pa_cons (pe_op osub (pv 1) pe_int) pa_nil))) pa_nil))))) pss_nil)
    (pss_cons (ps_if (pt_cmpR oeqI (pv 2) pe_int (nomark _)) (pss_one (ps_ret (pe_tup (pa_cons (pe_strL (l := [109, 97, 114, 107]) (by decide +kernel)) (pa_cons (pe_callD D__law_any (hr.mono (by omega)) passL (pa_cons (pv 0) (pa_cons (pe_lst (pa_cons (pe_strL (l := [109]) (by decide +kernel)) (pa_cons (pe_strL (l := [110]) (by decide +kernel)) pa_nil))) pa_nil))) (pa_cons (pe_callD D__law_pattern (hr.mono (by omega)) passL (pa_cons (pv 0) (pa_cons (pe_op osub (pv 1) pe_int) pa_nil))) pa_nil)))))) pss_nil)
    (pss_one (ps_ret (pe_tup (pa_cons (pe_strL (l := [116, 104, 101, 110]) (by decide +kernel)) (pa_cons (pe_tup (pa_cons (pe_strL (l := [109, 97, 114, 107]) (by decide +kernel)) (pa_cons (pe_strL (l := [109]) (by decide +kernel)) (pa_cons (pe_callD D__law_pattern (hr.mono (by omega)) passL (pa_cons (pv 0) (pa_cons (pe_op osub (pv 1) pe_int) pa_nil))) pa_nil)))) (pa_cons (pe_tup (pa_cons (pe_strL (l := [109, 97, 110, 121]) (by decide +kernel)) (pa_cons (pe_tup (pa_cons (pe_strL (l := [115, 105, 103, 110]) (by decide +kernel)) (pa_cons (pe_callD D__law_any (hr.mono (by omega)) passL (pa_cons (pv 0) (pa_cons (pe_lst (pa_cons (pe_strL (l := [97]) (by decide +kernel)) (pa_cons (pe_strL (l := [97, 98]) (by decide +kernel)) pa_nil))) pa_nil))) pa_nil))) pa_nil))) pa_nil)))))))))))), ?_⟩
    rw [show L2.start N__law_pattern [V.ref a, V.int (d : Int)] = [some (V.ref a), some (V.int (d : Int)), none, none] from rfl]
    have fin : ∀ (q : Addr) (o : HO) (p : Pat) (H3 : Hp), H3 q = none → HandAt H3 a cc → But a H H3 → PatAt (L2.upd H3 q o) (.ref q) p → Dr p d → Q (.ref q) (L2.upd H3 q o) := fun q o p H3 hq hh3 bt hp dr => by
      obtain ⟨na, nc⟩ := hh3.ne hq
      exact k _ p _ hp dr (hh3.new na nc) (bt.new hq)
    have tn : ∀ {q : Addr} {o : HO} {H3 : Hp}, H3 q = none → Tups H3 (L2.upd H3 q o) := fun hq c xs e => upd_old hq e
    walk_at "r"
    refine ⟨a, cc, _, rfl, hh, by omega, by omega, fun kind H1 r0 r1 hh1 bt1 => ?_⟩
    walk_at "r"
    refine iteD (fun h => ?_) (fun h => ?_)
    · walk_at "r"
      intro pl hpl
      obtain ⟨na, nc⟩ := hh1.ne hpl
      refine ⟨a, cc, _, rfl, hh1.new na nc, .inr ⟨pl, _, rfl, upd_same, na, by decide, by decide, fun v0 H2 hv hh2 bt2 => ?_⟩⟩
      walk_at "r"
      refine ⟨a, cc, _, rfl, hh2, by omega, by omega, fun r2 H3 q0 q1 hh3 bt3 => ?_⟩
      have bt := ((bt1.new hpl).trans bt2).trans bt3
      walk_at "r"
      refine iteD (fun h => ?_) (fun h => ?_)
      · walk_at "r"
        intro q hq
        have hv2 : ∃ l, v0 = tx l ∧ (Pat.sign l).ok = true := by
          simp only [List.mem_cons, List.not_mem_nil, or_false] at hv
          rcases hv with rfl | rfl | rfl | rfl | rfl | rfl | rfl <;> exact ⟨_, rfl, by decide⟩
        obtain ⟨l, rfl, hl⟩ := hv2
        exact fin q _ (.sign l) H3 hq hh3 bt ⟨q, rfl, upd_same⟩ (Dr.sign hl)
      · walk_at "r"
        intro q hq
        exact fin q _ .empty H3 hq hh3 bt ⟨q, rfl, upd_same⟩ Dr.empty
    · walk_at "r"
      refine iteD (fun h => ?_) (fun h => ?_)
      · walk_at "r"
        intro pl hpl
        obtain ⟨na, nc⟩ := hh1.ne hpl
        refine ⟨a, cc, _, rfl, hh1.new na nc, .inr ⟨pl, _, rfl, upd_same, na, by decide, by decide, fun v0 H2 hv hh2 bt2 => ?_⟩⟩
        walk_at "r"
        refine ⟨a, cc, _, rfl, hh2, by omega, by omega, fun r2 H3 q0 q1 hh3 bt3 => ?_⟩
        have bt := ((bt1.new hpl).trans bt2).trans bt3
        walk_at "r"
        refine iteD (fun h => ?_) (fun h => ?_)
        · walk_at "r"
          intro q hq
          have hv2 : ∃ l, v0 = tx l ∧ (Pat.sign l).ok = true := by
            simp only [List.mem_cons, List.not_mem_nil, or_false] at hv
            rcases hv with rfl | rfl | rfl | rfl | rfl | rfl | rfl <;> exact ⟨_, rfl, by decide⟩
          obtain ⟨l, rfl, hl⟩ := hv2
          exact fin q _ (.sign l) H3 hq hh3 bt ⟨q, rfl, upd_same⟩ (Dr.sign hl)
        · walk_at "r"
          intro q hq
          exact fin q _ .empty H3 hq hh3 bt ⟨q, rfl, upd_same⟩ Dr.empty
      · obtain ⟨e, rfl⟩ : ∃ e, d = e + 1 := ⟨d - 1, by omega⟩
        have he : ((e + 1 : Nat) : Int) - 1 = (e : Int) := by omega
        have hev : ([.ref a, .int (((e + 1 : Nat) : Int) - 1)] : List V) = [.ref a, .int (e : Int)] := congrArg (fun z => [V.ref a, V.int z]) he
        walk_at "r"
        refine iteD (fun h => ?_) (fun h => ?_)
        · walk_at "r"
          refine ⟨a, cc, e, hev, by omega, hh1, fun v1 p1 H2 hp1 dr1 hh2 bt2 => ?_⟩
          walk_at "r"
          refine ⟨a, cc, e, hev, by omega, hh2, fun v2 p2 H3 hp2 dr2 hh3 bt3 => ?_⟩
          walk_at "r"
          intro q hq
          exact fin q _ (.thn p1 p2) H3 hq hh3 ((bt1.trans bt2).trans bt3) ⟨q, v1, v2, rfl, upd_same, (hp1.mono (btups bt3 hh2)).mono (tn hq), hp2.mono (tn hq)⟩ (dr1.thn dr2)
        · walk_at "r"
          refine iteD (fun h => ?_) (fun h => ?_)
          · walk_at "r"
            refine ⟨a, cc, e, hev, by omega, hh1, fun v1 p1 H2 hp1 dr1 hh2 bt2 => ?_⟩
            walk_at "r"
            refine ⟨a, cc, e, hev, by omega, hh2, fun v2 p2 H3 hp2 dr2 hh3 bt3 => ?_⟩
            walk_at "r"
            intro q hq
            exact fin q _ (.or p1 p2) H3 hq hh3 ((bt1.trans bt2).trans bt3) ⟨q, v1, v2, rfl, upd_same, (hp1.mono (btups bt3 hh2)).mono (tn hq), hp2.mono (tn hq)⟩ (dr1.or dr2)
          · walk_at "r"
            refine iteD (fun h => ?_) (fun h => ?_)
            · walk_at "r"
              intro pl hpl
              obtain ⟨na, nc⟩ := hh1.ne hpl
              refine ⟨a, cc, _, rfl, hh1.new na nc, .inr ⟨pl, _, rfl, upd_same, na, by decide, by decide, fun v0 H2 hv hh2 bt2 => ?_⟩⟩
              walk_at "r"
              refine ⟨a, cc, e, hev, by omega, hh2, fun v1 p1 H3 hp1 dr1 hh3 bt3 => ?_⟩
              walk_at "r"
              intro q hq
              have bt := ((bt1.new hpl).trans bt2).trans bt3
              simp only [List.mem_cons, List.not_mem_nil, or_false] at hv
              rcases hv with rfl | rfl
              · exact fin q _ (.many p1) H3 hq hh3 bt ⟨q, v1, rfl, upd_same, hp1.mono (tn hq)⟩ dr1.many
              · exact fin q _ (.few p1) H3 hq hh3 bt ⟨q, v1, rfl, upd_same, hp1.mono (tn hq)⟩ dr1.few
            · walk_at "r"
              refine iteD (fun h => ?_) (fun h => ?_)
              · walk_at "r"
                intro pl hpl
                obtain ⟨na, nc⟩ := hh1.ne hpl
                refine ⟨a, cc, _, rfl, hh1.new na nc, .inr ⟨pl, _, rfl, upd_same, na, by decide, by decide, fun v0 H2 hv hh2 bt2 => ?_⟩⟩
                walk_at "r"
                refine ⟨a, cc, e, hev, by omega, hh2, fun v1 p1 H3 hp1 dr1 hh3 bt3 => ?_⟩
                walk_at "r"
                intro q hq
                have bt := ((bt1.new hpl).trans bt2).trans bt3
                simp only [List.mem_cons, List.not_mem_nil, or_false] at hv
                rcases hv with rfl | rfl
                · exact fin q _ (.mark [109] p1) H3 hq hh3 bt ⟨q, v1, rfl, upd_same, hp1.mono (tn hq)⟩ (dr1.mark (by decide))
                · exact fin q _ (.mark [110] p1) H3 hq hh3 bt ⟨q, v1, rfl, upd_same, hp1.mono (tn hq)⟩ (dr1.mark (by decide))
              · walk_at "r"
                refine ⟨a, cc, e, hev, by omega, hh1, fun v1 p1 H2 hp1 dr1 hh2 bt2 => ?_⟩
                walk_at "r"
                intro q1 hq1
                obtain ⟨na1, nc1⟩ := hh2.ne hq1
                walk_at "r"
                intro pl hpl
                have hhx := hh2.new (o := .tup [tx wMark, tx [109], v1]) na1 nc1
                obtain ⟨na, nc⟩ := hhx.ne hpl
                refine ⟨a, cc, _, rfl, hhx.new na nc, .inr ⟨pl, _, rfl, upd_same, na, by decide, by decide, fun v0 H3 hv hh3 bt3 => ?_⟩⟩
                walk_at "r"
                intro q2 hq2
                walk_at "r"
                intro q3 hq3
                walk_at "r"
                intro q4 hq4
                have bt := (((bt1.trans bt2).new hq1).new hpl).trans bt3
                have t3 : Tups (L2.upd H2 q1 (.tup [tx wMark, tx [109], v1])) H3 := fun b xs e => btups bt3 (hhx.new na nc) b xs (upd_old hpl e)
                have hm3 : PatAt H3 (.ref q1) (.mark [109] p1) := ⟨q1, v1, rfl, t3 _ _ upd_same, (hp1.mono (tn hq1)).mono t3⟩
                obtain ⟨na2, nc2⟩ := hh3.ne hq2
                have hh4 := hh3.new (o := .tup [tx wSign, v0]) na2 nc2
                obtain ⟨na3, nc3⟩ := hh4.ne hq3
                have hh5 := hh4.new (o := .tup [tx wMany, .ref q2]) na3 nc3
                have hv2 : ∃ l, v0 = tx l ∧ (Pat.sign l).ok = true := by
                  simp only [List.mem_cons, List.not_mem_nil, or_false] at hv
                  rcases hv with rfl | rfl
                  · exact ⟨_, rfl, by decide⟩
                  · exact ⟨_, rfl, by decide⟩
                obtain ⟨l, rfl, hl⟩ := hv2
                have hs4 : PatAt (L2.upd H3 q2 (.tup [tx wSign, tx l])) (.ref q2) (.sign l) := ⟨q2, rfl, upd_same⟩
                have hs5 : PatAt (L2.upd (L2.upd H3 q2 (.tup [tx wSign, tx l])) q3 (.tup [tx wMany, .ref q2])) (.ref q3) (.many (.sign l)) := ⟨q3, .ref q2, rfl, upd_same, hs4.mono (tn hq3)⟩
                exact fin q4 _ (.thn (.mark [109] p1) (.many (.sign l))) _ hq4 hh5 ((bt.new hq2).new hq3) ⟨q4, .ref q1, .ref q3, rfl, upd_same, ((hm3.mono (tn hq2)).mono (tn hq3)).mono (tn hq4), hs5.mono (tn hq4)⟩ (dr1.last (by decide) hl)
end
end FR
end
section
set_option Elab.async false
set_option linter.all false
set_option maxRecDepth 20000
set_option maxHeartbeats 2000000
/-! Lists of numbers: min, sum, membership, not empty. -/
namespace FL
open PySem PySem.Spec PyProof.Rows L2
theorem hu64 {A : Around} {k : Nat} (h : Room k A) : A.units + 64 < cLine := by
  have := h.un
  omega
section
variable {X : Cx}
def rMinL : List V → Hp → VK → Prop := fun vs H Q => ∃ a, vs = [.ref a] ∧ ∃ xs, H a = some (.lst xs) ∧ ∃ ns : List Int, Eqs xs (ns.map V.int) ∧ 0 < ns.length ∧ ∀ m, m ∈ ns → (∀ y, y ∈ ns → m ≤ y) → Q (.int m) H
theorem cl_minL (hc : X.calm = true) : CallR X (.builtin "min") rMinL := CallR.weak (cr_min hc) fun vs H Q ⟨a, e, xs, h, ns, ⟨e2⟩, hl, q⟩ => ⟨a, ns, e, SqL.of (e2 ▸ h), hl, q⟩
def rSumL : List V → Hp → VK → Prop := fun vs H Q => ∃ a, vs = [.ref a] ∧ ∃ xs, H a = some (.lst xs) ∧ ∃ ns : List Int, Eqs xs (ns.map V.int) ∧ Q (.int ns.sum) H
theorem cl_sumL (hc : X.calm = true) : CallR X (.builtin "sum") rSumL := CallR.weak (cr_sum hc) fun vs H Q ⟨a, e, xs, h, ns, ⟨e2⟩, q⟩ => ⟨a, ns, e, SqL.of (e2 ▸ h), q⟩
def rInLs : R2 := fun x y H Q => ∃ p, y = .ref p ∧ ∃ xs, H p = some (.lst xs) ∧ flatV x = true ∧ xs.all flatV = true ∧ ∃ b, Eqs (inV x xs) b ∧ Q (.bl b) H
theorem oinLs : OpR X (compareOp .In) rInLs := OpR.weak op_in_seq fun x y H Q ⟨p, e, xs, h, f1, f2, b, ⟨e2⟩, q⟩ => ⟨p, xs, e, .inl (SqL.of h), f1, f2, by rw [← e2] at q; exact q⟩
theorem dp_ints {K : PySem.W.Frag} {H : Hp} : ∀ ns : List Int, DpAll K H (ns.map V.int) (ns.map PyData.int)
  | [] => .nil
  | n :: ns => .cons (.int n) (dp_ints ns)
def rNeNil : R2 := fun x y H Q => ∃ a, x = .ref a ∧ ∃ xs, H a = some (.lst xs) ∧ ∃ b, y = .ref b ∧ H b = some (.lst []) ∧ ∃ ns : List Int, Eqs xs (ns.map V.int) ∧ Q (.bl (decide (0 < ns.length))) H
theorem shaped_ints (ns : List Int) : SeqAt.shaped (.list (ns.map PyData.int)) = true := by
  induction ns with
  | nil => decide
  | cons n ns ih =>
    simp [SeqAt.shaped, PyData.canLay0, PyData.depth] at ih ⊢
    simp [PyData.canLayAll0, PyData.depthAll, PyData.canLay0, PyData.depth]
    omega
theorem oneNil (hu : X.A.units + 64 < cLine) : OpR X (compareOp .NotEq) rNeNil := OpR.weak (op_neD hu) fun x y H Q ⟨a, e1, xs, h1, b, e2, h2, ns, ⟨e3⟩, q⟩ => by
  subst e1 e2 e3
  refine ⟨.list (ns.map .int), .list [], .lst (SqL.of h1) (dp_ints ns), .lst (SqL.of h2) .nil, shaped_ints ns, by decide, ?_⟩
  have e : (!PyData.eqv (.list (ns.map .int)) (.list [])) = decide (0 < ns.length) := by
    cases ns with
    | nil => rfl
    | cons n ns => simp [PyData.eqv, PyData.eqvAll]
  rw [e]
  exact q
end
end FL
end
section
set_option Elab.async false
set_option linter.all false
set_option maxRecDepth 20000
set_option maxHeartbeats 2000000
/-! What the prices of whole patterns are made of. -/
namespace FR
open PySem L2 FL
theorem prP_ex {p : Pat} (t : List Nat) (h : ∃ w, Reads p w) : ∃ n, PrP p t n := by
  obtain ⟨w, hw⟩ := h
  exact ⟨_, w, hw, price_ed t w⟩
theorem min_ex {P : Nat → Prop} (h : ∃ n, P n) : ∃ n, IsMin P n := by
  obtain ⟨n, hn⟩ := h
  induction n using Nat.strongRecOn with
  | _ n ih =>
    by_cases q : ∃ m, m < n ∧ P m
    · obtain ⟨m, h1, h2⟩ := q
      exact ih m h1 h2
    · refine ⟨n, hn, fun k hk => ?_⟩
      by_cases e : n ≤ k
      · exact e
      · exact absurd ⟨k, by omega, hk⟩ q
theorem min_thn {p q : Pat} {t : List Nat} (fa fb : Nat → Nat) (ha : ∀ i, i ≤ t.length → IsMin (PrP p (t.take i)) (fa i)) (hb : ∀ i, i ≤ t.length → IsMin (PrP q (t.drop i)) (fb i)) {m : Nat}
    (hm : m ∈ (List.range (t.length + 1)).map fun i => fa i + fb i) (hl : ∀ y ∈ (List.range (t.length + 1)).map fun i => fa i + fb i, m ≤ y) : IsMin (PrP (.thn p q) t) m := by
  obtain ⟨i, hi, rfl⟩ := List.mem_map.mp hm
  have hi' : i ≤ t.length := by have := List.mem_range.mp hi; omega
  refine ⟨prP_thn.mpr ⟨_, _, _, _, (List.take_append_drop i t).symm, rfl, (ha i hi').is, (hb i hi').is⟩, fun n h => ?_⟩
  obtain ⟨u, v, a, b, e, rfl, h1, h2⟩ := prP_thn.mp h
  have hu : u.length ≤ t.length := by rw [e]; simp
  have e1 : t.take u.length = u := by rw [e]; simp
  have e2 : t.drop u.length = v := by rw [e]; simp
  have a1 := ha u.length hu
  have b1 := hb u.length hu
  rw [e1] at a1
  rw [e2] at b1
  have := hl _ (List.mem_map.mpr ⟨u.length, List.mem_range.mpr (by omega), rfl⟩)
  have := a1.le _ h1
  have := b1.le _ h2
  omega
theorem IsMin.congr {P R : Nat → Prop} (h : ∀ n, P n ↔ R n) {n : Nat} (m : IsMin P n) : IsMin R n := ⟨(h n).mp m.is, fun k hk => m.le k ((h k).mpr hk)⟩
theorem min_emptyP (t : List Nat) : IsMin (PrP .empty t) t.length := ⟨prP_empty.mpr rfl, fun n h => by rw [prP_empty.mp h]; exact Nat.le_refl _⟩
theorem min_ab : IsMin (PrP (.or (.sign [97]) .empty) [98]) 1 := by
  refine ⟨prP_or.mpr (.inr (prP_empty.mpr rfl)), fun n h => ?_⟩
  rcases prP_or.mp h with ⟨w, h1, h2⟩ | h
  · cases n with
    | succ n => omega
    | zero =>
      exfalso
      cases h1 with
      | sign h =>
        simp at h
        subst h
        have h3 := price_le h2
        have h4 : price [98] [97] = 1 := by simp [price, Dd]
        omega
  · rw [prP_empty.mp h]
    exact Nat.le_refl _
end FR
end
section
set_option Elab.async false
set_option linter.all false
set_option maxRecDepth 20000
set_option maxHeartbeats 1000000
namespace FR
open PySem PySem.Spec PyProof.Rows L2 FL
local macro_rules | `(tactic| walk_at "ne") => `(tactic| first | assumption | exact Ne.symm (by assumption))
local macro_rules | `(tactic| walk_at "hl") => `(tactic| first | assumption | exact upd_same | exact upd_old (by assumption) (by walk_at "hl") | exact (upd_ne (by walk_at "ne")).trans (by walk_at "hl"))
local macro_rules | `(tactic| walk_at "side") => `(tactic| first | rfl | assumption | omega | decide | exact Or.inl ⟨rfl, _, SqL.of (by walk_at "hl")⟩ | exact Or.inr (Or.inr (Or.inl ⟨rfl, Or.inl ⟨_, by walk_at "hl"⟩⟩)) | exact Or.inr (Or.inr (Or.inl ⟨rfl, Or.inr ⟨_, by walk_at "hl"⟩⟩)) | exact Or.inr ⟨by decide, by decide⟩ | exact Or.inl ⟨by omega, by omega⟩ | exact ⟨by decide, by decide, by decide⟩ | exact ⟨by first | omega | decide, by first | omega | decide⟩ | exact Nat.le_of_ble_eq_true rfl | exact Nat.le_trans (m := 1000000) (by omega) (by decide) | exact Nat.lt_of_le_of_lt (m := 1000000) (by omega) (by decide) | exact ⟨by omega, by omega, by omega, by omega⟩)
local macro_rules | `(tactic| walk_at "lk") => `(tactic| with_reducible first | exact lk_Sets_1_0 | exact lk_Sets_2_0 | exact lk_Sets_2_1 | exact lk_Sets_3_0 | exact lk_Sets_3_1 | exact lk_Sets_3_2 | exact lk_Sets_4_0 | exact lk_Sets_4_1 | exact lk_Sets_4_2 | exact lk_Sets_4_3 | exact lk_Sets_5_0 | exact lk_Sets_5_1 | exact lk_Sets_5_2 | exact lk_Sets_5_3 | exact lk_Sets_5_4 | exact lk_Mender_1_0 | exact lk_Mender_2_0 | exact lk_Mender_2_1 | exact lk_Mender_3_0 | exact lk_Mender_3_1 | exact lk_Mender_3_2 | exact lk_Mender_4_0 | exact lk_Mender_4_1 | exact lk_Mender_4_2 | exact lk_Mender_4_3)
local macro_rules | `(tactic| walk_at "pf") => `(tactic| with_reducible first | exact pf_Sets_1_0 | exact pf_Sets_2_0 | exact pf_Sets_2_1 | exact pf_Sets_3_0 | exact pf_Sets_3_1 | exact pf_Sets_3_2 | exact pf_Sets_4_0 | exact pf_Sets_4_1 | exact pf_Sets_4_2 | exact pf_Sets_4_3 | exact pf_Sets_5_0 | exact pf_Sets_5_1 | exact pf_Sets_5_2 | exact pf_Sets_5_3 | exact pf_Sets_5_4 | exact pn_Sets_0 | exact pn_Sets_1 | exact pn_Sets_2 | exact pn_Sets_3 | exact pn_Sets_4 | exact pf_Mender_1_0 | exact pf_Mender_2_0 | exact pf_Mender_2_1 | exact pf_Mender_3_0 | exact pf_Mender_3_1 | exact pf_Mender_3_2 | exact pf_Mender_4_0 | exact pf_Mender_4_1 | exact pf_Mender_4_2 | exact pf_Mender_4_3 | exact pn_Mender_0 | exact pn_Mender_1 | exact pn_Mender_2 | exact pn_Mender_3)
local macro_rules | `(tactic| walk_at "no") => `(tactic| with_reducible first | exact no_Sets_0___init__ | exact no_Sets_1___init__ | exact no_Sets_2___init__ | exact no_Sets_3___init__ | exact no_Sets_4___init__ | exact no_Sets_5___init__ | exact no_Sets_0_join | exact no_Sets_1_join | exact no_Sets_2_join | exact no_Sets_3_join | exact no_Sets_4_join | exact no_Sets_5_join | exact no_Sets_0_told_of | exact no_Sets_1_told_of | exact no_Sets_2_told_of | exact no_Sets_3_told_of | exact no_Sets_4_told_of | exact no_Sets_5_told_of | exact no_Sets_0_moved | exact no_Sets_1_moved | exact no_Sets_2_moved | exact no_Sets_3_moved | exact no_Sets_4_moved | exact no_Sets_5_moved | exact no_Sets_0_can_stop | exact no_Sets_1_can_stop | exact no_Sets_2_can_stop | exact no_Sets_3_can_stop | exact no_Sets_4_can_stop | exact no_Sets_5_can_stop | exact no_Mender_0___init__ | exact no_Mender_1___init__ | exact no_Mender_2___init__ | exact no_Mender_3___init__ | exact no_Mender_4___init__ | exact no_Mender_0_fill_last | exact no_Mender_1_fill_last | exact no_Mender_2_fill_last | exact no_Mender_3_fill_last | exact no_Mender_4_fill_last | exact no_Mender_0_spread | exact no_Mender_1_spread | exact no_Mender_2_spread | exact no_Mender_3_spread | exact no_Mender_4_spread | exact no_Mender_0_lessened | exact no_Mender_1_lessened | exact no_Mender_2_lessened | exact no_Mender_3_lessened | exact no_Mender_4_lessened | exact no_Mender_0_fill | exact no_Mender_1_fill | exact no_Mender_2_fill | exact no_Mender_3_fill | exact no_Mender_4_fill | exact no_Mender_0_least | exact no_Mender_1_least | exact no_Mender_2_least | exact no_Mender_3_least | exact no_Mender_4_least | exact no_Mender_0_steps_from | exact no_Mender_1_steps_from | exact no_Mender_2_steps_from | exact no_Mender_3_steps_from | exact no_Mender_4_steps_from | exact no_Mender_0_later | exact no_Mender_1_later | exact no_Mender_2_later | exact no_Mender_3_later | exact no_Mender_4_later | exact no_Mender_0_closed | exact no_Mender_1_closed | exact no_Mender_2_closed | exact no_Mender_3_closed | exact no_Mender_4_closed)
local macro_rules | `(tactic| walk_at "s") => `(tactic| first
   | refine ⟨_, rfl, ?_⟩
   | refine ⟨_, _, rfl, rfl, ?_⟩
   | refine ⟨_, _, rfl, ?_⟩
   | refine iteT ?_
   | refine iteF ?_
   | refine ⟨_, (show _ = some _ by walk_at "hl"), ?_⟩
   | refine ⟨_, (show Ins _ _ _ _ from Ins.of (by walk_at "hl")), ?_⟩
   | refine ⟨_, (show Lk _ _ _ by walk_at "lk"), ?_⟩
   | refine ⟨_, (show Pf _ _ _ _ by walk_at "pf"), ?_⟩
   | refine And.intro (show NoL _ _ by walk_at "no") ?_
   | refine ⟨_, _, rfl, SqL.of (by walk_at "hl"), ?_⟩
   | refine ⟨_, _, rfl, SqT.of (by walk_at "hl"), ?_⟩
   | refine And.intro ⟨_, SqL.of (by walk_at "hl")⟩ ?_
   | refine And.intro (by walk_at "side") ?_)
local macro_rules | `(tactic| walk_at "si") => `(tactic| first
   | walk_at "s"
   | refine iteD (fun _ => ?_) (fun _ => ?_)
   | refine iteDn (fun _ => ?_) (fun _ => ?_))
local macro_rules | `(tactic| walk_at "r") => `(tactic| repeat walk_at "s")
local macro_rules | `(tactic| walk_at "ri") => `(tactic| repeat walk_at "si")

local macro_rules | `(tactic| walk_at "side") => `(tactic| exact trivial)
abbrev N__law_least : List Str := ["some", "one"]
theorem sc__law_least : FnScope N__law_least ["some"] (defScope s__law_least) := ⟨rfl, rfl, rfl, by decide +kernel, rfl, by decide +kernel, by decide +kernel⟩
abbrev N__law_is_right : List Str := ["hand", "one", "other", "text", "prices", "sums", "at", "pair", "lap"]
theorem sc__law_is_right : FnScope N__law_is_right ["hand"] (defScope s__law_is_right) := ⟨rfl, rfl, rfl, by decide +kernel, rfl, by decide +kernel, by decide +kernel⟩
abbrev N_law : List Str := ["script", "hand", "turn"]
theorem sc_law : FnScope N_law ["script"] (defScope s_law) := ⟨rfl, rfl, rfl, by decide +kernel, rfl, by decide +kernel, by decide +kernel⟩
section
variable {P : Program} {w : World} {K : PySem.W.Frag} {mg : Str → Option Value} {base : Heap}
def nI (n : Nat) : V := .int (n : Int)
theorem ResP.int {p : Pat} {t : List Nat} {r : V} (h : ResP p t r) (d : ∃ w, Reads p w) : ∃ n : Nat, IsMin (PrP p t) n ∧ r = .int (n : Int) := by
  rcases h with h | ⟨_, h⟩
  · exact h
  · obtain ⟨n, hn⟩ := prP_ex t d
    exact absurd hn (h n)
def spLeastL : Sp := fun vs H Q _ => ∃ (a : Addr) (ns : List Nat), vs = [.ref a] ∧ H a = some (.lst (ns.map nI)) ∧ 0 < ns.length ∧ ns.length ≤ 1000 ∧ ∀ m H', m ∈ ns → (∀ y ∈ ns, m ≤ y) → Same H H' → Q (nI m) H'
def spRight : Sp := fun vs H Q _ => ∃ (a c : Addr), vs = [.ref a] ∧ HandAt H a c ∧ ∀ H', HandAt H' a c → But a H H' → Q (.bl true) H'
def spLaw (K : PySem.W.Frag) : Sp := fun vs H Q _ => ∃ (a : Addr) (ns : List Int), vs = [.ref a] ∧ SqL K H a (ns.map V.int) ∧ ns.length ≤ 63 ∧ ∀ H', Q (.bl true) H'
theorem ok__law_least {f : Addr} {fd : FuncData} (F : Fun K "_law_least" "_law_least" s__law_least f fd) (T : Txt w K mg) : FnOk P w K mg base (L2.CX P w) 1 f fd ["some"] spLeastL := by
  refine F.okX sc__law_least (fun vs H Q E h => ?_) (fun cdv A outer s H vs Q E hr h => ?_)
  · obtain ⟨_, _, rfl, _⟩ := h
    rfl
  · obtain ⟨a, ns, rfl, ha, h0, h1, k⟩ := h
    have hu6 := hu64 hr
    refine ⟨_, PSs.nox (pss_cons (ps_setLc (i := 0) (own := [("one", 1)]) (g := gName 1) (by rfl) sc__law_least.nd rfl rfl (sw_true rfl rfl rfl (by decide +kernel)) (pi_list (pv 0)) (blkOk_by (N := N__law_least) (sc := defScope s__law_least) (by decide +kernel)) (fun _ _ _ _ _ => (pg_name (i := 1) sc__law_least.nd rfl (by first | exact Or.inl rfl | exact Or.inr rfl))) (fun _ _ _ _ _ => (pts_one (pt_cmpR op_notN (pv 1) pe_non (nomark _)))) (fun _ _ _ _ _ => (pv 1)))
    (pss_one (ps_ret (pe_ifExp (pt_cmpR (oneNil hu6) (pv 0) (pe_lst pa_nil) (nomark _)) (pe_callB ((cl_minL rfl)) (by rfl) T.b_min (by decide +kernel) (pa_cons (pv 0) pa_nil)) pe_non)))), ?_⟩
    rw [show L2.start N__law_least [V.ref a] = [some (V.ref a), none] from rfl]
    walk_at "r"
    intro D hD
    refine lcP hD (wk_list (K := K) (a := a) ns nI) nI (fun _ => true) (by omega) (fun H' s' => SqL.of (s' _ _ ha)) (fun _ => rfl) (fun n hn H' s' Q' q => ?_) (fun n hn _ H' s' Q' q => ?_) ?_
    · walk_at "r"
      exact q
    · exact ⟨_, rfl, q⟩
    · rw [List.filter_eq_self.mpr (fun _ _ => rfl)]
      walk_at "r"
      intro q hq
      have ez : ns.map nI = (ns.map fun n : Nat => (n : Int)).map V.int := by rw [List.map_map]; rfl
      have s2 : Same H (L2.upd (L2.upd H D (.lst (ns.map nI))) q (.lst [])) := fun b o h => upd_old hq (upd_old hD h)
      have hD2 : L2.upd (L2.upd H D (.lst (ns.map nI))) q (.lst []) D = some (.lst (ns.map nI)) := upd_old hq upd_same
      refine ⟨D, rfl, _, hD2, q, rfl, upd_same, ns.map fun n : Nat => (n : Int), ⟨ez⟩, _, rfl, ?_⟩
      refine iteDT (by rw [List.length_map]; exact h0) ?_
      walk_at "r"
      refine ⟨ns.map fun n : Nat => (n : Int), ⟨ez⟩, by rw [List.length_map]; exact h0, fun m hm hl => ?_⟩
      obtain ⟨n, hn, rfl⟩ := List.mem_map.mp hm
      refine k n _ hn (fun y hy => ?_) s2
      have := hl _ (List.mem_map.mpr ⟨y, hy, rfl⟩)
      omega
theorem cutL_take (l : List Nat) (i : Nat) (h : i ≤ l.length) : cutL l none (some (i : Int)) = l.take i := by
  unfold cutL
  have h2 : HT.sIx l.length l.length (some (i : Int)) = i := by
    rw [show HT.sIx l.length l.length (some (i : Int)) = min i l.length from HT.sIx_nat _ _ i]
    omega
  rw [h2]
  rfl
theorem cutL_drop (l : List Nat) (i : Nat) (h : i ≤ l.length) : cutL l (some (i : Int)) none = l.drop i := by
  unfold cutL
  have h2 : HT.sIx l.length 0 (some (i : Int)) = i := by
    rw [show HT.sIx l.length 0 (some (i : Int)) = min i l.length from HT.sIx_nat _ 0 i]
    omega
  rw [h2, HT.sIx_none]
  exact List.take_of_length_le (by rw [List.length_drop]; omega)
theorem isTx_take {l : List Nat} (h : isTx l = true) (i : Nat) : isTx (l.take i) = true := by
  unfold isTx at *
  simp only [Bool.and_eq_true, decide_eq_true_eq, List.all_eq_true] at *
  exact ⟨by rw [List.length_take]; omega, fun c m => h.2 c (List.mem_of_mem_take m)⟩
theorem isTx_drop {l : List Nat} (h : isTx l = true) (i : Nat) : isTx (l.drop i) = true := by
  unfold isTx at *
  simp only [Bool.and_eq_true, decide_eq_true_eq, List.all_eq_true] at *
  exact ⟨by rw [List.length_drop]; omega, fun c m => h.2 c (List.mem_of_mem_drop m)⟩
theorem Dr.small {p : Pat} (h : Dr p 2) : Small p := ⟨h.ok, Nat.le_trans h.sz (by decide), Nat.le_trans h.dp (by decide)⟩
/-- what stands while the prices are asked -/
structure Ev (H Hk : Hp) (a c : Addr) (v1 v2 : V) (p1 p2 : Pat) : Prop where
  hand : HandAt Hk a c
  but : But a H Hk
  q1 : PatAt Hk v1 p1
  q2 : PatAt Hk v2 p2
theorem Ev.same {H Hk Hk' : Hp} {a c : Addr} {v1 v2 : V} {p1 p2 : Pat} (e : Ev H Hk a c v1 v2 p1 p2) (s : Same Hk Hk') : Ev H Hk' a c v1 v2 p1 p2 := ⟨e.hand.same s, e.but.trans (But.of s), e.q1.mono (Tups.of s), e.q2.mono (Tups.of s)⟩
theorem sm {H : Hp} {q : Addr} {o : HO} (h : H q = none) : Same H (L2.upd H q o) := fun b u e => upd_old h e
theorem Dr.small3 {p : Pat} (h : Dr p 3) : Small p := ⟨h.ok, Nat.le_trans h.sz (by decide), Nat.le_trans h.dp (by decide)⟩
theorem ok__law_is_right {f : Addr} {fd : FuncData} (F : Fun K "_law_is_right" "_law_is_right" s__law_is_right f fd) (T : Txt w K mg) (D__law_pattern : Df P w K mg base 5 "_law_pattern" ["hand", "deep"] (spPat 3)) (D__law_text : Df P w K mg base 3 "_law_text" ["hand", "most"] spText)
    (D_mend_price : Df P w K mg base 7 "mend_price" ["pattern", "text"] spMendPrice) (D_price_between : Df P w K mg base 4 "price_between" ["text", "other"] spPrice) (D__law_least : Df P w K mg base 1 "_law_least" ["some"] spLeastL) : FnOk P w K mg base (L2.CX P w) 8 f fd ["hand"] spRight := by
  refine F.okX sc__law_is_right (fun vs H Q E h => ?_) (fun cdv A outer s H vs Q E hr h => ?_)
  · obtain ⟨_, _, rfl, _⟩ := h
    rfl
  · obtain ⟨a, c, rfl, hh, k⟩ := h
    refine ⟨_, PSs.nox (pss_cons (ps_par3 (i := 1) (j := 2) (l := 3) (by rfl) sc__law_is_right.nd rfl rfl rfl (by decide) (by decide) (by decide) rfl rfl rfl (pa_cons (pe_callD D__law_pattern (hr.mono (by decide)) passL (pa_cons (pv 0) (pa_cons pe_int pa_nil))) (pa_cons (pe_callD D__law_pattern (hr.mono (by decide)) passL (pa_cons (pv 0) (pa_cons pe_int pa_nil))) (pa_cons (pe_callD D__law_text (hr.mono (by decide)) passL (pa_cons (pv 0) (pa_cons pe_int pa_nil))) pa_nil))) (by rfl))
    (pss_cons (ps_set (i := 4) sc__law_is_right.nd rfl (by first | exact Or.inl rfl | exact Or.inr rfl) (pe_lst (pa_cons (pe_callD D_mend_price (hr.mono (by decide)) passL (pa_cons (pv 1) (pa_cons (pv 3) pa_nil))) (pa_cons (pe_callD D_mend_price (hr.mono (by decide)) passL (pa_cons (pv 2) (pa_cons (pv 3) pa_nil))) pa_nil))))
    (pss_cons (ps_if (pt_cmpR oneI (pe_callD D_mend_price (hr.mono (by decide)) passL (pa_cons (pe_tup (pa_cons (pe_strL (l := [111, 114]) (by decide +kernel)) (pa_cons (pv 1) (pa_cons (pv 2) pa_nil)))) (pa_cons (pv 3) pa_nil))) (pe_callD D__law_least (hr.mono (by decide)) passL (pa_cons (pv 4) pa_nil)) (nomark _)) (pss_one (ps_ret pe_bl)) pss_nil)
    (pss_cons (ps_set (i := 5) sc__law_is_right.nd rfl (by first | exact Or.inl rfl | exact Or.inr rfl) (pe_lst pa_nil))
    (pss_cons (ps_for PassesOwn.never rfl (pi_range1 rfl T.b_range (pa_cons (pe_op oadd (pe_callB (cl_lenS) (by rfl) T.b_len (by decide +kernel) (pa_cons (pv 3) pa_nil)) pe_int) pa_nil)) (pg_name (i := 6) sc__law_is_right.nd rfl (by first | exact Or.inl rfl | exact Or.inr rfl)) (pss_cons (ps_set (i := 7) sc__law_is_right.nd rfl (by first | exact Or.inl rfl | exact Or.inr rfl) (pe_lst (pa_cons (pe_callD D_mend_price (hr.mono (by decide)) passL (pa_cons (pv 1) (pa_cons (pe_slice sl_tx (pv 3) po_none (po_some (pv 6))) pa_nil))) (pa_cons (pe_callD D_mend_price (hr.mono (by decide)) passL (pa_cons (pv 2) (pa_cons (pe_slice sl_tx (pv 3) (po_some (pv 6)) po_none) pa_nil))) pa_nil))))
      (pss_one (ps_expr (pe_bm PySem.F.plainAttrs_list PySem.F.slot_list_append PySem.F.type_list_append (mappend) (pv 5) (pa_cons (pe_ifExp (pt_cmpR oinLs pe_non (pv 7) (by rfl)) pe_non (pe_callB ((cl_sumL rfl)) (by rfl) T.b_sum (by decide +kernel) (pa_cons (pv 7) pa_nil))) pa_nil))))))
    (pss_cons (ps_if (pt_cmpR oneI (pe_callD D_mend_price (hr.mono (by decide)) passL (pa_cons (pe_tup (pa_cons (pe_strL (l := [116, 104, 101, 110]) (by decide +kernel)) (pa_cons (pv 1) (pa_cons (pv 2) pa_nil)))) (pa_cons (pv 3) pa_nil))) (pe_callD D__law_least (hr.mono (by decide)) passL (pa_cons (pv 5) pa_nil)) (nomark _)) (pss_one (ps_ret pe_bl)) pss_nil)
    (pss_cons (ps_if (pt_cmpR oneI (pe_callD D_mend_price (hr.mono (by decide)) passL (pa_cons (pe_tup (pa_cons (pe_strL (l := [109, 97, 114, 107]) (by decide +kernel)) (pa_cons (pe_strL (l := [113]) (by decide +kernel)) (pa_cons (pv 1) pa_nil)))) (pa_cons (pv 3) pa_nil))) (pe_ix ixlv (pv 4) pe_int (fun _ _ => rfl)) (nomark _)) (pss_one (ps_ret pe_bl)) pss_nil)
    (pss_cons (ps_set (i := 8) sc__law_is_right.nd rfl (by first | exact Or.inl rfl | exact Or.inr rfl) (pe_callD D_mend_price (hr.mono (by decide)) passL (pa_cons (pe_tup (pa_cons (pe_strL (l := [109, 97, 110, 121]) (by decide +kernel)) (pa_cons (pv 1) pa_nil))) (pa_cons (pv 3) pa_nil))))
    (pss_cons (ps_if (PW.pt (pw_or (pt_cmpR oneI (pv 8) (pe_callD D_mend_price (hr.mono (by decide)) passL (pa_cons (pe_tup (pa_cons (pe_strL (l := [102, 101, 119]) (by decide +kernel)) (pa_cons (pv 1) pa_nil))) (pa_cons (pv 3) pa_nil))) (nomark _)) (pw_or (pt_cmpR ogt (pv 8) (pe_callB (cl_lenS) (by rfl) T.b_len (by decide +kernel) (pa_cons (pv 3) pa_nil)) (nomark _)) (pw_or1 (PW.pt (pw_and (pt_cmpR op_notN (pe_ix ixlv (pv 4) pe_int (fun _ _ => rfl)) pe_non (nomark _)) (pw_and1 (pt_cmpR ogt (pv 8) (pe_ix ixlv (pv 4) pe_int (fun _ _ => rfl)) (nomark _))))))))) (pss_one (ps_ret pe_bl)) pss_nil)
    (pss_one (ps_ret (pe_chain oeqI oeqI (pe_callD D_mend_price (hr.mono (by decide)) passL (pa_cons (pe_tup (pa_cons (pe_strL (l := [101, 109, 112, 116, 121]) (by decide +kernel)) pa_nil)) (pa_cons (pv 3) pa_nil))) (pe_callB (cl_lenS) (by rfl) T.b_len (by decide +kernel) (pa_cons (pv 3) pa_nil)) (pe_callD D_price_between (hr.mono (by decide)) passL (pa_cons (pv 3) (pa_cons (pe_strL (l := []) (by decide +kernel)) pa_nil))))))))))))))), ?_⟩
    rw [show L2.start N__law_is_right [V.ref a] = [some (V.ref a), none, none, none, none, none, none, none, none] from rfl]
    walk_at "r"
    refine ⟨a, c, 2, rfl, by decide, hh, fun v1 p1 H1 hp1 d1 hh1 bt1 => ?_⟩
    walk_at "r"
    refine ⟨a, c, 2, rfl, by decide, hh1, fun v2 p2 H2 hp2 d2 hh2 bt2 => ?_⟩
    walk_at "r"
    refine ⟨a, c, 4, rfl, hh2, by decide, fun t H3 ht hl hh3 bt3 => ?_⟩
    have hp1' := (hp1.mono (btups bt2 hh1)).mono (btups bt3 hh2)
    have hp2' := hp2.mono (btups bt3 hh2)
    have bt := (bt1.trans bt2).trans bt3
    clear hp1 hp2 hh1 hh2 bt1 bt2 bt3
    refine ⟨_, _, _, rfl, ?_⟩
    have hsz : t.length ≤ 300 := isTx_len ht
    walk_at "r"
    refine ⟨v1, p1, t, rfl, hp1', d1.small, ht, fun H4 r1 s4 hr1 => ?_⟩
    walk_at "r"
    refine ⟨v2, p2, t, rfl, hp2'.mono (Tups.of s4), d2.small, ht, fun H5 r2 s5 hr2 => ?_⟩
    obtain ⟨n1, hn1, rfl⟩ := hr1.int d1.rd
    obtain ⟨n2, hn2, rfl⟩ := hr2.int d2.rd
    have E5 : Ev H H5 a c v1 v2 p1 p2 := (Ev.mk hh3 bt hp1' hp2').same (s4.trans s5)
    clear hp1' hp2' hh3 bt hr1 hr2 s4 s5
    walk_at "r"
    intro pr hpr
    have E6 := E5.same (sm (o := .lst [nI n1, nI n2]) hpr)
    have hp6 : L2.upd H5 pr (.lst [nI n1, nI n2]) pr = some (.lst [nI n1, nI n2]) := upd_same
    walk_at "r"
    intro qo hqo
    have s7 := sm (o := .tup [tx wOr, v1, v2]) hqo
    have E7 := E6.same s7
    walk_at "r"
    refine ⟨.ref qo, .or p1 p2, t, rfl, ⟨qo, v1, v2, rfl, upd_same, E7.q1, E7.q2⟩, (d1.or d2).small3, ht, fun H8 r3 s8 hr3 => ?_⟩
    obtain ⟨n3, hn3, rfl⟩ := hr3.int (d1.or d2).rd
    have E8 := E7.same s8
    have hp8 := s8 _ _ (s7 _ _ hp6)
    clear E5 E6 E7 hp6 hr3 s8 s7
    walk_at "r"
    refine ⟨pr, [n1, n2], rfl, hp8, by simp, by simp, fun m H9 hm hl s9 => ?_⟩
    have E9 := E8.same s9
    have hp9 := s9 _ _ hp8
    have em : (n3 : Int) = (m : Int) := by
      have e1 := hn3.uniq (min_or hn1 hn2)
      have h1 := hl n1 (by simp)
      have h2 := hl n2 (by simp)
      simp at hm
      omega
    clear E8 hp8 s9
    walk_at "r"
    refine iteNF em ?_
    clear em hl hm hn3
    obtain ⟨fa, hfa⟩ := Classical.axiomOfChoice (fun i : Nat => min_ex (prP_ex (t.take i) d1.rd))
    obtain ⟨fb, hfb⟩ := Classical.axiomOfChoice (fun i : Nat => min_ex (prP_ex (t.drop i) d2.rd))
    walk_at "r"
    intro sq hsq
    have npq : pr ≠ sq := ne_of_none hp9 hsq
    have E10 := E9.same (sm (o := .lst []) hsq)
    have hp10 := sm (o := .lst []) hsq _ _ hp9
    have hs10 : L2.upd H9 sq (.lst []) sq = some (.lst []) := upd_same
    have hbs : ∀ b o, H b = some o → b ≠ a → b ≠ sq := fun b o h n => ne_of_none (E9.but _ _ h n) hsq
    have hns := E9.hand.ne hsq
    generalize L2.upd H9 sq (.lst []) = H10 at E10 hp10 hs10 ⊢
    clear hp9 hsq E9
    walk_at "r"
    refine forP (wk_range (lo := 0) (n := t.length + 1)) (fun l σ H' => Stop (∃ (x6 x7 : Option V), σ = [some (.ref a), some v1, some v2, some (tx t), some (.ref pr), some (.ref sq), x6, x7, none] ∧ Ev H H' a c v1 v2 p1 p2 ∧ H' pr = some (.lst [nI n1, nI n2]) ∧
      H' sq = some (.lst (l.map fun i => nI (fa i + fb i))))) ?_ (fun _ _ _ _ => trivial) ?_ ?_
    · exact Stop.i ⟨none, none, rfl, E10, hp10, hs10⟩
    · intro l i rr σ H11 el h
      obtain ⟨x6, x7, rfl, E11, hp11, hs11⟩ := h.o
      have hir : i < t.length + 1 := by
        have : i ∈ List.range (t.length + 1) := by rw [el]; simp
        exact List.mem_range.mp this
      have hll : l.length ≤ 301 := by
        have := congrArg List.length el
        simp at this
        omega
      have hi : i ≤ t.length := by omega
      have e0 : (0 : Int) + (i : Nat) = (i : Int) := Int.zero_add _
      show gName 6 (V.int ((0 : Int) + (i : Nat))) _ _ _
      rw [e0]
      clear e0 el
      walk_at "r"
      refine ⟨v1, p1, t.take i, congrArg (fun z => [v1, tx z]) (cutL_take t i hi), E11.q1, d1.small, isTx_take ht i, fun H12 r1 s12 hr1 => ?_⟩
      walk_at "r"
      refine ⟨v2, p2, t.drop i, congrArg (fun z => [v2, tx z]) (cutL_drop t i hi), (E11.same s12).q2, d2.small, isTx_drop ht i, fun H13 r2 s13 hr2 => ?_⟩
      obtain ⟨m1, hm1, rfl⟩ := hr1.int d1.rd
      obtain ⟨m2, hm2, rfl⟩ := hr2.int d2.rd
      obtain rfl := hm1.uniq (hfa i)
      obtain rfl := hm2.uniq (hfb i)
      have s := s12.trans s13
      have E13 := E11.same s
      have hp13 := s _ _ hp11
      have hs13 := s _ _ hs11
      clear s12 s13 s hr1 hr2 hm1 hm2 E11 hp11 hs11
      walk_at "r"
      intro pq hpq
      have nsp : sq ≠ pq := ne_of_none hs13 hpq
      walk_at "r"
      refine ⟨false, ⟨rfl⟩, ?_⟩
      walk_at "r"
      refine ⟨[(fa i : Int), (fb i : Int)], ⟨rfl⟩, ?_⟩
      have hlm : (l.map fun i => nI (fa i + fb i)).length ≤ 301 := by rw [List.length_map]; exact hll
      walk_at "r"
      have es : V.int ([(fa i : Int), (fb i : Int)].sum) = nI (fa i + fb i) := by simp [nI]
      have ss := sm (o := .lst [V.int (fa i : Int), V.int (fb i : Int)]) hpq
      refine Stop.i ⟨_, _, rfl, ⟨?_, ?_, ?_, ?_⟩, ?_, ?_⟩
      · exact (E13.hand.same ss).new hns.1 hns.2
      · exact fun b o h n => (upd_ne (hbs b o h n)).trans (ss _ _ (E13.but _ _ h n))
      · exact (E13.q1.mono (Tups.of ss)).mono (Tups.upd (ss _ _ hs13) (by simp))
      · exact (E13.q2.mono (Tups.of ss)).mono (Tups.upd (ss _ _ hs13) (by simp))
      · exact (upd_ne npq).trans (ss _ _ hp13)
      · rw [List.map_append, es]
        exact upd_same
    · intro σ H11 h
      obtain ⟨x6, x7, rfl, E11, hp11, hs11⟩ := h.o
      clear hs10 hp10 E10
      walk_at "r"
      intro qo hqo
      have s7 := sm (o := .tup [tx wThen, v1, v2]) hqo
      have E12 := E11.same s7
      walk_at "r"
      refine ⟨.ref qo, .thn p1 p2, t, rfl, ⟨qo, v1, v2, rfl, upd_same, E12.q1, E12.q2⟩, (d1.thn d2).small3, ht, fun H13 r3 s13 hr3 => ?_⟩
      obtain ⟨n3, hn3, rfl⟩ := hr3.int (d1.thn d2).rd
      have E13 := E12.same s13
      have hp13 := s13 _ _ (s7 _ _ hp11)
      have hs13 := s13 _ _ (s7 _ _ hs11)
      clear E11 E12 hp11 hs11 hr3 s13 s7
      have ems : ((List.range (t.length + 1)).map fun i => nI (fa i + fb i)) = ((List.range (t.length + 1)).map fun i => fa i + fb i).map nI := by rw [List.map_map]; rfl
      rw [ems] at hs13
      walk_at "r"
      refine ⟨sq, _, rfl, hs13, by simp, by simp; omega, fun m H14 hm hl s14 => ?_⟩
      have E14 := E13.same s14
      have hp14 := s14 _ _ hp13
      have em : (n3 : Int) = (m : Int) := by
        have e1 := hn3.uniq (min_thn fa fb (fun i _ => hfa i) (fun i _ => hfb i) hm hl)
        omega
      clear E13 hp13 s14 hs13
      walk_at "r"
      refine iteNF em ?_
      clear em hl hm hn3
      walk_at "r"
      intro qm hqm
      have s15 := sm (o := .tup [tx wMark, tx [113], v1]) hqm
      have E15 := E14.same s15
      walk_at "r"
      refine ⟨.ref qm, .mark [113] p1, t, rfl, ⟨qm, v1, rfl, upd_same, E15.q1⟩, (d1.mark (by decide)).small3, ht, fun H16 r3 s16 hr3 => ?_⟩
      obtain ⟨n3, hn3, rfl⟩ := hr3.int (d1.mark (m := [113]) (by decide)).rd
      have E16 := E15.same s16
      have hp16 := s16 _ _ (s15 _ _ hp14)
      clear E14 E15 hp14 hr3 s15 s16
      have em : (n3 : Int) = (n1 : Int) := by
        have e1 := (hn3.congr fun n => prP_mark).uniq hn1
        omega
      walk_at "r"
      refine ⟨_, ⟨atI_0⟩, ?_⟩
      walk_at "r"
      refine iteNF em ?_
      clear em hn3
      walk_at "r"
      intro qk hqk
      have s17 := sm (o := .tup [tx wMany, v1]) hqk
      have E17 := E16.same s17
      walk_at "r"
      refine ⟨.ref qk, .many p1, t, rfl, ⟨qk, v1, rfl, upd_same, E17.q1⟩, d1.many.small3, ht, fun H18 r4 s18 hr4 => ?_⟩
      obtain ⟨n4, hn4, rfl⟩ := hr4.int d1.many.rd
      have E18 := E17.same s18
      have hp18 := s18 _ _ (s17 _ _ hp16)
      clear E16 E17 hp16 hr4 s17 s18
      walk_at "r"
      intro qf hqf
      have s19 := sm (o := .tup [tx wFew, v1]) hqf
      have E19 := E18.same s19
      walk_at "r"
      refine ⟨.ref qf, .few p1, t, rfl, ⟨qf, v1, rfl, upd_same, E19.q1⟩, d1.few.small3, ht, fun H20 r5 s20 hr5 => ?_⟩
      obtain ⟨n5, hn5, rfl⟩ := hr5.int d1.few.rd
      have E20 := E19.same s20
      have hp20 := s20 _ _ (s19 _ _ hp18)
      clear E18 E19 hp18 hr5 s19 s20
      have em : (n4 : Int) = (n5 : Int) := by
        have e1 := hn4.uniq (hn5.congr fun n => prP_few)
        omega
      have h4t : n4 ≤ t.length := hn4.le _ prP_all
      have h41 : n4 ≤ n1 := hn4.le _ (prP_many hn1.is)
      walk_at "r"
      refine iteNF em ?_
      walk_at "r"
      refine iteDF (by omega) ?_
      walk_at "r"
      refine ⟨_, ⟨atI_0⟩, ?_⟩
      walk_at "r"
      refine ⟨_, ⟨atI_0⟩, ?_⟩
      walk_at "r"
      refine iteDF (by omega) ?_
      clear em h4t h41 hn4 hn5
      walk_at "r"
      intro qe hqe
      have s21 := sm (o := .tup [tx wEmpty]) hqe
      have E21 := E20.same s21
      walk_at "r"
      refine ⟨.ref qe, .empty, t, rfl, ⟨qe, rfl, upd_same⟩, (Dr.empty (d := 3)).small3, ht, fun H22 r6 s22 hr6 => ?_⟩
      obtain ⟨n6, hn6, rfl⟩ := hr6.int ⟨[], .empty⟩
      have E22 := E21.same s22
      obtain rfl := hn6.uniq (min_emptyP t)
      clear E20 E21 hr6 s21 s22 hn6
      walk_at "r"
      refine iteDT rfl ?_
      walk_at "r"
      intro H23 s23
      walk_at "r"
      have E23 := E22.same s23
      have e1 : Dd t [] t.length ([] : List Nat).length = t.length := price_nil t
      have e2 : decide ((t.length : Int) = ((Dd t [] t.length ([] : List Nat).length : Nat) : Int)) = true := by rw [e1]; exact decide_eq_true rfl
      exact Eq.mp (congrArg (fun b => Q (V.bl b) H23) e2.symm) (k _ E23.hand E23.but)
end
end FR
end
section
set_option Elab.async false
set_option linter.all false
set_option maxRecDepth 20000
set_option maxHeartbeats 1000000
namespace FR
open PySem PySem.Spec PyProof.Rows L2 FL
local macro_rules | `(tactic| walk_at "ne") => `(tactic| first | assumption | exact Ne.symm (by assumption))
local macro_rules | `(tactic| walk_at "hl") => `(tactic| first | assumption | exact upd_same | exact upd_old (by assumption) (by walk_at "hl") | exact (upd_ne (by walk_at "ne")).trans (by walk_at "hl"))
local macro_rules | `(tactic| walk_at "side") => `(tactic| first | rfl | assumption | omega | decide | exact Or.inl ⟨rfl, _, SqL.of (by walk_at "hl")⟩ | exact Or.inr (Or.inr (Or.inl ⟨rfl, Or.inl ⟨_, by walk_at "hl"⟩⟩)) | exact Or.inr (Or.inr (Or.inl ⟨rfl, Or.inr ⟨_, by walk_at "hl"⟩⟩)) | exact Or.inr ⟨by decide, by decide⟩ | exact Or.inl ⟨by omega, by omega⟩ | exact ⟨by decide, by decide, by decide⟩ | exact ⟨by first | omega | decide, by first | omega | decide⟩ | exact Nat.le_of_ble_eq_true rfl | exact Nat.le_trans (m := 1000000) (by omega) (by decide) | exact Nat.lt_of_le_of_lt (m := 1000000) (by omega) (by decide) | exact ⟨by omega, by omega, by omega, by omega⟩)
local macro_rules | `(tactic| walk_at "lk") => `(tactic| with_reducible first | exact lk_Sets_1_0 | exact lk_Sets_2_0 | exact lk_Sets_2_1 | exact lk_Sets_3_0 | exact lk_Sets_3_1 | exact lk_Sets_3_2 | exact lk_Sets_4_0 | exact lk_Sets_4_1 | exact lk_Sets_4_2 | exact lk_Sets_4_3 | exact lk_Sets_5_0 | exact lk_Sets_5_1 | exact lk_Sets_5_2 | exact lk_Sets_5_3 | exact lk_Sets_5_4 | exact lk_Mender_1_0 | exact lk_Mender_2_0 | exact lk_Mender_2_1 | exact lk_Mender_3_0 | exact lk_Mender_3_1 | exact lk_Mender_3_2 | exact lk_Mender_4_0 | exact lk_Mender_4_1 | exact lk_Mender_4_2 | exact lk_Mender_4_3)
local macro_rules | `(tactic| walk_at "pf") => `(tactic| with_reducible first | exact pf_Sets_1_0 | exact pf_Sets_2_0 | exact pf_Sets_2_1 | exact pf_Sets_3_0 | exact pf_Sets_3_1 | exact pf_Sets_3_2 | exact pf_Sets_4_0 | exact pf_Sets_4_1 | exact pf_Sets_4_2 | exact pf_Sets_4_3 | exact pf_Sets_5_0 | exact pf_Sets_5_1 | exact pf_Sets_5_2 | exact pf_Sets_5_3 | exact pf_Sets_5_4 | exact pn_Sets_0 | exact pn_Sets_1 | exact pn_Sets_2 | exact pn_Sets_3 | exact pn_Sets_4 | exact pf_Mender_1_0 | exact pf_Mender_2_0 | exact pf_Mender_2_1 | exact pf_Mender_3_0 | exact pf_Mender_3_1 | exact pf_Mender_3_2 | exact pf_Mender_4_0 | exact pf_Mender_4_1 | exact pf_Mender_4_2 | exact pf_Mender_4_3 | exact pn_Mender_0 | exact pn_Mender_1 | exact pn_Mender_2 | exact pn_Mender_3)
local macro_rules | `(tactic| walk_at "no") => `(tactic| with_reducible first | exact no_Sets_0___init__ | exact no_Sets_1___init__ | exact no_Sets_2___init__ | exact no_Sets_3___init__ | exact no_Sets_4___init__ | exact no_Sets_5___init__ | exact no_Sets_0_join | exact no_Sets_1_join | exact no_Sets_2_join | exact no_Sets_3_join | exact no_Sets_4_join | exact no_Sets_5_join | exact no_Sets_0_told_of | exact no_Sets_1_told_of | exact no_Sets_2_told_of | exact no_Sets_3_told_of | exact no_Sets_4_told_of | exact no_Sets_5_told_of | exact no_Sets_0_moved | exact no_Sets_1_moved | exact no_Sets_2_moved | exact no_Sets_3_moved | exact no_Sets_4_moved | exact no_Sets_5_moved | exact no_Sets_0_can_stop | exact no_Sets_1_can_stop | exact no_Sets_2_can_stop | exact no_Sets_3_can_stop | exact no_Sets_4_can_stop | exact no_Sets_5_can_stop | exact no_Mender_0___init__ | exact no_Mender_1___init__ | exact no_Mender_2___init__ | exact no_Mender_3___init__ | exact no_Mender_4___init__ | exact no_Mender_0_fill_last | exact no_Mender_1_fill_last | exact no_Mender_2_fill_last | exact no_Mender_3_fill_last | exact no_Mender_4_fill_last | exact no_Mender_0_spread | exact no_Mender_1_spread | exact no_Mender_2_spread | exact no_Mender_3_spread | exact no_Mender_4_spread | exact no_Mender_0_lessened | exact no_Mender_1_lessened | exact no_Mender_2_lessened | exact no_Mender_3_lessened | exact no_Mender_4_lessened | exact no_Mender_0_fill | exact no_Mender_1_fill | exact no_Mender_2_fill | exact no_Mender_3_fill | exact no_Mender_4_fill | exact no_Mender_0_least | exact no_Mender_1_least | exact no_Mender_2_least | exact no_Mender_3_least | exact no_Mender_4_least | exact no_Mender_0_steps_from | exact no_Mender_1_steps_from | exact no_Mender_2_steps_from | exact no_Mender_3_steps_from | exact no_Mender_4_steps_from | exact no_Mender_0_later | exact no_Mender_1_later | exact no_Mender_2_later | exact no_Mender_3_later | exact no_Mender_4_later | exact no_Mender_0_closed | exact no_Mender_1_closed | exact no_Mender_2_closed | exact no_Mender_3_closed | exact no_Mender_4_closed)
local macro_rules | `(tactic| walk_at "s") => `(tactic| first
   | refine ⟨_, rfl, ?_⟩
   | refine ⟨_, _, rfl, rfl, ?_⟩
   | refine ⟨_, _, rfl, ?_⟩
   | refine iteT ?_
   | refine iteF ?_
   | refine ⟨_, (show _ = some _ by walk_at "hl"), ?_⟩
   | refine ⟨_, (show Ins _ _ _ _ from Ins.of (by walk_at "hl")), ?_⟩
   | refine ⟨_, (show Lk _ _ _ by walk_at "lk"), ?_⟩
   | refine ⟨_, (show Pf _ _ _ _ by walk_at "pf"), ?_⟩
   | refine And.intro (show NoL _ _ by walk_at "no") ?_
   | refine ⟨_, _, rfl, SqL.of (by walk_at "hl"), ?_⟩
   | refine ⟨_, _, rfl, SqT.of (by walk_at "hl"), ?_⟩
   | refine And.intro ⟨_, SqL.of (by walk_at "hl")⟩ ?_
   | refine And.intro (by walk_at "side") ?_)
local macro_rules | `(tactic| walk_at "si") => `(tactic| first
   | walk_at "s"
   | refine iteD (fun _ => ?_) (fun _ => ?_)
   | refine iteDn (fun _ => ?_) (fun _ => ?_))
local macro_rules | `(tactic| walk_at "r") => `(tactic| repeat walk_at "s")
local macro_rules | `(tactic| walk_at "ri") => `(tactic| repeat walk_at "si")

local macro_rules | `(tactic| walk_at "side") => `(tactic| exact trivial)
section
variable {P : Program} {w : World} {K : PySem.W.Frag} {mg : Str → Option Value} {base : Heap}
theorem ok_law {f : Addr} {fd : FuncData} (F : Fun K "law" "law" s_law f fd) (T : Txt w K mg) (D__law_hand : Df P w K mg base 1 "_law_hand" ["script"] (spHand K)) (D_mend_price : Df P w K mg base 7 "mend_price" ["pattern", "text"] spMendPrice)
    (D__law_is_right : Df P w K mg base 8 "_law_is_right" ["hand"] spRight) : FnOk P w K mg base (L2.CX P w) 9 f fd ["script"] (spLaw K) := by
  refine F.okX sc_law (fun vs H Q E h => ?_) (fun cdv A outer s H vs Q E hr h => ?_)
  · obtain ⟨_, _, rfl, _⟩ := h
    rfl
  · obtain ⟨a, ns, rfl, ha, hn, k⟩ := h
    refine ⟨_, PSs.nox (pss_cons (ps_set (i := 1) sc_law.nd rfl (by first | exact Or.inl rfl | exact Or.inr rfl) (pe_callD D__law_hand (hr.mono (by decide)) passL (pa_cons (pv 0) pa_nil)))
    (pss_cons (ps_if (pt_cmpR oneI (pe_callD D_mend_price (hr.mono (by decide)) passL (pa_cons (pe_tup (pa_cons (pe_strL (l := [111, 114]) (by decide +kernel)) (pa_cons (pe_tup (pa_cons (pe_strL (l := [115, 105, 103, 110]) (by decide +kernel)) (pa_cons (pe_strL (l := [97]) (by decide +kernel)) pa_nil))) (pa_cons (pe_tup (pa_cons (pe_strL (l := [101, 109, 112, 116, 121]) (by decide +kernel)) pa_nil)) pa_nil)))) (pa_cons (pe_strL (l := [98]) (by decide +kernel)) pa_nil))) pe_int (nomark _)) (pss_one (ps_ret pe_bl)) pss_nil)
    (pss_one (ps_ret (pe_callB (cl_all rfl) (by rfl) T.b_all (by decide +kernel) (pa_cons (pe_lc (own := [("turn", 2)]) (g := gName 2) (tt := tYes) (by rfl) sc_law.nd (pi_range1 rfl T.b_range (pa_cons pe_int pa_nil)) (blkOk_by (N := N_law) (sc := defScope s_law) (by decide +kernel)) (fun _ _ _ _ _ => (pg_name (i := 2) sc_law.nd rfl (by first | exact Or.inl rfl | exact Or.inr rfl))) (fun _ _ _ _ _ => pts_nil) (fun _ _ _ _ _ => (pe_callD D__law_is_right (hr.mono (by decide)) passL (pa_cons (pv 1) pa_nil)))) pa_nil)))))), ?_⟩
    rw [show L2.start N_law [V.ref a] = [some (V.ref a), none, none] from rfl]
    walk_at "r"
    refine ⟨a, ns, rfl, ha, hn, fun hd c H1 s1 hh1 => ?_⟩
    walk_at "r"
    intro q1 hq1
    walk_at "r"
    intro q2 hq2
    walk_at "r"
    intro q3 hq3
    have hh2 := ((hh1.same (sm (o := .tup [tx wSign, tx [97]]) hq1)).same (sm (o := .tup [tx wEmpty]) hq2)).same (sm (o := .tup [tx wOr, .ref q1, .ref q2]) hq3)
    walk_at "r"
    refine ⟨.ref q3, .or (.sign [97]) .empty, [98], rfl, ⟨q3, .ref q1, .ref q2, rfl, upd_same, ⟨q1, rfl, upd_old hq3 (upd_old hq2 upd_same)⟩, ⟨q2, rfl, upd_old hq3 upd_same⟩⟩, ⟨by decide, by decide, by decide⟩, by decide, fun H2 r s2 hr => ?_⟩
    obtain ⟨n, hn1, rfl⟩ := hr.int ⟨[], .orr .empty⟩
    obtain rfl := hn1.uniq min_ab
    have hh3 := hh2.same s2
    walk_at "r"
    intro D hD
    have hne := hh3.ne hD
    refine lc_it (wk_range (lo := 0) (n := 4)) (fun i H' => H' D = some (.lst (List.replicate i (.bl true))) ∧ HandAt H' hd c) ⟨upd_same, hh3.new hne.1 hne.2⟩ (fun _ _ _ _ => trivial) ?_ ?_
    · rintro i x H4 H5 hi ⟨hD4, hh4⟩ ⟨rfl, y, hy, rfl⟩
      refine ⟨rfl, ?_⟩
      refine ⟨_, rfl, ?_⟩
      refine ⟨hd, c, rfl, hh4, fun H6 hh6 bt6 => ?_⟩
      have hi4 : i < 4 := hi
      refine ⟨_, bt6 _ _ hD4 hne.1, Nat.lt_of_le_of_lt (m := 4) (by rw [List.length_replicate]; omega) (by decide), ?_, hh6.new hne.1 hne.2⟩
      rw [List.replicate_succ']
      exact upd_same
    · rintro H4 ⟨hD4, hh4⟩
      walk_at "r"
      refine ⟨[true, true, true, true], ⟨rfl⟩, ?_⟩
      exact k _
end
end FR
end
section
set_option Elab.async false
set_option linter.all false
set_option maxRecDepth 20000
set_option maxHeartbeats 2000000
/-! The head with facts, and written dicts of texts among them. -/
namespace FL
open PySem PySem.Spec PyProof.Rows L2
abbrev DRow := Int × Option Str × Option Str
def strOf : Value → Option Str
  | .str z _ => some z
  | _ => none
theorem strOf_some {v : Value} {z : Str} (h : strOf v = some z) : ∃ t, v = .str z t := by
  unfold strOf at h
  split at h
  · rename_i y t
    cases h
    exact ⟨t, rfl⟩
  · cases h
def rowOf (e : DictEntry) : DRow := (e.hash, strOf e.key, strOf e.val)
/-- what is seen of a written dict of texts -/
def dSee (K : PySem.W.Frag) (d : Addr) : Option (List DRow) := match K.lookup d with
  | some { cls := .type c, dict := none, data := .dict es _, slots := sl } => if (c == "dict" && sl.isEmpty && !(d == sysModules)) = true then some (es.toList.map rowOf) else none
  | _ => none
def dRows (P : Params) (kvs : List (List Nat × List Nat)) : List DRow := kvs.map fun p => (PyData.keyHash P ⟨p.1.toArray⟩, some ⟨p.1.toArray⟩, some ⟨p.2.toArray⟩)
theorem keys_of {P : Params} : ∀ {es : List DictEntry} {kvs : List (List Nat × List Nat)}, es.map rowOf = dRows P kvs → PySem.W.KeysLit P es
  | [], _, _ => by unfold PySem.W.KeysLit; trivial
  | e :: es, [], h => by simp [dRows] at h
  | e :: es, p :: kvs, h => by
    simp only [List.map_cons, dRows, List.cons.injEq] at h
    obtain ⟨h1, h2⟩ := h
    rw [PySem.W.KeysLit.eq_2]
    refine ⟨?_, keys_of (kvs := kvs) h2⟩
    unfold rowOf at h1
    simp only [Prod.mk.injEq] at h1
    obtain ⟨a, b, c⟩ := h1
    obtain ⟨t, e1⟩ := strOf_some b
    exact ⟨_, t, e1, a⟩
theorem find_of {P : Params} (k : List Nat) : ∀ {es : List DictEntry} {kvs : List (List Nat × List Nat)}, es.map rowOf = dRows P kvs →
    (∀ v, kvs.lookup k = some v → ∃ e t, es.find? (fun x => x.key.isStr ⟨k.toArray⟩) = some e ∧ e.val = .str ⟨v.toArray⟩ t) ∧ (kvs.lookup k = none → es.find? (fun x => x.key.isStr ⟨k.toArray⟩) = none ∧ es.any (fun x => x.refKey) = false)
  | [], [], _ => ⟨fun v h => by simp at h, fun _ => ⟨rfl, rfl⟩⟩
  | [], p :: kvs, h => by simp [dRows] at h
  | e :: es, [], h => by simp [dRows] at h
  | e :: es, (k', v') :: kvs, h => by
    simp only [List.map_cons, dRows, List.cons.injEq] at h
    obtain ⟨h1, h2⟩ := h
    unfold rowOf at h1
    simp only [Prod.mk.injEq] at h1
    obtain ⟨a, b, c⟩ := h1
    obtain ⟨t, e1⟩ := strOf_some b
    obtain ⟨t2, e2⟩ := strOf_some c
    obtain ⟨i1, i2⟩ := find_of (P := P) k (es := es) (kvs := kvs) h2
    have hk : e.key.isStr ⟨k.toArray⟩ = decide (k = k') := by
      rw [e1]
      show ((⟨k'.toArray⟩ : Str) == ⟨k.toArray⟩) = _
      by_cases q : k = k'
      · subst q; simp
      · have : ¬ ((⟨k'.toArray⟩ : Str) = ⟨k.toArray⟩) := fun z => q (by simpa using (congrArg (fun s => s.cps.toList) z).symm)
        simp [q, this]
    have hr : e.refKey = false := by unfold DictEntry.refKey; rw [e1]
    constructor
    · intro v hv
      by_cases q : k = k'
      · subst q
        simp at hv
        subst hv
        exact ⟨e, t2, by rw [List.find?_cons, hk]; simp, e2⟩
      · rw [List.find?_cons, hk, decide_eq_false q]
        have q2 : (k == k') = false := by simpa using q
        simp only [List.lookup, q2] at hv
        exact i1 v hv
    · intro hn
      by_cases q : k = k'
      · subst q; simp at hn
      · have q2 : (k == k') = false := by simpa using q
        simp only [List.lookup, q2] at hn
        rw [List.find?_cons, hk, decide_eq_false q, List.any_cons, hr]
        simpa using i2 hn
theorem dSee_open {K : PySem.W.Frag} {d : Addr} {rs : List DRow} (h : dSee K d = some rs) : ∃ es n, K.lookup d = some { cls := .type "dict", data := .dict es n } ∧ es.toList.map rowOf = rs ∧ (d == sysModules) = false := by
  unfold dSee at h
  split at h
  · rename_i c es n sl e
    split at h
    · rename_i h2
      simp only [Bool.and_eq_true, beq_iff_eq, Bool.not_eq_true'] at h2
      obtain ⟨⟨h3, h4⟩, h5⟩ := h2
      subst h3
      have h6 : sl = #[] := by simpa using h4
      subst h6
      cases h
      exact ⟨es, n, e, rfl, h5⟩
    · cases h
  · cases h
theorem wd_of {K : PySem.W.Frag} {w : World} {d : Addr} {kvs : List (List Nat × List Nat)} (h : dSee K d = some (dRows w.params kvs)) : WDict K w d := by
  obtain ⟨es, n, e1, e2, e3⟩ := dSee_open h
  exact ⟨es, n, e1, keys_of e2, e3⟩
theorem has_of {K : PySem.W.Frag} {w : World} {d : Addr} {kvs : List (List Nat × List Nat)} (h : dSee K d = some (dRows w.params kvs)) (k v : List Nat) (hk : kvs.lookup k = some v) : WHas K d k v := by
  obtain ⟨es, n, e1, e2, e3⟩ := dSee_open h
  obtain ⟨e, t, f, g⟩ := (find_of k e2).1 v hk
  refine ⟨t, ?_⟩
  unfold PySem.W.nsIn
  rw [e1]
  show (match List.find? (fun x => x.key.isStr ⟨k.toArray⟩) es.toList with | some e => some (some e.val) | none => if (es.toList.any fun x => x.refKey) = true then none else some none) = _
  rw [f]
  show some (some e.val) = _
  rw [g]
theorem not_of {K : PySem.W.Frag} {w : World} {d : Addr} {kvs : List (List Nat × List Nat)} (h : dSee K d = some (dRows w.params kvs)) (k : List Nat) (hk : kvs.lookup k = none) : WNot K d k := by
  obtain ⟨es, n, e1, e2, e3⟩ := dSee_open h
  obtain ⟨f, g⟩ := (find_of k e2).2 hk
  unfold WNot PySem.W.nsIn
  rw [e1]
  show (match List.find? (fun x => x.key.isStr ⟨k.toArray⟩) es.toList with | some e => some (some e.val) | none => if (es.toList.any fun x => x.refKey) = true then none else some none) = _
  rw [f, g]
  rfl
abbrev DSays := List (Str × List (List Nat × List Nat))
theorem kmIn {K : Params → PySem.W.Frag} {as : List Addr} {e : ∀ (P : Params), as = List.map (fun x => x.fst) (K P)} {ts : List Addr} {w : World} {h : Heap} (Y : (PySem.W.kmHook K as e ts).says w h) : (K w.params).In h := PySem.W.kIn_of (K := K) (as := as) (e := e) Y.1
/-- a def without defaults -/
theorem fun_of {K : PySem.W.Frag} {x q : Str} {st : Stmt} {f : Addr} {fd : FuncData} (F : FunD K x q (defArgs st) (defBody st) (defScope st) [] [] f fd) : Fun K x q st f fd := by
  obtain ⟨oc, od, dV, kV, doc, pm, an, cdv, ct, osl, e, l, c, hd, _⟩ := F.ex
  rcases hd with ⟨_, rfl⟩ | ⟨n, _⟩
  · exact ⟨⟨oc, od, kV, doc, pm, an, cdv, ct, osl, e, l, c⟩, F.kp⟩
  · exact absurd rfl n
section
variable {P : Program} {w : World} {K : PySem.W.Frag} {mg : Str → Option Value} {base : Heap} {f C : Addr} {fd : FuncData} {k : Nat} {ps : List Str} {sp : Sp} {x q m : Str} {st : Stmt}
theorem df_of (F : Fun K x q st f fd) (o : FnOk P w K mg base (L2.CX P w) k f fd ps sp) (g : mg x = some (.ref f)) (b : Binds K fd ps []) : Df P w K mg base k x ps sp := ⟨f, fd, o, g, F.kp, b⟩
theorem dfm_of (o : FnOk P w K mg base (L2.CX P w) k f fd ps sp) (M : Meth K C m f) (cl : Cls K C) (b : Binds K fd ps []) : DfM P w K mg base k C m ps sp := ⟨⟨f, fd, o, M, b⟩, cl⟩
theorem dfc_of (o : FnOk P w K mg base (L2.CX P w) k f fd ps sp) (M : Mk K C f) (g : mg x = some (.ref C)) (b : Binds K fd ps []) : DfC P w K mg base k C x ps sp := ⟨f, fd, o, M, g, b⟩
end
theorem exc_of {K : PySem.W.Frag} {mg : Str → Option Value} {x : Str} (h : He.Fa.ok K (.exc x) = true) (g : mg x = some (.ref (He.ga K x))) : ExcC K mg x (He.ga K x) := by
  obtain ⟨a, b, c, d⟩ := He.exc_ok h
  exact ⟨a, g, b, c, d⟩
end FL
end
section
set_option Elab.async false
set_option linter.all false
set_option maxRecDepth 100000
set_option maxHeartbeats 0
namespace FR
open PySem PySem.Spec PyProof.Rows L2 FL
def dd__wall : He.DefD := ⟨("_wall", none), "_wall", "_wall", defArgs s__wall, defBody s__wall, defScope s__wall, [], []⟩
def dd_are_signs : He.DefD := ⟨("are_signs", none), "are_signs", "are_signs", defArgs s_are_signs, defBody s_are_signs, defScope s_are_signs, [], []⟩
def dd_is_text : He.DefD := ⟨("is_text", none), "is_text", "is_text", defArgs s_is_text, defBody s_is_text, defScope s_is_text, [], []⟩
def dd_check_text : He.DefD := ⟨("check_text", none), "check_text", "check_text", defArgs s_check_text, defBody s_check_text, defScope s_check_text, [], []⟩
def dd_is_lot : He.DefD := ⟨("is_lot", none), "is_lot", "is_lot", defArgs s_is_lot, defBody s_is_lot, defScope s_is_lot, [], []⟩
def dd_is_mark : He.DefD := ⟨("is_mark", none), "is_mark", "is_mark", defArgs s_is_mark, defBody s_is_mark, defScope s_is_mark, [], []⟩
def dd_has_form : He.DefD := ⟨("has_form", none), "has_form", "has_form", defArgs s_has_form, defBody s_has_form, defScope s_has_form, [], []⟩
def dd_parts_of : He.DefD := ⟨("parts_of", none), "parts_of", "parts_of", defArgs s_parts_of, defBody s_parts_of, defScope s_parts_of, [], []⟩
def dd_is_pattern : He.DefD := ⟨("is_pattern", none), "is_pattern", "is_pattern", defArgs s_is_pattern, defBody s_is_pattern, defScope s_is_pattern, [], []⟩
def dd_check_pattern : He.DefD := ⟨("check_pattern", none), "check_pattern", "check_pattern", defArgs s_check_pattern, defBody s_check_pattern, defScope s_check_pattern, [], []⟩
def dd_node_rows : He.DefD := ⟨("node_rows", none), "node_rows", "node_rows", defArgs s_node_rows, defBody s_node_rows, defScope s_node_rows, [], []⟩
def dd_Sets___init__ : He.DefD := ⟨("Sets", some "__init__"), "__init__", "Sets.__init__", defArgs s_Sets___init__, defBody s_Sets___init__, defScope s_Sets___init__, [], []⟩
def dd_Sets_join : He.DefD := ⟨("Sets", some "join"), "join", "Sets.join", defArgs s_Sets_join, defBody s_Sets_join, defScope s_Sets_join, [], []⟩
def dd_Sets_told_of : He.DefD := ⟨("Sets", some "told_of"), "told_of", "Sets.told_of", defArgs s_Sets_told_of, defBody s_Sets_told_of, defScope s_Sets_told_of, [], []⟩
def dd_Sets_moved : He.DefD := ⟨("Sets", some "moved"), "moved", "Sets.moved", defArgs s_Sets_moved, defBody s_Sets_moved, defScope s_Sets_moved, [], []⟩
def dd_Sets_can_stop : He.DefD := ⟨("Sets", some "can_stop"), "can_stop", "Sets.can_stop", defArgs s_Sets_can_stop, defBody s_Sets_can_stop, defScope s_Sets_can_stop, [], []⟩
def dd_price_between : He.DefD := ⟨("price_between", none), "price_between", "price_between", defArgs s_price_between, defBody s_price_between, defScope s_price_between, [], []⟩
def dd_Mender___init__ : He.DefD := ⟨("Mender", some "__init__"), "__init__", "Mender.__init__", defArgs s_Mender___init__, defBody s_Mender___init__, defScope s_Mender___init__, [], []⟩
def dd_Mender_fill_last : He.DefD := ⟨("Mender", some "fill_last"), "fill_last", "Mender.fill_last", defArgs s_Mender_fill_last, defBody s_Mender_fill_last, defScope s_Mender_fill_last, [], []⟩
def dd_Mender_spread : He.DefD := ⟨("Mender", some "spread"), "spread", "Mender.spread", defArgs s_Mender_spread, defBody s_Mender_spread, defScope s_Mender_spread, [], []⟩
def dd_Mender_lessened : He.DefD := ⟨("Mender", some "lessened"), "lessened", "Mender.lessened", defArgs s_Mender_lessened, defBody s_Mender_lessened, defScope s_Mender_lessened, [], []⟩
def dd_Mender_fill : He.DefD := ⟨("Mender", some "fill"), "fill", "Mender.fill", defArgs s_Mender_fill, defBody s_Mender_fill, defScope s_Mender_fill, [], []⟩
def dd_Mender_least : He.DefD := ⟨("Mender", some "least"), "least", "Mender.least", defArgs s_Mender_least, defBody s_Mender_least, defScope s_Mender_least, [], []⟩
def dd_Mender_steps_from : He.DefD := ⟨("Mender", some "steps_from"), "steps_from", "Mender.steps_from", defArgs s_Mender_steps_from, defBody s_Mender_steps_from, defScope s_Mender_steps_from, [], []⟩
def dd_Mender_later : He.DefD := ⟨("Mender", some "later"), "later", "Mender.later", defArgs s_Mender_later, defBody s_Mender_later, defScope s_Mender_later, [], []⟩
def dd_Mender_closed : He.DefD := ⟨("Mender", some "closed"), "closed", "Mender.closed", defArgs s_Mender_closed, defBody s_Mender_closed, defScope s_Mender_closed, [], []⟩
def dd_mend_price : He.DefD := ⟨("mend_price", none), "mend_price", "mend_price", defArgs s_mend_price, defBody s_mend_price, defScope s_mend_price, [], []⟩
def dd__law_hand : He.DefD := ⟨("_law_hand", none), "_law_hand", "_law_hand", defArgs s__law_hand, defBody s__law_hand, defScope s__law_hand, [], []⟩
def dd__law_draw : He.DefD := ⟨("_law_draw", none), "_law_draw", "_law_draw", defArgs s__law_draw, defBody s__law_draw, defScope s__law_draw, [], []⟩
def dd__law_any : He.DefD := ⟨("_law_any", none), "_law_any", "_law_any", defArgs s__law_any, defBody s__law_any, defScope s__law_any, [], []⟩
def dd__law_pattern : He.DefD := ⟨("_law_pattern", none), "_law_pattern", "_law_pattern", defArgs s__law_pattern, defBody s__law_pattern, defScope s__law_pattern, [], []⟩
def dd__law_text : He.DefD := ⟨("_law_text", none), "_law_text", "_law_text", defArgs s__law_text, defBody s__law_text, defScope s__law_text, [], []⟩
def dd__law_least : He.DefD := ⟨("_law_least", none), "_law_least", "_law_least", defArgs s__law_least, defBody s__law_least, defScope s__law_least, [], []⟩
def dd__law_is_right : He.DefD := ⟨("_law_is_right", none), "_law_is_right", "_law_is_right", defArgs s__law_is_right, defBody s__law_is_right, defScope s__law_is_right, [], []⟩
def dd_law : He.DefD := ⟨("law", none), "law", "law", defArgs s_law, defBody s_law, defScope s_law, [], []⟩
def fn : List He.DefD := [dd__wall, dd_are_signs, dd_is_text, dd_check_text, dd_is_lot, dd_is_mark, dd_has_form, dd_parts_of, dd_is_pattern, dd_check_pattern, dd_node_rows, dd_Sets___init__, dd_Sets_join, dd_Sets_told_of, dd_Sets_moved, dd_Sets_can_stop, dd_price_between, dd_Mender___init__, dd_Mender_fill_last, dd_Mender_spread, dd_Mender_lessened, dd_Mender_fill, dd_Mender_least, dd_Mender_steps_from, dd_Mender_later, dd_Mender_closed, dd_mend_price, dd__law_hand, dd__law_draw, dd__law_any, dd__law_pattern, dd__law_text, dd__law_least, dd__law_is_right, dd_law]
def fa0 : List He.Fa := [.free "abs", .free "all", .free "dict", .free "enumerate", .free "int", .free "isinstance", .free "len", .free "list", .free "min", .free "range", .free "str", .free "sum", .free "tuple", .free "zip", .str "SIGNS" ⟨([97, 98, 99, 100] : List Nat).toArray⟩, .str "LETTERS" ⟨([97, 98, 99, 100, 101, 102, 103, 104, 105, 106, 107, 108, 109, 110, 111, 112, 113, 114, 115, 116, 117, 118, 119, 120, 121, 122] : List Nat).toArray⟩, .int "MOST_TEXT" 300, .int "MOST_MARK" 6, .int "MOST_NODES" 60, .int "MOST_DEEP" 15, .glo "FORMS", .str "KEEP" ⟨([107, 101, 101, 112] : List Nat).toArray⟩, .str "PUT" ⟨([112, 117, 116] : List Nat).toArray⟩, .str "TAKE" ⟨([116, 97, 107, 101] : List Nat).toArray⟩, .str "CHANGE" ⟨([99, 104, 97, 110, 103, 101] : List Nat).toArray⟩, .cls "Sets", .glo "Sets", .noat "Sets" "rows", .noat "Sets" "lots", .noat "Sets" "follows"]
def fa1 : List He.Fa := [.noat "Sets" "position", .noat "Sets" "enders", .meth "Sets" "join", .meth "Sets" "told_of", .meth "Sets" "moved", .meth "Sets" "can_stop", .mkr "Sets", .cls "Mender", .glo "Mender", .noat "Mender" "sets", .noat "Mender" "begun_text", .noat "Mender" "states", .noat "Mender" "best", .meth "Mender" "fill_last", .meth "Mender" "spread", .meth "Mender" "lessened", .meth "Mender" "fill", .meth "Mender" "least", .meth "Mender" "steps_from", .meth "Mender" "later", .meth "Mender" "closed", .mkr "Mender", .exc "ReadError", .glo "ReadError", .exc "NoPattern", .glo "NoPattern", .exc "NoText", .glo "NoText", .glo "_wall", .glo "are_signs"]
def fa2 : List He.Fa := [.glo "is_text", .glo "check_text", .glo "is_lot", .glo "is_mark", .glo "has_form", .glo "parts_of", .glo "is_pattern", .glo "check_pattern", .glo "node_rows", .glo "price_between", .glo "mend_price", .glo "_law_hand", .glo "_law_draw", .glo "_law_any", .glo "_law_pattern", .glo "_law_text", .glo "_law_least", .glo "_law_is_right", .glo "law"]
def fa : List He.Fa := fa0 ++ fa1 ++ fa2
def ds : DSays := [("FORMS", [([110, 111, 110, 101], []), ([101, 109, 112, 116, 121], []), ([115, 105, 103, 110], [108]), ([116, 104, 101, 110], [112, 112]), ([111, 114], [112, 112]), ([109, 97, 110, 121], [112]), ([102, 101, 119], [112]), ([109, 97, 114, 107], [109, 112])])]
section
variable {w : World} {K : PySem.W.Frag} {h : Heap} {mg : Str → Option Value}
def txtOf (X : K.In h) (G : h.Ns mainGlobals mg) (c : He.SaysD fa fn K) (cd : ∀ p ∈ ds, dSee K (He.ga K p.1) = some (dRows w.params p.2)) : Txt w K mg where
  b_abs := He.free_ok X G (c.fact 0 (f := .free "abs") rfl)
  b_all := He.free_ok X G (c.fact 1 (f := .free "all") rfl)
  b_dict := He.free_ok X G (c.fact 2 (f := .free "dict") rfl)
  b_enumerate := He.free_ok X G (c.fact 3 (f := .free "enumerate") rfl)
  b_int := He.free_ok X G (c.fact 4 (f := .free "int") rfl)
  b_isinstance := He.free_ok X G (c.fact 5 (f := .free "isinstance") rfl)
  b_len := He.free_ok X G (c.fact 6 (f := .free "len") rfl)
  b_list := He.free_ok X G (c.fact 7 (f := .free "list") rfl)
  b_min := He.free_ok X G (c.fact 8 (f := .free "min") rfl)
  b_range := He.free_ok X G (c.fact 9 (f := .free "range") rfl)
  b_str := He.free_ok X G (c.fact 10 (f := .free "str") rfl)
  b_sum := He.free_ok X G (c.fact 11 (f := .free "sum") rfl)
  b_tuple := He.free_ok X G (c.fact 12 (f := .free "tuple") rfl)
  b_zip := He.free_ok X G (c.fact 13 (f := .free "zip") rfl)
  g_SIGNS := He.str_ok X G (c.fact 14 (f := .str "SIGNS" ⟨([97, 98, 99, 100] : List Nat).toArray⟩) rfl)
  g_LETTERS := He.str_ok X G (c.fact 15 (f := .str "LETTERS" ⟨([97, 98, 99, 100, 101, 102, 103, 104, 105, 106, 107, 108, 109, 110, 111, 112, 113, 114, 115, 116, 117, 118, 119, 120, 121, 122] : List Nat).toArray⟩) rfl)
  g_MOST_TEXT := He.int_ok X G (c.fact 16 (f := .int "MOST_TEXT" 300) rfl)
  g_MOST_MARK := He.int_ok X G (c.fact 17 (f := .int "MOST_MARK" 6) rfl)
  g_MOST_NODES := He.int_ok X G (c.fact 18 (f := .int "MOST_NODES" 60) rfl)
  g_MOST_DEEP := He.int_ok X G (c.fact 19 (f := .int "MOST_DEEP" 15) rfl)
  a_FORMS := He.ga K "FORMS"
  g_FORMS := He.glo_ok X G (c.fact 20 (f := .glo "FORMS") rfl)
  d_FORMS := wd_of (kvs := [([110, 111, 110, 101], []), ([101, 109, 112, 116, 121], []), ([115, 105, 103, 110], [108]), ([116, 104, 101, 110], [112, 112]), ([111, 114], [112, 112]), ([109, 97, 110, 121], [112]), ([102, 101, 119], [112]), ([109, 97, 114, 107], [109, 112])]) (cd _ (List.mem_of_getElem? (i := 0) rfl))
  k_FORMS_none := has_of (w := w) (kvs := [([110, 111, 110, 101], []), ([101, 109, 112, 116, 121], []), ([115, 105, 103, 110], [108]), ([116, 104, 101, 110], [112, 112]), ([111, 114], [112, 112]), ([109, 97, 110, 121], [112]), ([102, 101, 119], [112]), ([109, 97, 114, 107], [109, 112])]) (cd _ (List.mem_of_getElem? (i := 0) rfl)) [110, 111, 110, 101] [] (by decide)
  k_FORMS_empty := has_of (w := w) (kvs := [([110, 111, 110, 101], []), ([101, 109, 112, 116, 121], []), ([115, 105, 103, 110], [108]), ([116, 104, 101, 110], [112, 112]), ([111, 114], [112, 112]), ([109, 97, 110, 121], [112]), ([102, 101, 119], [112]), ([109, 97, 114, 107], [109, 112])]) (cd _ (List.mem_of_getElem? (i := 0) rfl)) [101, 109, 112, 116, 121] [] (by decide)
  k_FORMS_sign := has_of (w := w) (kvs := [([110, 111, 110, 101], []), ([101, 109, 112, 116, 121], []), ([115, 105, 103, 110], [108]), ([116, 104, 101, 110], [112, 112]), ([111, 114], [112, 112]), ([109, 97, 110, 121], [112]), ([102, 101, 119], [112]), ([109, 97, 114, 107], [109, 112])]) (cd _ (List.mem_of_getElem? (i := 0) rfl)) [115, 105, 103, 110] [108] (by decide)
  k_FORMS_then := has_of (w := w) (kvs := [([110, 111, 110, 101], []), ([101, 109, 112, 116, 121], []), ([115, 105, 103, 110], [108]), ([116, 104, 101, 110], [112, 112]), ([111, 114], [112, 112]), ([109, 97, 110, 121], [112]), ([102, 101, 119], [112]), ([109, 97, 114, 107], [109, 112])]) (cd _ (List.mem_of_getElem? (i := 0) rfl)) [116, 104, 101, 110] [112, 112] (by decide)
  k_FORMS_or := has_of (w := w) (kvs := [([110, 111, 110, 101], []), ([101, 109, 112, 116, 121], []), ([115, 105, 103, 110], [108]), ([116, 104, 101, 110], [112, 112]), ([111, 114], [112, 112]), ([109, 97, 110, 121], [112]), ([102, 101, 119], [112]), ([109, 97, 114, 107], [109, 112])]) (cd _ (List.mem_of_getElem? (i := 0) rfl)) [111, 114] [112, 112] (by decide)
  k_FORMS_many := has_of (w := w) (kvs := [([110, 111, 110, 101], []), ([101, 109, 112, 116, 121], []), ([115, 105, 103, 110], [108]), ([116, 104, 101, 110], [112, 112]), ([111, 114], [112, 112]), ([109, 97, 110, 121], [112]), ([102, 101, 119], [112]), ([109, 97, 114, 107], [109, 112])]) (cd _ (List.mem_of_getElem? (i := 0) rfl)) [109, 97, 110, 121] [112] (by decide)
  k_FORMS_few := has_of (w := w) (kvs := [([110, 111, 110, 101], []), ([101, 109, 112, 116, 121], []), ([115, 105, 103, 110], [108]), ([116, 104, 101, 110], [112, 112]), ([111, 114], [112, 112]), ([109, 97, 110, 121], [112]), ([102, 101, 119], [112]), ([109, 97, 114, 107], [109, 112])]) (cd _ (List.mem_of_getElem? (i := 0) rfl)) [102, 101, 119] [112] (by decide)
  k_FORMS_mark := has_of (w := w) (kvs := [([110, 111, 110, 101], []), ([101, 109, 112, 116, 121], []), ([115, 105, 103, 110], [108]), ([116, 104, 101, 110], [112, 112]), ([111, 114], [112, 112]), ([109, 97, 110, 121], [112]), ([102, 101, 119], [112]), ([109, 97, 114, 107], [109, 112])]) (cd _ (List.mem_of_getElem? (i := 0) rfl)) [109, 97, 114, 107] [109, 112] (by decide)
  g_KEEP := He.str_ok X G (c.fact 21 (f := .str "KEEP" ⟨([107, 101, 101, 112] : List Nat).toArray⟩) rfl)
  g_PUT := He.str_ok X G (c.fact 22 (f := .str "PUT" ⟨([112, 117, 116] : List Nat).toArray⟩) rfl)
  g_TAKE := He.str_ok X G (c.fact 23 (f := .str "TAKE" ⟨([116, 97, 107, 101] : List Nat).toArray⟩) rfl)
  g_CHANGE := He.str_ok X G (c.fact 24 (f := .str "CHANGE" ⟨([99, 104, 97, 110, 103, 101] : List Nat).toArray⟩) rfl)
  a_Sets := He.ga K "Sets"
  c_Sets := He.cls_ok (c.fact 25 (f := .cls "Sets") rfl)
  g_Sets := He.glo_ok X G (c.fact 26 (f := .glo "Sets") rfl)
  f_Sets_rows := ⟨He.cls_ok (c.fact 25 (f := .cls "Sets") rfl), He.noat_ok (c.fact 27 (f := .noat "Sets" "rows") rfl)⟩
  f_Sets_lots := ⟨He.cls_ok (c.fact 25 (f := .cls "Sets") rfl), He.noat_ok (c.fact 28 (f := .noat "Sets" "lots") rfl)⟩
  f_Sets_follows := ⟨He.cls_ok (c.fact 25 (f := .cls "Sets") rfl), He.noat_ok (c.fact 29 (f := .noat "Sets" "follows") rfl)⟩
  f_Sets_position := ⟨He.cls_ok (c.fact 25 (f := .cls "Sets") rfl), He.noat_ok (c.fact 30 (f := .noat "Sets" "position") rfl)⟩
  f_Sets_enders := ⟨He.cls_ok (c.fact 25 (f := .cls "Sets") rfl), He.noat_ok (c.fact 31 (f := .noat "Sets" "enders") rfl)⟩
  a_Mender := He.ga K "Mender"
  c_Mender := He.cls_ok (c.fact 37 (f := .cls "Mender") rfl)
  g_Mender := He.glo_ok X G (c.fact 38 (f := .glo "Mender") rfl)
  f_Mender_sets := ⟨He.cls_ok (c.fact 37 (f := .cls "Mender") rfl), He.noat_ok (c.fact 39 (f := .noat "Mender" "sets") rfl)⟩
  f_Mender_begun_text := ⟨He.cls_ok (c.fact 37 (f := .cls "Mender") rfl), He.noat_ok (c.fact 40 (f := .noat "Mender" "begun_text") rfl)⟩
  f_Mender_states := ⟨He.cls_ok (c.fact 37 (f := .cls "Mender") rfl), He.noat_ok (c.fact 41 (f := .noat "Mender" "states") rfl)⟩
  f_Mender_best := ⟨He.cls_ok (c.fact 37 (f := .cls "Mender") rfl), He.noat_ok (c.fact 42 (f := .noat "Mender" "best") rfl)⟩
  a_ReadError := He.ga K "ReadError"
  e_ReadError := exc_of (c.fact 52 (f := .exc "ReadError") rfl) (He.glo_ok X G (c.fact 53 (f := .glo "ReadError") rfl))
  a_NoPattern := He.ga K "NoPattern"
  e_NoPattern := exc_of (c.fact 54 (f := .exc "NoPattern") rfl) (He.glo_ok X G (c.fact 55 (f := .glo "NoPattern") rfl))
  a_NoText := He.ga K "NoText"
  e_NoText := exc_of (c.fact 56 (f := .exc "NoText") rfl) (He.glo_ok X G (c.fact 57 (f := .glo "NoText") rfl))
theorem fun__wall (c : He.SaysD fa fn K) : ∃ fd, Fun K "_wall" "_wall" s__wall (He.ga K "_wall") fd ∧ Binds K fd ["k"] [] := by
  obtain ⟨fd, F⟩ := c.def_ 0 (d := dd__wall) rfl
  exact ⟨fd, fun_of F, FunD.bindsN F fun _ _ _ _ _ _ us hl => match us, hl with | [_], _ => rfl⟩
theorem glo__wall (X : K.In h) (G : h.Ns mainGlobals mg) (c : He.SaysD fa fn K) : mg "_wall" = some (.ref (He.ga K "_wall")) := He.glo_ok X G (c.fact 58 (f := .glo "_wall") rfl)
theorem fun_are_signs (c : He.SaysD fa fn K) : ∃ fd, Fun K "are_signs" "are_signs" s_are_signs (He.ga K "are_signs") fd ∧ Binds K fd ["thing", "most"] [] := by
  obtain ⟨fd, F⟩ := c.def_ 1 (d := dd_are_signs) rfl
  exact ⟨fd, fun_of F, FunD.bindsN F fun _ _ _ _ _ _ us hl => match us, hl with | [_, _], _ => rfl⟩
theorem glo_are_signs (X : K.In h) (G : h.Ns mainGlobals mg) (c : He.SaysD fa fn K) : mg "are_signs" = some (.ref (He.ga K "are_signs")) := He.glo_ok X G (c.fact 59 (f := .glo "are_signs") rfl)
theorem fun_is_text (c : He.SaysD fa fn K) : ∃ fd, Fun K "is_text" "is_text" s_is_text (He.ga K "is_text") fd ∧ Binds K fd ["thing"] [] := by
  obtain ⟨fd, F⟩ := c.def_ 2 (d := dd_is_text) rfl
  exact ⟨fd, fun_of F, FunD.bindsN F fun _ _ _ _ _ _ us hl => match us, hl with | [_], _ => rfl⟩
theorem glo_is_text (X : K.In h) (G : h.Ns mainGlobals mg) (c : He.SaysD fa fn K) : mg "is_text" = some (.ref (He.ga K "is_text")) := He.glo_ok X G (c.fact 60 (f := .glo "is_text") rfl)
theorem fun_check_text (c : He.SaysD fa fn K) : ∃ fd, Fun K "check_text" "check_text" s_check_text (He.ga K "check_text") fd ∧ Binds K fd ["thing"] [] := by
  obtain ⟨fd, F⟩ := c.def_ 3 (d := dd_check_text) rfl
  exact ⟨fd, fun_of F, FunD.bindsN F fun _ _ _ _ _ _ us hl => match us, hl with | [_], _ => rfl⟩
theorem glo_check_text (X : K.In h) (G : h.Ns mainGlobals mg) (c : He.SaysD fa fn K) : mg "check_text" = some (.ref (He.ga K "check_text")) := He.glo_ok X G (c.fact 61 (f := .glo "check_text") rfl)
theorem fun_is_lot (c : He.SaysD fa fn K) : ∃ fd, Fun K "is_lot" "is_lot" s_is_lot (He.ga K "is_lot") fd ∧ Binds K fd ["thing"] [] := by
  obtain ⟨fd, F⟩ := c.def_ 4 (d := dd_is_lot) rfl
  exact ⟨fd, fun_of F, FunD.bindsN F fun _ _ _ _ _ _ us hl => match us, hl with | [_], _ => rfl⟩
theorem glo_is_lot (X : K.In h) (G : h.Ns mainGlobals mg) (c : He.SaysD fa fn K) : mg "is_lot" = some (.ref (He.ga K "is_lot")) := He.glo_ok X G (c.fact 62 (f := .glo "is_lot") rfl)
theorem fun_is_mark (c : He.SaysD fa fn K) : ∃ fd, Fun K "is_mark" "is_mark" s_is_mark (He.ga K "is_mark") fd ∧ Binds K fd ["thing"] [] := by
  obtain ⟨fd, F⟩ := c.def_ 5 (d := dd_is_mark) rfl
  exact ⟨fd, fun_of F, FunD.bindsN F fun _ _ _ _ _ _ us hl => match us, hl with | [_], _ => rfl⟩
theorem glo_is_mark (X : K.In h) (G : h.Ns mainGlobals mg) (c : He.SaysD fa fn K) : mg "is_mark" = some (.ref (He.ga K "is_mark")) := He.glo_ok X G (c.fact 63 (f := .glo "is_mark") rfl)
theorem fun_has_form (c : He.SaysD fa fn K) : ∃ fd, Fun K "has_form" "has_form" s_has_form (He.ga K "has_form") fd ∧ Binds K fd ["thing"] [] := by
  obtain ⟨fd, F⟩ := c.def_ 6 (d := dd_has_form) rfl
  exact ⟨fd, fun_of F, FunD.bindsN F fun _ _ _ _ _ _ us hl => match us, hl with | [_], _ => rfl⟩
theorem glo_has_form (X : K.In h) (G : h.Ns mainGlobals mg) (c : He.SaysD fa fn K) : mg "has_form" = some (.ref (He.ga K "has_form")) := He.glo_ok X G (c.fact 64 (f := .glo "has_form") rfl)
theorem fun_parts_of (c : He.SaysD fa fn K) : ∃ fd, Fun K "parts_of" "parts_of" s_parts_of (He.ga K "parts_of") fd ∧ Binds K fd ["pattern"] [] := by
  obtain ⟨fd, F⟩ := c.def_ 7 (d := dd_parts_of) rfl
  exact ⟨fd, fun_of F, FunD.bindsN F fun _ _ _ _ _ _ us hl => match us, hl with | [_], _ => rfl⟩
theorem glo_parts_of (X : K.In h) (G : h.Ns mainGlobals mg) (c : He.SaysD fa fn K) : mg "parts_of" = some (.ref (He.ga K "parts_of")) := He.glo_ok X G (c.fact 65 (f := .glo "parts_of") rfl)
theorem fun_is_pattern (c : He.SaysD fa fn K) : ∃ fd, Fun K "is_pattern" "is_pattern" s_is_pattern (He.ga K "is_pattern") fd ∧ Binds K fd ["thing"] [] := by
  obtain ⟨fd, F⟩ := c.def_ 8 (d := dd_is_pattern) rfl
  exact ⟨fd, fun_of F, FunD.bindsN F fun _ _ _ _ _ _ us hl => match us, hl with | [_], _ => rfl⟩
theorem glo_is_pattern (X : K.In h) (G : h.Ns mainGlobals mg) (c : He.SaysD fa fn K) : mg "is_pattern" = some (.ref (He.ga K "is_pattern")) := He.glo_ok X G (c.fact 66 (f := .glo "is_pattern") rfl)
theorem fun_check_pattern (c : He.SaysD fa fn K) : ∃ fd, Fun K "check_pattern" "check_pattern" s_check_pattern (He.ga K "check_pattern") fd ∧ Binds K fd ["thing"] [] := by
  obtain ⟨fd, F⟩ := c.def_ 9 (d := dd_check_pattern) rfl
  exact ⟨fd, fun_of F, FunD.bindsN F fun _ _ _ _ _ _ us hl => match us, hl with | [_], _ => rfl⟩
theorem glo_check_pattern (X : K.In h) (G : h.Ns mainGlobals mg) (c : He.SaysD fa fn K) : mg "check_pattern" = some (.ref (He.ga K "check_pattern")) := He.glo_ok X G (c.fact 67 (f := .glo "check_pattern") rfl)
theorem fun_node_rows (c : He.SaysD fa fn K) : ∃ fd, Fun K "node_rows" "node_rows" s_node_rows (He.ga K "node_rows") fd ∧ Binds K fd ["pattern"] [] := by
  obtain ⟨fd, F⟩ := c.def_ 10 (d := dd_node_rows) rfl
  exact ⟨fd, fun_of F, FunD.bindsN F fun _ _ _ _ _ _ us hl => match us, hl with | [_], _ => rfl⟩
theorem glo_node_rows (X : K.In h) (G : h.Ns mainGlobals mg) (c : He.SaysD fa fn K) : mg "node_rows" = some (.ref (He.ga K "node_rows")) := He.glo_ok X G (c.fact 68 (f := .glo "node_rows") rfl)
theorem fun_Sets___init__ (c : He.SaysD fa fn K) : ∃ fd, Fun K "__init__" "Sets.__init__" s_Sets___init__ (He.ma K (He.ga K "Sets") "__init__") fd ∧ Binds K fd ["self", "pattern"] [] := by
  obtain ⟨fd, F⟩ := c.def_ 11 (d := dd_Sets___init__) rfl
  exact ⟨fd, fun_of F, FunD.bindsN F fun _ _ _ _ _ _ us hl => match us, hl with | [_, _], _ => rfl⟩
theorem mk_Sets___init__ (c : He.SaysD fa fn K) : Mk K (He.ga K "Sets") (He.ma K (He.ga K "Sets") "__init__") := He.mkr_ok (c.fact 36 (f := .mkr "Sets") rfl)
theorem fun_Sets_join (c : He.SaysD fa fn K) : ∃ fd, Fun K "join" "Sets.join" s_Sets_join (He.ma K (He.ga K "Sets") "join") fd ∧ Binds K fd ["self", "lasts", "firsts"] [] := by
  obtain ⟨fd, F⟩ := c.def_ 12 (d := dd_Sets_join) rfl
  exact ⟨fd, fun_of F, FunD.bindsN F fun _ _ _ _ _ _ us hl => match us, hl with | [_, _, _], _ => rfl⟩
theorem meth_Sets_join (c : He.SaysD fa fn K) : Meth K (He.ga K "Sets") "join" (He.ma K (He.ga K "Sets") "join") := He.meth_ok (c.fact 32 (f := .meth "Sets" "join") rfl)
theorem fun_Sets_told_of (c : He.SaysD fa fn K) : ∃ fd, Fun K "told_of" "Sets.told_of" s_Sets_told_of (He.ma K (He.ga K "Sets") "told_of") fd ∧ Binds K fd ["self", "row", "told"] [] := by
  obtain ⟨fd, F⟩ := c.def_ 13 (d := dd_Sets_told_of) rfl
  exact ⟨fd, fun_of F, FunD.bindsN F fun _ _ _ _ _ _ us hl => match us, hl with | [_, _, _], _ => rfl⟩
theorem meth_Sets_told_of (c : He.SaysD fa fn K) : Meth K (He.ga K "Sets") "told_of" (He.ma K (He.ga K "Sets") "told_of") := He.meth_ok (c.fact 33 (f := .meth "Sets" "told_of") rfl)
theorem fun_Sets_moved (c : He.SaysD fa fn K) : ∃ fd, Fun K "moved" "Sets.moved" s_Sets_moved (He.ma K (He.ga K "Sets") "moved") fd ∧ Binds K fd ["self", "states", "sign"] [] := by
  obtain ⟨fd, F⟩ := c.def_ 14 (d := dd_Sets_moved) rfl
  exact ⟨fd, fun_of F, FunD.bindsN F fun _ _ _ _ _ _ us hl => match us, hl with | [_, _, _], _ => rfl⟩
theorem meth_Sets_moved (c : He.SaysD fa fn K) : Meth K (He.ga K "Sets") "moved" (He.ma K (He.ga K "Sets") "moved") := He.meth_ok (c.fact 34 (f := .meth "Sets" "moved") rfl)
theorem fun_Sets_can_stop (c : He.SaysD fa fn K) : ∃ fd, Fun K "can_stop" "Sets.can_stop" s_Sets_can_stop (He.ma K (He.ga K "Sets") "can_stop") fd ∧ Binds K fd ["self", "states"] [] := by
  obtain ⟨fd, F⟩ := c.def_ 15 (d := dd_Sets_can_stop) rfl
  exact ⟨fd, fun_of F, FunD.bindsN F fun _ _ _ _ _ _ us hl => match us, hl with | [_, _], _ => rfl⟩
theorem meth_Sets_can_stop (c : He.SaysD fa fn K) : Meth K (He.ga K "Sets") "can_stop" (He.ma K (He.ga K "Sets") "can_stop") := He.meth_ok (c.fact 35 (f := .meth "Sets" "can_stop") rfl)
theorem fun_price_between (c : He.SaysD fa fn K) : ∃ fd, Fun K "price_between" "price_between" s_price_between (He.ga K "price_between") fd ∧ Binds K fd ["text", "other"] [] := by
  obtain ⟨fd, F⟩ := c.def_ 16 (d := dd_price_between) rfl
  exact ⟨fd, fun_of F, FunD.bindsN F fun _ _ _ _ _ _ us hl => match us, hl with | [_, _], _ => rfl⟩
theorem glo_price_between (X : K.In h) (G : h.Ns mainGlobals mg) (c : He.SaysD fa fn K) : mg "price_between" = some (.ref (He.ga K "price_between")) := He.glo_ok X G (c.fact 69 (f := .glo "price_between") rfl)
theorem fun_Mender___init__ (c : He.SaysD fa fn K) : ∃ fd, Fun K "__init__" "Mender.__init__" s_Mender___init__ (He.ma K (He.ga K "Mender") "__init__") fd ∧ Binds K fd ["self", "pattern", "text"] [] := by
  obtain ⟨fd, F⟩ := c.def_ 17 (d := dd_Mender___init__) rfl
  exact ⟨fd, fun_of F, FunD.bindsN F fun _ _ _ _ _ _ us hl => match us, hl with | [_, _, _], _ => rfl⟩
theorem mk_Mender___init__ (c : He.SaysD fa fn K) : Mk K (He.ga K "Mender") (He.ma K (He.ga K "Mender") "__init__") := He.mkr_ok (c.fact 51 (f := .mkr "Mender") rfl)
theorem fun_Mender_fill_last (c : He.SaysD fa fn K) : ∃ fd, Fun K "fill_last" "Mender.fill_last" s_Mender_fill_last (He.ma K (He.ga K "Mender") "fill_last") fd ∧ Binds K fd ["self"] [] := by
  obtain ⟨fd, F⟩ := c.def_ 18 (d := dd_Mender_fill_last) rfl
  exact ⟨fd, fun_of F, FunD.bindsN F fun _ _ _ _ _ _ us hl => match us, hl with | [_], _ => rfl⟩
theorem meth_Mender_fill_last (c : He.SaysD fa fn K) : Meth K (He.ga K "Mender") "fill_last" (He.ma K (He.ga K "Mender") "fill_last") := He.meth_ok (c.fact 43 (f := .meth "Mender" "fill_last") rfl)
theorem fun_Mender_spread (c : He.SaysD fa fn K) : ∃ fd, Fun K "spread" "Mender.spread" s_Mender_spread (He.ma K (He.ga K "Mender") "spread") fd ∧ Binds K fd ["self", "place"] [] := by
  obtain ⟨fd, F⟩ := c.def_ 19 (d := dd_Mender_spread) rfl
  exact ⟨fd, fun_of F, FunD.bindsN F fun _ _ _ _ _ _ us hl => match us, hl with | [_, _], _ => rfl⟩
theorem meth_Mender_spread (c : He.SaysD fa fn K) : Meth K (He.ga K "Mender") "spread" (He.ma K (He.ga K "Mender") "spread") := He.meth_ok (c.fact 44 (f := .meth "Mender" "spread") rfl)
theorem fun_Mender_lessened (c : He.SaysD fa fn K) : ∃ fd, Fun K "lessened" "Mender.lessened" s_Mender_lessened (He.ma K (He.ga K "Mender") "lessened") fd ∧ Binds K fd ["self", "place", "state", "told"] [] := by
  obtain ⟨fd, F⟩ := c.def_ 20 (d := dd_Mender_lessened) rfl
  exact ⟨fd, fun_of F, FunD.bindsN F fun _ _ _ _ _ _ us hl => match us, hl with | [_, _, _, _], _ => rfl⟩
theorem meth_Mender_lessened (c : He.SaysD fa fn K) : Meth K (He.ga K "Mender") "lessened" (He.ma K (He.ga K "Mender") "lessened") := He.meth_ok (c.fact 45 (f := .meth "Mender" "lessened") rfl)
theorem fun_Mender_fill (c : He.SaysD fa fn K) : ∃ fd, Fun K "fill" "Mender.fill" s_Mender_fill (He.ma K (He.ga K "Mender") "fill") fd ∧ Binds K fd ["self", "place"] [] := by
  obtain ⟨fd, F⟩ := c.def_ 21 (d := dd_Mender_fill) rfl
  exact ⟨fd, fun_of F, FunD.bindsN F fun _ _ _ _ _ _ us hl => match us, hl with | [_, _], _ => rfl⟩
theorem meth_Mender_fill (c : He.SaysD fa fn K) : Meth K (He.ga K "Mender") "fill" (He.ma K (He.ga K "Mender") "fill") := He.meth_ok (c.fact 46 (f := .meth "Mender" "fill") rfl)
theorem fun_Mender_least (c : He.SaysD fa fn K) : ∃ fd, Fun K "least" "Mender.least" s_Mender_least (He.ma K (He.ga K "Mender") "least") fd ∧ Binds K fd ["self"] [] := by
  obtain ⟨fd, F⟩ := c.def_ 22 (d := dd_Mender_least) rfl
  exact ⟨fd, fun_of F, FunD.bindsN F fun _ _ _ _ _ _ us hl => match us, hl with | [_], _ => rfl⟩
theorem meth_Mender_least (c : He.SaysD fa fn K) : Meth K (He.ga K "Mender") "least" (He.ma K (He.ga K "Mender") "least") := He.meth_ok (c.fact 47 (f := .meth "Mender" "least") rfl)
theorem fun_Mender_steps_from (c : He.SaysD fa fn K) : ∃ fd, Fun K "steps_from" "Mender.steps_from" s_Mender_steps_from (He.ma K (He.ga K "Mender") "steps_from") fd ∧ Binds K fd ["self", "place", "state", "sign"] [] := by
  obtain ⟨fd, F⟩ := c.def_ 23 (d := dd_Mender_steps_from) rfl
  exact ⟨fd, fun_of F, FunD.bindsN F fun _ _ _ _ _ _ us hl => match us, hl with | [_, _, _, _], _ => rfl⟩
theorem meth_Mender_steps_from (c : He.SaysD fa fn K) : Meth K (He.ga K "Mender") "steps_from" (He.ma K (He.ga K "Mender") "steps_from") := He.meth_ok (c.fact 48 (f := .meth "Mender" "steps_from") rfl)
theorem fun_Mender_later (c : He.SaysD fa fn K) : ∃ fd, Fun K "later" "Mender.later" s_Mender_later (He.ma K (He.ga K "Mender") "later") fd ∧ Binds K fd ["self", "here", "sign"] [] := by
  obtain ⟨fd, F⟩ := c.def_ 24 (d := dd_Mender_later) rfl
  exact ⟨fd, fun_of F, FunD.bindsN F fun _ _ _ _ _ _ us hl => match us, hl with | [_, _, _], _ => rfl⟩
theorem meth_Mender_later (c : He.SaysD fa fn K) : Meth K (He.ga K "Mender") "later" (He.ma K (He.ga K "Mender") "later") := He.meth_ok (c.fact 49 (f := .meth "Mender" "later") rfl)
theorem fun_Mender_closed (c : He.SaysD fa fn K) : ∃ fd, Fun K "closed" "Mender.closed" s_Mender_closed (He.ma K (He.ga K "Mender") "closed") fd ∧ Binds K fd ["self", "here"] [] := by
  obtain ⟨fd, F⟩ := c.def_ 25 (d := dd_Mender_closed) rfl
  exact ⟨fd, fun_of F, FunD.bindsN F fun _ _ _ _ _ _ us hl => match us, hl with | [_, _], _ => rfl⟩
theorem meth_Mender_closed (c : He.SaysD fa fn K) : Meth K (He.ga K "Mender") "closed" (He.ma K (He.ga K "Mender") "closed") := He.meth_ok (c.fact 50 (f := .meth "Mender" "closed") rfl)
theorem fun_mend_price (c : He.SaysD fa fn K) : ∃ fd, Fun K "mend_price" "mend_price" s_mend_price (He.ga K "mend_price") fd ∧ Binds K fd ["pattern", "text"] [] := by
  obtain ⟨fd, F⟩ := c.def_ 26 (d := dd_mend_price) rfl
  exact ⟨fd, fun_of F, FunD.bindsN F fun _ _ _ _ _ _ us hl => match us, hl with | [_, _], _ => rfl⟩
theorem glo_mend_price (X : K.In h) (G : h.Ns mainGlobals mg) (c : He.SaysD fa fn K) : mg "mend_price" = some (.ref (He.ga K "mend_price")) := He.glo_ok X G (c.fact 70 (f := .glo "mend_price") rfl)
theorem fun__law_hand (c : He.SaysD fa fn K) : ∃ fd, Fun K "_law_hand" "_law_hand" s__law_hand (He.ga K "_law_hand") fd ∧ Binds K fd ["script"] [] := by
  obtain ⟨fd, F⟩ := c.def_ 27 (d := dd__law_hand) rfl
  exact ⟨fd, fun_of F, FunD.bindsN F fun _ _ _ _ _ _ us hl => match us, hl with | [_], _ => rfl⟩
theorem glo__law_hand (X : K.In h) (G : h.Ns mainGlobals mg) (c : He.SaysD fa fn K) : mg "_law_hand" = some (.ref (He.ga K "_law_hand")) := He.glo_ok X G (c.fact 71 (f := .glo "_law_hand") rfl)
theorem fun__law_draw (c : He.SaysD fa fn K) : ∃ fd, Fun K "_law_draw" "_law_draw" s__law_draw (He.ga K "_law_draw") fd ∧ Binds K fd ["hand", "many"] [] := by
  obtain ⟨fd, F⟩ := c.def_ 28 (d := dd__law_draw) rfl
  exact ⟨fd, fun_of F, FunD.bindsN F fun _ _ _ _ _ _ us hl => match us, hl with | [_, _], _ => rfl⟩
theorem glo__law_draw (X : K.In h) (G : h.Ns mainGlobals mg) (c : He.SaysD fa fn K) : mg "_law_draw" = some (.ref (He.ga K "_law_draw")) := He.glo_ok X G (c.fact 72 (f := .glo "_law_draw") rfl)
theorem fun__law_any (c : He.SaysD fa fn K) : ∃ fd, Fun K "_law_any" "_law_any" s__law_any (He.ga K "_law_any") fd ∧ Binds K fd ["hand", "some"] [] := by
  obtain ⟨fd, F⟩ := c.def_ 29 (d := dd__law_any) rfl
  exact ⟨fd, fun_of F, FunD.bindsN F fun _ _ _ _ _ _ us hl => match us, hl with | [_, _], _ => rfl⟩
theorem glo__law_any (X : K.In h) (G : h.Ns mainGlobals mg) (c : He.SaysD fa fn K) : mg "_law_any" = some (.ref (He.ga K "_law_any")) := He.glo_ok X G (c.fact 73 (f := .glo "_law_any") rfl)
theorem fun__law_pattern (c : He.SaysD fa fn K) : ∃ fd, Fun K "_law_pattern" "_law_pattern" s__law_pattern (He.ga K "_law_pattern") fd ∧ Binds K fd ["hand", "deep"] [] := by
  obtain ⟨fd, F⟩ := c.def_ 30 (d := dd__law_pattern) rfl
  exact ⟨fd, fun_of F, FunD.bindsN F fun _ _ _ _ _ _ us hl => match us, hl with | [_, _], _ => rfl⟩
theorem glo__law_pattern (X : K.In h) (G : h.Ns mainGlobals mg) (c : He.SaysD fa fn K) : mg "_law_pattern" = some (.ref (He.ga K "_law_pattern")) := He.glo_ok X G (c.fact 74 (f := .glo "_law_pattern") rfl)
theorem fun__law_text (c : He.SaysD fa fn K) : ∃ fd, Fun K "_law_text" "_law_text" s__law_text (He.ga K "_law_text") fd ∧ Binds K fd ["hand", "most"] [] := by
  obtain ⟨fd, F⟩ := c.def_ 31 (d := dd__law_text) rfl
  exact ⟨fd, fun_of F, FunD.bindsN F fun _ _ _ _ _ _ us hl => match us, hl with | [_, _], _ => rfl⟩
theorem glo__law_text (X : K.In h) (G : h.Ns mainGlobals mg) (c : He.SaysD fa fn K) : mg "_law_text" = some (.ref (He.ga K "_law_text")) := He.glo_ok X G (c.fact 75 (f := .glo "_law_text") rfl)
theorem fun__law_least (c : He.SaysD fa fn K) : ∃ fd, Fun K "_law_least" "_law_least" s__law_least (He.ga K "_law_least") fd ∧ Binds K fd ["some"] [] := by
  obtain ⟨fd, F⟩ := c.def_ 32 (d := dd__law_least) rfl
  exact ⟨fd, fun_of F, FunD.bindsN F fun _ _ _ _ _ _ us hl => match us, hl with | [_], _ => rfl⟩
theorem glo__law_least (X : K.In h) (G : h.Ns mainGlobals mg) (c : He.SaysD fa fn K) : mg "_law_least" = some (.ref (He.ga K "_law_least")) := He.glo_ok X G (c.fact 76 (f := .glo "_law_least") rfl)
theorem fun__law_is_right (c : He.SaysD fa fn K) : ∃ fd, Fun K "_law_is_right" "_law_is_right" s__law_is_right (He.ga K "_law_is_right") fd ∧ Binds K fd ["hand"] [] := by
  obtain ⟨fd, F⟩ := c.def_ 33 (d := dd__law_is_right) rfl
  exact ⟨fd, fun_of F, FunD.bindsN F fun _ _ _ _ _ _ us hl => match us, hl with | [_], _ => rfl⟩
theorem glo__law_is_right (X : K.In h) (G : h.Ns mainGlobals mg) (c : He.SaysD fa fn K) : mg "_law_is_right" = some (.ref (He.ga K "_law_is_right")) := He.glo_ok X G (c.fact 77 (f := .glo "_law_is_right") rfl)
theorem fun_law (c : He.SaysD fa fn K) : ∃ fd, Fun K "law" "law" s_law (He.ga K "law") fd ∧ Binds K fd ["script"] [] := by
  obtain ⟨fd, F⟩ := c.def_ 34 (d := dd_law) rfl
  exact ⟨fd, fun_of F, FunD.bindsN F fun _ _ _ _ _ _ us hl => match us, hl with | [_], _ => rfl⟩
theorem glo_law (X : K.In h) (G : h.Ns mainGlobals mg) (c : He.SaysD fa fn K) : mg "law" = some (.ref (He.ga K "law")) := He.glo_ok X G (c.fact 78 (f := .glo "law") rfl)
end
end FR
end
section
set_option Elab.async false
set_option linter.all false
set_option maxRecDepth 100000
set_option maxHeartbeats 0
namespace FR
open PySem PySem.Spec PyProof.Rows L2 FL
theorem PAT0 {P : Program} {w : World} {K : PySem.W.Frag} {mg : Str → Option Value} {base : Heap} {f : Addr} {fd : FuncData} (_F : Fun K "_law_pattern" "_law_pattern" s__law_pattern f fd) : FnOk P w K mg base (L2.CX P w) 2 f fd ["hand", "deep"] (spPat 0) :=
  ⟨fun _ _ _ _ ⟨_, _, _, _, h, _⟩ => absurd h (Nat.not_lt_zero _), fun _ _ _ _ _ _ _ _ _ _ _ _ _ ⟨_, _, _, _, h, _⟩ => absurd h (Nat.not_lt_zero _)⟩
theorem law_all {P : Program} {w : World} {K : PySem.W.Frag} {h : Heap} {mg : Str → Option Value} (X : K.In h) (G : h.Ns mainGlobals mg) (c : He.SaysD fa fn K) (cd : ∀ p ∈ ds, dSee K (He.ga K p.1) = some (dRows w.params p.2)) (base : Heap) {fd_law : FuncData} (F_law : Fun K "law" "law" s_law (He.ga K "law") fd_law) :
    FnOk P w K mg base (L2.CX P w) 9 (He.ga K "law") fd_law ["script"] (spLaw K) := by
  have aux : ∀ T : Txt w K mg, T.a_Mender = He.ga K "Mender" → T.a_Sets = He.ga K "Sets" → FnOk P w K mg base (L2.CX P w) 9 (He.ga K "law") fd_law ["script"] (spLaw K) := by
    intro T e_Mender e_Sets
    obtain ⟨fd__law_hand, F__law_hand, B__law_hand⟩ := fun__law_hand c
    have D__law_hand := df_of (P := P) (base := base) F__law_hand (ok__law_hand F__law_hand T ) (glo__law_hand X G c) B__law_hand
    obtain ⟨fd_are_signs, F_are_signs, B_are_signs⟩ := fun_are_signs c
    have D_are_signs := df_of (P := P) (base := base) F_are_signs (ok_are_signs F_are_signs T ) (glo_are_signs X G c) B_are_signs
    obtain ⟨fd_is_lot, F_is_lot, B_is_lot⟩ := fun_is_lot c
    have D_is_lot := df_of (P := P) (base := base) F_is_lot (ok_is_lot F_is_lot T D_are_signs) (glo_is_lot X G c) B_is_lot
    obtain ⟨fd_is_mark, F_is_mark, B_is_mark⟩ := fun_is_mark c
    have D_is_mark := df_of (P := P) (base := base) F_is_mark (ok_is_mark F_is_mark T ) (glo_is_mark X G c) B_is_mark
    obtain ⟨fd_has_form, F_has_form, B_has_form⟩ := fun_has_form c
    have D_has_form := df_of (P := P) (base := base) F_has_form (ok_has_form F_has_form T D_is_lot D_is_mark) (glo_has_form X G c) B_has_form
    obtain ⟨fd_parts_of, F_parts_of, B_parts_of⟩ := fun_parts_of c
    have D_parts_of := df_of (P := P) (base := base) F_parts_of (ok_parts_of F_parts_of T ) (glo_parts_of X G c) B_parts_of
    obtain ⟨fd_is_pattern, F_is_pattern, B_is_pattern⟩ := fun_is_pattern c
    have D_is_pattern := df_of (P := P) (base := base) F_is_pattern (ok_is_pattern F_is_pattern T D_has_form D_parts_of) (glo_is_pattern X G c) B_is_pattern
    obtain ⟨fd_check_pattern, F_check_pattern, B_check_pattern⟩ := fun_check_pattern c
    have D_check_pattern := df_of (P := P) (base := base) F_check_pattern (ok_check_pattern F_check_pattern T D_is_pattern) (glo_check_pattern X G c) B_check_pattern
    obtain ⟨fd_is_text, F_is_text, B_is_text⟩ := fun_is_text c
    have D_is_text := df_of (P := P) (base := base) F_is_text (ok_is_text F_is_text T D_are_signs) (glo_is_text X G c) B_is_text
    obtain ⟨fd_check_text, F_check_text, B_check_text⟩ := fun_check_text c
    have D_check_text := df_of (P := P) (base := base) F_check_text (ok_check_text F_check_text T D_is_text) (glo_check_text X G c) B_check_text
    obtain ⟨fd_node_rows, F_node_rows, B_node_rows⟩ := fun_node_rows c
    have D_node_rows := df_of (P := P) (base := base) F_node_rows (ok_node_rows F_node_rows T D_parts_of) (glo_node_rows X G c) B_node_rows
    obtain ⟨fd_Sets_join, F_Sets_join, B_Sets_join⟩ := fun_Sets_join c
    have M_Sets_join : Meth K T.a_Sets "join" (He.ma K (He.ga K "Sets") "join") := by rw [e_Sets]; exact meth_Sets_join c
    have D_Sets_join := dfm_of (P := P) (base := base) (ok_Sets_join F_Sets_join T ) M_Sets_join T.c_Sets B_Sets_join
    obtain ⟨fd_Sets_told_of, F_Sets_told_of, B_Sets_told_of⟩ := fun_Sets_told_of c
    have M_Sets_told_of : Meth K T.a_Sets "told_of" (He.ma K (He.ga K "Sets") "told_of") := by rw [e_Sets]; exact meth_Sets_told_of c
    have D_Sets_told_of := dfm_of (P := P) (base := base) (ok_Sets_told_of F_Sets_told_of T D_Sets_join) M_Sets_told_of T.c_Sets B_Sets_told_of
    obtain ⟨fd_Sets___init__, F_Sets___init__, B_Sets___init__⟩ := fun_Sets___init__ c
    have M_Sets___init__ : Mk K T.a_Sets (He.ma K (He.ga K "Sets") "__init__") := by rw [e_Sets]; exact mk_Sets___init__ c
    have D_Sets := dfc_of (P := P) (base := base) (ok_Sets___init__ F_Sets___init__ T D_node_rows D_Sets_told_of) M_Sets___init__ T.g_Sets B_Sets___init__
    obtain ⟨fd_Mender_lessened, F_Mender_lessened, B_Mender_lessened⟩ := fun_Mender_lessened c
    have M_Mender_lessened : Meth K T.a_Mender "lessened" (He.ma K (He.ga K "Mender") "lessened") := by rw [e_Mender]; exact meth_Mender_lessened c
    have D_Mender_lessened := dfm_of (P := P) (base := base) (ok_Mender_lessened F_Mender_lessened T ) M_Mender_lessened T.c_Mender B_Mender_lessened
    obtain ⟨fd_Mender_spread, F_Mender_spread, B_Mender_spread⟩ := fun_Mender_spread c
    have M_Mender_spread : Meth K T.a_Mender "spread" (He.ma K (He.ga K "Mender") "spread") := by rw [e_Mender]; exact meth_Mender_spread c
    have D_Mender_spread := dfm_of (P := P) (base := base) (ok_Mender_spread F_Mender_spread T D_Mender_lessened) M_Mender_spread T.c_Mender B_Mender_spread
    obtain ⟨fd_Mender_fill_last, F_Mender_fill_last, B_Mender_fill_last⟩ := fun_Mender_fill_last c
    have M_Mender_fill_last : Meth K T.a_Mender "fill_last" (He.ma K (He.ga K "Mender") "fill_last") := by rw [e_Mender]; exact meth_Mender_fill_last c
    have D_Mender_fill_last := dfm_of (P := P) (base := base) (ok_Mender_fill_last F_Mender_fill_last T D_Mender_spread) M_Mender_fill_last T.c_Mender B_Mender_fill_last
    obtain ⟨fd_Mender_fill, F_Mender_fill, B_Mender_fill⟩ := fun_Mender_fill c
    have M_Mender_fill : Meth K T.a_Mender "fill" (He.ma K (He.ga K "Mender") "fill") := by rw [e_Mender]; exact meth_Mender_fill c
    have D_Mender_fill := dfm_of (P := P) (base := base) (ok_Mender_fill F_Mender_fill T D_Mender_lessened D_Mender_spread) M_Mender_fill T.c_Mender B_Mender_fill
    obtain ⟨fd_Mender___init__, F_Mender___init__, B_Mender___init__⟩ := fun_Mender___init__ c
    have M_Mender___init__ : Mk K T.a_Mender (He.ma K (He.ga K "Mender") "__init__") := by rw [e_Mender]; exact mk_Mender___init__ c
    have D_Mender := dfc_of (P := P) (base := base) (ok_Mender___init__ F_Mender___init__ T D_Sets D_Mender_fill_last D_Mender_fill) M_Mender___init__ T.g_Mender B_Mender___init__
    obtain ⟨fd_Mender_least, F_Mender_least, B_Mender_least⟩ := fun_Mender_least c
    have M_Mender_least : Meth K T.a_Mender "least" (He.ma K (He.ga K "Mender") "least") := by rw [e_Mender]; exact meth_Mender_least c
    have D_Mender_least := dfm_of (P := P) (base := base) (ok_Mender_least F_Mender_least T ) M_Mender_least T.c_Mender B_Mender_least
    obtain ⟨fd_mend_price, F_mend_price, B_mend_price⟩ := fun_mend_price c
    have D_mend_price := df_of (P := P) (base := base) F_mend_price (ok_mend_price F_mend_price T D_check_pattern D_check_text D_Mender D_Mender_least) (glo_mend_price X G c) B_mend_price
    obtain ⟨fd__law_draw, F__law_draw, B__law_draw⟩ := fun__law_draw c
    have D__law_draw := df_of (P := P) (base := base) F__law_draw (ok__law_draw F__law_draw T ) (glo__law_draw X G c) B__law_draw
    obtain ⟨fd__law_any, F__law_any, B__law_any⟩ := fun__law_any c
    have D__law_any := df_of (P := P) (base := base) F__law_any (ok__law_any F__law_any T D__law_draw) (glo__law_any X G c) B__law_any
    obtain ⟨fd__law_pattern, F__law_pattern, B__law_pattern⟩ := fun__law_pattern c
    have D0 := df_of (P := P) (base := base) F__law_pattern (PAT0 (w := w) F__law_pattern) (glo__law_pattern X G c) B__law_pattern
    have D1 := df_of (P := P) (base := base) F__law_pattern (ok__law_pattern F__law_pattern T D__law_draw D__law_any D0) (glo__law_pattern X G c) B__law_pattern
    have D2 := df_of (P := P) (base := base) F__law_pattern (ok__law_pattern F__law_pattern T D__law_draw D__law_any D1) (glo__law_pattern X G c) B__law_pattern
    have D3 := df_of (P := P) (base := base) F__law_pattern (ok__law_pattern F__law_pattern T D__law_draw D__law_any D2) (glo__law_pattern X G c) B__law_pattern
    have D__law_pattern := D3
    obtain ⟨fd__law_text, F__law_text, B__law_text⟩ := fun__law_text c
    have D__law_text := df_of (P := P) (base := base) F__law_text (ok__law_text F__law_text T D__law_draw D__law_any) (glo__law_text X G c) B__law_text
    obtain ⟨fd_price_between, F_price_between, B_price_between⟩ := fun_price_between c
    have D_price_between := df_of (P := P) (base := base) F_price_between (ok_price_between F_price_between T D_check_text) (glo_price_between X G c) B_price_between
    obtain ⟨fd__law_least, F__law_least, B__law_least⟩ := fun__law_least c
    have D__law_least := df_of (P := P) (base := base) F__law_least (ok__law_least F__law_least T ) (glo__law_least X G c) B__law_least
    obtain ⟨fd__law_is_right, F__law_is_right, B__law_is_right⟩ := fun__law_is_right c
    have D__law_is_right := df_of (P := P) (base := base) F__law_is_right (ok__law_is_right F__law_is_right T D__law_pattern D__law_text D_mend_price D_price_between D__law_least) (glo__law_is_right X G c) B__law_is_right
    exact ok_law F_law T D__law_hand D_mend_price D__law_is_right
  exact aux (txtOf X G c cd) rfl rfl
theorem walkX {l : PySem.W.OpenLaw} {q : Program} {loose : List Str} {XP : (Str → Option Value) → Heap → Prop} {YP : World → Heap → Prop} {d : DefRec} {K : Params → PySem.W.Frag} (hn : l.most = some 63) (hdf : d.params.defaults = []) (hnm : d.name = "law")
    (hY : ∀ (w : World) (h : Heap), YP w h → (K w.params).In h) (hS : ∀ P, He.SaysD fa fn (K P)) (hD : ∀ P, ∀ p ∈ ds, dSee (K P) (He.ga (K P) p.1) = some (dRows P p.2)) :
    PySem.W.WalkO q loose XP YP l.row.toRowW d [] (fun f vs => PySem.call f vs) :=
  L2.walk_of (n := 63) (k := 9) (x := "script") (CX := fun w => L2.CX l.prog w) (sp := fun w => spLaw (K w.params)) hn (by decide) hdf ⟨rfl, by decide, by decide⟩ hY
    (fun w mg f h X G hmg => by
      have c := hS w.params
      rw [hnm] at hmg
      have e := hmg.symm.trans (glo_law X G c)
      cases e
      obtain ⟨fd, F⟩ := c.def_ 34 (d := dd_law) rfl
      refine ⟨fd, fun s v => (FunD.bindsA (ps := ["script"]) F fun _ _ _ _ _ _ us hl => match us, hl with | [_], _ => rfl) s [v] rfl, fun base _ _ => ?_⟩
      exact law_all (P := l.prog) X G c (hD w.params) base (fun_of F))
    (fun w H a ns hl _ hS => ⟨a, ns, rfl, hS, hl, fun _ => rfl⟩)
    (fun _ _ _ _ _ ⟨_, _, _, _, _, _, _, _, _, _, _, _, h⟩ => h)
end FR
end
section
set_option Elab.async false
set_option linter.all false
set_option maxRecDepth 100000
set_option maxHeartbeats 0
open PySem PySem.W PyProof.Rows in
theorem PySem.Challenge.cw_firstreads_k82_whole_prices_of_ors_and_t_holds : PySem.Challenge.rw_firstreads_k82_whole_prices_of_ors_and_t.Holds := by
  w_on; o_law; k_head; (case hw => w_witness2)
  k_fill
  refine FR.walkX (l := PySem.Challenge.rw_firstreads_k82_whole_prices_of_ors_and_t) rfl rfl rfl (fun w h Y => by first | exact PySem.W.kIn_of Y | exact FL.kmIn Y) ?S ?D
  case S => intro P; show He.obsD _ _ _ = He.valD _; kernel_rfl
  case D => intro P p hp; cases hp with | head => show FL.dSee _ _ = some _; kernel_rfl | tail _ h => cases h
#print axioms PySem.Challenge.cw_firstreads_k82_whole_prices_of_ors_and_t_holds
end
